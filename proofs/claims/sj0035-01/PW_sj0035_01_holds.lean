import PyProof.Rows.All
import Wide.All
import OpenK.KLine
import OpenK.KCls
import OpenK.KDict
import OpenK.KList
import OpenK.KMake
import KE.BitLaws
import KE.KData
import KE.KEqDat
import KE.KSortAsk
import KE.KTryMore
import KE.KUnpack
import Wide.FinOn
import PySem.Challenge.RW_sj0035_01
set_option Elab.async false
set_option maxRecDepth 100000
set_option linter.all false
set_option maxHeartbeats 4000000
set_option compiler.extract_closed false
set_option compiler.reuse false
set_option bootstrap.genMatcherCode false
set_option genSizeOf false

noncomputable section
namespace Mine

section
open PySem PySem.W PyProof.Rows PySem.Calls
def syn11 : Lean.Syntax := Lean.Unhygienic.run `(Lean.Parser.Tactic.tacticSeq| assumption)
def syn12 : Lean.Syntax := Lean.Unhygienic.run `(Lean.Parser.Tactic.tacticSeq| decide)
theorem ar1 {a b c : Nat} (h : autoParam (a ≤ b) syn11) (k : autoParam (Nat.ble b c = true) syn12) : a ≤ c := Nat.le_trans h (Nat.le_of_ble_eq_true k)
theorem ar2 {a b c : Nat} (h : autoParam (a < b) syn11) (k : autoParam (Nat.ble b (c + 1) = true) syn12) : a ≤ c := Nat.le_of_lt_succ (ar1 h k)
theorem ar4 {a b c : Nat} (h : autoParam (a ≤ b) syn11) (k : autoParam (Nat.ble (b + 1) c = true) syn12) : a < c := ar1 (Nat.succ_le_succ h) k
theorem ar3 {a b c : Nat} (h : autoParam (a < b) syn11) (k : autoParam (Nat.ble b c = true) syn12) : a < c := ar1 h k
theorem as1 {a b s : Nat} (hs : autoParam (b ≤ s) syn11) (k : autoParam (Nat.ble a b = true) syn12) : a ≤ s := Nat.le_trans (Nat.le_of_ble_eq_true k) hs
theorem ak1 {k a c : Nat} (h : autoParam (Nat.ble a c = true) syn12) : k + a ≤ k + c := Nat.add_le_add_left (Nat.le_of_ble_eq_true h) k
theorem ak2 {k a b c : Nat} (h : autoParam (Nat.ble (a + b) c = true) syn12) : k + a + b ≤ k + c := by rw [Nat.add_assoc]; exact ak1 h
theorem ad2 {D k n R : Nat} (h : autoParam (D + (k + n) < R) syn11) (q : autoParam (Nat.ble 2 n = true) syn12) : D + 1 + 1 < R := Nat.lt_of_le_of_lt (Nat.add_le_add_left (Nat.le_trans (Nat.le_of_ble_eq_true q) (Nat.le_add_left n k)) D) h
theorem au1 {U k n m C : Nat} (h : autoParam (U + 10 * (k + n) < C) syn11) (q : autoParam (Nat.ble m (10 * n) = true) syn12) : U + m < C :=
  Nat.lt_of_le_of_lt (Nat.add_le_add_left (Nat.le_trans (Nat.le_of_ble_eq_true q) (Nat.mul_le_mul_left 10 (Nat.le_add_left n k))) U) h
theorem au2 {U k n m C : Nat} (h : autoParam (U + 10 * (k + n) < C) syn11) (q : autoParam (Nat.ble (3 + m) (10 * n) = true) syn12) : U + 3 + m < C := by rw [Nat.add_assoc]; exact au1 h q
theorem ac1 {a b M : Nat} (h : autoParam (a ≤ b) syn11) (k : autoParam (Nat.ble (b + 1) M = true) syn12) : (a : Int) < (OfNat.ofNat M : Int) := Int.ofNat_lt.mpr (ar4 h k)
theorem ac2 {a b M : Nat} (h : autoParam (a < b) syn11) (k : autoParam (Nat.ble b M = true) syn12) : (a : Int) < (OfNat.ofNat M : Int) := Int.ofNat_lt.mpr (ar3 h k)
theorem ac60 {a b : Nat} (h : autoParam (a ≤ b) syn11) (k : autoParam (Nat.ble b 1000000000 = true) syn12) : (a : Int) < 2 ^ 60 := Int.lt_of_lt_of_le (ac1 h (M := 1000000001) k) (by decide)
theorem an60 {a : Nat} : -2 ^ 60 < (a : Int) := Int.lt_of_lt_of_le (by decide) (Int.natCast_nonneg a)
noncomputable abbrev shT (s : Shared) (h : Heap) (t : Nat) : Shared := { s with heap := h, toks := t }
end

open PySem PySem.W PyProof.Rows PySem.Calls in
set_option hygiene false in
local macro_rules | `(tactic| allgen_close_more) => `(tactic| first
  | (with_reducible first | assumption | exact ar1 | exact ar2 | exact ar4 | exact ak2 | exact as1 | exact ad2 | exact au2 | exact an60 | exact Int.natCast_nonneg _ | exact ac60 | exact ac1 | exact ac2)
  | lia
  | omega)

open PySem PySem.W PyProof.Rows PySem.Calls in
local macro_rules | `(tactic| top_raiseB0) => `(tactic| (refine (?_ : let G := _; G); intro G))

section
open PySem PySem.W PyProof.Rows PySem.Calls
inductive A3 (p1 p2 p3 : Prop) : Prop
  | mk (a1 : p1) (a2 : p2) (a3 : p3)
inductive A4 (p1 p2 p3 p4 : Prop) : Prop
  | mk (a1 : p1) (a2 : p2) (a3 : p3) (a4 : p4)
inductive A5 (p1 p2 p3 p4 p5 : Prop) : Prop
  | mk (a1 : p1) (a2 : p2) (a3 : p3) (a4 : p4) (a5 : p5)
inductive A6 (p1 p2 p3 p4 p5 p6 : Prop) : Prop
  | mk (a1 : p1) (a2 : p2) (a3 : p3) (a4 : p4) (a5 : p5) (a6 : p6)
inductive A7 (p1 p2 p3 p4 p5 p6 p7 : Prop) : Prop
  | mk (a1 : p1) (a2 : p2) (a3 : p3) (a4 : p4) (a5 : p5) (a6 : p6) (a7 : p7)
inductive A8 (p1 p2 p3 p4 p5 p6 p7 p8 : Prop) : Prop
  | mk (a1 : p1) (a2 : p2) (a3 : p3) (a4 : p4) (a5 : p5) (a6 : p6) (a7 : p7) (a8 : p8)
inductive A10 (p1 p2 p3 p4 p5 p6 p7 p8 p9 p10 : Prop) : Prop
  | mk (a1 : p1) (a2 : p2) (a3 : p3) (a4 : p4) (a5 : p5) (a6 : p6) (a7 : p7) (a8 : p8) (a9 : p9) (a10 : p10)
inductive E2 {α1 : Type} {α2 : Type} (p : α1 → α2 → Prop) : Prop
  | mk (x1 : α1) (x2 : α2) (h : p x1 x2) : E2 p
inductive E3 {α1 : Type} {α2 : Type} {α3 : Type} (p : α1 → α2 → α3 → Prop) : Prop
  | mk (x1 : α1) (x2 : α2) (x3 : α3) (h : p x1 x2 x3) : E3 p
inductive E4 {α1 : Type} {α2 : Type} {α3 : Type} {α4 : Type} (p : α1 → α2 → α3 → α4 → Prop) : Prop
  | mk (x1 : α1) (x2 : α2) (x3 : α3) (x4 : α4) (h : p x1 x2 x3 x4) : E4 p
inductive E5 {α1 : Type} {α2 : Type} {α3 : Type} {α4 : Type} {α5 : Type} (p : α1 → α2 → α3 → α4 → α5 → Prop) : Prop
  | mk (x1 : α1) (x2 : α2) (x3 : α3) (x4 : α4) (x5 : α5) (h : p x1 x2 x3 x4 x5) : E5 p

noncomputable def isStar : Expr → Bool
  | .Starred .. => true
  | _ => false
theorem starEach_plain {e : Expr} (h : isStar e = false) (rest : List Expr) (env : Env) : starEach (e :: rest) env = (false, eval e env) :: starEach rest env := by
  cases e <;> first | rfl | cases h
noncomputable def isComp : Expr → Bool
  | .ListComp .. => true
  | .SetComp .. => true
  | .DictComp .. => true
  | _ => false
theorem swaps_plain {e : Expr} (h : isComp e = false) (t : Option Expr) (l : Nat) (env : Env) : swapsWith e t l env = pure false := by
  cases e <;> first | rfl | cases h
noncomputable def isSetE : Expr → Bool
  | .Set .. => true
  | _ => false
theorem folded_plain {e : Expr} (h : isSetE e = false) (env : Env) : ∀ x, foldedSetIterable e env x = pure x := by
  intro x
  cases e <;> first | rfl | cases h
noncomputable def isCallE : Expr → Bool
  | .Call .. => true
  | _ => false
theorem attributeBase_plain {o : Expr} (h : isCallE o = false) (name : Str) (env : Env) : attributeBase o name env (eval o env) = eval o env := by
  cases o <;> first | rfl | cases h

inductive V where
  | none
  | bool (b : Bool)
  | int (i : Int)
  | str (s : Str)
  | tup (vs : List V)
  | lst (vs : List V)
  | ref (i : Nat)
  | obj (a : Addr)

inductive O where
  | lst (vs : List V)
  | di (kvs : List (Int × V))
  | ds (kvs : List (Str × V))
  | inst (C : Addr) (f : List (Str × V))

structure St where
  loc : List (Str × V)
  sto : List O

noncomputable abbrev Rho := List (Addr × Addr)

noncomputable def PlainTup (h : Heap) (a : Addr) (items : Array Value) : Prop := ∃ n, h.get? a = some { cls := .type "tuple", data := .seq items n }
theorem PlainTup.isTup {h : Heap} {a : Addr} {items : Array Value} (x : PlainTup h a items) : IsTup h a items := let ⟨n, e⟩ := x; ⟨_, e, rfl, n, rfl⟩

mutual
inductive VR (h : Heap) (ρ : Rho) : V → Value → Prop
  | none : VR h ρ .none .none
  | bool (b : Bool) : VR h ρ (.bool b) (.bool b)
  | int (i : Int) (t : Tok) : VR h ρ (.int i) (.int i t)
  | str (x : Str) (t : Tok) : VR h ρ (.str x) (.str x t)
  | ref {i : Nat} {p : Addr × Addr} : ρ[i]? = some p → VR h ρ (.ref i) (.ref p.1)
  | obj (a : Addr) : VR h ρ (.obj a) (.ref a)
  | tup {vs : List V} {a : Addr} {us : List Value} : PlainTup h a us.toArray → (∀ p ∈ ρ, p.2 ≠ a) → VRs h ρ vs us → VR h ρ (.tup vs) (.ref a)
  | lst {vs : List V} {a : Addr} {us : List Value} : h.PlainList a us.toArray → (∀ p ∈ ρ, p.2 ≠ a) → VRs h ρ vs us → VR h ρ (.lst vs) (.ref a)
inductive VRs (h : Heap) (ρ : Rho) : List V → List Value → Prop
  | nil : VRs h ρ [] []
  | cons {v : V} {u : Value} {vs : List V} {us : List Value} : VR h ρ v u → VRs h ρ vs us → VRs h ρ (v :: vs) (u :: us)
end

structure Step (env : Env) (ρ : Rho) (h : Heap) (ρ' : Rho) (h' : Heap) : Prop where
  more : ∃ τ, ρ' = ρ ++ τ ∧ ∀ p ∈ τ, h.get? p.1 = none ∧ h.get? p.2 = none
  dom : ∀ b o, h.get? b = some o → ∃ o', h'.get? b = some o'
  keep : ∀ b o, h.get? b = some o → (∀ p ∈ ρ, p.2 ≠ b) → b ≠ env.locals → (env.func.isSome = true → ∀ c ∈ env.cells, c.2 ≠ b) → h'.get? b = some o

structure FrameOk (env : Env) (h : Heap) : Prop where
  loc : ∃ o es n, h.get? env.locals = some o ∧ o.data = .dict es n
  cells : ∀ c ∈ env.cells, ∃ o v, h.get? c.2 = some o ∧ o.data = .cell v

theorem Step.refl (env : Env) (ρ : Rho) (h : Heap) : Step env ρ h ρ h := ⟨⟨[], by simp, by simp⟩, fun _ o e => ⟨o, e⟩, fun _ _ e _ _ _ => e⟩
theorem Step.trans {env : Env} {ρ ρ₁ ρ₂ : Rho} {h h₁ h₂ : Heap} (x : Step env ρ h ρ₁ h₁) (y : Step env ρ₁ h₁ ρ₂ h₂) : Step env ρ h ρ₂ h₂ := by
  obtain ⟨⟨τ, rfl, hτ⟩, d, k⟩ := x
  obtain ⟨⟨τ', rfl, hτ'⟩, d', k'⟩ := y
  have none_back : ∀ b, h₁.get? b = none → h.get? b = none := fun b e => by
    cases q : h.get? b with
    | none => rfl
    | some o => obtain ⟨o', e'⟩ := d b o q; rw [e] at e'; cases e'
  refine ⟨⟨τ ++ τ', by simp, fun p hp => ?_⟩, fun b o e => ?_, fun b o e h1 h2 h3 => ?_⟩
  · rcases List.mem_append.mp hp with hp | hp
    · exact hτ p hp
    · exact ⟨none_back _ (hτ' p hp).1, none_back _ (hτ' p hp).2⟩
  · obtain ⟨o', e'⟩ := d b o e
    exact d' b o' e'
  · refine k' b o (k b o e h1 h2 h3) (fun p hp => ?_) h2 h3
    rcases List.mem_append.mp hp with hp | hp
    · exact h1 p hp
    · rintro rfl; rw [(hτ p hp).2] at e; cases e
theorem Step.ofKeep {env : Env} {ρ : Rho} {h h' : Heap} (k : ∀ b o, h.get? b = some o → h'.get? b = some o) : Step env ρ h ρ h' :=
  ⟨⟨[], by simp, by simp⟩, fun b o e => ⟨o, k b o e⟩, fun b o e _ _ _ => k b o e⟩

theorem Step.at {env : Env} {ρ ρ' : Rho} {h h' : Heap} (x : Step env ρ h ρ' h') (F : FrameOk env h) {a : Addr} {o : Obj} {its : Array Value} {n : Nat} (e : h.get? a = some o) (hd : o.data = .seq its n) (hp : ∀ p ∈ ρ, p.2 ≠ a) : h'.get? a = some o := by
  refine x.keep a o e hp ?_ ?_
  · rintro rfl
    obtain ⟨o', es, m, e', d'⟩ := F.loc
    rw [e'] at e; cases e; rw [hd] at d'; cases d'
  · rintro _ c hc rfl
    obtain ⟨o', v, e', d'⟩ := F.cells c hc
    rw [e'] at e; cases e; rw [hd] at d'; cases d'
theorem Step.muts {env : Env} {ρ ρ' : Rho} {h h' : Heap} (x : Step env ρ h ρ' h') {a : Addr} {o : Obj} (e : h.get? a = some o) (hp : ∀ p ∈ ρ, p.2 ≠ a) : ∀ p ∈ ρ', p.2 ≠ a := by
  obtain ⟨τ, rfl, hτ⟩ := x.more
  intro p hp'
  rcases List.mem_append.mp hp' with q | q
  · exact hp p q
  · rintro rfl; rw [(hτ p q).2] at e; cases e

theorem VR.move {h h' : Heap} {ρ ρ' : Rho} (hr : ∀ (i : Nat) (p : Addr × Addr), ρ[i]? = some p → ρ'[i]? = some p)
    (ht : ∀ (a : Addr) (us : Array Value), PlainTup h a us → (∀ p ∈ ρ, p.2 ≠ a) → PlainTup h' a us ∧ ∀ p ∈ ρ', p.2 ≠ a)
    (hl : ∀ (a : Addr) (us : Array Value), h.PlainList a us → (∀ p ∈ ρ, p.2 ≠ a) → h'.PlainList a us ∧ ∀ p ∈ ρ', p.2 ≠ a) {v : V} {u : Value} (x : VR h ρ v u) : VR h' ρ' v u :=
  VR.rec (motive_1 := fun v u _ => VR h' ρ' v u) (motive_2 := fun v u _ => VRs h' ρ' v u) .none .bool .int .str (fun e => .ref (hr _ _ e)) .obj
    (fun ho hp _ ih => .tup (ht _ _ ho hp).1 (ht _ _ ho hp).2 ih) (fun ho hp _ ih => .lst (hl _ _ ho hp).1 (hl _ _ ho hp).2 ih) .nil (fun _ _ a b => .cons a b) x
theorem VRs.ind {h : Heap} {ρ : Rho} {C : List V → List Value → Prop} (n : C [] []) (s : ∀ (v : V) (u : Value) (vs : List V) (us : List Value), VR h ρ v u → VRs h ρ vs us → C vs us → C (v :: vs) (u :: us)) {vs : List V} {us : List Value} (x : VRs h ρ vs us) : C vs us :=
  VRs.rec (motive_1 := fun _ _ _ => True) (motive_2 := fun vs us _ => C vs us) trivial (fun _ => trivial) (fun _ _ => trivial) (fun _ _ => trivial) (fun _ => trivial) (fun _ => trivial) (fun _ _ _ _ => trivial) (fun _ _ _ _ => trivial) n (fun a r _ ih => s _ _ _ _ a r ih) x
theorem VRs.map {h h' : Heap} {ρ ρ' : Rho} (f : ∀ {v : V} {u : Value}, VR h ρ v u → VR h' ρ' v u) {vs : List V} {us : List Value} (x : VRs h ρ vs us) : VRs h' ρ' vs us :=
  VRs.ind .nil (fun _ _ _ _ a _ ih => .cons (f a) ih) x
theorem VR.step {env : Env} {ρ ρ' : Rho} {h h' : Heap} (F : FrameOk env h) (x : Step env ρ h ρ' h') {v : V} {u : Value} (y : VR h ρ v u) : VR h' ρ' v u :=
  VR.move (fun i p e => by
      obtain ⟨τ, rfl, _⟩ := x.more
      rw [List.getElem?_append_left (List.getElem?_eq_some_iff.mp e).1]; exact e)
    (fun a us ho hp => ⟨ho.elim fun n e => ⟨n, x.at F e rfl hp⟩, ho.elim fun n e => x.muts e hp⟩) (fun a us ho hp => ⟨ho.elim fun n e => ⟨n, x.at F e rfl hp⟩, ho.elim fun n e => x.muts e hp⟩) y
theorem VRs.step {env : Env} {ρ ρ' : Rho} {h h' : Heap} (F : FrameOk env h) (x : Step env ρ h ρ' h') {v : List V} {u : List Value} (y : VRs h ρ v u) : VRs h' ρ' v u := y.map fun a => a.step F x

theorem VRs.length {h : Heap} {ρ : Rho} {vs : List V} {us : List Value} (x : VRs h ρ vs us) : us.length = vs.length :=
  VRs.ind (C := fun vs us => us.length = vs.length) rfl (fun _ _ _ _ _ _ ih => by rw [List.length_cons, List.length_cons, ih]) x
theorem VRs.get {h : Heap} {ρ : Rho} {vs : List V} {us : List Value} (x : VRs h ρ vs us) : ∀ {i : Nat} {v : V}, vs[i]? = some v → ∃ u, us[i]? = some u ∧ VR h ρ v u :=
  VRs.ind (C := fun vs us => ∀ {i : Nat} {v : V}, vs[i]? = some v → ∃ u, us[i]? = some u ∧ VR h ρ v u) (fun e => by simp at e) (fun v u vs us a _ ih i w e => by
    cases i with
    | zero => exact ⟨u, rfl, by rw [← (Option.some.inj e : v = w)]; exact a⟩
    | succ i => exact ih (i := i) e) x
theorem VRs.append {h : Heap} {ρ : Rho} {ws : List V} {xs : List Value} (y : VRs h ρ ws xs) {vs : List V} {us : List Value} (x : VRs h ρ vs us) : VRs h ρ (vs ++ ws) (us ++ xs) :=
  VRs.ind (C := fun vs us => VRs h ρ (vs ++ ws) (us ++ xs)) y (fun _ _ _ _ a _ ih => .cons a ih) x
theorem VRs.reverse {h : Heap} {ρ : Rho} {vs : List V} {us : List Value} (x : VRs h ρ vs us) : VRs h ρ vs.reverse us.reverse :=
  VRs.ind (C := fun vs us => VRs h ρ vs.reverse us.reverse) .nil (fun _ _ _ _ a _ ih => by
    rw [List.reverse_cons, List.reverse_cons]
    exact VRs.append (.cons a .nil) ih) x
theorem VRs.take {h : Heap} {ρ : Rho} {vs : List V} {us : List Value} (x : VRs h ρ vs us) : ∀ n, VRs h ρ (vs.take n) (us.take n) :=
  VRs.ind (C := fun vs us => ∀ n, VRs h ρ (vs.take n) (us.take n)) (fun n => by rw [List.take_nil, List.take_nil]; exact .nil) (fun _ _ _ _ a _ ih n => by
    cases n with
    | zero => exact .nil
    | succ n => exact .cons a (ih n)) x
theorem VRs.set {h : Heap} {ρ : Rho} {v : V} {u : Value} (y : VR h ρ v u) {vs : List V} {us : List Value} (x : VRs h ρ vs us) : ∀ n, VRs h ρ (vs.set n v) (us.set n u) :=
  VRs.ind (C := fun vs us => ∀ n, VRs h ρ (vs.set n v) (us.set n u)) (fun n => .nil) (fun _ _ _ _ a r ih n => by
    cases n with
    | zero => exact .cons y r
    | succ n => exact .cons a (ih n)) x

inductive KVs {K : Type} (h : Heap) (ρ : Rho) : List (K × V) → List (K × Value) → Prop
  | nil : KVs h ρ [] []
  | cons {k : K} {v : V} {u : Value} {vs : List (K × V)} {us : List (K × Value)} : VR h ρ v u → KVs h ρ vs us → KVs h ρ ((k, v) :: vs) ((k, u) :: us)
theorem KVs.map {K : Type} {h h' : Heap} {ρ ρ' : Rho} (f : ∀ {v : V} {u : Value}, VR h ρ v u → VR h' ρ' v u) {vs : List (K × V)} {us : List (K × Value)} (x : KVs h ρ vs us) : KVs h' ρ' vs us := by
  induction x with
  | nil => exact .nil
  | cons a _ ih => exact .cons (f a) ih
theorem KVs.step {K : Type} {env : Env} {ρ ρ' : Rho} {h h' : Heap} (F : FrameOk env h) (x : Step env ρ h ρ' h') {vs : List (K × V)} {us : List (K × Value)} (y : KVs h ρ vs us) : KVs h' ρ' vs us := y.map fun a => a.step F x

inductive EsOf : List DictEntry → List (Str × Value) → Prop
  | nil : EsOf [] []
  | cons {hs : Int} {k : Str} {t : Tok} {v : Value} {es : List DictEntry} {us : List (Str × Value)} : EsOf es us → EsOf (⟨hs, .str k t, v⟩ :: es) ((k, v) :: us)

noncomputable def OR (prog : Program) (w : World) (h : Heap) (ρ : Rho) : O → Addr × Addr → Prop
  | .lst vs, p => p.1 = p.2 ∧ ∃ us, h.PlainList p.1 us.toArray ∧ VRs h ρ vs us
  | .di kvs, p => p.1 = p.2 ∧ (p.1 == sysModules) = false ∧ ∃ us, h.DictOf (intKind prog w) p.1 us ∧ KVs h ρ kvs us
  | .ds kvs, p => p.1 = p.2 ∧ (p.1 == sysModules) = false ∧ ∃ us, h.DictOf (strKind prog w) p.1 us ∧ KVs h ρ kvs us
  | .inst C f, p => p.1 ≠ p.2 ∧ h.get? p.1 = some (instObj C p.2) ∧ ∃ es n us, h.get? p.2 = some (dictOf es n) ∧ EsOf es us ∧ KVs h ρ f us

noncomputable def Var (env : Env) (h : Heap) (x : Str) (u : Value) : Prop :=
  (env.kindOf x = some .local ∧ ∃ m, h.Ns env.locals m ∧ m x = some u) ∨
  ((env.kindOf x = some .cell ∨ env.kindOf x = some .free) ∧ ∃ c o, env.cells.lookup x = some c ∧ h.get? c = some o ∧ o.data = .cell (some u))

set_option genInjectivity false in
structure Gd where
  s₀ : Shared
  ro : Nat
  stack : List Env := []
  held : List (Addr × Data) := []
noncomputable abbrev Gd.h (g : Gd) : Heap := g.s₀.heap

noncomputable def Gd.Held (g : Gd) (env : Env) (ρ : Rho) (h : Heap) : Prop := ∀ p ∈ g.held, (∃ o, h.get? p.1 = some o ∧ o.data = p.2) ∧ (∀ vs, p.2 ≠ .fields vs) ∧ p.1 ≠ env.locals ∧ (∀ c ∈ env.cells, c.2 ≠ p.1) ∧ ∀ q ∈ ρ, q.2 ≠ p.1
theorem Gd.Held.up {g : Gd} {env : Env} {ρ : Rho} {h h' : Heap} (x : g.Held env ρ h) (k : ∀ b o, h.get? b = some o → (∀ vs, o.data ≠ .fields vs) → b ≠ env.locals → (∀ c ∈ env.cells, c.2 ≠ b) → (∀ q ∈ ρ, q.2 ≠ b) → ∃ o', h'.get? b = some o' ∧ o'.data = o.data) : g.Held env ρ h' := fun p hp => by
  obtain ⟨⟨o, e, d⟩, a1, a2, a3, a4⟩ := x p hp
  obtain ⟨o', e', d'⟩ := k _ o e (fun vs z => a1 vs (d ▸ z)) a2 a3 a4
  exact ⟨⟨o', e', d'.trans d⟩, a1, a2, a3, a4⟩
theorem Gd.Held.more {g : Gd} {env : Env} {ρ τ : Rho} {h h₀ : Heap} (x : g.Held env ρ h) (x₀ : g.Held env ρ h₀) (hτ : ∀ q ∈ τ, h₀.get? q.2 = none) : g.Held env (ρ ++ τ) h := fun p hp => by
  obtain ⟨a0, a1, a2, a3, a4⟩ := x p hp
  obtain ⟨⟨o, e, _⟩, _⟩ := x₀ p hp
  refine ⟨a0, a1, a2, a3, fun q hq => ?_⟩
  rcases List.mem_append.mp hq with hq | hq
  · exact a4 q hq
  · rintro z; rw [← z, hτ q hq] at e; cases e

structure Rel (prog : Program) (w : World) (g : Gd) (env : Env) (ρ : Rho) (S : St) (s : Shared) : Prop where
  gens : s.gens = #[] ∧ (shT s g.s₀.heap g.s₀.toks) = g.s₀
  base : ∀ b o, g.h.get? b = some o → s.heap.get? b = some o
  gL : g.h.get? env.locals = none
  gC : ∀ c ∈ env.cells, g.h.get? c.2 = none
  gM : ∀ (i : Nat) (p : Addr × Addr), ρ[i]? = some p → g.ro ≤ i → g.h.get? p.2 = none
  ro : g.ro ≤ S.sto.length
  ns : ∃ m, s.heap.Ns env.locals m
  cells : ∀ c ∈ env.cells, ∃ o v, s.heap.get? c.2 = some o ∧ o.data = .cell v
  mL : ∀ p ∈ ρ, p.2 ≠ env.locals
  mC : ∀ p ∈ ρ, ∀ c ∈ env.cells, p.2 ≠ c.2
  cL : ∀ c ∈ env.cells, c.2 ≠ env.locals
  vars : ∀ x v, S.loc.lookup x = some v → ∃ u, Var env s.heap x u ∧ VR s.heap ρ v u
  len : ρ.length = S.sto.length
  sto : ∀ (i : Nat) (p : Addr × Addr) (o : O), ρ[i]? = some p → S.sto[i]? = some o → OR prog w s.heap ρ o p
  nd : (ρ.map (·.2)).Nodup
  cd : env.cells.Pairwise fun x y => x.2 ≠ y.2
  frs : s.heap.FunFrames g.h g.stack
  held : g.Held env ρ s.heap

theorem FunFrames.map {h h' base base' : Heap} {l : List Env} (k : ∀ env ∈ l, ∀ L o, env.frame = some L → base.get? L = none → h.get? L = some o → (∀ vs, o.data ≠ .fields vs) → base'.get? L = none ∧ ∃ o', h'.get? L = some o' ∧ ∀ vs, o'.data ≠ .fields vs) (x : h.FunFrames base l) : h'.FunFrames base' l := by
  induction l with
  | nil => trivial
  | cons env l ih => exact ⟨x.1, x.2.1.elim fun L z => z.elim fun o z => (k env (.head _) L o z.1 z.2.1 z.2.2.1 z.2.2.2).2.elim fun o' b => ⟨L, o', z.1, (k env (.head _) L o z.1 z.2.1 z.2.2.1 z.2.2.2).1, b.1, b.2⟩, ih (fun e he => k e (.tail _ he)) x.2.2⟩
theorem FunFrames.up {h h' base : Heap} (k : ∀ b o, h.get? b = some o → (∀ vs, o.data ≠ .fields vs) → ∃ o', h'.get? b = some o' ∧ ∀ vs, o'.data ≠ .fields vs) {l : List Env} (x : h.FunFrames base l) : h'.FunFrames base l :=
  FunFrames.map (fun _ _ L o _ hn ho hd => ⟨hn, k L o ho hd⟩) x
theorem FunFrames.keep {h h' base : Heap} (k : ∀ b o, h.get? b = some o → h'.get? b = some o) {l : List Env} (x : h.FunFrames base l) : h'.FunFrames base l := FunFrames.up (fun b o e hn => ⟨o, k b o e, hn⟩) x

section
variable {prog : Program} {w : World} {g : Gd} {env : Env} {ρ : Rho} {S : St} {s : Shared}
theorem Rel.frame (r : Rel prog w g env ρ S s) : FrameOk env s.heap :=
  ⟨by obtain ⟨m, o, es, n, e, d, _⟩ := r.ns; exact ⟨o, es, n, e, d⟩, r.cells⟩

theorem VR.keep {h h' : Heap} (k : ∀ b o, h.get? b = some o → h'.get? b = some o) {v : V} {u : Value} (x : VR h ρ v u) (F : FrameOk env h) : VR h' ρ v u := x.step F (Step.ofKeep k)

theorem OR.map {h h' : Heap} {ρ' : Rho} {o : O} {p : Addr × Addr} (kv : ∀ {v : V} {u : Value}, VR h ρ v u → VR h' ρ' v u) (k1 : p.1 = p.2 → ∀ ob, h.get? p.1 = some ob → h'.get? p.1 = some ob)
    (k2 : p.1 ≠ p.2 → ∀ C, h.get? p.1 = some (instObj C p.2) → h'.get? p.1 = some (instObj C p.2)) (k3 : p.1 ≠ p.2 → ∀ ob, h.get? p.2 = some ob → h'.get? p.2 = some ob) (x : OR prog w h ρ o p) : OR prog w h' ρ' o p := by
  cases o with
  | lst vs => exact ⟨x.1, x.2.elim fun us y => ⟨us, y.1.elim fun n ho => ⟨n, k1 x.1 _ ho⟩, y.2.map kv⟩⟩
  | di kvs => exact ⟨x.1, x.2.1, x.2.2.elim fun us y => ⟨us, y.1.elim fun o y => ⟨o, y.elim fun es y => ⟨es, y.elim fun ep y => ⟨ep, k1 x.1 _ y.1, y.2⟩⟩⟩, y.2.map kv⟩⟩
  | ds kvs => exact ⟨x.1, x.2.1, x.2.2.elim fun us y => ⟨us, y.1.elim fun o y => ⟨o, y.elim fun es y => ⟨es, y.elim fun ep y => ⟨ep, k1 x.1 _ y.1, y.2⟩⟩⟩, y.2.map kv⟩⟩
  | inst C f => exact ⟨x.1, k2 x.1 _ x.2.1, x.2.2.elim fun es y => ⟨es, y.elim fun n y => ⟨n, y.elim fun us y => ⟨us, k3 x.1 _ y.1, y.2.1, y.2.2.map kv⟩⟩⟩⟩
theorem OR.keep {h h' : Heap} (F : FrameOk env h) (k : ∀ b o, h.get? b = some o → h'.get? b = some o) {o : O} {p : Addr × Addr} (x : OR prog w h ρ o p) : OR prog w h' ρ o p :=
  x.map (fun y => y.step F (Step.ofKeep k)) (fun _ => k _) (fun _ _ => k _ _) fun _ => k _
theorem OR.at {h : Heap} {o : O} {p : Addr × Addr} (x : OR prog w h ρ o p) : ∃ ob, h.get? p.2 = some ob ∧ ((∃ its n, ob.data = .seq its n) ∨ ∃ es n, ob.data = .dict es n) := by
  cases o with
  | lst vs => exact x.2.elim fun us y => y.1.elim fun n ho => ⟨_, by rw [← x.1]; exact ho, .inl ⟨_, _, rfl⟩⟩
  | di kvs => exact x.2.2.elim fun us y => y.1.elim fun o y => y.elim fun es y => y.elim fun ep y => ⟨o, by rw [← x.1]; exact y.1, .inr ⟨_, _, y.2.2.1⟩⟩
  | ds kvs => exact x.2.2.elim fun us y => y.1.elim fun o y => y.elim fun es y => y.elim fun ep y => ⟨o, by rw [← x.1]; exact y.1, .inr ⟨_, _, y.2.2.1⟩⟩
  | inst C f => exact x.2.2.elim fun es y => y.elim fun n y => y.elim fun us y => ⟨_, y.1, .inr ⟨_, _, rfl⟩⟩
theorem OR.nf {h : Heap} {o : O} {p : Addr × Addr} (x : OR prog w h ρ o p) : ∃ ob, h.get? p.2 = some ob ∧ ∀ vs, ob.data ≠ .fields vs := by
  obtain ⟨ob, e, d⟩ := x.at
  exact ⟨ob, e, fun vs z => by rw [z] at d; rcases d with ⟨_, _, d⟩ | ⟨_, _, d⟩ <;> cases d⟩
theorem Var.move {h h' : Heap} {x : Str} {u : Value} (k1 : ∀ {m : Str → Option Value}, h.Ns env.locals m → h'.Ns env.locals m) (k2 : ∀ a o v, env.cells.lookup x = some a → h.get? a = some o → o.data = .cell v → h'.get? a = some o) (y : Var env h x u) : Var env h' x u :=
  Or.elim y (fun y => .inl ⟨y.1, y.2.elim fun m z => ⟨m, k1 z.1, z.2⟩⟩) fun y => .inr ⟨y.1, y.2.elim fun a z => ⟨a, z.elim fun o z => ⟨o, z.1, k2 _ _ _ z.1 z.2.1 z.2.2, z.2.2⟩⟩⟩
theorem Var.keep {h h' : Heap} {x : Str} {u : Value} (k : ∀ b o, h.get? b = some o → h'.get? b = some o) (y : Var env h x u) : Var env h' x u :=
  Var.move (fun hm => hm.keeps k) (fun _ _ _ _ e _ => k _ _ e) y

theorem Rel.keep (r : Rel prog w g env ρ S s) {h' : Heap} (tk : Nat) (k : ∀ b o, s.heap.get? b = some o → h'.get? b = some o) : Rel prog w g env ρ S (shT s h' tk) where
  gens := r.gens
  base := fun b o e => k b o (r.base b o e)
  gL := r.gL
  gC := r.gC
  gM := r.gM
  ro := r.ro
  ns := let ⟨m, hm⟩ := r.ns; ⟨m, hm.keeps k⟩
  cells := fun c hc => let ⟨o, v, e, d⟩ := r.cells c hc; ⟨o, v, k _ _ e, d⟩
  mL := r.mL
  mC := r.mC
  cL := r.cL
  vars := fun x v e => let ⟨u, a, b⟩ := r.vars x v e; ⟨u, a.keep k, b.keep k r.frame⟩
  len := r.len
  sto := fun i p o e1 e2 => (r.sto i p o e1 e2).keep r.frame k
  nd := r.nd
  cd := r.cd
  frs := FunFrames.keep k r.frs
  held := r.held.up fun b o e _ _ _ _ => ⟨o, k b o e, rfl⟩
end
def syn1 : Lean.Syntax := Lean.Unhygienic.run `(Lean.Parser.Tactic.tacticSeq| with_unfolding_all rfl)
def syn2 : Lean.Syntax := Lean.Unhygienic.run `(Lean.Parser.Tactic.tacticSeq| first | kernel_rfl | decide +kernel)
def syn3 : Lean.Syntax := Lean.Unhygienic.run `(Lean.Parser.Tactic.tacticSeq| exact swaps_plain rfl _ _ _)
def syn4 : Lean.Syntax := Lean.Unhygienic.run `(Lean.Parser.Tactic.tacticSeq| exact folded_plain rfl _)
def syn5 : Lean.Syntax := Lean.Unhygienic.run `(Lean.Parser.Tactic.tacticSeq| exact starEach_plain rfl _ _)
def syn6 : Lean.Syntax := Lean.Unhygienic.run `(Lean.Parser.Tactic.tacticSeq| intro _ _; with_unfolding_all rfl)
def syn7 : Lean.Syntax := Lean.Unhygienic.run `(Lean.Parser.Tactic.tacticSeq| exact attributeBase_plain rfl _ _)
def syn8 : Lean.Syntax := Lean.Unhygienic.run `(Lean.Parser.Tactic.tacticSeq| with_unfolding_all first | exact .inl rfl | exact .inr ⟨_, _, rfl, rfl, rfl⟩)
def syn9 : Lean.Syntax := Lean.Unhygienic.run `(Lean.Parser.Tactic.tacticSeq| with_unfolding_all decide +kernel)
def syn10 : Lean.Syntax := Lean.Unhygienic.run `(Lean.Parser.Tactic.tacticSeq| rfl)
def syn13 : Lean.Syntax := Lean.Unhygienic.run `(Lean.Parser.Tactic.tacticSeq| with_unfolding_all first | exact ⟨rfl, .inl rfl⟩ | exact ⟨rfl, .inr ⟨rfl, rfl, rfl⟩⟩)
end

section
open PySem PySem.W PyProof.Rows PySem.Calls
set_option genInjectivity false in
structure Cx where
  prog : Program
  w : World
  g : Gd
  A : Around
  env : Env
  X : Value → Shared → Prop

noncomputable abbrev Cx.Rel (c : Cx) (ρ : Rho) (S : St) (s : Shared) : Prop := Mine.Rel c.prog c.w c.g c.env ρ S s

noncomputable def EOk (c : Cx) (E : Value → Shared → Prop) : Prop := (∀ e s', c.X e s' → E e s') ∧ PassesOwn (model c.prog c.w) c.A c.env E

noncomputable def TW (c : Cx) {α β : Type} (out : Heap → Rho → α → β → Prop) (S : St) (t : Sem β) (P : α → St → Prop) : Prop :=
  ∀ (ρ : Rho) (s : Shared) (Q : β → Shared → Prop) (E : Value → Shared → Prop), c.Rel ρ S s →
    (∀ (v : α) (S' : St) (ρ' : Rho) (u : β) (h' : Heap) (tk' : Nat), P v S' → c.Rel ρ' S' (shT s h' tk') → out h' ρ' v u → Step c.env ρ s.heap ρ' h' → Q u (shT s h' tk')) →
    EOk c E → wpAny (model c.prog c.w) c.A t Q E s

inductive Fl where
  | next
  | ret (v : V)
inductive FlR (h : Heap) (ρ : Rho) : Fl → Flow → Prop
  | next : FlR h ρ .next .next
  | ret {v : V} {u : Value} : VR h ρ v u → FlR h ρ (.ret v) (.ret u)
inductive SameR {α : Type} (h : Heap) (ρ : Rho) : α → α → Prop
  | mk (a : α) : SameR h ρ a a

noncomputable abbrev EW (c : Cx) (S : St) (e : Expr) (P : V → St → Prop) : Prop := TW c VR S (eval e c.env) P
noncomputable abbrev BW (c : Cx) (S : St) (e : Expr) (P : Bool → St → Prop) : Prop := TW c SameR S (isTrue e c.env (eval e c.env)) P
noncomputable abbrev SW (c : Cx) (S : St) (st : Stmt) (P : Fl → St → Prop) : Prop := TW c FlR S (exec st c.env) P
noncomputable abbrev XW (c : Cx) (S : St) (l : List Stmt) (P : Fl → St → Prop) : Prop := TW c FlR S (execs l c.env) P

noncomputable def OW1 (c : Cx) {α β : Type} (out : Heap → Rho → α → β → Prop) (S : St) (a : V) (t : Value → Sem β) (P : α → St → Prop) : Prop :=
  ∀ (ρ : Rho) (s : Shared) (x : Value) (Q : β → Shared → Prop) (E : Value → Shared → Prop), c.Rel ρ S s → VR s.heap ρ a x →
    (∀ (v : α) (S' : St) (ρ' : Rho) (u : β) (h' : Heap) (tk' : Nat), P v S' → c.Rel ρ' S' (shT s h' tk') → out h' ρ' v u → Step c.env ρ s.heap ρ' h' → Q u (shT s h' tk')) →
    EOk c E → wpAny (model c.prog c.w) c.A (t x) Q E s
noncomputable def OW2 (c : Cx) {α β : Type} (out : Heap → Rho → α → β → Prop) (S : St) (a b : V) (t : Value → Value → Sem β) (P : α → St → Prop) : Prop :=
  ∀ (ρ : Rho) (s : Shared) (x y : Value) (Q : β → Shared → Prop) (E : Value → Shared → Prop), c.Rel ρ S s → VR s.heap ρ a x → VR s.heap ρ b y →
    (∀ (v : α) (S' : St) (ρ' : Rho) (u : β) (h' : Heap) (tk' : Nat), P v S' → c.Rel ρ' S' (shT s h' tk') → out h' ρ' v u → Step c.env ρ s.heap ρ' h' → Q u (shT s h' tk')) →
    EOk c E → wpAny (model c.prog c.w) c.A (t x y) Q E s
noncomputable def OW3 (c : Cx) {α β : Type} (out : Heap → Rho → α → β → Prop) (S : St) (a b d : V) (t : Value → Value → Value → Sem β) (P : α → St → Prop) : Prop :=
  ∀ (ρ : Rho) (s : Shared) (x y z : Value) (Q : β → Shared → Prop) (E : Value → Shared → Prop), c.Rel ρ S s → VR s.heap ρ a x → VR s.heap ρ b y → VR s.heap ρ d z →
    (∀ (v : α) (S' : St) (ρ' : Rho) (u : β) (h' : Heap) (tk' : Nat), P v S' → c.Rel ρ' S' (shT s h' tk') → out h' ρ' v u → Step c.env ρ s.heap ρ' h' → Q u (shT s h' tk')) →
    EOk c E → wpAny (model c.prog c.w) c.A (t x y z) Q E s
noncomputable def OWs (c : Cx) {α β : Type} (out : Heap → Rho → α → β → Prop) (S : St) (as : List V) (t : List Value → Sem β) (P : α → St → Prop) : Prop :=
  ∀ (ρ : Rho) (s : Shared) (xs : List Value) (Q : β → Shared → Prop) (E : Value → Shared → Prop), c.Rel ρ S s → VRs s.heap ρ as xs →
    (∀ (v : α) (S' : St) (ρ' : Rho) (u : β) (h' : Heap) (tk' : Nat), P v S' → c.Rel ρ' S' (shT s h' tk') → out h' ρ' v u → Step c.env ρ s.heap ρ' h' → Q u (shT s h' tk')) →
    EOk c E → wpAny (model c.prog c.w) c.A (t xs) Q E s

theorem TW.ro {c : Cx} {α β : Type} {out : Heap → Rho → α → β → Prop} {S : St} {t : Sem β} {P : α → St → Prop} (h : c.g.ro ≤ S.sto.length → TW c out S t P) : TW c out S t P := fun ρ s Q E r => h r.ro ρ s Q E r
theorem OWs.ro {c : Cx} {α β : Type} {out : Heap → Rho → α → β → Prop} {S : St} {as : List V} {t : List Value → Sem β} {P : α → St → Prop} (h : c.g.ro ≤ S.sto.length → OWs c out S as t P) : OWs c out S as t P := fun ρ s xs Q E r => h r.ro ρ s xs Q E r

noncomputable abbrev AW (c : Cx) (S : St) (pos : Pos) (l : List Expr) (P : List V → St → Prop) : Prop := TW c VRs S (spliced (backTo pos (starEach l c.env))) P

section
variable {c : Cx} {S : St}

theorem TW.mono {α β : Type} {out : Heap → Rho → α → β → Prop} {t : Sem β} {P P' : α → St → Prop} (h : TW c out S t P) (k : ∀ v S', P v S' → P' v S') : TW c out S t P' :=
  fun ρ s Q E r q x => h ρ s Q E r (fun v S' ρ' u h' tk' p => q v S' ρ' u h' tk' (k v S' p)) x

theorem TW.tok {α β : Type} {out : Heap → Rho → α → β → Prop} {t : Sem β} {P : α → St → Prop} (v : α) (p : P v S)
    (h : ∀ (ρ : Rho) (s : Shared) (Q : β → Shared → Prop) (E : Value → Shared → Prop), c.Rel ρ S s → (∀ u tk, out s.heap ρ v u → Q u { s with toks := tk }) → wpAny (model c.prog c.w) c.A t Q E s) : TW c out S t P :=
  fun ρ s Q E r q _ => h ρ s Q E r fun u tk o => q v S ρ u s.heap tk p (r.keep tk fun _ _ e => e) o (.refl ..)

theorem EW.int {i : Int} {k : Nat} {pos : Pos} {c : Cx} {S : St} {P : V → St → Prop} (p : P (.int i) S) : EW c S (.Constant (.int i) k pos) P :=
  TW.tok _ p fun _ _ _ _ _ q => wpAny_Constant_int (q _ _ (.int ..))
theorem EW.str {x : Str} {k : Nat} {pos : Pos} {c : Cx} {S : St} {P : V → St → Prop} (p : P (.str x) S) : EW c S (.Constant (.str x) k pos) P :=
  TW.tok _ p fun _ _ _ _ _ q => wpAny_Constant_str (q _ _ (.str ..))
theorem EW.bool {k : Nat} {pos : Pos} {c : Cx} {S : St} {b : Bool} {P : V → St → Prop} (p : P (.bool b) S) : EW c S (.Constant (.bool b) k pos) P :=
  TW.tok _ p fun _ s _ _ _ q => wpAny_Constant_bool (q _ s.toks (.bool ..))
theorem EW.none {k : Nat} {pos : Pos} {c : Cx} {S : St} {P : V → St → Prop} (p : P .none S) : EW c S (.Constant .none k pos) P :=
  TW.tok _ p fun _ s _ _ _ q => wpAny_Constant_none (q _ s.toks .none)

theorem wp_loadVar {M : Model} {A : Around} {E : Value → Shared → Prop} {s : Shared} {env : Env} {x : Str} {u : Value} {Q : Value → Shared → Prop} (hk : env.scope.kind = .function) (v : Var env s.heap x u) (h : Q u s)
    (hn : (x == ("__classdict__" : Str)) = false) : wpAny M A (loadName env x) Q E s := by
  rcases v with ⟨e, m, hm, hx⟩ | ⟨e, a, o, ha, ho, hd⟩
  · exact wpAny_loadName_local hk e hm hx h
  · rcases e with e | e
    · exact wpAny_loadName_cell hk e ha ⟨o, ho, hd⟩ h
    · exact wpAny_loadName_free hk e ha ⟨o, ho, hd⟩ h hn

theorem EW.name {x : Str} {pos : Pos} {c : Cx} {S : St} {v : V} {P : V → St → Prop} (e : S.loc.lookup x = some v) (p : P v S) (hk : autoParam (c.env.scope.kind = .function) syn1)
    (hd : autoParam ((x == ("__debug__" : Str)) = false) syn2) (hn : autoParam ((x == ("__classdict__" : Str)) = false) syn2) : EW c S (.Name x pos) P := by
  intro ρ s Q E r q _
  obtain ⟨u, hu, hv⟩ := r.vars x v e
  exact wpAny_Name (wp_loadVar hk hu (q v S ρ u s.heap s.toks p r hv (.refl ..)) hn) hd

theorem EW.binop {l r : Expr} {op : Operator} {pos : Pos} {c : Cx} {S : St} {P : V → St → Prop} (h : EW c S l fun a S₁ => EW c S₁ r fun b S₂ => OW2 c VR S₂ a b (binaryOp op) P) : EW c S (.BinOp l op r pos) P := by
  intro ρ s Q E r q x
  refine wpAny_BinOp (h ρ s _ E r (fun a S₁ ρ₁ u₁ h₁ tk₁ p₁ r₁ v₁ st₁ => ?_) x)
  refine p₁ ρ₁ _ _ E r₁ (fun b S₂ ρ₂ u₂ h₂ tk₂ p₂ r₂ v₂ st₂ => ?_) x
  exact p₂ ρ₂ _ _ _ _ E r₂ (v₁.step r₁.frame st₂) v₂ (fun v S₃ ρ₃ u₃ h₃ tk₃ p₃ r₃ v₃ st₃ => q v S₃ ρ₃ u₃ h₃ tk₃ p₃ r₃ v₃ (st₁.trans (st₂.trans st₃))) x

theorem EW.cmp {l r : Expr} {op : CmpOp} {pos : Pos} {c : Cx} {S : St} {P : V → St → Prop} (h : EW c S l fun a S₁ => EW c S₁ r fun b S₂ => OW2 c VR S₂ a b (compareOp op) P)
    (hm : autoParam (behindInMarks op r = false) syn1) : EW c S (.Compare l [op] [r] pos) P := by
  intro ρ s Q E r q x
  refine wpAny_Compare1 (h ρ s _ E r (fun a S₁ ρ₁ u₁ h₁ tk₁ p₁ r₁ v₁ st₁ => ?_) x) hm
  refine p₁ ρ₁ _ _ E r₁ (fun b S₂ ρ₂ u₂ h₂ tk₂ p₂ r₂ v₂ st₂ => ?_) x
  exact p₂ ρ₂ _ _ _ _ E r₂ (v₁.step r₁.frame st₂) v₂ (fun v S₃ ρ₃ u₃ h₃ tk₃ p₃ r₃ v₃ st₃ => q v S₃ ρ₃ u₃ h₃ tk₃ p₃ r₃ v₃ (st₁.trans (st₂.trans st₃))) x

noncomputable def TrW (c : Cx) (S : St) (a : V) (P : Bool → St → Prop) : Prop := OW1 c SameR S a truthy P

noncomputable abbrev BoolP (P : Bool → St → Prop) (v : V) (S₃ : St) : Prop := ∃ k, v = .bool k ∧ P k S₃
theorem BoolP.of {P : Bool → St → Prop} {k : Bool} {S : St} (h : P k S) : BoolP P (.bool k) S := ⟨k, rfl, h⟩
theorem BW.cmp {l r : Expr} {op : CmpOp} {pos : Pos} {c : Cx} {S : St} {P : Bool → St → Prop} (h : EW c S l fun a S₁ => EW c S₁ r fun b S₂ => OW2 c VR S₂ a b (compareOp op) (BoolP P))
    (hm : autoParam (behindInMarks op r = false) syn1) : BW c S (.Compare l [op] [r] pos) P := by
  intro ρ s Q E r q x
  refine wpAny_isTrue_Compare1 (h ρ s _ E r (fun a S₁ ρ₁ u₁ h₁ tk₁ p₁ r₁ v₁ st₁ => ?_) x) hm
  refine p₁ ρ₁ _ _ E r₁ (fun b S₂ ρ₂ u₂ h₂ tk₂ p₂ r₂ v₂ st₂ => ?_) x
  refine p₂ ρ₂ _ _ _ _ E r₂ (v₁.step r₁.frame st₂) v₂ (fun v S₃ ρ₃ u₃ h₃ tk₃ p₃ r₃ v₃ st₃ => ?_) x
  obtain ⟨k, rfl, p⟩ := p₃
  cases v₃
  exact wpAny_truthy_bool (q k S₃ ρ₃ k h₃ tk₃ p r₃ (.mk k) (st₁.trans (st₂.trans st₃)))
theorem BW.plain {e : Expr} {c : Cx} {S : St} {P : Bool → St → Prop} (h : EW c S e fun a S₁ => TrW c S₁ a P)
    (he : autoParam (isTrue e c.env (eval e c.env) = (do let v ← eval e c.env; standAt e.pos; holding [v] (truthy v))) syn1) : BW c S e P := by
  intro ρ s Q E r q x
  refine isTrue_plain (h ρ s _ E r (fun a S₁ ρ₁ u₁ h₁ tk₁ p₁ r₁ v₁ st₁ => ?_) x) he
  exact p₁ ρ₁ _ _ _ E r₁ v₁ (fun k S₂ ρ₂ u₂ h₂ tk₂ p₂ r₂ o₂ st₂ => q k S₂ ρ₂ u₂ h₂ tk₂ p₂ r₂ o₂ (st₁.trans st₂)) x
theorem BW.or_nil {pos : Pos} {c : Cx} {S : St} {P : Bool → St → Prop} (p : P false S) : BW c S (.BoolOp .Or [] pos) P :=
  TW.tok _ p fun _ s _ _ _ q => isTrue_or_nil (q false s.toks (.mk _))
noncomputable abbrev IfO (c : Cx) (rest : List Expr) (pos : Pos) (P : Bool → St → Prop) (k : Bool) (S₁ : St) : Prop := (k = true → P true S₁) ∧ (k = false → BW c S₁ (.BoolOp .Or rest pos) P)
noncomputable abbrev IfE (c : Cx) (a b : Expr) (P : V → St → Prop) (k : Bool) (S₁ : St) : Prop := (k = true → EW c S₁ a P) ∧ (k = false → EW c S₁ b P)
noncomputable abbrev IfS (c : Cx) (a b : List Stmt) (P : Fl → St → Prop) (k : Bool) (S₁ : St) : Prop := (k = true → XW c S₁ a P) ∧ (k = false → XW c S₁ b P)
theorem BW.or {e : Expr} {rest : List Expr} {pos : Pos} {c : Cx} {S : St} {P : Bool → St → Prop} (h : BW c S e (IfO c rest pos P)) : BW c S (.BoolOp .Or (e :: rest) pos) P := by
  intro ρ s Q E r q x
  refine isTrue_or (h ρ s _ E r (fun k S₁ ρ₁ u₁ h₁ tk₁ p₁ r₁ v₁ st₁ => ?_) x)
  cases v₁
  cases k with
  | true => exact q true S₁ ρ₁ true h₁ tk₁ (p₁.1 rfl) r₁ (.mk _) st₁
  | false => exact p₁.2 rfl ρ₁ _ _ E r₁ (fun k S₂ ρ₂ u₂ h₂ tk₂ p₂ r₂ o₂ st₂ => q k S₂ ρ₂ u₂ h₂ tk₂ p₂ r₂ o₂ (st₁.trans st₂)) x
theorem EW.ifexp {t a b : Expr} {pos : Pos} {c : Cx} {S : St} {P : V → St → Prop} (h : BW c S t (IfE c a b P)) : EW c S (.IfExp t a b pos) P := by
  intro ρ s Q E r q x
  refine IfExp_ (h ρ s _ E r (fun k S₁ ρ₁ u₁ h₁ tk₁ p₁ r₁ v₁ st₁ => ?_) x)
  cases v₁
  cases k with
  | true => exact p₁.1 rfl ρ₁ _ _ E r₁ (fun k S₂ ρ₂ u₂ h₂ tk₂ p₂ r₂ o₂ st₂ => q k S₂ ρ₂ u₂ h₂ tk₂ p₂ r₂ o₂ (st₁.trans st₂)) x
  | false => exact p₁.2 rfl ρ₁ _ _ E r₁ (fun k S₂ ρ₂ u₂ h₂ tk₂ p₂ r₂ o₂ st₂ => q k S₂ ρ₂ u₂ h₂ tk₂ p₂ r₂ o₂ (st₁.trans st₂)) x
theorem SW.if {t : Expr} {a b : List Stmt} {pos : Pos} {c : Cx} {S : St} {P : Fl → St → Prop} (h : BW c S t (IfS c a b P)) : SW c S (.If t a b pos) P := by
  intro ρ s Q E r q x
  refine wpAny_If (h ρ s _ E r (fun k S₁ ρ₁ u₁ h₁ tk₁ p₁ r₁ v₁ st₁ => ?_) x)
  cases v₁
  cases k with
  | true => exact p₁.1 rfl ρ₁ _ _ E r₁ (fun k S₂ ρ₂ u₂ h₂ tk₂ p₂ r₂ o₂ st₂ => q k S₂ ρ₂ u₂ h₂ tk₂ p₂ r₂ o₂ (st₁.trans st₂)) x
  | false => exact p₁.2 rfl ρ₁ _ _ E r₁ (fun k S₂ ρ₂ u₂ h₂ tk₂ p₂ r₂ o₂ st₂ => q k S₂ ρ₂ u₂ h₂ tk₂ p₂ r₂ o₂ (st₁.trans st₂)) x

theorem XW.nil {P : Fl → St → Prop} (p : P .next S) : XW c S [] P :=
  fun ρ s Q E r q _ => wpAny_execs_nil (q .next S ρ .next s.heap s.toks p r .next (.refl ..))
noncomputable abbrev After (rest : List Stmt) (c : Cx) (P : Fl → St → Prop) (f : Fl) (S₁ : St) : Prop := (f = .next → XW c S₁ rest P) ∧ ∀ v, f = .ret v → P (.ret v) S₁
theorem After.next {rest : List Stmt} {c : Cx} {P : Fl → St → Prop} {S : St} (h : XW c S rest P) : After rest c P .next S := ⟨fun _ => h, fun _ h => by cases h⟩
theorem After.ret {rest : List Stmt} {c : Cx} {P : Fl → St → Prop} {S : St} {v : V} (h : P (.ret v) S) : After rest c P (.ret v) S := ⟨fun h => (by cases h), fun _ e => (by cases e; exact h)⟩
theorem XW.cons {st : Stmt} {rest : List Stmt} {c : Cx} {S : St} {P : Fl → St → Prop} (h : SW c S st (After rest c P)) : XW c S (st :: rest) P := by
  intro ρ s Q E r q x
  refine wpAny_execs_cons (h ρ s _ E r (fun f S₁ ρ₁ u₁ h₁ tk₁ p₁ r₁ v₁ st₁ => ?_) x)
  cases v₁ with
  | next => exact p₁.1 rfl ρ₁ _ _ E r₁ (fun k S₂ ρ₂ u₂ h₂ tk₂ p₂ r₂ o₂ st₂ => q k S₂ ρ₂ u₂ h₂ tk₂ p₂ r₂ o₂ (st₁.trans st₂)) x
  | ret v => exact q _ S₁ ρ₁ _ h₁ tk₁ (p₁.2 _ rfl) r₁ (.ret v) st₁
theorem SW.ret {e : Expr} {pos : Pos} {c : Cx} {S : St} {P : Fl → St → Prop} (h : EW c S e fun v S₁ => P (.ret v) S₁) : SW c S (.Return (some e) pos) P := by
  intro ρ s Q E r q x
  exact wpAny_Return_some (h ρ s _ E r (fun v S₁ ρ₁ u₁ h₁ tk₁ p₁ r₁ v₁ st₁ => q _ S₁ ρ₁ _ h₁ tk₁ p₁ r₁ (.ret v₁) st₁) x)

noncomputable def St.set (x : Str) (S : St) (v : V) : St := ⟨(x, v) :: S.loc, S.sto⟩

theorem OR.step {prog : Program} {w : World} {env : Env} {ρ ρ' : Rho} {h h' : Heap} (F : FrameOk env h) (x : Step env ρ h ρ' h') {o : O} {p : Addr × Addr} (k : h'.get? p.2 = h.get? p.2) (k' : p.1 ≠ p.2 → ∀ C, h.get? p.1 = some (instObj C p.2) → h'.get? p.1 = some (instObj C p.2)) (y : OR prog w h ρ o p) : OR prog w h' ρ' o p :=
  y.map (fun y => y.step F x) (fun e ob z => by rw [e] at z ⊢; exact k.trans z) k' fun _ _ z => k.trans z

theorem Rel.own {prog : Program} {w : World} {g : Gd} {env : Env} {ρ : Rho} {s : Shared} (r : Rel prog w g env ρ S s) {a : Addr} {h' : Heap} (tk : Nat) {x : Str} {v : V} {u : Value} (hs : Heap.SameBut a s.heap h')
    (ha : a = env.locals ∨ (env.func.isSome = true ∧ ∃ y ∈ env.cells, y.2 = a)) (hns : ∃ m, h'.Ns env.locals m) (hcl : ∀ y ∈ env.cells, ∃ o v, h'.get? y.2 = some o ∧ o.data = .cell v)
    (hx : Var env h' x u) (hv : VR s.heap ρ v u) (ho : ∀ y u', y ≠ x → Var env s.heap y u' → Var env h' y u') : Rel prog w g env ρ (S.set x v) (shT s h' tk) ∧ Step env ρ s.heap ρ h' := by
  have ga : g.h.get? a = none := by
    rcases ha with rfl | ⟨hf, y, hy, rfl⟩
    · exact r.gL
    · exact r.gC y hy
  have ma : ∀ p ∈ ρ, p.2 ≠ a := by
    rcases ha with rfl | ⟨hf, y, hy, rfl⟩
    · exact r.mL
    · exact fun p hp => r.mC p hp y hy
  have st : Step env ρ s.heap ρ h' := by
    refine ⟨⟨[], by simp, by simp⟩, fun b o e => ?_, fun b o e h1 h2 h3 => ?_⟩
    · by_cases hb : b = a
      · subst hb
        rcases ha with rfl | ⟨hf, y, hy, rfl⟩
        · obtain ⟨m, o', _, _, e', _⟩ := hns; exact ⟨o', e'⟩
        · obtain ⟨o', _, e', _⟩ := hcl y hy; exact ⟨o', e'⟩
      · exact ⟨o, (hs.2 b hb).trans e⟩
    · refine (hs.2 b ?_).trans e
      rcases ha with rfl | ⟨hf, y, hy, rfl⟩
      · exact h2
      · exact fun z => h3 hf y hy z.symm
  have F := r.frame
  refine ⟨{ gens := r.gens, base := fun b o e => (hs.2 b (by rintro rfl; rw [ga] at e; cases e)).trans (r.base b o e), gL := r.gL, gC := r.gC, gM := r.gM, ro := r.ro, ns := hns, cells := hcl, mL := r.mL, mC := r.mC, cL := r.cL, vars := fun y v' e => ?_, len := r.len, sto := fun i p o e1 e2 => ?_, nd := r.nd, cd := r.cd, frs := FunFrames.up (fun b o e hn => ?_) r.frs, held := r.held.up fun b o e _ h1 h2 _ => ⟨o, (hs.2 b (by rcases ha with rfl | ⟨_, y, hy, rfl⟩; exact h1; exact fun z => h2 y hy z.symm)).trans e, rfl⟩ }, st⟩
  · have e' : ((x, v) :: S.loc).lookup y = some v' := e
    rw [List.lookup_cons] at e'
    by_cases hy : y = x
    · subst hy
      simp at e'
      subst e'
      exact ⟨u, hx, hv.step F st⟩
    · have : (y == x) = false := beq_eq_false_iff_ne.mpr hy
      rw [this] at e'
      obtain ⟨u', a1, a2⟩ := r.vars y v' e'
      exact ⟨u', ho y u' hy a1, a2.step F st⟩
  · refine OR.step F st (hs.2 _ (ma p (List.mem_of_getElem? e1))) (fun _ C hi => (hs.2 _ ?_).trans hi) (r.sto i p o e1 e2)
    rintro rfl
    rcases ha with z | ⟨hf, y, hy, z⟩
    · obtain ⟨m, o', es, ep, e', d, _⟩ := r.ns
      rw [← z, hi] at e'; cases e'; cases d
    · obtain ⟨o', _, e', d⟩ := r.cells y hy
      rw [z, hi] at e'; cases e'; cases d
  · by_cases hb : b = a
    · subst hb
      rcases ha with rfl | ⟨hf, y, hy, rfl⟩
      · obtain ⟨m, o', _, _, e', d, _⟩ := hns; exact ⟨o', e', fun vs z => by rw [d] at z; cases z⟩
      · obtain ⟨o', _, e', d⟩ := hcl y hy; exact ⟨o', e', fun vs z => by rw [d] at z; cases z⟩
    · exact ⟨o, (hs.2 b hb).trans e, hn⟩

theorem cells_mem {l : List (Str × Addr)} {x : Str} {a : Addr} (e : l.lookup x = some a) : (x, a) ∈ l := by
  induction l with
  | nil => cases e
  | cons y r ih =>
    obtain ⟨k, b⟩ := y
    rw [List.lookup_cons] at e
    by_cases h : x = k
    · subst h; simp at e; subst e; exact .head _
    · have : (x == k) = false := beq_eq_false_iff_ne.mpr h
      rw [this] at e; exact .tail _ (ih e)

noncomputable def StoreOk (env : Env) (x : Str) : Prop := env.scope.kind = .function ∧ (env.kindOf x = some .local ∨ (env.kindOf x = some .cell ∧ (env.cells.lookup x).isSome = true ∧ env.func.isSome = true))
theorem cells_apart {l : List (Str × Addr)} (h : l.Pairwise fun x y => x.2 ≠ y.2) {x y : Str} {a b : Addr} (ha : (x, a) ∈ l) (hb : (y, b) ∈ l) (hne : y ≠ x) : b ≠ a := by
  induction l with
  | nil => cases ha
  | cons z r ih =>
    obtain ⟨h1, h2⟩ := List.pairwise_cons.mp h
    cases ha with
    | head => cases hb with
      | head => exact absurd rfl hne
      | tail _ hb => exact Ne.symm (h1 _ hb)
    | tail _ ha => cases hb with
      | head => exact h1 _ ha
      | tail _ hb => exact ih h2 ha hb

theorem wp_storeVar {M : Model} {A : Around} {E : Value → Shared → Prop} {prog : Program} {w : World} {g : Gd} {env : Env} {ρ : Rho} {s : Shared} {x : Str} {u : Value} {v : V} {Q : Unit → Shared → Prop} (r : Rel prog w g env ρ S s) (hv : VR s.heap ρ v u) (hk : StoreOk env x)
    (q : ∀ h' tk', Rel prog w g env ρ (S.set x v) (shT s h' tk') → Step env ρ s.heap ρ h' → Q () (shT s h' tk')) : wpAny M A (storeName env x u) Q E s := by
  obtain ⟨hf, hk⟩ := hk
  rcases hk with e | ⟨e, ha, hfn⟩
  · obtain ⟨m, hm⟩ := r.ns
    refine wpAny_storeName_local e hm (fun h' hm' hs => ?_) (by rw [hf]; rfl)
    have z := r.own (s.toks + 1) (x := x) (v := v) (u := u) hs (.inl rfl) ⟨_, hm'⟩ (fun y hy => ?_) (.inl ⟨e, _, hm', by simp⟩) hv (fun y u' hy hva => ?_)
    · exact q h' _ z.1 z.2
    · obtain ⟨o, v', e1, e2⟩ := r.cells y hy
      exact ⟨o, v', (hs.2 _ (r.cL y hy)).trans e1, e2⟩
    · rcases hva with ⟨ky, m', hm'', e'⟩ | ⟨ky, a', o, c1, c2, c3⟩
      · refine .inl ⟨ky, _, hm', ?_⟩
        show (if y = x then some u else m y) = some u'
        rw [if_neg hy]
        obtain ⟨o1, es1, n1, f1, d1, _, k1⟩ := hm
        obtain ⟨o2, es2, n2, f2, d2, _, k2⟩ := hm''
        rw [f1] at f2; cases f2; rw [d1] at d2; cases d2
        rw [← k1 y, k2 y]; exact e'
      · exact .inr ⟨ky, a', o, c1, (hs.2 _ (r.cL _ (cells_mem c1))).trans c2, c3⟩
  · obtain ⟨a, ha⟩ := Option.isSome_iff_exists.mp ha
    have hne : ∀ y b, env.cells.lookup y = some b → y ≠ x → b ≠ a := fun y b hb hy => cells_apart r.cd (cells_mem ha) (cells_mem hb) hy
    obtain ⟨o, v0, e1, e2⟩ := r.cells _ (cells_mem ha)
    refine wpAny_storeName_cell hf e ha ⟨o, e1, e2⟩ (fun h' hc hs => ?_)
    obtain ⟨o', c1, c2⟩ := hc
    obtain ⟨m, hm⟩ := r.ns
    have hL : env.locals ≠ a := fun z => r.cL _ (cells_mem ha) z.symm
    have z := r.own s.toks (x := x) (v := v) (u := u) hs (.inr ⟨hfn, _, cells_mem ha, rfl⟩) ⟨m, hm.sameBut hs hL⟩ (fun y hy => ?_) (.inr ⟨.inl e, a, o', ha, c1, c2⟩) hv (fun y u' hy hva => ?_)
    · exact q h' _ z.1 z.2
    · by_cases hya : y.2 = a
      · exact ⟨o', _, by rw [hya]; exact c1, c2⟩
      · obtain ⟨o2, v2, f1, f2⟩ := r.cells y hy
        exact ⟨o2, v2, (hs.2 _ hya).trans f1, f2⟩
    · rcases hva with ⟨ky, m', hm'', e'⟩ | ⟨ky, a', o2, d1, d2, d3⟩
      · exact .inl ⟨ky, m', hm''.sameBut hs hL, e'⟩
      · exact .inr ⟨ky, a', o2, d1, (hs.2 _ (hne y a' d1 hy)).trans d2, d3⟩

theorem SW.assign {x : Str} {e : Expr} {pos' pos : Pos} {c : Cx} {S : St} {P : Fl → St → Prop} (h : EW c S e fun v S₁ => P .next (S₁.set x v)) (hk : autoParam (StoreOk c.env x) syn13)
    (hs : autoParam (swapsWith e (some (.Name x pos')) pos.line c.env = pure false) syn3) : SW c S (.Assign [.Name x pos'] e pos) P := by
  intro ρ s Q E r q x'
  refine wpAny_Assign_Name (h ρ s _ E r (fun v S₁ ρ₁ u₁ h₁ tk₁ p₁ r₁ v₁ st₁ => ?_) x') hs
  exact wp_storeVar r₁ v₁ hk fun h' tk' r' st' => q .next _ ρ₁ .next h' tk' p₁ r' .next (st₁.trans st')
theorem SW.aug {x : Str} {op : Operator} {e : Expr} {pos' pos : Pos} {c : Cx} {S : St} {v : V} {P : Fl → St → Prop} (hv : S.loc.lookup x = some v) (h : EW c S e fun b S₁ => OW2 c VR S₁ v b (inplaceOp op) fun d S₂ => P .next (S₂.set x d)) (hk : autoParam (StoreOk c.env x) syn13) (hn : autoParam ((x == ("__classdict__" : Str)) = false) syn2) : SW c S (.AugAssign (.Name x pos') op e pos) P := by
  intro ρ s Q E r q x'
  obtain ⟨u, hu, hvr⟩ := r.vars x v hv
  refine wpAny_AugAssign_Name (wp_loadVar hk.1 hu ?_ hn)
  refine h ρ s _ E r (fun b S₁ ρ₁ u₁ h₁ tk₁ p₁ r₁ v₁ st₁ => ?_) x'
  refine p₁ ρ₁ _ _ _ _ E r₁ (hvr.step r.frame st₁) v₁ (fun d S₂ ρ₂ u₂ h₂ tk₂ p₂ r₂ v₂ st₂ => ?_) x'
  exact wp_storeVar r₂ v₂ hk fun h' tk' r' st' => q .next _ ρ₂ .next h' tk' p₂ r' .next (st₁.trans (st₂.trans st'))
end
end

section
open PySem PySem.W PyProof.Rows PySem.Calls
theorem VR.same {ρ : Rho} {h h' : Heap} (k : ∀ b o its n, h.get? b = some o → o.data = .seq its n → h'.get? b = some o) {v : V} {u : Value} (x : VR h ρ v u) : VR h' ρ v u :=
  VR.move (fun _ _ e => e) (fun _ _ ho hp => ⟨ho.elim fun n e => ⟨n, k _ _ _ n e rfl⟩, hp⟩) (fun _ _ ho hp => ⟨ho.elim fun n e => ⟨n, k _ _ _ n e rfl⟩, hp⟩) x
theorem VRs.same {ρ : Rho} {h h' : Heap} (k : ∀ b o its n, h.get? b = some o → o.data = .seq its n → h'.get? b = some o) {v : List V} {u : List Value} (x : VRs h ρ v u) : VRs h' ρ v u := x.map fun a => a.same k

theorem notSeq {h : Heap} {I : Addr} {oI : Obj} {fs : Array Value} (ho : h.get? I = some oI) (hd : oI.data = .fields fs) {b : Addr} {o : Obj} (e : h.get? b = some o) (hn : ∀ fs, o.data ≠ .fields fs) : b ≠ I := by
  rintro rfl
  rw [ho] at e; cases e
  exact hn _ hd

theorem Rel.other {prog : Program} {w : World} {g : Gd} {env : Env} {ρ : Rho} {S : St} {s : Shared} (r : Rel prog w g env ρ S s) {I : Addr} {oI : Obj} {fs : Array Value} {h' : Heap} (tk : Nat)
    (ho : s.heap.get? I = some oI) (hd : oI.data = .fields fs) (hg : g.h.get? I = none) (hm : ∀ p ∈ ρ, p.2 ≠ I) (k : ∀ b o, b ≠ I → s.heap.get? b = some o → h'.get? b = some o) : Rel prog w g env ρ S (shT s h' tk) := by
  have ks : ∀ b o its n, s.heap.get? b = some o → o.data = .seq its n → h'.get? b = some o := fun b o its n e d => k b o (notSeq ho hd e fun fs q => by rw [d] at q; cases q) e
  have kns : ∀ {a : Addr} {m : Str → Option Value}, s.heap.Ns a m → h'.Ns a m := fun ⟨o, es, ep, e, d, x⟩ => ⟨o, es, ep, k _ o (notSeq ho hd e fun fs q => by rw [d] at q; cases q) e, d, x⟩
  have kvr : ∀ {v : V} {u : Value}, VR s.heap ρ v u → VR h' ρ v u := fun x => x.same ks
  refine { gens := r.gens, base := fun b o e => k b o (by rintro rfl; rw [hg] at e; cases e) (r.base b o e), gL := r.gL, gC := r.gC, gM := r.gM, ro := r.ro, ns := ?_, cells := fun y hy => ?_, mL := r.mL, mC := r.mC, cL := r.cL, vars := fun x v e => ?_, len := r.len, sto := fun i p o e1 e2 => ?_, nd := r.nd, cd := r.cd, frs := FunFrames.up (fun b o e hn => ⟨o, k b o (notSeq ho hd e hn) e, hn⟩) r.frs, held := r.held.up fun b o e hn _ _ _ => ⟨o, k b o (notSeq ho hd e hn) e, rfl⟩ }
  · obtain ⟨m, hmm⟩ := r.ns; exact ⟨m, kns hmm⟩
  · obtain ⟨o, v, e, d⟩ := r.cells y hy
    exact ⟨o, v, k _ o (notSeq ho hd e fun fs q => by rw [d] at q; cases q) e, d⟩
  · obtain ⟨u, a, b⟩ := r.vars x v e
    exact ⟨u, Var.move kns (fun _ o _ _ a3 a4 => k _ o (notSeq ho hd a3 fun fs q => by rw [a4] at q; cases q) a3) a, kvr b⟩
  · have hp := hm p (List.mem_of_getElem? e1)
    exact (r.sto i p o e1 e2).map kvr (fun e ob z => k _ _ (by rw [e]; exact hp) z) (fun _ C z => k _ _ (notSeq ho hd z fun fs q => by cases q) z) fun _ ob z => k _ _ hp z

structure It (c : Cx) (target : Expr) (I : Addr) (vs : List V) (G : St → Prop) (T : Nat → Rho → Heap → Prop) : Prop where
  item : ∀ (env : Env) (i : Nat) (ρ : Rho) (S : St) (s : Shared) (Q : Option Value → Shared → Prop) (E : Value → Shared → Prop), Mine.Rel c.prog c.w c.g env ρ S s → G S → T i ρ s.heap → i < vs.length →
    (∀ v u h' tk, vs[i]? = some v → VR s.heap ρ v u → (∀ b o, b ≠ I → s.heap.get? b = some o → h'.get? b = some o) → T (i + 1) ρ h' → Q (some u) (shT s h' tk)) → wpAny (model c.prog c.w) c.A (pyNext (.ref I)) Q E s
  done : ∀ (env : Env) (ρ : Rho) (S : St) (s : Shared) (Q : Option Value → Shared → Prop) (E : Value → Shared → Prop), Mine.Rel c.prog c.w c.g env ρ S s → G S → T vs.length ρ s.heap →
    (∀ h' tk, (∀ b o, b ≠ I → s.heap.get? b = some o → h'.get? b = some o) → Q none (shT s h' tk)) → wpAny (model c.prog c.w) c.A (pyNext (.ref I)) Q E s
  frame : ∀ (env : Env) (i : Nat) (ρ : Rho) (h : Heap) (ρ' : Rho) (h' : Heap), T i ρ h → FrameOk env h → Step env ρ h ρ' h' → T i ρ' h'
  obj : ∀ (i : Nat) (ρ : Rho) (h : Heap), T i ρ h → (∃ o fs, h.get? I = some o ∧ o.data = .fields fs) ∧ ∀ p ∈ ρ, p.2 ≠ I
  self : ∀ (i : Nat) (ρ : Rho) (s : Shared) (Q : Value → Shared → Prop) (E : Value → Shared → Prop), T i ρ s.heap → Q (.ref I) s → wpAny (model c.prog c.w) c.A (pyIter (.ref I)) Q E s
  go : ∀ (i : Nat) (ρ : Rho) (s : Shared) (v : Value) (Q : Unit → Shared → Prop) (E : Value → Shared → Prop), T i ρ s.heap → Q () s → wpAny (model c.prog c.w) c.A (letOwnedTupleGo target (.ref I) v) Q E s

noncomputable def IW (c : Cx) (S : St) (target iter : Expr) (K : List V → (St → Prop) → St → Prop) : Prop :=
  ∀ (ρ : Rho) (s : Shared) (Q : Value → Shared → Prop) (E : Value → Shared → Prop), c.Rel ρ S s →
    (∀ vs G T S' ρ' I h' tk', K vs G S' → It c target I vs G T → T 0 ρ' h' → s.heap.get? I = none → c.g.h.get? I = none → c.Rel ρ' S' (shT s h' tk') → Step c.env ρ s.heap ρ' h' → Q (.ref I) (shT s h' tk')) →
    EOk c E → wpAny (model c.prog c.w) c.A (eval iter c.env) (fun x s₁ => wpAny (model c.prog c.w) c.A (pyIter x) Q E s₁) E s

noncomputable abbrev AsW (c : Cx) (S : St) (target : Expr) (v : V) (P : St → Prop) : Prop := OW1 c SameR S v (assign target c.env) fun (_ : Unit) S' => P S'

section
variable {c : Cx} {S : St}
theorem AsW.name {x : Str} {pos : Pos} {c : Cx} {S : St} {v : V} {P : St → Prop} (p : P (S.set x v)) (hk : StoreOk c.env x) : AsW c S (.Name x pos) v P := by
  intro ρ s u Q E r hv q x'
  exact wpAny_assign_Name (wp_storeVar r hv hk fun h' tk' r' st' => q () _ ρ () h' tk' p r' (.mk _) st')

noncomputable abbrev Turn (A : St → Prop) (P : Fl → St → Prop) (f : Fl) (S : St) : Prop := (f = .next → A S) ∧ ∀ r, f = .ret r → P (.ret r) S
inductive TurnK (A : St → Prop) (P Q : Fl → St → Prop) : Prop
  | mk (n : ∀ S, A S → Q .next S) (r : ∀ v S, P (.ret v) S → Q (.ret v) S)
theorem turnN {A : St → Prop} {P Q : Fl → St → Prop} {S : St} (h : TurnK A P Q) (a : A S) : Q .next S := h.rec fun n _ => n S a
theorem turnR {A : St → Prop} {P Q : Fl → St → Prop} {S : St} {v : V} (h : TurnK A P Q) (a : P (.ret v) S) : Q (.ret v) S := h.rec fun _ r => r v S a
inductive ForJ (c : Cx) (target : Expr) (body : List Stmt) (vs : List V) (G : St → Prop) (P : Fl → St → Prop) (S₁ : St) : Prop
  | mk (J : Nat → St → Prop) (h0 : J 0 S₁) (mono : ∀ i S, J i S → G S)
    (turn : ∀ i v loc sto, vs[i]? = some v → J i ⟨loc, sto⟩ → ∀ Q, TurnK (J (i + 1)) P Q → AsW c ⟨loc, sto⟩ target v fun S' => XW c S' body Q)
    (fin : ∀ loc sto, J vs.length ⟨loc, sto⟩ → P .next ⟨loc, sto⟩)
inductive ForInv (c : Cx) (J : Nat → St → Prop) (T : Nat → Rho → Heap → Prop) (s : Shared) (ρ : Rho) (n k : Nat) (s' : Shared) : Prop
  | mk (i : Nat) (ρ' : Rho) (S' : St) (h' : Heap) (tk : Nat) (e : s' = (shT s h' tk)) (hJ : J i S') (r : c.Rel ρ' S' s') (hT : T i ρ' h') (st : Step c.env ρ s.heap ρ' h') (hi : i ≤ n) (hk : k = n + 1 - i)
theorem SW.for {target iter : Expr} {body : List Stmt} {pos : Pos} {c : Cx} {S : St} {P : Fl → St → Prop}
    (h : IW c S target iter fun vs G S₁ => ForJ c target body vs G P S₁)
    (hs : autoParam (∀ x, foldedSetIterable iter c.env x = pure x) syn4) : SW c S (.For target iter body [] pos) P := by
  intro ρ s Q E r q x
  refine wpAny_For (h ρ s _ E r (fun vs G T S₁ ρ₁ I h₁ tk₁ hK W hT hI hgI r₁ st₁ => ?_) x) hs
  obtain ⟨J, h0, hG, turn, fin⟩ := hK
  refine codeAny_forLoop_any (ForInv c J T s ρ vs.length) ?_ (vs.length + 1)
    ⟨0, ρ₁, S₁, h₁, tk₁, rfl, h0, r₁, hT, st₁, Nat.zero_le _, rfl⟩
  rintro k s' ⟨i, ρ', S', h', tk, rfl, hJ, r', hT', st', hi, rfl⟩
  obtain ⟨⟨oI, fs, hoI, hdI⟩, hmI⟩ := W.obj _ _ _ hT'
  have after : ∀ h'' : Heap, (∀ b o, b ≠ I → h'.get? b = some o → h''.get? b = some o) → Step c.env ρ s.heap ρ' h'' := fun h'' k'' => by
    refine ⟨st'.more, fun b o e => ?_, fun b o e a1 a2 a3 => ?_⟩
    · obtain ⟨o', e'⟩ := st'.dom b o e
      exact ⟨o', k'' b o' (by rintro rfl; rw [hI] at e; cases e) e'⟩
    · exact k'' b o (by rintro rfl; rw [hI] at e; cases e) (st'.keep b o e a1 a2 a3)
  by_cases hlt : i < vs.length
  · refine W.item _ i ρ' S' _ _ _ r' (hG i S' hJ) hT' hlt fun v u h₂ tk₂ hv hvr k₂ hT₂ => ?_
    have r₂ := r'.other tk₂ hoI hdI hgI hmI k₂
    have hvr₂ : VR h₂ ρ' v u := hvr.same fun b o its n e d => k₂ b o (notSeq hoI hdI e fun fs z => by rw [d] at z; cases z) e
    refine W.go (i + 1) ρ' _ u _ _ hT₂ ?_
    refine wpAny_passesOwn x.2 ?_
    refine turn i v S'.loc S'.sto hv hJ (Turn (J (i + 1)) P) ⟨fun S a => ⟨fun _ => a, fun _ h => (by cases h)⟩, fun v S a => ⟨fun h => (by cases h), fun _ h => (by cases h; exact a)⟩⟩ ρ' _ u _ E r₂ hvr₂ (fun _ S₃ ρ₃ _ h₃ tk₃ p₃ r₃ _ st₃ => ?_) x
    refine wpAny_passesOwn x.2 ?_
    refine p₃ ρ₃ _ _ E r₃ (fun f S₄ ρ₄ u₄ h₄ tk₄ p₄ r₄ o₄ st₄ => ?_) x
    have stT := st₃.trans st₄
    cases o₄ with
    | next => exact ⟨vs.length + 1 - (i + 1), Nat.sub_lt_sub_left (Nat.lt_succ_of_lt hlt) (Nat.lt_succ_self i), i + 1, ρ₄, S₄, h₄, tk₄, rfl, p₄.1 rfl, r₄, W.frame _ _ _ _ _ _ hT₂ r₂.frame stT, (after h₂ k₂).trans stT, by allgen_close_more, rfl⟩
    | ret hv => exact q _ S₄ ρ₄ _ h₄ tk₄ (p₄.2 _ rfl) r₄ (.ret hv) ((after h₂ k₂).trans stT)
  · obtain rfl : i = vs.length := by allgen_close_more
    refine W.done _ ρ' S' _ _ _ r' (hG _ S' hJ) hT' fun h₂ tk₂ k₂ => ?_
    have r₂ := r'.other tk₂ hoI hdI hgI hmI k₂
    exact wpAny_execs_nil (q .next S' ρ' .next h₂ tk₂ (fin S'.loc S'.sto hJ) r₂ .next (after h₂ k₂))
end
end

section
open PySem PySem.W PyProof.Rows PySem.Calls
structure Wd (K : Frag) (g : Heap) : Prop where
  X : K.In g
  T : ∃ mg mb, g.Ns mainGlobals mg ∧ g.Ns builtinsNs mb ∧ ∀ x : Str, x ≠ "__name__" → mb x = bootBuiltins x
  lim : g.NoLimit
  dig : ∃ mc, g.Ns cStatics mc ∧ mc "sys.int_max_str_digits" = none

structure EnvOk (env : Env) : Prop where
  kind : env.scope.kind = .function
  globals : env.globals = mainGlobals
  builtins : env.builtins = builtinsNs

section
variable {c : Cx} {S : St} {K : Frag}

theorem AW.nil {pos : Pos} {c : Cx} {S : St} {P : List V → St → Prop} (p : P [] S) : AW c S pos [] P :=
  fun ρ s Q E r q _ => args_nil (q [] S ρ [] s.heap s.toks p r .nil (.refl ..))
theorem AW.cons {pos : Pos} {e : Expr} {rest : List Expr} {c : Cx} {S : St} {P : List V → St → Prop} (h : EW c S e fun v S₁ => AW c S₁ pos rest fun vs S₂ => P (v :: vs) S₂)
    (he : autoParam (starEach (e :: rest) c.env = (false, eval e c.env) :: starEach rest c.env) syn5) : AW c S pos (e :: rest) P := by
  intro ρ s Q E r q x
  refine args_cons (h ρ s _ E r (fun v S₁ ρ₁ u₁ h₁ tk₁ p₁ r₁ v₁ st₁ => ?_) x) he
  exact p₁ ρ₁ _ _ E r₁ (fun vs S₂ ρ₂ us h₂ tk₂ p₂ r₂ v₂ st₂ => q (v :: vs) S₂ ρ₂ _ h₂ tk₂ p₂ r₂ (.cons (v₁.step r₁.frame st₂) v₂) (st₁.trans st₂)) x

noncomputable abbrev CW (c : Cx) (S : St) (f : Value) (vs : List V) (P : V → St → Prop) : Prop := OWs c VR S vs (fun us => call f us) P

theorem wp_global {c : Cx} {x : Str} {pos : Pos} {v : Value} {s : Shared} {ρ : Rho} {S : St} {E : Value → Shared → Prop} {Q : Value → Shared → Prop} (hW : Wd K c.g.h) (hE : EnvOk c.env) (r : c.Rel ρ S s) (e : nsIn K mainGlobals x = some (some v)) (hx : c.env.kindOf x = some .globalImplicit) (h : Q v s) (hd : (x == ("__debug__" : Str)) = false) :
    wpAny (model c.prog c.w) c.A (eval (.Name x pos) c.env) Q E s := by
  obtain ⟨mg, mb, hg, hb, _⟩ := hW.T
  exact Name_function_global hE.kind hx (loadGlobal_global (by rw [hE.globals]; exact hg.keeps r.base) (mg_of hW.X hg e) h) hd
theorem wp_builtin {c : Cx} {x : Str} {pos : Pos} {v : Value} {s : Shared} {ρ : Rho} {S : St} {E : Value → Shared → Prop} {Q : Value → Shared → Prop} (hW : Wd K c.g.h) (hE : EnvOk c.env) (r : c.Rel ρ S s) (e : nsIn K mainGlobals x = some none) (hv : bootBuiltins x = some v) (hn : x ≠ "__name__") (hx : c.env.kindOf x = some .globalImplicit) (h : Q v s) (hd : (x == ("__debug__" : Str)) = false) :
    wpAny (model c.prog c.w) c.A (eval (.Name x pos) c.env) Q E s := by
  obtain ⟨mg, mb, hg, hb, hbb⟩ := hW.T
  exact Name_function_global hE.kind hx (loadGlobal_builtin (by rw [hE.globals]; exact hg.keeps r.base) (mg_none_of hW.X hg e) (by rw [hE.builtins]; exact hb.keeps r.base) ((hbb x hn).trans hv) h) hd

noncomputable def isFuncIn (K : Frag) (f : Addr) : Bool := match K.lookup f with
  | some ⟨_, _, .func _, _⟩ => true
  | _ => false
theorem func_of {K : Frag} {g : Heap} (X : K.In g) {f : Addr} (e : isFuncIn K f = true) : ∃ o fd, g.get? f = some o ∧ o.data = .func fd := by
  unfold isFuncIn at e
  split at e
  · rename_i h; exact ⟨_, _, X _ _ h, rfl⟩
  · cases e

theorem EW.callDef {x : Str} {np pos : Pos} {e : Expr} {rest : List Expr} {f : Addr} {K : Frag} {c : Cx} {S : St} {P : V → St → Prop} (hW : Wd K c.g.h) (hE : EnvOk c.env) (hn : nsIn K mainGlobals x = some (some (.ref f))) (hf : isFuncIn K f = true)
    (h : AW c S pos (e :: rest) fun vs S₁ => CW c S₁ (.ref f) vs P) (hx : autoParam (c.env.kindOf x = some .globalImplicit) syn1) (hd : autoParam ((x == ("__debug__" : Str)) = false) syn2)
    (he : autoParam (starEach (e :: rest) c.env = (false, eval e c.env) :: starEach rest c.env) syn5) : EW c S (.Call (.Name x np) (e :: rest) [] pos) P := by
  intro ρ s Q E r q x'
  refine Call_ (wp_global hW hE r hn hx ?_ hd)
  obtain ⟨o, fd, ho, hdat⟩ := func_of hW.X hf
  refine callWith_def hdat (h ρ s _ E r (fun vs S₁ ρ₁ us h₁ tk₁ p₁ r₁ v₁ st₁ => ⟨r₁.base _ _ ho, ?_⟩) x') he
  exact p₁ ρ₁ _ us Q E r₁ v₁ (fun v S₂ ρ₂ u₂ h₂ tk₂ p₂ r₂ v₂ st₂ => q v S₂ ρ₂ u₂ h₂ tk₂ p₂ r₂ v₂ (st₁.trans st₂)) x'
theorem EW.callType {x : Str} {np pos : Pos} {e : Expr} {rest : List Expr} {T : String} {K : Frag} {c : Cx} {S : St} {P : V → St → Prop} (hW : Wd K c.g.h) (hE : EnvOk c.env) (hb : bootBuiltins x = some (.type T)) (hn : nsIn K mainGlobals x = some Option.none)
    (h : AW c S pos (e :: rest) fun vs S₁ => CW c S₁ (.type T) vs P) (hx : autoParam (c.env.kindOf x = some .globalImplicit) syn1) (hd : autoParam ((x == ("__debug__" : Str)) = false) syn2) (hnn : autoParam (x ≠ "__name__") syn2)
    (he : autoParam (starEach (e :: rest) c.env = (false, eval e c.env) :: starEach rest c.env) syn5) (hp : autoParam ((backTo pos (starEach rest c.env)).any (·.1) = false) syn1) : EW c S (.Call (.Name x np) (e :: rest) [] pos) P := by
  intro ρ s Q E r q x'
  refine Call_ (wp_builtin hW hE r hn hb hnn hx ?_ hd)
  refine callWith_type1 (h ρ s _ E r (fun vs S₁ ρ₁ us h₁ tk₁ p₁ r₁ v₁ st₁ => ?_) x') he hp
  exact p₁ ρ₁ _ us Q E r₁ v₁ (fun v S₂ ρ₂ u₂ h₂ tk₂ p₂ r₂ v₂ st₂ => q v S₂ ρ₂ u₂ h₂ tk₂ p₂ r₂ v₂ (st₁.trans st₂)) x'
theorem EW.callBuiltin {x : Str} {np pos : Pos} {e : Expr} {rest : List Expr} {id : String} {K : Frag} {c : Cx} {S : St} {P : V → St → Prop} (hW : Wd K c.g.h) (hE : EnvOk c.env) (hb : bootBuiltins x = some (.builtin id)) (hn : nsIn K mainGlobals x = some Option.none)
    (h : AW c S pos (e :: rest) fun vs S₁ => CW c S₁ (.builtin id) vs P) (hx : autoParam (c.env.kindOf x = some .globalImplicit) syn1) (hd : autoParam ((x == ("__debug__" : Str)) = false) syn2) (hnn : autoParam (x ≠ "__name__") syn2)
    (he : autoParam (starEach (e :: rest) c.env = (false, eval e c.env) :: starEach rest c.env) syn5) (hp : autoParam ((backTo pos (starEach rest c.env)).any (·.1) = false) syn1) : EW c S (.Call (.Name x np) (e :: rest) [] pos) P := by
  intro ρ s Q E r q x'
  refine Call_ (wp_builtin hW hE r hn hb hnn hx ?_ hd)
  refine callWith_builtin1 (h ρ s _ E r (fun vs S₁ ρ₁ us h₁ tk₁ p₁ r₁ v₁ st₁ => ?_) x') he hp
  exact p₁ ρ₁ _ us Q E r₁ v₁ (fun v S₂ ρ₂ u₂ h₂ tk₂ p₂ r₂ v₂ st₂ => q v S₂ ρ₂ u₂ h₂ tk₂ p₂ r₂ v₂ (st₁.trans st₂)) x'

theorem fresh_none {h : Heap} : h.get? h.objs.size = none := by
  cases q : h.get? h.objs.size with
  | none => rfl
  | some o => exact absurd (Heap.lt_size q) (Nat.lt_irrefl _)
theorem Rel.sizeFresh {ρ : Rho} {s : Shared} (r : c.Rel ρ S s) : c.g.h.get? s.heap.objs.size = none := by
  cases q : c.g.h.get? s.heap.objs.size with
  | none => rfl
  | some o => exact absurd (Heap.lt_size (r.base _ _ q)) (Nat.lt_irrefl _)
theorem Rel.mutAt {ρ : Rho} {s : Shared} (r : c.Rel ρ S s) {p : Addr × Addr} (hp : p ∈ ρ) : ∃ o, s.heap.get? p.2 = some o := by
  obtain ⟨i, hi⟩ := List.getElem?_of_mem hp
  have hlt : i < S.sto.length := by rw [← r.len]; exact (List.getElem?_eq_some_iff.mp hi).1
  exact (r.sto i p _ hi (List.getElem?_eq_getElem hlt)).at.elim fun o z => ⟨o, z.1⟩
theorem Rel.mutLt {ρ : Rho} {s : Shared} (r : c.Rel ρ S s) : ∀ p ∈ ρ, p.2 ≠ s.heap.objs.size := fun p hp => by
  obtain ⟨o, ho⟩ := r.mutAt hp
  exact Nat.ne_of_lt (Heap.lt_size ho)

theorem goName {x : Str} {pos : Pos} {M : Model} {A : Around} {I v : Value} {Q : Unit → Shared → Prop} {E : Value → Shared → Prop} {s : Shared} (h : Q () s) : wpAny M A (letOwnedTupleGo (.Name x pos) I v) Q E s := wpAny_pure h

noncomputable def GoOk (c : Cx) (target : Expr) : Prop := ∀ (I : Addr) (v : Value) (s : Shared) (Q : Unit → Shared → Prop) (E : Value → Shared → Prop), (∃ o n fs, s.heap.get? I = some o ∧ o.cls = .type n ∧ (["enumerate", "zip", "dict_itemiterator", "dict_reverseitemiterator", "odict_iterator", "itertools.zip_longest", "itertools.pairwise"].contains n) = false ∧ o.data = .fields fs) → Q () s → wpAny (model c.prog c.w) c.A (letOwnedTupleGo target (.ref I) v) Q E s
theorem GoOk.name {x : Str} {pos : Pos} : GoOk c (.Name x pos) := fun _ _ _ _ _ _ h => wpAny_pure h
theorem GoOk.tup {es : List Expr} {k : Nat} {pos : Pos} : GoOk c (.Tuple es k pos) := by
  intro I v s Q E ho h
  obtain ⟨o, n, fs, ho, hc, hn, hd⟩ := ho
  unfold letOwnedTupleGo
  cases v with
  | ref a =>
    refine wpAny_bind (wpAny_load ho ?_)
    rw [hc, hd]
    show wpAny _ _ (if (_ && _) = true then _ else _) Q E s
    rw [if_neg (by rw [hn]; simp)]
    exact wpAny_pure h
  | _ => exact wpAny_pure h

theorem It.range {target : Expr} (hh : c.A.handled = none) (hg : GoOk c target) (I : Addr) (a : Int) (n : Nat) :
    It c target I ((List.range n).map fun k => V.int (a + (k : Nat))) (fun _ => True) (fun i ρ h => IsRangeIter h I (a + (i : Nat) * 1) ((n : Int) - (i : Nat)) 1 ∧ ∀ p ∈ ρ, p.2 ≠ I) where
  item := fun env i ρ S s Q E r _ hT hi hQ => by
    have W := Walks.range (prog := c.prog) (w := c.w) (A := c.A) hh I a 1 n
    refine W.item i s Q E (by simpa using hi) hT.1 fun v h' tk hv hT' hk => ?_
    obtain ⟨t, rfl⟩ := hv
    have hi' : i < n := by simpa using hi
    refine hQ (.int (a + i)) _ h' tk (by simp [hi']) (by rw [Int.mul_one]; exact .int _ t) (fun b o hb e => hk b o (by simpa using hb) e) ⟨hT', hT.2⟩
  done := fun env ρ S s Q E r _ hT hQ => by
    have W := Walks.range (prog := c.prog) (w := c.w) (A := c.A) hh I a 1 n
    refine W.done s Q E (by simpa using hT.1) fun h' tk hk => hQ h' tk fun b o hb e => hk b o (by simpa using hb) e
  frame := fun env i ρ h ρ' h' hT F st => by
    refine ⟨?_, st.muts hT.1 hT.2⟩
    refine st.keep I _ hT.1 hT.2 ?_ ?_
    · rintro rfl; obtain ⟨o, es, m, e, d⟩ := F.loc; rw [hT.1] at e; cases e; cases d
    · rintro _ y hy rfl; obtain ⟨o, v, e, d⟩ := F.cells y hy; rw [hT.1] at e; cases e; cases d
  obj := fun i ρ h hT => ⟨⟨_, _, hT.1, rfl⟩, hT.2⟩
  self := fun i ρ s Q E hT h => wpAny_pyIter_rangeiter hT.1 h
  go := fun i ρ s v Q E hT h => hg I v s Q E ⟨_, _, _, hT.1, rfl, by decide, rfl⟩ h

theorem It.list {target : Expr} (hh : c.A.handled = none) (hg : GoOk c target) (I ax : Addr) (hne : ax ≠ I) (vs : List V) (us : List Value) :
    It c target I vs (fun _ => True) (fun i ρ h => h.IsListIter I ax i ∧ h.IsList ax us.toArray ∧ VRs h ρ vs us ∧ (∀ p ∈ ρ, p.2 ≠ ax) ∧ ∀ p ∈ ρ, p.2 ≠ I) where
  item := fun env i ρ S s Q E r _ hT hi hQ => by
    obtain ⟨h1, h2, h3, h4, h5⟩ := hT
    have hv := List.getElem?_eq_getElem hi
    obtain ⟨u, hu, hvr⟩ := h3.get hv
    refine wpAny_pyNext_list_item h1 h2 (x := u) (by simpa using hu) fun h' hit hs => ?_
    refine hQ _ u h' s.toks hv hvr (fun b o hb e => (hs.2 b hb).trans e) ⟨hit, h2.extBut hs.extBut hne, ?_, h4, h5⟩
    obtain ⟨o, ho, hc, hd⟩ := h1
    exact h3.same fun b o' its n e d => (hs.2 b (notSeq ho hd e fun fs q => by rw [d] at q; cases q)).trans e
  done := fun env ρ S s Q E r _ hT hQ => by
    obtain ⟨h1, h2, h3, h4, h5⟩ := hT
    refine wpAny_pyNext_list_end hh h1 h2 (by simp [← h3.length]) fun h' he => hQ h' s.toks fun b o hb e => he b o hb e
  frame := fun env i ρ h ρ' h' hT F st => by
    obtain ⟨⟨o, ho, hc, hd⟩, ⟨ol, hol, hcl, n, hdl⟩, h3, h4, h5⟩ := hT
    refine ⟨⟨o, ?_, hc, hd⟩, ⟨ol, st.at F hol hdl h4, hcl, n, hdl⟩, h3.step F st, st.muts hol h4, st.muts ho h5⟩
    refine st.keep I _ ho h5 ?_ ?_
    · rintro rfl; obtain ⟨o', es, m, e, d⟩ := F.loc; rw [ho] at e; cases e; rw [hd] at d; cases d
    · rintro _ y hy rfl; obtain ⟨o', v, e, d⟩ := F.cells y hy; rw [ho] at e; cases e; rw [hd] at d; cases d
  obj := fun i ρ h hT => by
    obtain ⟨⟨o, ho, hc, hd⟩, _, _, _, h5⟩ := hT
    exact ⟨⟨o, _, ho, hd⟩, h5⟩
  self := fun i ρ s Q E hT h => wpAny_pyIter_listiter hT.1 h
  go := fun i ρ s v Q E hT h => by
    obtain ⟨⟨o, ho, hc, hd⟩, _⟩ := hT
    exact hg I v s Q E ⟨o, _, _, ho, hc, by decide, hd⟩ h

theorem It.ref {target : Expr} (hh : c.A.handled = none) (hg : GoOk c target) (I : Addr) (j : Nat) (p : Addr × Addr) (hne : p.1 ≠ I) (vs : List V) :
    It c target I vs (fun S => S.sto[j]? = some (.lst vs)) (fun i ρ h => h.IsListIter I p.1 i ∧ ρ[j]? = some p ∧ ∀ p ∈ ρ, p.2 ≠ I) where
  item := fun env i ρ S s Q E r hG hT hi hQ => by
    obtain ⟨h1, h2, h5⟩ := hT
    obtain ⟨e, us, hl', h3⟩ := r.sto j p _ h2 hG
    have hl := hl'.isList
    have hv := List.getElem?_eq_getElem hi
    obtain ⟨u, hu, hvr⟩ := h3.get hv
    refine wpAny_pyNext_list_item h1 hl (x := u) (by simpa using hu) fun h' hit hs => ?_
    exact hQ _ u h' s.toks hv hvr (fun b o hb e => (hs.2 b hb).trans e) ⟨hit, h2, h5⟩
  done := fun env ρ S s Q E r hG hT hQ => by
    obtain ⟨h1, h2, h5⟩ := hT
    obtain ⟨e, us, hl', h3⟩ := r.sto j p _ h2 hG
    have hl := hl'.isList
    refine wpAny_pyNext_list_end hh h1 hl (by simp [← h3.length]) fun h' he => hQ h' s.toks fun b o hb e => he b o hb e
  frame := fun env i ρ h ρ' h' hT F st => by
    obtain ⟨⟨o, ho, hc, hd⟩, h2, h5⟩ := hT
    refine ⟨⟨o, ?_, hc, hd⟩, ?_, st.muts ho h5⟩
    · refine st.keep I _ ho h5 ?_ ?_
      · rintro rfl; obtain ⟨o', es, m, e, d⟩ := F.loc; rw [ho] at e; cases e; rw [hd] at d; cases d
      · rintro _ y hy rfl; obtain ⟨o', v, e, d⟩ := F.cells y hy; rw [ho] at e; cases e; rw [hd] at d; cases d
    · obtain ⟨τ, rfl, _⟩ := st.more
      rw [List.getElem?_append_left (List.getElem?_eq_some_iff.mp h2).1]; exact h2
  obj := fun i ρ h hT => by
    obtain ⟨⟨o, ho, hc, hd⟩, _, h5⟩ := hT
    exact ⟨⟨o, _, ho, hd⟩, h5⟩
  self := fun i ρ s Q E hT h => wpAny_pyIter_listiter hT.1 h
  go := fun i ρ s v Q E hT h => by
    obtain ⟨⟨o, ho, hc, hd⟩, _⟩ := hT
    exact hg I v s Q E ⟨o, _, _, ho, hc, by decide, hd⟩ h

noncomputable def ItW (c : Cx) (S : St) (target : Expr) (v : V) (vs : List V) (G : St → Prop) : Prop :=
  ∀ (ρ : Rho) (s : Shared) (u : Value) (Q : Value → Shared → Prop) (E : Value → Shared → Prop), c.Rel ρ S s → VR s.heap ρ v u →
    (∀ T I h' tk', It c target I vs G T → T 0 ρ h' → s.heap.get? I = none → c.g.h.get? I = none → (∀ b o, s.heap.get? b = some o → h'.get? b = some o) → Q (.ref I) (shT s h' tk')) →
    wpAny (model c.prog c.w) c.A (pyIter u) Q E s
theorem ItW.lst {target : Expr} {vs : List V} (hh : c.A.handled = none) (hg : GoOk c target) : ItW c S target (.lst vs) vs fun _ => True := by
  intro ρ s u Q E r hv q
  cases hv with
  | lst hl' hm hs =>
    rename_i a us
    have hl := hl'.isList
    have hne : a ≠ s.heap.objs.size := by obtain ⟨o, ho, _⟩ := hl; exact Nat.ne_of_lt (Heap.lt_size ho)
    refine wpAny_pyIter_list hl (q _ _ _ s.toks (It.list hh hg s.heap.objs.size a hne vs us) ⟨⟨_, Heap.get?_push_size _ rfl, rfl, rfl⟩, hl.push _, hs.step r.frame (Step.ofKeep fun _ _ e => Heap.get?_push_of_some _ e), hm, r.mutLt⟩ fresh_none r.sizeFresh fun _ _ e => Heap.get?_push_of_some _ e)
theorem ItW.ref {target : Expr} {vs : List V} {j : Nat} (hh : c.A.handled = none) (hg : GoOk c target) (hj : S.sto[j]? = some (.lst vs)) : ItW c S target (.ref j) vs fun S => S.sto[j]? = some (.lst vs) := by
  intro ρ s u Q E r hv q
  cases hv with
  | ref hp =>
    rename_i p
    obtain ⟨e, us, hl', h3⟩ := r.sto j p _ hp hj
    have hl := hl'.isList
    have hne : p.1 ≠ s.heap.objs.size := by obtain ⟨o, ho, _⟩ := hl; exact Nat.ne_of_lt (Heap.lt_size ho)
    refine wpAny_pyIter_list hl (q _ _ _ s.toks (It.ref hh hg s.heap.objs.size j p hne vs) ⟨⟨_, Heap.get?_push_size _ rfl, rfl, rfl⟩, hp, r.mutLt⟩ fresh_none r.sizeFresh fun _ _ e => Heap.get?_push_of_some _ e)
theorem IW.of {target iter : Expr} {Kk : List V → (St → Prop) → St → Prop} (h : EW c S iter fun v S₁ => E2 (fun vs G => ItW c S₁ target v vs G ∧ Kk vs G S₁)) : IW c S target iter Kk := by
  intro ρ s Q E r q x
  refine h ρ s _ E r (fun v S₁ ρ₁ u₁ h₁ tk₁ p₁ r₁ v₁ st₁ => ?_) x
  obtain ⟨vs, G, hI, hK⟩ := p₁
  refine hI ρ₁ _ u₁ Q E r₁ v₁ fun T I h' tk' W hT hI hg k => ?_
  refine q vs G T S₁ ρ₁ I h' tk' hK W hT ?_ hg (r₁.keep tk' k) (st₁.trans (Step.ofKeep k))
  cases z : s.heap.get? I with
  | none => rfl
  | some o => obtain ⟨o', e'⟩ := st₁.dom I o z; rw [hI] at e'; cases e'

theorem IW.ofRange {c : Cx} {target : Expr} {vs : List V} {Kk : List V → (St → Prop) → St → Prop} {S₁ : St} (hh : c.A.handled = none) (hg : GoOk c target) {ρ ρ₁ : Rho} {s : Shared} {h₁ : Heap} {tk₁ : Nat} {Q : Value → Shared → Prop} {E : Value → Shared → Prop} {a b : Int} {t u v : Tok} {tk₂ : Nat} (ha : -(2 ^ 60) < a ∧ a < 2 ^ 60) (hb : -(2 ^ 60) < b ∧ b < 2 ^ 60) (hvs : vs = (List.range (b - a).toNat).map fun k => V.int (a + (k : Nat))) (hK : Kk vs (fun _ => True) S₁)
    (r₁ : c.Rel ρ₁ S₁ (shT s h₁ tk₁)) (st₁ : Step c.env ρ s.heap ρ₁ h₁)
    (q : ∀ vs G T S' ρ' I h' tk', Kk vs G S' → It c target I vs G T → T 0 ρ' h' → s.heap.get? I = none → c.g.h.get? I = none → c.Rel ρ' S' (shT s h' tk') → Step c.env ρ s.heap ρ' h' → Q (.ref I) (shT s h' tk')) :
    wpAny (model c.prog c.w) c.A (pyIter (.ref h₁.objs.size)) Q E { s with heap := h₁.push { cls := .type "range", data := .fields #[.int a t, .int b u, .int 1 v] }, toks := tk₂ } := by
  refine wpAny_pyIter_range (a := a) (b := b) (c := 1) (t := t) (u := u) (v := v) (Heap.get?_push_size _ rfl) (small_one (by allgen_close_more) (by allgen_close_more) (by allgen_close_more) (by allgen_close_more)) ?_
  have k : ∀ b' o, h₁.get? b' = some o → ((h₁.push { cls := .type "range", data := .fields #[.int a t, .int b u, .int 1 v] }).push { cls := .type "range_iterator", data := .fields #[rawInt a, rawInt (Builtin.Range.rangeSize a b 1), rawInt 1] }).get? b' = some o :=
    fun b o e => Heap.get?_push_of_some _ (Heap.get?_push_of_some _ e)
  have hsz : (Builtin.Range.rangeSize a b 1) = (((b - a).toNat : Nat) : Int) := by rw [rangeSize_one]; split <;> allgen_close_more
  have r₂ := r₁.keep tk₂ k
  have hI1 : ((h₁.push { cls := .type "range", data := .fields #[.int a t, .int b u, .int 1 v] })).get? ((h₁.push { cls := .type "range", data := .fields #[.int a t, .int b u, .int 1 v] }).objs.size) = none := fresh_none
  have hI2 : h₁.get? ((h₁.push { cls := .type "range", data := .fields #[.int a t, .int b u, .int 1 v] }).objs.size) = none := by
    cases z : h₁.get? _ with
    | none => rfl
    | some o => rw [Heap.get?_push_of_some _ z] at hI1; cases hI1
  subst hvs
  refine q _ _ _ S₁ ρ₁ _ _ tk₂ hK (It.range hh hg _ a (b - a).toNat) ⟨?_, ?_⟩ ?_ ?_ r₂ (st₁.trans (Step.ofKeep k))
  · refine (Heap.get?_push_size _ rfl).trans ?_
    simp only [hsz, rawInt]
    simp
  · intro p hp
    obtain ⟨o, ho⟩ := r₁.mutAt hp
    intro z
    rw [z, hI2] at ho; cases ho
  · cases z : s.heap.get? _ with
    | none => rfl
    | some o => obtain ⟨o', e'⟩ := st₁.dom _ o z; rw [hI2] at e'; cases e'
  · cases z : c.g.h.get? _ with
    | none => rfl
    | some o => have := r₁.base _ _ z; rw [hI2] at this; cases this

theorem IW.range1 {target e : Expr} {np pos : Pos} {Kk : List V → (St → Prop) → St → Prop} (hW : Wd K c.g.h) (hE : EnvOk c.env) (hh : c.A.handled = none) (hg : GoOk c target) (hn : nsIn K mainGlobals "range" = some Option.none)
    (h : EW c S e fun v S₁ => ∃ (n : Int), A4 (v = .int n) (-(2 ^ 60) < n) (n < 2 ^ 60) (Kk ((List.range n.toNat).map fun k => V.int (k : Nat)) (fun _ => True) S₁)) (hx : autoParam (c.env.kindOf "range" = some .globalImplicit) syn1)
    (he : autoParam (starEach [e] c.env = (false, eval e c.env) :: starEach [] c.env) syn5) : IW c S target (.Call (.Name "range" np) [e] [] pos) Kk := by
  intro ρ s Q E r q x
  refine Call_ (wp_builtin hW hE r hn (v := .type "range") (by kernel_rfl) (by decide +kernel) hx ?_ (by decide +kernel))
  refine callWith_type1 (args_cons ?_ he) he (by rfl)
  refine h ρ s _ E r (fun v S₁ ρ₁ u₁ h₁ tk₁ p₁ r₁ v₁ st₁ => ?_) x
  obtain ⟨n, rfl, n0, n1, hK⟩ := p₁
  refine args_nil ?_
  cases v₁ with
  | int _ t =>
    refine call_range_1 ?_
    exact IW.ofRange (c := c) (s := s) hh hg (by allgen_close_more) ⟨n0, n1⟩ (by simp) hK r₁ st₁ q
theorem IW.range2 {target e e' : Expr} {np pos : Pos} {Kk : List V → (St → Prop) → St → Prop} (hW : Wd K c.g.h) (hE : EnvOk c.env) (hh : c.A.handled = none) (hg : GoOk c target) (hn : nsIn K mainGlobals "range" = some Option.none)
    (h : EW c S e fun v S₁ => EW c S₁ e' fun v' S₂ => E2 (fun (a : Int) (b : Int) => A5 (v = .int a) (v' = .int b) ((-(2 ^ 60) < a ∧ a < 2 ^ 60)) ((-(2 ^ 60) < b ∧ b < 2 ^ 60)) (Kk ((List.range (b - a).toNat).map fun k => V.int (a + (k : Nat))) (fun _ => True) S₂))) (hx : autoParam (c.env.kindOf "range" = some .globalImplicit) syn1)
    (he : autoParam (starEach [e, e'] c.env = (false, eval e c.env) :: starEach [e'] c.env) syn5) (he' : autoParam (starEach [e'] c.env = (false, eval e' c.env) :: starEach [] c.env) syn5) : IW c S target (.Call (.Name "range" np) [e, e'] [] pos) Kk := by
  intro ρ s Q E r q x
  refine Call_ (wp_builtin hW hE r hn (v := .type "range") (by kernel_rfl) (by decide +kernel) hx ?_ (by decide +kernel))
  refine callWith_type1 (args_cons ?_ he) he (by rw [he']; rfl)
  refine h ρ s _ E r (fun v S₁ ρ₁ u₁ h₁ tk₁ p₁ r₁ v₁ st₁ => ?_) x
  refine args_cons ?_ he'
  refine p₁ ρ₁ _ _ E r₁ (fun v' S₂ ρ₂ u₂ h₂ tk₂ p₂ r₂ v₂ st₂ => ?_) x
  obtain ⟨a, b, rfl, rfl, ha, hb, hK⟩ := p₂
  refine args_nil ?_
  cases v₁ with
  | int _ t =>
    cases v₂ with
    | int _ t' =>
      refine call_range_2 ?_
      exact IW.ofRange (c := c) (s := s) hh hg ha hb rfl hK r₂ (st₁.trans st₂) q
end
end

section
open PySem PySem.W PyProof.Rows PySem.Calls
section
variable {c : Cx} {S : St}

theorem OW2.ints {a b : Int} {t : Value → Value → Sem Value} {P : V → St → Prop} (v : V) (p : P v S)
    (h : ∀ (s : Shared) (ta tb : Tok) (Q : Value → Shared → Prop) (E : Value → Shared → Prop), (∀ u tk, (∀ ρ, VR s.heap ρ v u) → Q u { s with toks := tk }) → wpAny (model c.prog c.w) c.A (t (.int a ta) (.int b tb)) Q E s) : OW2 c VR S (.int a) (.int b) t P := by
  intro ρ s x y Q E r h1 h2 q _
  cases h1; cases h2
  exact h s _ _ Q E fun u tk hu => q v S ρ u s.heap tk p (r.keep tk fun _ _ e => e) (hu ρ) (.refl ..)

theorem Op.add {a b : Int} {P : V → St → Prop} (p : P (.int (a + b)) S) : OW2 c VR S (.int a) (.int b) (binaryOp .Add) P := OW2.ints _ p fun _ _ _ _ _ q => add_int (q _ _ fun _ => .int ..)
theorem Op.iadd {a b : Int} {P : V → St → Prop} (p : P (.int (a + b)) S) : OW2 c VR S (.int a) (.int b) (inplaceOp .Add) P := OW2.ints _ p fun _ _ _ _ _ q => iadd_int (q _ _ fun _ => .int ..)
theorem Op.sub {a b : Int} {P : V → St → Prop} (p : P (.int (a - b)) S) : OW2 c VR S (.int a) (.int b) (binaryOp .Sub) P := OW2.ints _ p fun _ _ _ _ _ q => sub_int (q _ _ fun _ => .int ..)
theorem Op.mul {a b : Int} {P : V → St → Prop} (hm : IntMulOk a b) (p : P (.int (a * b)) S) : OW2 c VR S (.int a) (.int b) (binaryOp .Mult) P := OW2.ints _ p fun _ _ _ _ _ q => mul_int (q _ _ fun _ => .int ..) hm
theorem Op.fdiv {a b : Int} {P : V → St → Prop} (hb : 0 < b) (hs : b < 1073741824) (p : P (.int (a / b)) S) : OW2 c VR S (.int a) (.int b) (binaryOp .FloorDiv) P :=
  OW2.ints _ p fun s ta tb Q E q => floordiv_int (by allgen_close_more) (by rw [Int.fdiv_eq_ediv_of_nonneg _ (by allgen_close_more)]; exact q _ _ fun _ => .int ..) (.inl (PyProof.noPylong_small (by allgen_close_more)))
theorem Op.mod {a b : Int} {P : V → St → Prop} (hb : 0 < b) (p : P (.int (a % b)) S) : OW2 c VR S (.int a) (.int b) (binaryOp .Mod) P :=
  OW2.ints _ p fun s ta tb Q E q => mod_int' (by allgen_close_more) (by rw [Int.fmod_eq_emod_of_nonneg _ (by allgen_close_more)]; exact q _ _ fun _ => .int ..)
theorem Op.shr {a n : Int} {P : V → St → Prop} (hn : 0 ≤ n) (p : P (.int (a / 2 ^ n.toNat)) S) : OW2 c VR S (.int a) (.int n) (binaryOp .RShift) P :=
  OW2.ints _ p fun s ta tb Q E q => rshift_int hn (by
    rw [Int.fdiv_eq_ediv_of_nonneg _ (Int.le_of_lt (Int.pow_pos (by decide)))]; exact q _ _ fun _ => .int ..)
theorem Op.shl {a n : Int} {P : V → St → Prop} (hn : 0 ≤ n) (hn2 : n ≤ 1000000) (ha : a.natAbs < 2 ^ 64) (p : P (.int (a * 2 ^ n.toNat)) S) : OW2 c VR S (.int a) (.int n) (binaryOp .LShift) P :=
  OW2.ints _ p fun s ta tb Q E q => lshift_int_small hn hn2 ha (q _ _ fun _ => .int ..)
theorem Op.pow {a n : Int} {P : V → St → Prop} (hn : 0 ≤ n) (hsz : (Builtin.Int.intBits a : Int) * n ≤ 2 ^ 27) (p : P (.int (a ^ n.toNat)) S) : OW2 c VR S (.int a) (.int n) (binaryOp .Pow) P :=
  OW2.ints _ p fun s ta tb Q E q => pow_int hn hsz (q _ _ fun _ => .int ..)
theorem Op.and {a b : Int} {P : V → St → Prop} (p : P (.int (Builtin.bitAnd a b)) S) : OW2 c VR S (.int a) (.int b) (binaryOp .BitAnd) P := OW2.ints _ p fun _ _ _ _ _ q => and_int (q _ _ fun _ => .int ..)
theorem Op.or {a b : Int} {P : V → St → Prop} (p : P (.int (Builtin.bitOr a b)) S) : OW2 c VR S (.int a) (.int b) (binaryOp .BitOr) P := OW2.ints _ p fun _ _ _ _ _ q => or_int (q _ _ fun _ => .int ..)
theorem Op.xor {a b : Int} {P : V → St → Prop} (p : P (.int (Builtin.bitXor a b)) S) : OW2 c VR S (.int a) (.int b) (binaryOp .BitXor) P := OW2.ints _ p fun _ _ _ _ _ q => xor_int (q _ _ fun _ => .int ..)
theorem Op.eqI {a b : Int} {P : V → St → Prop} (p : P (.bool (decide (a = b))) S) : OW2 c VR S (.int a) (.int b) (compareOp .Eq) P := OW2.ints _ p fun s _ _ _ _ q => eq_int (q _ s.toks fun _ => by rw [show (a == b) = decide (a = b) from rfl]; exact .bool _)
theorem Op.neI {a b : Int} {P : V → St → Prop} (p : P (.bool (decide (a ≠ b))) S) : OW2 c VR S (.int a) (.int b) (compareOp .NotEq) P := OW2.ints _ p fun s _ _ _ _ q => ne_int (q _ s.toks fun _ => by
  rw [show (a != b) = decide (a ≠ b) from by by_cases h : a = b <;> simp [h]]; exact .bool _)
theorem Op.lt {a b : Int} {P : V → St → Prop} (p : P (.bool (decide (a < b))) S) : OW2 c VR S (.int a) (.int b) (compareOp .Lt) P := OW2.ints _ p fun s _ _ _ _ q => lt_int (q _ s.toks fun _ => .bool _)
theorem Op.gt {a b : Int} {P : V → St → Prop} (p : P (.bool (decide (b < a))) S) : OW2 c VR S (.int a) (.int b) (compareOp .Gt) P := OW2.ints _ p fun s _ _ _ _ q => gt_int (q _ s.toks fun _ => .bool _)
theorem Op.ge {a b : Int} {P : V → St → Prop} (p : P (.bool (decide (b ≤ a))) S) : OW2 c VR S (.int a) (.int b) (compareOp .GtE) P := OW2.ints _ p fun s _ _ _ _ q => PySem.P.ge_int (q _ s.toks fun _ => .bool _)

theorem Tr.int {a : Int} {P : Bool → St → Prop} (p : P (decide (a ≠ 0)) S) : TrW c S (.int a) P := by
  intro ρ s x Q E r h1 q _
  cases h1
  refine PySem.P.truthy_int (q _ S ρ _ s.heap s.toks p r ?_ (.refl ..))
  rw [show (a != 0) = decide (a ≠ 0) from by by_cases h : a = 0 <;> simp [h]]
  exact .mk _
theorem Tr.bool {a : Bool} {P : Bool → St → Prop} (p : P a S) : TrW c S (.bool a) P := by
  intro ρ s x Q E r h1 q _
  cases h1
  exact wpAny_truthy_bool (q _ S ρ _ s.heap s.toks p r (.mk _) (.refl ..))

theorem EW.neg {e : Expr} {pos : Pos} {c : Cx} {S : St} {P : V → St → Prop} (h : EW c S e fun v S₁ => ∃ a, v = .int a ∧ P (.int (-a)) S₁) : EW c S (.UnaryOp .USub e pos) P := by
  intro ρ s Q E r q x
  refine UnaryOp_ (h ρ s _ E r (fun v S₁ ρ₁ u₁ h₁ tk₁ p₁ r₁ v₁ st₁ => ?_) x)
  obtain ⟨a, rfl, p⟩ := p₁
  cases v₁
  exact PySem.P.neg_int (q _ S₁ ρ₁ _ h₁ (tk₁ + 1) p (r₁.keep _ fun _ _ e => e) (.int ..) st₁)

theorem EW.item {value slice : Expr} {pos : Pos} {c : Cx} {S : St} {P : V → St → Prop} (h : EW c S value fun a S₁ => EW c S₁ slice fun b S₂ => OW2 c VR S₂ a b (fun x y => subscriptTail value slice x y) P) : EW c S (.Subscript value slice pos) P := by
  intro ρ s Q E r q x
  refine Subscript_ (h ρ s _ E r (fun a S₁ ρ₁ u₁ h₁ tk₁ p₁ r₁ v₁ st₁ => ?_) x)
  refine p₁ ρ₁ _ _ E r₁ (fun b S₂ ρ₂ u₂ h₂ tk₂ p₂ r₂ v₂ st₂ => ?_) x
  exact p₂ ρ₂ _ _ _ _ E r₂ (v₁.step r₁.frame st₂) v₂ (fun v S₃ ρ₃ u₃ h₃ tk₃ p₃ r₃ v₃ st₃ => q v S₃ ρ₃ u₃ h₃ tk₃ p₃ r₃ v₃ (st₁.trans (st₂.trans st₃))) x
end
end

section
open PySem PySem.W PyProof.Rows PySem.Calls
section
variable {c : Cx} {S : St}

noncomputable def St.put (S : St) (j : Nat) (o : O) : St := ⟨S.loc, S.sto.set j o⟩
noncomputable def St.new (S : St) (o : O) : St := ⟨S.loc, S.sto ++ [o]⟩

theorem Rel.put {prog : Program} {w : World} {g : Gd} {env : Env} {ρ : Rho} {S : St} {s : Shared} (r : Rel prog w g env ρ S s) {j : Nat} {p : Addr × Addr} {o o' : O} {h' : Heap} (tk : Nat) (hp : ρ[j]? = some p) (hro : g.ro ≤ j) (ho : S.sto[j]? = some o)
    (hs : Heap.SameBut p.2 s.heap h') (hd : ∃ o, h'.get? p.2 = some o) (hn : Step env ρ s.heap ρ h' → OR prog w h' ρ o' p) : Rel prog w g env ρ (S.put j o') (shT s h' tk) ∧ Step env ρ s.heap ρ h' := by
  have hm := List.mem_of_getElem? hp
  have st : Step env ρ s.heap ρ h' := by
    refine ⟨⟨[], (List.append_nil _).symm, fun _ h => absurd h List.not_mem_nil⟩, fun b o e => ?_, fun b o e h1 _ _ => (hs.2 b (Ne.symm (h1 p hm))).trans e⟩
    by_cases hb : b = p.2
    · rw [hb]; exact hd
    · exact ⟨o, (hs.2 b hb).trans e⟩
  have F := r.frame
  have hor := r.sto j p o hp ho
  have notInst : ∀ x C dx, s.heap.get? x = some (instObj C dx) → x ≠ p.2 := by
    rintro x C dx e rfl
    obtain ⟨ob, e1, d⟩ := hor.at
    rw [e] at e1; cases e1
    rcases d with ⟨_, _, d⟩ | ⟨_, _, d⟩ <;> cases d
  refine ⟨{ gens := r.gens, base := fun b ob e => (hs.2 b (by rintro rfl; rw [r.gM j p hp hro] at e; cases e)).trans (r.base b ob e), gL := r.gL, gC := r.gC, gM := r.gM, ro := by show g.ro ≤ (S.sto.set j o').length; rw [List.length_set]; exact r.ro, ns := ?_, cells := fun y hy => ?_, mL := r.mL, mC := r.mC, cL := r.cL, vars := fun x v e => ?_, len := ?_, sto := fun i q ob e1 e2 => ?_, nd := r.nd, cd := r.cd, frs := FunFrames.up (fun b ob e hnf => ?_) r.frs, held := r.held.up fun b ob e _ _ _ h3 => ⟨ob, (hs.2 b fun z => h3 p hm z.symm).trans e, rfl⟩ }, st⟩
  · obtain ⟨m, hmm⟩ := r.ns; exact ⟨m, hmm.sameBut hs (Ne.symm (r.mL p hm))⟩
  · obtain ⟨ob, v, e, d⟩ := r.cells y hy
    exact ⟨ob, v, (hs.2 _ (Ne.symm (r.mC p hm y hy))).trans e, d⟩
  · obtain ⟨u, a, b⟩ := r.vars x v e
    exact ⟨u, Var.move (fun a2 => a2.sameBut hs (Ne.symm (r.mL p hm))) (fun _ _ _ a2 a3 _ => (hs.2 _ (Ne.symm (r.mC p hm _ (cells_mem a2)))).trans a3) a, b.step F st⟩
  · rw [r.len]; exact (List.length_set ..).symm
  · have e2' : (S.sto.set j o')[i]? = some ob := e2
    by_cases hij : j = i
    · subst hij
      rw [List.getElem?_set_self (List.getElem?_eq_some_iff.mp ho).1] at e2'
      cases e2'
      rw [hp] at e1; cases e1
      exact hn st
    · rw [List.getElem?_set_ne hij] at e2'
      have hne : q.2 ≠ p.2 := by
        intro z
        obtain ⟨li, ei⟩ := List.getElem?_eq_some_iff.mp e1
        obtain ⟨lj, ej⟩ := List.getElem?_eq_some_iff.mp hp
        exact hij ((List.getElem?_inj (by rw [List.length_map]; exact lj) r.nd).mp (by rw [List.getElem?_map, List.getElem?_map, hp, e1]; exact congrArg some z.symm))
      exact OR.step F st (hs.2 _ hne) (fun _ C hi => (hs.2 _ (notInst _ _ _ hi)).trans hi) (r.sto i q ob e1 e2')
  · by_cases hb : b = p.2
    · subst hb; exact (hn st).nf
    · exact ⟨ob, (hs.2 b hb).trans e, hnf⟩

theorem Rel.new {prog : Program} {w : World} {g : Gd} {env : Env} {ρ : Rho} {S : St} {s : Shared} (r : Rel prog w g env ρ S s) {p : Addr × Addr} {o : O} {h' : Heap} (tk : Nat)
    (k : ∀ b ob, s.heap.get? b = some ob → h'.get? b = some ob) (h1 : s.heap.get? p.1 = none) (h2 : s.heap.get? p.2 = none) (hn : Step env ρ s.heap (ρ ++ [p]) h' → OR prog w h' (ρ ++ [p]) o p) :
    Rel prog w g env (ρ ++ [p]) (S.new o) (shT s h' tk) ∧ Step env ρ s.heap (ρ ++ [p]) h' := by
  have st : Step env ρ s.heap (ρ ++ [p]) h' := ⟨⟨[p], rfl, fun q hq => by rw [List.mem_singleton.mp hq]; exact ⟨h1, h2⟩⟩, fun b ob e => ⟨ob, k b ob e⟩, fun b ob e _ _ _ => k b ob e⟩
  have F := r.frame
  have dn : ∀ {b}, (∃ o, s.heap.get? b = some o) → p.2 ≠ b := by rintro b ⟨o, e⟩ rfl; rw [h2] at e; cases e
  have hmut : ∀ q ∈ ρ, ∃ o, s.heap.get? q.2 = some o := fun q hq => Rel.mutAt (c := ⟨prog, w, g, {}, env, fun _ _ => False⟩) r hq
  refine ⟨{ gens := r.gens, base := fun b ob e => k b ob (r.base b ob e), gL := r.gL, gC := r.gC, gM := fun i q hq hro => ?_, ro := by show g.ro ≤ (S.sto ++ [o]).length; rw [List.length_append]; exact Nat.le_trans r.ro (Nat.le_add_right ..), ns := ?_, cells := fun y hy => ?_, mL := fun q hq => ?_, mC := fun q hq y hy => ?_, cL := r.cL, vars := fun x v e => ?_, len := ?_, sto := fun i q ob e1 e2 => ?_, nd := ?_, cd := r.cd, frs := FunFrames.keep k r.frs, held := (r.held.up fun b ob e _ _ _ _ => ⟨ob, k b ob e, rfl⟩).more r.held fun q hq => by rw [List.mem_singleton.mp hq]; exact h2 }, st⟩
  · by_cases hi : i < ρ.length
    · rw [List.getElem?_append_left hi] at hq; exact r.gM i q hq hro
    · rw [List.getElem?_append_right (by allgen_close_more)] at hq
      obtain rfl := List.mem_singleton.mp (List.mem_of_getElem? hq)
      cases z : g.h.get? q.2 with
      | none => rfl
      | some ob => rw [r.base _ _ z] at h2; cases h2
  · obtain ⟨m, hm⟩ := r.ns; exact ⟨m, hm.keeps k⟩
  · obtain ⟨ob, v, e, d⟩ := r.cells y hy; exact ⟨ob, v, k _ _ e, d⟩
  · rcases List.mem_append.mp hq with hq | hq
    · exact r.mL q hq
    · obtain rfl := List.mem_singleton.mp hq; obtain ⟨o', _, _, e, _⟩ := F.loc; exact dn ⟨o', e⟩
  · rcases List.mem_append.mp hq with hq | hq
    · exact r.mC q hq y hy
    · obtain rfl := List.mem_singleton.mp hq; obtain ⟨o', _, e, _⟩ := F.cells y hy; exact dn ⟨o', e⟩
  · obtain ⟨u, a, b⟩ := r.vars x v e; exact ⟨u, a.keep k, b.step F st⟩
  · show (ρ ++ [p]).length = (S.sto ++ [o]).length
    rw [List.length_append, List.length_append, r.len]; rfl
  · have e2' : (S.sto ++ [o])[i]? = some ob := e2
    by_cases hi : i < ρ.length
    · rw [List.getElem?_append_left hi] at e1
      rw [List.getElem?_append_left (by rw [← r.len]; exact hi)] at e2'
      have hm := List.mem_of_getElem? e1
      obtain ⟨o2, ho2⟩ := hmut q hm
      exact OR.step F st (by rw [k _ _ ho2, ho2]) (fun _ C hC => k _ _ hC) (r.sto i q ob e1 e2')
    · obtain rfl : i = ρ.length := by
        have := (List.getElem?_eq_some_iff.mp e1).1; rw [List.length_append] at this; exact Nat.le_antisymm (Nat.le_of_lt_succ this) (Nat.le_of_not_lt hi)
      rw [List.getElem?_append_right (Nat.le_refl _), Nat.sub_self] at e1
      rw [r.len, List.getElem?_append_right (Nat.le_refl _), Nat.sub_self] at e2'
      cases e1; cases e2'
      exact hn st
  · rw [List.map_append]
    refine List.nodup_append.mpr ⟨r.nd, List.pairwise_singleton _ _, fun a ha b hb => ?_⟩
    rw [List.mem_singleton.mp hb]
    obtain ⟨q, hq, rfl⟩ := List.mem_map.mp ha
    exact Ne.symm (dn (hmut q hq))

theorem OWs.fresh {as : List V} {t : List Value → Sem Value} {P : V → St → Prop} (v : V) (p : P v S)
    (h : ∀ (ρ : Rho) (s : Shared) (xs : List Value) (Q : Value → Shared → Prop) (E : Value → Shared → Prop), c.Rel ρ S s → VRs s.heap ρ as xs →
      (∀ u h' tk, (∀ b o, s.heap.get? b = some o → h'.get? b = some o) → VR h' ρ v u → Q u (shT s h' tk)) → wpAny (model c.prog c.w) c.A (t xs) Q E s) : OWs c VR S as t P :=
  fun ρ s xs Q E r hx q _ => h ρ s xs Q E r hx fun u h' tk k hv => q v S ρ u h' tk p (r.keep tk k) hv (Step.ofKeep k)
theorem OW1.fresh {a : V} {t : Value → Sem Value} {P : V → St → Prop} (v : V) (p : P v S)
    (h : ∀ (ρ : Rho) (s : Shared) (x : Value) (Q : Value → Shared → Prop) (E : Value → Shared → Prop), c.Rel ρ S s → VR s.heap ρ a x →
      (∀ u h' tk, (∀ b o, s.heap.get? b = some o → h'.get? b = some o) → VR h' ρ v u → Q u (shT s h' tk)) → wpAny (model c.prog c.w) c.A (t x) Q E s) : OW1 c VR S a t P :=
  fun ρ s x Q E r hx q _ => h ρ s x Q E r hx fun u h' tk k hv => q v S ρ u h' tk p (r.keep tk k) hv (Step.ofKeep k)
theorem OW2.fresh {a b : V} {t : Value → Value → Sem Value} {P : V → St → Prop} (v : V) (p : P v S)
    (h : ∀ (ρ : Rho) (s : Shared) (x y : Value) (Q : Value → Shared → Prop) (E : Value → Shared → Prop), c.Rel ρ S s → VR s.heap ρ a x → VR s.heap ρ b y →
      (∀ u h' tk, (∀ b o, s.heap.get? b = some o → h'.get? b = some o) → VR h' ρ v u → Q u (shT s h' tk)) → wpAny (model c.prog c.w) c.A (t x y) Q E s) : OW2 c VR S a b t P :=
  fun ρ s x y Q E r hx hy q _ => h ρ s x y Q E r hx hy fun u h' tk k hv => q v S ρ u h' tk p (r.keep tk k) hv (Step.ofKeep k)

noncomputable abbrev PlainSub (slice : Expr) : Prop := ∀ o i, subscripted slice false o i = operate [o, i] (getItem o i)

theorem seqIndex_pos {i : Int} {n : Nat} (h0 : 0 ≤ i) (h1 : i.toNat < n) : seqIndex? i n = some i.toNat := by
  unfold seqIndex?
  split <;> rename_i h <;> simp <;> allgen_close_more

theorem Item.lst {value slice : Expr} {c : Cx} {S : St} {vs : List V} {i : Int} {v : V} {P : V → St → Prop} (h0 : 0 ≤ i) (hb : i < 2 ^ 63) (hv : vs[i.toNat]? = some v) (p : P v S) (hs : autoParam (PlainSub slice) syn6) :
    OW2 c VR S (.lst vs) (.int i) (fun x y => subscriptTail value slice x y) P := by
  intro ρ s x y Q E r hx hy q _
  cases hx with
  | lst hl hm hvs => cases hy with
    | int _ t =>
      obtain ⟨u, hu, hvr⟩ := hvs.get hv
      exact tail_any hl.isList.typeIs slot_list_getitem.lookup (wpAny_getItem_list hl.isList h0 hb (x := u) (by simpa using hu) (q v S ρ u s.heap s.toks p r hvr (.refl ..))) (hs _ _)
theorem Item.tup {value slice : Expr} {c : Cx} {S : St} {vs : List V} {i : Int} {v : V} {P : V → St → Prop} (h0 : 0 ≤ i) (hb : i < 2 ^ 63) (hv : vs[i.toNat]? = some v) (p : P v S) (hs : autoParam (PlainSub slice) syn6) :
    OW2 c VR S (.tup vs) (.int i) (fun x y => subscriptTail value slice x y) P := by
  intro ρ s x y Q E r hx hy q _
  cases hx with
  | tup hl hm hvs => cases hy with
    | int _ t =>
      obtain ⟨u, hu, hvr⟩ := hvs.get hv
      have hlt := (List.getElem?_eq_some_iff.mp hu).1
      exact tail_any hl.isTup.typeIs slot_tuple_getitem.lookup (getItem_tuple hl.isTup (by allgen_close_more) hb (seqIndex_pos h0 (by simpa using hlt)) (x := u) (by simpa using hu) (q v S ρ u s.heap s.toks p r hvr (.refl ..))) (hs _ _)
theorem Item.ref {value slice : Expr} {c : Cx} {S : St} {vs : List V} {j : Nat} {i : Int} {v : V} {P : V → St → Prop} (hj : S.sto[j]? = some (.lst vs)) (h0 : 0 ≤ i) (hb : i < 2 ^ 63) (hv : vs[i.toNat]? = some v) (p : P v S) (hs : autoParam (PlainSub slice) syn6) :
    OW2 c VR S (.ref j) (.int i) (fun x y => subscriptTail value slice x y) P := by
  intro ρ s x y Q E r hx hy q _
  cases hx with
  | ref hp => cases hy with
    | int _ t =>
      obtain ⟨e, us, hl, hvs⟩ := r.sto j _ _ hp hj
      obtain ⟨u, hu, hvr⟩ := hvs.get hv
      exact tail_any hl.isList.typeIs slot_list_getitem.lookup (wpAny_getItem_list hl.isList h0 hb (x := u) (by simpa using hu) (q v S ρ u s.heap s.toks p r hvr (.refl ..))) (hs _ _)
theorem Item.last {value slice : Expr} {c : Cx} {S : St} {vs : List V} {j : Nat} {v : V} {P : V → St → Prop} (hj : S.sto[j]? = some (.lst (vs ++ [v]))) (hb : vs.length < 2 ^ 62) (p : P v S) (hs : autoParam (PlainSub slice) syn6) :
    OW2 c VR S (.ref j) (.int (-1)) (fun x y => subscriptTail value slice x y) P := by
  intro ρ s x y Q E r hx hy q _
  cases hx with
  | ref hp => cases hy with
    | int _ t =>
      obtain ⟨e, us, hl, hvs⟩ := r.sto j _ _ hp hj
      have hlen := hvs.length
      obtain ⟨u, hu, hvr⟩ := hvs.get (i := vs.length) (v := v) (by simp)
      have hsz : us.toArray.size = vs.length + 1 := by simp [hlen]
      refine tail_any hl.isList.typeIs slot_list_getitem.lookup (wpAny_getItem_list_neg hl.isList (by allgen_close_more) (by rw [hsz]; allgen_close_more) (by allgen_close_more) (x := u) ?_ (q v S ρ u s.heap s.toks p r hvr (.refl ..))) (hs _ _)
      rw [hsz]
      have : ((-1 : Int) + ((vs.length + 1 : Nat) : Int)).toNat = vs.length := by allgen_close_more
      rw [this]; simpa using hu

theorem KVs.look {K : Type} [DecidableEq K] {h : Heap} {ρ : Rho} {kvs : List (K × V)} {us : List (K × Value)} (x : KVs h ρ kvs us) (k : K) : (∀ v, (kvs.find? fun y => y.1 = k).map (·.2) = some v → ∃ u, valueAt us k = some u ∧ VR h ρ v u) ∧ ((kvs.find? fun y => y.1 = k).map (·.2) = none → valueAt us k = none) := by
  induction x with
  | nil => exact ⟨fun v e => (by cases e), fun _ => rfl⟩
  | @cons k' v' u' vs us a r ih =>
    unfold valueAt at ih ⊢
    rw [List.find?_cons, List.find?_cons]
    by_cases hk : k' = k
    · subst hk
      simp only [decide_true]
      refine ⟨fun v e => ?_, fun e => by cases e⟩
      cases e
      exact ⟨u', rfl, a⟩
    · simp only [hk, decide_false]
      exact ih

noncomputable def getK {K : Type} [DecidableEq K] (kvs : List (K × V)) (k : K) : Option V := (kvs.find? fun y => y.1 = k).map (·.2)
noncomputable def putK {K : Type} [DecidableEq K] (kvs : List (K × V)) (k : K) (v : V) : List (K × V) :=
  if kvs.any (fun kv => kv.1 = k) then kvs.map (fun kv => if kv.1 = k then (kv.1, v) else kv) else kvs ++ [(k, v)]
theorem KVs.put {K : Type} [DecidableEq K] {h : Heap} {ρ : Rho} {kvs : List (K × V)} {us : List (K × Value)} (x : KVs h ρ kvs us) (k : K) {v : V} {u : Value} (hv : VR h ρ v u) : KVs h ρ (putK kvs k v) (stored us k u) := by
  have ha : kvs.any (fun kv => kv.1 = k) = us.any (fun kv => kv.1 = k) := by
    induction x with
    | nil => rfl
    | cons a r ih => simp [ih]
  unfold putK stored
  rw [ha]
  have h1 : KVs h ρ (kvs.map (fun kv => if kv.1 = k then (kv.1, v) else kv)) (us.map (fun kv => if kv.1 = k then (kv.1, u) else kv)) := by
    clear ha
    induction x with
    | nil => exact .nil
    | @cons k' v' u' vs us a r ih =>
      rw [List.map_cons, List.map_cons]
      by_cases hk : k' = k
      · simp only [hk, if_pos]; exact .cons hv ih
      · simp only [hk, if_neg, if_false]; exact .cons a ih
  have h2 : KVs h ρ (kvs ++ [(k, v)]) (us ++ [(k, u)]) := by
    clear ha h1
    induction x with
    | nil => exact .cons hv .nil
    | cons a r ih => exact .cons a ih
  split <;> assumption
theorem KVs.length {K : Type} {h : Heap} {ρ : Rho} {kvs : List (K × V)} {us : List (K × Value)} (x : KVs h ρ kvs us) : us.length = kvs.length := by
  induction x with
  | nil => rfl
  | cons a r ih => simp [ih]

theorem Item.di {value slice : Expr} {c : Cx} {S : St} {kvs : List (Int × V)} {j : Nat} {k : Int} {v : V} {P : V → St → Prop} (hj : S.sto[j]? = some (.di kvs)) (hv : getK kvs k = some v) (p : P v S) (hs : autoParam (PlainSub slice) syn6) :
    OW2 c VR S (.ref j) (.int k) (fun x y => subscriptTail value slice x y) P := by
  intro ρ s x y Q E r hx hy q _
  cases hx with
  | ref hp => cases hy with
    | int _ t =>
      obtain ⟨e, hsm, us, hd, hvs⟩ := r.sto j _ _ hp hj
      obtain ⟨u, hu, hvr⟩ := (hvs.look k).1 v hv
      refine tail_any hd.typeIs slot_dict_getitem.lookup (wpAny_getItem_of (knd := intKind c.prog c.w) (k := k) (by simp [intKind, Value.isInt]) hd.mapOf hu ?_) (hs _ _)
      exact q v S ρ u s.heap (s.toks + 1) p (r.keep _ fun _ _ e => e) hvr (.refl ..)
theorem Item.ds {k : Str} {value slice : Expr} {c : Cx} {S : St} {kvs : List (Str × V)} {j : Nat} {v : V} {P : V → St → Prop} (hj : S.sto[j]? = some (.ds kvs)) (hv : getK kvs k = some v) (p : P v S) (hs : autoParam (PlainSub slice) syn6) :
    OW2 c VR S (.ref j) (.str k) (fun x y => subscriptTail value slice x y) P := by
  intro ρ s x y Q E r hx hy q _
  cases hx with
  | ref hp => cases hy with
    | str _ t =>
      obtain ⟨e, hsm, us, hd, hvs⟩ := r.sto j _ _ hp hj
      obtain ⟨u, hu, hvr⟩ := (hvs.look k).1 v hv
      refine tail_any hd.typeIs slot_dict_getitem.lookup (wpAny_getItem_of (knd := PySem.strKind c.prog c.w) (k := k) (by simp [PySem.strKind, Value.isStrOf]) hd.mapOf hu ?_) (hs _ _)
      exact q v S ρ u s.heap (s.toks + 1) p (r.keep _ fun _ _ e => e) hvr (.refl ..)
theorem In.di {kvs : List (Int × V)} {j : Nat} {k : Int} {P : V → St → Prop} (hj : S.sto[j]? = some (.di kvs)) (p : P (.bool (getK kvs k).isSome) S) : OW2 c VR S (.int k) (.ref j) (compareOp .In) P := by
  intro ρ s x y Q E r hy hx q _
  cases hx with
  | ref hp => cases hy with
    | int _ t =>
      obtain ⟨e, hsm, us, hd, hvs⟩ := r.sto j _ _ hp hj
      refine wpAny_in_of (knd := intKind c.prog c.w) (k := k) (by simp [intKind, Value.isInt]) hsm hd.mapOf ?_
      have hb : (valueAt us k).isSome = (getK kvs k).isSome := by
        cases z : getK kvs k with
        | none => rw [(hvs.look k).2 z]; rfl
        | some v => obtain ⟨u, hu, _⟩ := (hvs.look k).1 v z; rw [hu]; rfl
      rw [hb]
      exact q _ S ρ _ s.heap (s.toks + 1) p (r.keep _ fun _ _ e => e) (.bool _) (.refl ..)
theorem In.ds {k : Str} {c : Cx} {S : St} {kvs : List (Str × V)} {j : Nat} {P : V → St → Prop} (hj : S.sto[j]? = some (.ds kvs)) (p : P (.bool (getK kvs k).isSome) S) : OW2 c VR S (.str k) (.ref j) (compareOp .In) P := by
  intro ρ s x y Q E r hy hx q _
  cases hx with
  | ref hp => cases hy with
    | str _ t =>
      obtain ⟨e, hsm, us, hd, hvs⟩ := r.sto j _ _ hp hj
      refine wpAny_in_of (knd := PySem.strKind c.prog c.w) (k := k) (by simp [PySem.strKind, Value.isStrOf]) hsm hd.mapOf ?_
      have hb : (valueAt us k).isSome = (getK kvs k).isSome := by
        cases z : getK kvs k with
        | none => rw [(hvs.look k).2 z]; rfl
        | some v => obtain ⟨u, hu, _⟩ := (hvs.look k).1 v z; rw [hu]; rfl
      rw [hb]
      exact q _ S ρ _ s.heap (s.toks + 1) p (r.keep _ fun _ _ e => e) (.bool _) (.refl ..)
theorem wp_in_inv {M : Model} {A : Around} {E : Value → Shared → Prop} {s : Shared} {x y : Value} {Q : Value → Shared → Prop} (h : wpAny M A (compareOp .In x y) Q E s) : wpAny M A (contains y x) (fun k s' => Q (.bool k) s') E s := by
  intro Γ p hΓ
  have := h Γ p hΓ
  have e : compareOp .In x y = (contains y x >>= fun k => pure (.bool k)) := rfl
  rw [e, Sem.wp_bind'] at this
  exact this
theorem NotIn.of {a b : V} {P : V → St → Prop} (h : OW2 c VR S a b (compareOp .In) fun v S₁ => ∃ k, v = .bool k ∧ P (.bool (!k)) S₁) : OW2 c VR S a b (compareOp .NotIn) P := by
  intro ρ s x y Q E r hx hy q x'
  have := wp_in_inv (h ρ s x y (fun v s' => ∃ k, v = .bool k ∧ Q (.bool (!k)) s') E r hx hy (fun v S₁ ρ₁ u h₁ tk₁ p r₁ v₁ st₁ => by
    obtain ⟨k, rfl, p⟩ := p
    cases v₁
    exact ⟨k, rfl, q _ S₁ ρ₁ _ h₁ tk₁ p r₁ (.bool _) st₁⟩) x')
  show wpAny _ _ (contains y x >>= fun k => pure (.bool (!k))) Q E s
  refine wpAny_bind (wpAny_mono this (fun k s' h' => ?_) fun _ _ z => z)
  obtain ⟨k', e, h'⟩ := h'
  cases e
  exact wpAny_pure h'
end
end

section
open PySem PySem.W PyProof.Rows PySem.Calls
section
variable {c : Cx} {S : St}

theorem Step.keepAll {env : Env} {ρ : Rho} {h h' : Heap} (k : ∀ b o, h.get? b = some o → h'.get? b = some o) : Step env ρ h ρ h' := Step.ofKeep k

theorem EW.tuple {elts : List Expr} {pos : Pos} {c : Cx} {S : St} {k : Nat} {P : V → St → Prop} (h : AW c S pos elts fun vs S₁ => P (.tup vs) S₁ ∧ vs.length ≤ sizeLine) : EW c S (.Tuple elts k pos) P := by
  intro ρ s Q E r q x
  refine Tuple_ (h ρ s _ E r (fun vs S₁ ρ₁ us h₁ tk₁ p₁ r₁ v₁ st₁ => ?_) x)
  have hz : us.toArray.size ≤ sizeLine := by rw [List.size_toArray, v₁.length]; exact p₁.2
  refine wpAny_newObj_type ?_ (by show us.toArray.size ≤ sizeLine; exact hz)
  have kk : ∀ b o, h₁.get? b = some o → (h₁.push { cls := .type "tuple", data := .seq us.toArray }).get? b = some o := fun b o e => Heap.get?_push_of_some _ e
  exact q _ S₁ ρ₁ _ _ tk₁ p₁.1 (r₁.keep tk₁ kk) (.tup ⟨0, Heap.get?_push_size _ rfl⟩ r₁.mutLt (v₁.step r₁.frame (Step.ofKeep kk))) (st₁.trans (Step.ofKeep kk))
theorem EW.list {elts : List Expr} {pos : Pos} {c : Cx} {S : St} {P : V → St → Prop} (h : AW c S pos elts fun vs S₁ => P (.lst vs) S₁ ∧ vs.length ≤ sizeLine) : EW c S (.List elts pos) P := by
  intro ρ s Q E r q x
  refine List_ (h ρ s _ E r (fun vs S₁ ρ₁ us h₁ tk₁ p₁ r₁ v₁ st₁ => ?_) x)
  have hz : us.toArray.size ≤ sizeLine := by rw [List.size_toArray, v₁.length]; exact p₁.2
  refine wpAny_newObj_type ?_ (by show us.toArray.size ≤ sizeLine; exact hz)
  have kk : ∀ b o, h₁.get? b = some o → (h₁.push { cls := .type "list", data := .seq us.toArray }).get? b = some o := fun b o e => Heap.get?_push_of_some _ e
  exact q _ S₁ ρ₁ _ _ tk₁ p₁.1 (r₁.keep tk₁ kk) (.lst ⟨0, Heap.get?_push_size _ rfl⟩ r₁.mutLt (v₁.step r₁.frame (Step.ofKeep kk))) (st₁.trans (Step.ofKeep kk))
theorem EW.listM {elts : List Expr} {pos : Pos} {c : Cx} {S : St} {P : V → St → Prop} (h : AW c S pos elts fun vs S₁ => P (.ref S₁.sto.length) (S₁.new (.lst vs)) ∧ vs.length ≤ sizeLine) : EW c S (.List elts pos) P := by
  intro ρ s Q E r q x
  refine List_ (h ρ s _ E r (fun vs S₁ ρ₁ us h₁ tk₁ p₁ r₁ v₁ st₁ => ?_) x)
  have hz : us.toArray.size ≤ sizeLine := by rw [List.size_toArray, v₁.length]; exact p₁.2
  refine wpAny_newObj_type ?_ (by show us.toArray.size ≤ sizeLine; exact hz)
  have kk : ∀ b o, h₁.get? b = some o → (h₁.push { cls := .type "list", data := .seq us.toArray }).get? b = some o := fun b o e => Heap.get?_push_of_some _ e
  have z := r₁.new (p := (h₁.objs.size, h₁.objs.size)) (o := .lst vs) tk₁ kk fresh_none fresh_none fun st => ⟨rfl, us, ⟨0, Heap.get?_push_size _ rfl⟩, v₁.step r₁.frame st⟩
  refine q _ _ _ _ _ tk₁ p₁.1 z.1 (.ref (p := (h₁.objs.size, h₁.objs.size)) ?_) (st₁.trans z.2)
  rw [← r₁.len]; simp
theorem Wd.notModules {K : Frag} {ρ : Rho} {s : Shared} (hW : Wd K c.g.h) (r : c.Rel ρ S s) : (s.heap.objs.size == sysModules) = false := by
  obtain ⟨_, ⟨o, _, _, ho, _⟩, _⟩ := hW.lim
  exact beq_eq_false_iff_ne.mpr (Nat.ne_of_gt (Nat.lt_trans (by decide) (Heap.lt_size (r.base _ _ ho))))
theorem EW.dict0 {pos : Pos} {c : Cx} {S : St} {K : Frag} {P : V → St → Prop} (isInt : Bool) (hW : Wd K c.g.h) (p : P (.ref S.sto.length) (S.new (if isInt then .di [] else .ds []))) : EW c S (.Dict [] [] pos) P := by
  intro ρ s Q E r q x
  refine wpAny_Dict_empty ?_
  have kk : ∀ b o, s.heap.get? b = some o → (s.heap.push { cls := .type "dict", data := .dict #[] }).get? b = some o := fun b o e => Heap.get?_push_of_some _ e
  have hne := hW.notModules r
  have z := r.new (p := (s.heap.objs.size, s.heap.objs.size)) (o := if isInt then .di [] else .ds []) s.toks kk fresh_none fresh_none fun st => by
    cases isInt
    · exact ⟨rfl, hne, [], Heap.DictOf.new _, .nil⟩
    · exact ⟨rfl, hne, [], Heap.DictOf.new _, .nil⟩
  refine q _ _ _ _ _ s.toks p z.1 (.ref (p := (s.heap.objs.size, s.heap.objs.size)) ?_) z.2
  rw [← r.len]; simp

theorem Len.lst {vs : List V} {P : V → St → Prop} (hb : vs.length < 2 ^ 62) (p : P (.int vs.length) S) : CW c S (.builtin "len") [.lst vs] P := by
  refine OWs.fresh _ p fun ρ s xs Q E r hx q => ?_
  cases hx with
  | cons a b => cases b; cases a with
    | lst hl hm hv =>
      rename_i us
      refine len_list hl.isList (by simp [hv.length]; allgen_close_more) (q _ s.heap _ (fun _ _ e => e) ?_)
      simp only [List.size_toArray, hv.length]; exact .int _ _
theorem Len.tup {vs : List V} {P : V → St → Prop} (hb : vs.length < 2 ^ 62) (p : P (.int vs.length) S) : CW c S (.builtin "len") [.tup vs] P := by
  refine OWs.fresh _ p fun ρ s xs Q E r hx q => ?_
  cases hx with
  | cons a b => cases b; cases a with
    | tup hl hm hv =>
      rename_i us
      refine len_tuple hl.isTup (by simp [hv.length]; allgen_close_more) (q _ s.heap _ (fun _ _ e => e) ?_)
      simp only [List.size_toArray, hv.length]; exact .int _ _
theorem Len.ref {vs : List V} {j : Nat} {P : V → St → Prop} (hj : S.sto[j]? = some (.lst vs)) (hb : vs.length < 2 ^ 62) (p : P (.int vs.length) S) : CW c S (.builtin "len") [.ref j] P := by
  refine OWs.fresh _ p fun ρ s xs Q E r hx q => ?_
  cases hx with
  | cons a b => cases b; cases a with
    | ref hp =>
      obtain ⟨e, us, hl, hv⟩ := r.sto j _ _ hp hj
      refine len_list hl.isList (by simp [hv.length]; allgen_close_more) (q _ s.heap _ (fun _ _ e => e) ?_)
      simp only [List.size_toArray, hv.length]; exact .int _ _

theorem SW.expr {e : Expr} {pos : Pos} {c : Cx} {S : St} {P : Fl → St → Prop} (h : EW c S e fun _ S₁ => P .next S₁) (hi : autoParam (interactive c.env = false) syn1) (hs : autoParam (swapsWith e none pos.line c.env = pure false) syn3) : SW c S (.Expr e pos) P := by
  intro ρ s Q E r q x
  exact wpAny_Expr_any (h ρ s _ E r (fun v S₁ ρ₁ u₁ h₁ tk₁ p₁ r₁ v₁ st₁ => q .next S₁ ρ₁ _ h₁ tk₁ p₁ r₁ .next st₁) x) hi hs

theorem SW.setItem {o i value : Expr} {pos' pos : Pos} {c : Cx} {S : St} {P : Fl → St → Prop} (h : EW c S value fun v S₁ => EW c S₁ o fun a S₂ => EW c S₂ i fun b S₃ => OW3 c SameR S₃ a b v (fun x y z => setItem x y z) fun (_ : Unit) S₄ => P .next S₄)
    (hs : autoParam (swapsWith value (some (.Subscript o i pos')) pos.line c.env = pure false) syn3) : SW c S (.Assign [.Subscript o i pos'] value pos) P := by
  intro ρ s Q E r q x
  refine wpAny_Assign_Subscript (h ρ s _ E r (fun v S₁ ρ₁ u₁ h₁ tk₁ p₁ r₁ v₁ st₁ => ?_) x) hs
  refine p₁ ρ₁ _ _ E r₁ (fun a S₂ ρ₂ u₂ h₂ tk₂ p₂ r₂ v₂ st₂ => ?_) x
  refine p₂ ρ₂ _ _ E r₂ (fun b S₃ ρ₃ u₃ h₃ tk₃ p₃ r₃ v₃ st₃ => ?_) x
  exact p₃ ρ₃ _ _ _ _ _ E r₃ (v₂.step r₂.frame st₃) v₃ ((v₁.step r₁.frame st₂).step r₂.frame st₃) (fun _ S₄ ρ₄ _ h₄ tk₄ p₄ r₄ _ st₄ => q .next S₄ ρ₄ _ h₄ tk₄ p₄ r₄ .next (st₁.trans (st₂.trans (st₃.trans st₄)))) x

theorem setItem_plain {prog : Program} {w : World} {A : Around} {E : Value → Shared → Prop} {s : Shared} {l : Addr} {items : Array Value} {k : Int} {t : Tok} {v : Value} {Q : Unit → Shared → Prop} (hl : s.heap.PlainList l items) (h0 : 0 ≤ k) (hfit : k < 2 ^ 63) (hn : k.toNat < items.size)
    (hQ : ∀ h', h'.PlainList l (items.setIfInBounds k.toNat v) → Heap.SameBut l s.heap h' → Q () { s with heap := h' }) : wpAny (model prog w) A (setItem (.ref l) (.int k t) v) Q E s := by
  obtain ⟨n, ho⟩ := hl
  have hT : s.TypeIs (.ref l) "list" := ⟨_, ho, rfl⟩
  have hit : items[k.toNat]? = some items[k.toNat] := Array.getElem?_eq_getElem hn
  have hfin : (s.heap.update l (Obj.mapSeq (·.setIfInBounds k.toNat v))).PlainList l (items.setIfInBounds k.toNat v) := ⟨_, Heap.get?_update_self _ ho rfl⟩
  unfold setItem
  refine wpAny_holding ?_
  refine wpAny_bind (wpAny_sequenceKey hT (by decide) ?_)
  refine wpAny_bind (wpAny_callSpecial?_slot (name := Str.ofString "__setitem__") hT slot_list_setitem (wpAny_call_entry slot_list_setitem hT entry_list_setitem ?_ (args_list_setitem _ _ _)))
  show wpAny _ _ (Builtin.List.listSubscript? (.int k t) >>= _) _ _ s
  refine wpAny_bind (wpAny_listSubscript_int (fitsIndex_of h0 hfit) ?_)
  obtain ⟨j, rfl⟩ := Int.eq_ofNat_of_zero_le h0
  show wpAny _ _ ((seqItemAt l j >>= fun r => pure (r.map (j, ·))) >>= _) _ _ s
  refine wpAny_bind (wpAny_bind (wpAny_seqItemAt ho rfl (wpAny_pure ?_)))
  have hit' : items[j]? = some items[j] := hit
  rw [hit']
  show wpAny _ _ (setSeqItemAt l j v >>= _) _ _ s
  refine wpAny_bind (wpAny_setSeqItemAt ho rfl ?_)
  first
    | exact wpAny_bind (wpAny_pure (wpAny_pure ⟨.none, rfl, wpAny_pure (hQ _ hfin (Heap.SameBut.update ..))⟩))
    | exact wpAny_pure ⟨.none, rfl, wpAny_pure (hQ _ hfin (Heap.SameBut.update ..))⟩
theorem Put.lst {vs : List V} {j : Nat} {i : Int} {v : V} {P : St → Prop} (hj : S.sto[j]? = some (.lst vs)) (hro : c.g.ro ≤ j) (h0 : 0 ≤ i) (hb : i < 2 ^ 63) (hi : i.toNat < vs.length) (p : P (S.put j (.lst (vs.set i.toNat v)))) : OW3 c SameR S (.ref j) (.int i) v (fun x y z => setItem x y z) fun (_ : Unit) S₁ => P S₁ := by
  intro ρ s x y z Q E r hx hy hz q _
  cases hx with
  | ref hp => cases hy with
    | int _ t =>
      rename_i pp
      obtain ⟨e, us, ⟨n, hl⟩, hv⟩ := r.sto j _ _ hp hj
      refine setItem_plain ⟨n, hl⟩ h0 hb (by simpa [hv.length] using hi) fun h' hl' hs => ?_
      have zz := r.put (o' := .lst (vs.set i.toNat v)) s.toks hp hro hj (e ▸ hs) (by rw [← e]; obtain ⟨n', ho⟩ := hl'; exact ⟨_, ho⟩) fun st => ⟨e, us.set i.toNat z, by simpa using hl', (hv.step r.frame st).set (hz.step r.frame st) _⟩
      exact q () _ ρ () h' _ p zz.1 (.mk _) zz.2
theorem Put.di {kvs : List (Int × V)} {j : Nat} {k : Int} {v : V} {P : St → Prop} (hj : S.sto[j]? = some (.di kvs)) (hro : c.g.ro ≤ j) (hl : kvs.length ≤ sizeLine) (p : P (S.put j (.di (putK kvs k v)))) : OW3 c SameR S (.ref j) (.int k) v (fun x y z => setItem x y z) fun (_ : Unit) S₁ => P S₁ := by
  intro ρ s x y z Q E r hx hy hz q _
  cases hx with
  | ref hp => cases hy with
    | int _ t =>
      rename_i pp
      obtain ⟨e, hsm, us, hd, hv⟩ := r.sto j _ _ hp hj
      refine wpAny_setItem_pairs (knd := intKind c.prog c.w) (k := k) (by simp [intKind, Value.isInt]) hd (fun h' hd' hs => ?_) (by rw [hv.length]; exact hl)
      have zz := r.put (o' := .di (putK kvs k v)) (s.toks + 1) hp hro hj (e ▸ hs) (by rw [← e]; obtain ⟨o, _, _, ho, _⟩ := hd'; exact ⟨o, ho⟩) fun st => ⟨e, hsm, _, hd', (hv.step r.frame st).put k (hz.step r.frame st)⟩
      exact q () _ ρ () h' _ p zz.1 (.mk _) zz.2
theorem Put.ds {k : Str} {c : Cx} {S : St} {kvs : List (Str × V)} {j : Nat} {v : V} {P : St → Prop} (hj : S.sto[j]? = some (.ds kvs)) (hro : c.g.ro ≤ j) (hl : kvs.length ≤ sizeLine) (p : P (S.put j (.ds (putK kvs k v)))) : OW3 c SameR S (.ref j) (.str k) v (fun x y z => setItem x y z) fun (_ : Unit) S₁ => P S₁ := by
  intro ρ s x y z Q E r hx hy hz q _
  cases hx with
  | ref hp => cases hy with
    | str _ t =>
      rename_i pp
      obtain ⟨e, hsm, us, hd, hv⟩ := r.sto j _ _ hp hj
      refine wpAny_setItem_pairs (knd := PySem.strKind c.prog c.w) (k := k) (by simp [PySem.strKind, Value.isStrOf]) hd (fun h' hd' hs => ?_) (by rw [hv.length]; exact hl)
      have zz := r.put (o' := .ds (putK kvs k v)) (s.toks + 1) hp hro hj (e ▸ hs) (by rw [← e]; obtain ⟨o, _, _, ho, _⟩ := hd'; exact ⟨o, ho⟩) fun st => ⟨e, hsm, _, hd', (hv.step r.frame st).put k (hz.step r.frame st)⟩
      exact q () _ ρ () h' _ p zz.1 (.mk _) zz.2

theorem EW.listMeth {o : Expr} {name : Str} {apos pos : Pos} {args : List Expr} {id : String} {c : Cx} {S : St} {P : V → St → Prop} (slot : Slot "list" name id) (hty : typeOf (.builtin id) = pure (.type "method_descriptor"))
    (h : EW c S o fun a S₁ => E2 (fun j vs => A3 (a = .ref j) (S₁.sto[j]? = some (.lst vs)) (AW c S₁ pos args fun bs S₂ => CW c S₂ (.builtin id) (.ref j :: bs) P)))
    (hbase : autoParam (attributeBase o name c.env (eval o c.env) = eval o c.env) syn7)
    (hfew : autoParam (((backTo pos (starEach args c.env)).all (fun x => !x.1) && (backToKw pos (keywordEach [] c.env)).all (fun x => x.1.isSome) && decide (args.length + ([] : List Keyword).length + (if ([] : List Keyword).isEmpty then 0 else 1) < 30)) = true) syn1)
    (hline : autoParam ((apos.endLine == pos.line) = true) syn1)
    (hargs : autoParam (args = [] ∨ ∃ e rest, args = e :: rest ∧ starEach (e :: rest) c.env = (false, eval e c.env) :: starEach rest c.env ∧ (backTo pos (starEach rest c.env)).any (·.1) = false) syn8) :
    EW c S (.Call (.Attribute o name apos) args [] pos) P := by
  intro ρ s Q E r q x
  refine wpAny_Call_method_lateS hbase hfew hline (h ρ s _ E r (fun a S₁ ρ₁ u₁ h₁ tk₁ p₁ r₁ v₁ st₁ => ?_) x)
  obtain ⟨j, vs, rfl, hj, p₁⟩ := p₁
  cases v₁ with
  | ref hp =>
    obtain ⟨e, us, ⟨n, hl⟩, hv⟩ := r₁.sto j _ _ hp hj
    refine ⟨"list", id, PySem.F.plainAttrs_list, slot, hty, ⟨_, hl, rfl⟩, fun a z => ?_, ?_⟩
    · cases z; exact ⟨_, hl, rfl⟩
    · have main : wpAny (model c.prog c.w) c.A (spliced (backTo pos (starEach args c.env))) (fun vs' s₂ => wpAny (model c.prog c.w) c.A (call (.builtin id) ([Value.ref _] ++ vs')) Q E s₂) E (shT s h₁ tk₁) :=
        p₁ ρ₁ _ _ E r₁ (fun bs S₂ ρ₂ us₂ h₂ tk₂ p₂ r₂ v₂ st₂ => p₂ ρ₂ _ _ Q E r₂ (.cons ((VR.ref hp).step r₁.frame st₂) v₂) (fun v S₃ ρ₃ u₃ h₃ tk₃ p₃ r₃ v₃ st₃ => q v S₃ ρ₃ u₃ h₃ tk₃ p₃ r₃ v₃ (st₁.trans (st₂.trans st₃))) x) x
      rcases hargs with rfl | ⟨e', rest, rfl, he, hpl⟩
      · refine callWith_method0 ?_
        have : spliced (backTo pos (starEach [] c.env)) = pure [] := rfl
        rw [this] at main
        exact fun Γ p hΓ => main Γ p hΓ Γ p hΓ
      · exact callWith_method1 main he hpl

theorem typed_list {j : Nat} {ρ : Rho} {s : Shared} {vs : List V} {p : Addr × Addr} (r : c.Rel ρ S s) (hp : ρ[j]? = some p) (hj : S.sto[j]? = some (.lst vs)) : p.1 = p.2 ∧ ∃ us n, s.heap.get? p.1 = some { cls := .type "list", data := .seq us.toArray n } ∧ VRs s.heap ρ vs us ∧ s.TypeIs (.ref p.1) "list" := by
  obtain ⟨e, us, ⟨n, hl⟩, hv⟩ := r.sto j _ _ hp hj
  exact ⟨e, us, n, hl, hv, _, hl, rfl⟩

theorem Meth.append {j : Nat} {vs : List V} {v : V} {P : V → St → Prop} (hj : S.sto[j]? = some (.lst vs)) (hro : c.g.ro ≤ j) (hz : vs.length ≤ sizeLine) (p : P .none (S.put j (.lst (vs ++ [v])))) : CW c S (.builtin "list.append") [.ref j, v] P := by
  intro ρ s xs Q E r hx q _
  cases hx with
  | cons a b => cases b with
    | cons b d => cases d; cases a with
      | ref hp =>
        obtain ⟨e, us, n, hl, hv, hT⟩ := typed_list r hp hj
        refine wpAny_list_append_plain ⟨n, hl⟩ (fun h' hl' hs => ?_) (by simpa [hv.length] using hz)
        have zz := r.put (o' := .lst (vs ++ [v])) s.toks hp hro hj (e ▸ hs) (by rw [← e]; obtain ⟨n', ho⟩ := hl'; exact ⟨_, ho⟩) fun st => ⟨e, us ++ [_], by simpa using hl', VRs.append (.cons (b.step r.frame st) .nil) (hv.step r.frame st)⟩
        exact q .none _ ρ .none h' _ p zz.1 .none zz.2
theorem Meth.pop {j : Nat} {vs : List V} {v : V} {P : V → St → Prop} (hj : S.sto[j]? = some (.lst (vs ++ [v]))) (hro : c.g.ro ≤ j) (hz : vs.length < sizeLine) (p : P v (S.put j (.lst vs))) : CW c S (.builtin "list.pop") [.ref j] P := by
  intro ρ s xs Q E r hx q _
  cases hx with
  | cons a b => cases b; cases a with
    | ref hp =>
      rename_i pp
      obtain ⟨e, us, n, hl, hv, hT⟩ := typed_list r hp hj
      have hlen := hv.length
      simp at hlen
      obtain ⟨u, hu, hvr⟩ := hv.get (i := vs.length) (v := v) (by simp)
      have hsz : us.toArray.size = vs.length + 1 := by simp [hlen]
      refine call_meets PySem.F.slot_list_pop hT PySem.F.entry_list_pop (PySem.F.args_list_pop_1 _) (MeetsSeq.list_pop_last _ us.toArray n u (by rw [hsz]; simpa using hu) (by rw [hsz]; exact hz)) ⟨hl, ?_⟩
      have hs : Heap.SameBut pp.1 s.heap (s.heap.update pp.1 (Obj.mapSeq fun xs => xs.eraseIdxIfInBounds (us.toArray.size - 1))) := Heap.SameBut.update ..
      have hus : us.toArray.eraseIdxIfInBounds (us.toArray.size - 1) = (us.take vs.length).toArray := by
        have h1 : us.length - 1 = vs.length := by rw [hlen]; rfl
        have h2 : vs.length < us.length := by allgen_close_more
        simp [Array.eraseIdxIfInBounds, h1, h2, List.eraseIdx_eq_take_drop_succ, hlen]
      have ho' := Heap.get?_update_self (Obj.mapSeq fun xs => xs.eraseIdxIfInBounds (us.toArray.size - 1)) hl rfl
      have zz := r.put (o' := .lst vs) (h' := s.heap.update pp.1 (Obj.mapSeq fun xs => xs.eraseIdxIfInBounds (us.toArray.size - 1))) s.toks hp hro hj (by rw [← e]; exact hs) (by rw [← e]; exact ⟨_, ho'⟩) fun st => ⟨e, us.take vs.length, ⟨_, by rw [← hus]; exact ho'⟩, by simpa using (hv.step r.frame st).take vs.length⟩
      exact q v _ ρ u _ s.toks p zz.1 (hvr.step r.frame zz.2) zz.2
theorem Meth.reverse {j : Nat} {vs : List V} {P : V → St → Prop} (hj : S.sto[j]? = some (.lst vs)) (hro : c.g.ro ≤ j) (hz : vs.length ≤ sizeLine) (p : P .none (S.put j (.lst vs.reverse))) : CW c S (.builtin "list.reverse") [.ref j] P := by
  intro ρ s xs Q E r hx q _
  cases hx with
  | cons a b => cases b; cases a with
    | ref hp =>
      rename_i pp
      obtain ⟨e, us, n, hl, hv, hT⟩ := typed_list r hp hj
      refine call_meets PySem.F.slot_list_reverse hT PySem.F.entry_list_reverse (PySem.F.args_list_reverse_1 _) (AutoSeq1.list_reverse_list_0 _ us.toArray n (by simpa [hv.length] using hz)) ⟨hl, ?_⟩
      have hs : Heap.SameBut pp.1 s.heap (s.heap.update pp.1 (Obj.mapSeq fun x => x.reverse)) := Heap.SameBut.update ..
      have ho' := Heap.get?_update_self (Obj.mapSeq fun x => x.reverse) hl rfl
      have zz := r.put (o' := .lst vs.reverse) (h' := s.heap.update pp.1 (Obj.mapSeq fun x => x.reverse)) s.toks hp hro hj (by rw [← e]; exact hs) (by rw [← e]; exact ⟨_, ho'⟩) fun st => ⟨e, us.reverse, ⟨_, by rw [← List.reverse_toArray]; exact ho'⟩, (hv.step r.frame st).reverse⟩
      exact q .none _ ρ .none _ s.toks p zz.1 .none zz.2
theorem Meth.extend {j : Nat} {vs ws : List V} {P : V → St → Prop} (hj : S.sto[j]? = some (.lst vs)) (hro : c.g.ro ≤ j) (hz : vs.length + ws.length ≤ sizeLine) (p : P .none (S.put j (.lst (vs ++ ws)))) : CW c S (.builtin "list.extend") [.ref j, .lst ws] P := by
  intro ρ s xs Q E r hx q _
  cases hx with
  | cons a b => cases b with
    | cons b d => cases d; cases a with
      | ref hp => cases b with
        | lst hw hm hv' =>
          rename_i pp a2 us2
          obtain ⟨e, us, n, hl, hv, hT⟩ := typed_list r hp hj
          obtain ⟨n', hw⟩ := hw
          have l1 := hv.length
          have l2 := hv'.length
          refine call_meets PySem.F.slot_list_extend hT PySem.F.entry_list_extend (PySem.F.args_list_extend_2 _ _) (AutoSeq1.list_extend_list_list_0 _ us.toArray n a2 us2.toArray n' ?_ ?_ ?_) ⟨hl, hw, ?_⟩
          · simp only [List.size_toArray, Builtin.List.listTooLong]
            have : ¬ (us.length + us2.length > sizeLine) := by allgen_close_more
            simp [this]
          · simp; allgen_close_more
          · simp; allgen_close_more
          have hs : Heap.SameBut pp.1 s.heap (s.heap.update pp.1 (Obj.mapSeq fun x => x ++ us2.toArray)) := Heap.SameBut.update ..
          have ho' := Heap.get?_update_self (Obj.mapSeq fun x => x ++ us2.toArray) hl rfl
          have zz := r.put (o' := .lst (vs ++ ws)) (h' := s.heap.update pp.1 (Obj.mapSeq fun x => x ++ us2.toArray)) s.toks hp hro hj (by rw [← e]; exact hs) (by rw [← e]; exact ⟨_, ho'⟩) fun st => ⟨e, us ++ us2, ⟨_, by rw [← List.append_toArray]; exact ho'⟩, VRs.append (hv'.step r.frame st) (hv.step r.frame st)⟩
          exact q .none _ ρ .none _ s.toks p zz.1 .none zz.2
end
end

section
open PySem PySem.W PyProof.Rows PySem.Calls
noncomputable abbrev Sto := List O

mutual
noncomputable def V.bel (n : Nat) : V → Prop
  | .ref i => i < n
  | .obj _ => True
  | .tup vs => belL n vs
  | .lst vs => belL n vs
  | .none => True
  | .bool _ => True
  | .int _ => True
  | .str _ => True
noncomputable def belL (n : Nat) : List V → Prop
  | [] => True
  | v :: vs => V.bel n v ∧ belL n vs
end
noncomputable def O.bel (n : Nat) : O → Prop
  | .lst vs => belL n vs
  | .di kvs => belL n (kvs.map (·.2))
  | .ds kvs => belL n (kvs.map (·.2))
  | .inst _ f => belL n (f.map (·.2))
theorem belL_iff {n : Nat} : ∀ {vs : List V}, belL n vs ↔ ∀ v ∈ vs, v.bel n
  | [] => by simp [belL]
  | v :: vs => by simp [belL, belL_iff]

theorem VR.belB {h : Heap} {ρ τ : Rho} {v : V} {u : Value} (x : VR h (ρ ++ τ) v u) : v.bel ρ.length → VR h ρ v u :=
  VR.rec (motive_1 := fun v u _ => v.bel ρ.length → VR h ρ v u) (motive_2 := fun v u _ => belL ρ.length v → VRs h ρ v u) (fun _ => .none) (fun b _ => .bool b) (fun i t _ => .int i t) (fun i t _ => .str i t)
    (fun e hb => .ref (by rw [List.getElem?_append_left hb] at e; exact e)) (fun a _ => .obj a) (fun ho hp _ ih hb => .tup ho (fun p hp' => hp p (List.mem_append_left _ hp')) (ih hb)) (fun ho hp _ ih hb => .lst ho (fun p hp' => hp p (List.mem_append_left _ hp')) (ih hb))
    (fun _ => .nil) (fun _ _ a b hb => .cons (a hb.1) (b hb.2)) x
theorem VR.bel {h : Heap} {ρ ρ' τ : Rho} {v : V} {u : Value} (x : VR h (ρ ++ τ) v u) (hb : v.bel ρ.length) : VR h ρ v u := x.belB hb
theorem VRs.bel {h : Heap} {ρ ρ' τ : Rho} {v : List V} {u : List Value} (x : VRs h (ρ ++ τ) v u) : belL ρ.length v → VRs h ρ v u :=
  VRs.ind (C := fun v u => belL ρ.length v → VRs h ρ v u) (fun _ => .nil) (fun _ _ _ _ a _ ih hb => .cons (a.belB hb.1) (ih hb.2)) x
theorem KVs.bel {K : Type} {h : Heap} {ρ τ : Rho} {kvs : List (K × V)} {us : List (K × Value)} (x : KVs h (ρ ++ τ) kvs us) (hb : belL ρ.length (kvs.map (·.2))) : KVs h ρ kvs us := by
  induction x with
  | nil => exact .nil
  | cons a r ih => exact .cons (VR.bel (ρ' := ρ) a hb.1) (ih hb.2)
theorem OR.bel {prog : Program} {w : World} {h : Heap} {ρ τ : Rho} {o : O} {p : Addr × Addr} (x : OR prog w h (ρ ++ τ) o p) (hb : o.bel ρ.length) : OR prog w h ρ o p := by
  cases o with
  | lst vs => exact ⟨x.1, x.2.elim fun us y => ⟨us, y.1, VRs.bel (ρ' := ρ) y.2 hb⟩⟩
  | di kvs => exact ⟨x.1, x.2.1, x.2.2.elim fun us y => ⟨us, y.1, y.2.bel hb⟩⟩
  | ds kvs => exact ⟨x.1, x.2.1, x.2.2.elim fun us y => ⟨us, y.1, y.2.bel hb⟩⟩
  | inst C f => exact ⟨x.1, x.2.1, x.2.2.elim fun es y => ⟨es, y.elim fun n y => ⟨n, y.elim fun us y => ⟨us, y.1, y.2.1, y.2.2.bel hb⟩⟩⟩⟩

structure StepG (ρ : Rho) (h : Heap) (h' : Heap) : Prop where
  dom : ∀ b o, h.get? b = some o → ∃ o', h'.get? b = some o'
  keep : ∀ b o, h.get? b = some o → (∀ p ∈ ρ, p.2 ≠ b) → h'.get? b = some o
theorem StepG.step {ρ : Rho} {h h' : Heap} (x : StepG ρ h h') (env : Env) {τ : Rho} (hτ : ∀ p ∈ τ, h.get? p.1 = none ∧ h.get? p.2 = none) : Step env ρ h (ρ ++ τ) h' :=
  ⟨⟨τ, rfl, hτ⟩, x.dom, fun b o e hp _ _ => x.keep b o e hp⟩

theorem Rel.back {prog : Program} {w : World} {g : Gd} {env : Env} {ρ τ' : Rho} {S : St} {s : Shared} (r : Rel prog w g env ρ S s) {h' : Heap} (tk : Nat) (st : StepG ρ s.heap h') (hg : ∀ b o, g.h.get? b = some o → h'.get? b = some o)
    (hτ : ∀ p ∈ τ', s.heap.get? p.1 = none ∧ s.heap.get? p.2 = none) {σ' : Sto} (hlen : (ρ ++ τ').length = σ'.length) (hnd : ((ρ ++ τ').map (·.2)).Nodup) (hfr : h'.FunFrames g.h g.stack)
    (hor : ∀ (i : Nat) (p : Addr × Addr) (o : O), (ρ ++ τ')[i]? = some p → σ'[i]? = some o → OR prog w h' (ρ ++ τ') o p) : Rel prog w g env (ρ ++ τ') ⟨S.loc, σ'⟩ (shT s h' tk) ∧ Step env ρ s.heap (ρ ++ τ') h' := by
  have st' := st.step env hτ
  have F := r.frame
  obtain ⟨oL, esL, nL, eL, dL⟩ := F.loc
  have kL := st.keep _ _ eL r.mL
  have kC : ∀ y ∈ env.cells, ∀ o, s.heap.get? y.2 = some o → h'.get? y.2 = some o := fun y hy o e => st.keep _ _ e fun p hp => r.mC p hp y hy
  have kNs : ∀ {m}, s.heap.Ns env.locals m → h'.Ns env.locals m := fun ⟨o, es, ep, e, x⟩ => ⟨o, es, ep, st.keep _ _ e r.mL, x⟩
  refine ⟨{ gens := r.gens, base := hg, gL := r.gL, gC := r.gC, gM := fun i p hp hro => ?_, ro := by show g.ro ≤ σ'.length; rw [← hlen, List.length_append, r.len]; exact Nat.le_trans r.ro (Nat.le_add_right ..), ns := ?_, cells := fun y hy => ?_, mL := fun p hp => ?_, mC := fun p hp y hy => ?_, cL := r.cL, vars := fun x v e => ?_, len := hlen, sto := hor, nd := hnd, cd := r.cd, frs := hfr, held := (r.held.up fun b o e _ _ _ h3 => ⟨o, st.keep b o e h3, rfl⟩).more r.held fun q hq => (hτ q hq).2 }, st'⟩
  · by_cases hi : i < ρ.length
    · rw [List.getElem?_append_left hi] at hp; exact r.gM i p hp hro
    · rw [List.getElem?_append_right (by allgen_close_more)] at hp
      have hp := List.mem_of_getElem? hp
      cases z : g.h.get? p.2 with
      | none => rfl
      | some o => rw [← (hτ p hp).2, r.base _ _ z]
  · obtain ⟨m, hm⟩ := r.ns; exact ⟨m, kNs hm⟩
  · obtain ⟨o, v, e, d⟩ := r.cells y hy; exact ⟨o, v, kC y hy o e, d⟩
  · rcases List.mem_append.mp hp with hp | hp
    · exact r.mL p hp
    · intro z; rw [← z, (hτ p hp).2] at eL; cases eL
  · rcases List.mem_append.mp hp with hp | hp
    · exact r.mC p hp y hy
    · intro z; obtain ⟨o, v, e, d⟩ := r.cells y hy; rw [← z, (hτ p hp).2] at e; cases e
  · obtain ⟨u, a, b⟩ := r.vars x v e
    exact ⟨u, Var.move kNs (fun _ _ _ a2 a3 _ => kC _ (cells_mem a2) _ a3) a, b.step F st'⟩

inductive Back (S : St) (P : V → St → Prop) : V → Sto → Prop
  | plain {v : V} {σ' ex : Sto} : σ'.length = S.sto.length → v.bel S.sto.length → (∀ o ∈ σ', o.bel S.sto.length) → P v ⟨S.loc, σ'⟩ → Back S P v (σ' ++ ex)
  | freeze {k : Nat} {vs : List V} {σ' ex : Sto} : σ'.length = S.sto.length → S.sto.length ≤ k → (σ' ++ ex)[k]? = some (.lst vs) → belL S.sto.length vs → (∀ o ∈ σ', o.bel S.sto.length) → P (.lst vs) ⟨S.loc, σ'⟩ → Back S P (.ref k) (σ' ++ ex)
  | keepDi {k : Nat} {kvs : List (Int × V)} {σ' ex : Sto} : σ'.length = S.sto.length → S.sto.length ≤ k → (σ' ++ ex)[k]? = some (.di kvs) → belL S.sto.length (kvs.map (·.2)) → (∀ o ∈ σ', o.bel S.sto.length) → P (.ref S.sto.length) ⟨S.loc, σ' ++ [.di kvs]⟩ → Back S P (.ref k) (σ' ++ ex)
  | all {v : V} {σ' : Sto} : P v ⟨S.loc, σ'⟩ → Back S P v σ'

theorem VR.addMut {h : Heap} {ρ : Rho} {p : Addr × Addr} {o : Obj} (ho : h.get? p.2 = some o) (hd : ∀ its n, o.data ≠ .seq its n) {v : V} {u : Value} (x : VR h ρ v u) : VR h (ρ ++ [p]) v u := by
  have hq : ∀ (a : Addr), (∀ ob n its, h.get? a = some ob → ob.data = .seq its n → p.2 ≠ a) := fun a ob n its e d z => by
    rw [← z, ho] at e; cases e; exact hd _ _ d
  have ha : ∀ a : Addr, p.2 ≠ a → (∀ q ∈ ρ, q.2 ≠ a) → ∀ q ∈ ρ ++ [p], q.2 ≠ a := fun a h1 h2 q hq => by
    rcases List.mem_append.mp hq with hq | hq
    · exact h2 q hq
    · rw [List.mem_singleton.mp hq]; exact h1
  exact VR.move (fun i q e => by rw [List.getElem?_append_left (List.getElem?_eq_some_iff.mp e).1]; exact e) (fun a us hl hp => ⟨hl, hl.elim fun n e => ha a (hq a _ _ _ e rfl) hp⟩) (fun a us hl hp => ⟨hl, hl.elim fun n e => ha a (hq a _ _ _ e rfl) hp⟩) x
theorem VRs.addMut {h : Heap} {ρ : Rho} {p : Addr × Addr} {o : Obj} (ho : h.get? p.2 = some o) (hd : ∀ its n, o.data ≠ .seq its n) {v : List V} {u : List Value} (x : VRs h ρ v u) : VRs h (ρ ++ [p]) v u := x.map fun a => a.addMut ho hd
theorem KVs.addMut {K : Type} {h : Heap} {ρ : Rho} {p : Addr × Addr} {o : Obj} (ho : h.get? p.2 = some o) (hd : ∀ its n, o.data ≠ .seq its n) {kvs : List (K × V)} {us : List (K × Value)} (x : KVs h ρ kvs us) : KVs h (ρ ++ [p]) kvs us := x.map fun a => a.addMut ho hd
theorem OR.addMut {prog : Program} {w : World} {h : Heap} {ρ : Rho} {p : Addr × Addr} {ob : Obj} (ho : h.get? p.2 = some ob) (hd : ∀ its n, ob.data ≠ .seq its n) {o : O} {q : Addr × Addr} (x : OR prog w h ρ o q) : OR prog w h (ρ ++ [p]) o q :=
  x.map (fun y => y.addMut ho hd) (fun _ _ z => z) (fun _ _ z => z) fun _ _ z => z

theorem Back.to {prog : Program} {w : World} {g g' : Gd} {env env' : Env} {ρ ρ' : Rho} {S S' : St} {s : Shared} {h' : Heap} {tk : Nat} {P : V → St → Prop} {v : V} {u : Value} {Q : Value → Shared → Prop} (r : Rel prog w g env ρ S s) (r' : Rel prog w g' env' ρ' S' (shT s h' tk)) (hgg : g'.s₀ = g.s₀) (hfr : h'.FunFrames g.h g.stack)
    (st : Step env' ρ s.heap ρ' h') (hL : s.heap.get? env'.locals = none) (hC : env'.func.isSome = true → ∀ y ∈ env'.cells, s.heap.get? y.2 = none) (hv : VR h' ρ' v u) (b : Back S P v S'.sto)
    (q : ∀ v S₁ ρ₁, (∀ p ∈ ρ₁, p ∈ ρ') → P v S₁ → Rel prog w g env ρ₁ S₁ (shT s h' tk) → VR h' ρ₁ v u → Step env ρ s.heap ρ₁ h' → Q u (shT s h' tk)) : Q u (shT s h' tk) := by
  obtain ⟨⟨τ, rfl, hτ⟩, hdom, hkeep⟩ := st
  have sg : StepG ρ s.heap h' := ⟨hdom, fun b o e hp => hkeep b o e hp (by rintro rfl; rw [hL] at e; cases e) (by rintro hf y hy rfl; rw [hC hf y hy] at e; cases e)⟩
  have hg : ∀ b o, g.h.get? b = some o → h'.get? b = some o := by have := r'.base; rw [Gd.h, hgg] at this; exact this
  have hnd := r'.nd
  have hsto := r'.sto
  have hlen := r'.len
  have rl := r.len
  generalize hz : S'.sto = σ at b hsto hlen
  have nil : ∀ {σ' ex : Sto}, σ = σ' ++ ex → σ'.length = S.sto.length → (∀ o ∈ σ', o.bel S.sto.length) → Rel prog w g env ρ ⟨S.loc, σ'⟩ (shT s h' tk) ∧ Step env ρ s.heap ρ h' := by
    rintro σ' ex rfl hl hb
    have := r.back (τ' := []) tk sg hg (fun _ h => absurd h List.not_mem_nil) (σ' := σ') (by rw [List.append_nil, rl, hl]) (by rw [List.append_nil]; exact r.nd) hfr (fun i p o e1 e2 => by
      rw [List.append_nil] at e1 ⊢
      have hi := (List.getElem?_eq_some_iff.mp e1).1
      refine OR.bel (τ := τ) (hsto i p o (by rw [List.getElem?_append_left hi]; exact e1) (by rw [List.getElem?_append_left (by allgen_close_more)]; exact e2)) ?_
      rw [rl]; exact hb o (List.mem_of_getElem? e2))
    rw [List.append_nil] at this
    exact this
  cases b with
  | plain hl hvb hb p =>
    rename_i σ' ex
    have z := nil rfl hl hb
    exact q _ _ ρ (fun _ hp => List.mem_append_left _ hp) p z.1 (VR.bel (ρ' := ρ) hv (by rw [rl]; exact hvb)) z.2
  | freeze hl hk he hvb hb p =>
    rename_i k vs σ' ex
    have z := nil rfl hl hb
    cases hv with
    | ref e =>
      rename_i pp
      obtain ⟨e1, us, hpl, hvs⟩ := hsto k pp _ e he
      refine q _ _ ρ (fun _ hp => List.mem_append_left _ hp) p z.1 (.lst hpl (fun p' hp' => ?_) (VRs.bel (ρ' := ρ) hvs (by rw [rl]; exact hvb))) z.2
      rw [e1]
      intro e2
      rw [List.map_append] at hnd
      have hmem : pp ∈ τ := by
        rw [List.getElem?_append_right (by allgen_close_more)] at e
        exact List.mem_of_getElem? e
      exact (List.nodup_append.mp hnd).2.2 _ (List.mem_map_of_mem hp') _ (List.mem_map_of_mem hmem) e2
  | keepDi hl hk he hvb hb p =>
    rename_i k kvs σ' ex
    cases hv with
    | ref e =>
      rename_i pp
      have hor := hsto k pp _ e he
      have hmem : pp ∈ τ := by
        rw [List.getElem?_append_right (by allgen_close_more)] at e
        exact List.mem_of_getElem? e
      obtain ⟨e1, hs1, us, hd, hkv⟩ := hor
      obtain ⟨od, es, ep, ho, hc, hdat, hx⟩ := id hd
      have ho2 : h'.get? pp.2 = some od := by rw [← e1]; exact ho
      have hds : ∀ its n, od.data ≠ .seq its n := fun its n z => by rw [hdat] at z; cases z
      have hnd' : ((ρ ++ [pp]).map (·.2)).Nodup := by
        rw [List.map_append] at hnd ⊢
        refine List.nodup_append.mpr ⟨r.nd, List.pairwise_singleton _ _, fun a ha b hb => ?_⟩
        rw [List.mem_singleton.mp hb]
        exact (List.nodup_append.mp hnd).2.2 _ ha _ (List.mem_map_of_mem hmem)
      have z := r.back (τ' := [pp]) tk sg hg (fun p' hp' => by rw [List.mem_singleton.mp hp']; exact hτ _ hmem) (σ' := σ' ++ [.di kvs]) (by rw [List.length_append, List.length_append, rl, hl]; rfl) hnd' hfr (fun i p' o f1 f2 => by
        by_cases hi : i < ρ.length
        · rw [List.getElem?_append_left hi] at f1
          rw [List.getElem?_append_left (by allgen_close_more)] at f2
          refine OR.addMut ho2 hds (OR.bel (τ := τ) (hsto i p' o (by rw [List.getElem?_append_left hi]; exact f1) (by rw [List.getElem?_append_left (by allgen_close_more)]; exact f2)) ?_)
          rw [rl]; exact hb o (List.mem_of_getElem? f2)
        · obtain rfl : i = ρ.length := by
            have := (List.getElem?_eq_some_iff.mp f1).1; rw [List.length_append] at this; exact Nat.le_antisymm (Nat.le_of_lt_succ this) (Nat.le_of_not_lt hi)
          rw [List.getElem?_append_right (Nat.le_refl _), Nat.sub_self] at f1
          rw [rl, ← hl, List.getElem?_append_right (Nat.le_refl _), Nat.sub_self] at f2
          cases f1; cases f2
          exact OR.addMut (o := .di kvs) ho2 hds ⟨e1, hs1, us, hd, hkv.bel (by rw [rl]; exact hvb)⟩)
      refine q _ _ _ (fun p' hp' => by
        rcases List.mem_append.mp hp' with hp' | hp'
        · exact List.mem_append_left _ hp'
        · rw [List.mem_singleton.mp hp']; exact List.mem_append_right _ hmem) p z.1 (.ref (p := pp) ?_) z.2
      rw [← rl, List.getElem?_append_right (Nat.le_refl _), Nat.sub_self]; rfl
  | all p =>
    have z := r.back (τ' := τ) tk sg hg hτ (σ' := σ) hlen hnd hfr hsto
    exact q _ _ _ (fun _ hp => hp) p z.1 hv z.2
end

section
open PySem PySem.W PyProof.Rows PySem.Calls
section
variable {c : Cx} {S : St} {K : Frag}

theorem bindL_skip {kindOf : Str → Option NameKind} {x : Str} : ∀ {binds : List (Str × Value)} {m : Str → Option Value}, x ∉ binds.map (·.1) → bindL kindOf binds m x = m x
  | [], _, _ => rfl
  | (n, v) :: r, m, h => by
    unfold bindL
    rw [bindL_skip (fun q => h (List.mem_cons_of_mem _ q))]
    split
    · exact if_neg (fun z => h (by rw [z]; exact List.mem_cons_self))
    · rfl
theorem bindC_skip {kindOf : Str → Option NameKind} {x : Str} : ∀ {binds : List (Str × Value)} {m : Str → Option Value}, x ∉ binds.map (·.1) → bindC kindOf binds m x = m x
  | [], _, _ => rfl
  | (n, v) :: r, m, h => by
    unfold bindC
    rw [bindC_skip (fun q => h (List.mem_cons_of_mem _ q))]
    split
    · rfl
    · exact if_neg (fun z => h (by rw [z]; exact List.mem_cons_self))
theorem bindL_get {kindOf : Str → Option NameKind} {x : Str} {u : Value} (hk : kindOf x = some .local) : ∀ {binds : List (Str × Value)} {m : Str → Option Value}, (binds.map (·.1)).Nodup → (x, u) ∈ binds → bindL kindOf binds m x = some u
  | (n, v) :: r, m, hn, h => by
    rw [List.map_cons, List.nodup_cons] at hn
    unfold bindL
    cases h with
    | head => rw [bindL_skip hn.1, if_pos hk]; simp
    | tail _ h => exact bindL_get hk hn.2 h
theorem bindC_get {kindOf : Str → Option NameKind} {x : Str} {u : Value} (hk : kindOf x ≠ some .local) : ∀ {binds : List (Str × Value)} {m : Str → Option Value}, (binds.map (·.1)).Nodup → (x, u) ∈ binds → bindC kindOf binds m x = some u
  | (n, v) :: r, m, hn, h => by
    rw [List.map_cons, List.nodup_cons] at hn
    unfold bindC
    cases h with
    | head => rw [bindC_skip hn.1, if_neg hk]; simp
    | tail _ h => exact bindC_get hk hn.2 h

theorem zip_look {h : Heap} {ρ : Rho} : ∀ {names : List Str} {vs : List V} {us : List Value}, VRs h ρ vs us → names.length = vs.length → ∀ {x : Str} {v : V}, (names.zip vs).lookup x = some v → ∃ u, (x, u) ∈ names.zip us ∧ VR h ρ v u
  | [], _, _, _, _, _, _, e => by simp at e
  | n :: ns, _, _, .nil, hl, _, _, e => by simp at hl
  | n :: ns, v :: vs, u :: us, .cons a r, hl, x, w, e => by
    rw [List.zip_cons_cons, List.lookup_cons] at e
    by_cases hx : x = n
    · subst hx
      simp at e; subst e
      exact ⟨u, by simp, a⟩
    · have : (x == n) = false := beq_eq_false_iff_ne.mpr hx
      rw [this] at e
      obtain ⟨u', h1, h2⟩ := zip_look r (by simpa using hl) e
      exact ⟨u', by simp [h1], h2⟩

noncomputable abbrev Cx.into (fd : FuncData) (f : Addr) (c : Cx) (L : Addr) (X : Value → Shared → Prop) : Cx :=
  { c with A := c.A.deeper (callEnvC fd L f), env := callEnvC fd L f, X := X, g := { c.g with stack := callEnvC fd L f :: c.g.stack } }

noncomputable def Fl.val : Fl → V
  | .next => .none
  | .ret v => v

noncomputable abbrev Done (S : St) (P : V → St → Prop) (fl : Fl) (S' : St) : Prop := Back S P fl.val S'.sto
noncomputable def CC (c : Cx) (S : St) (f : Value) (vs : List V) (P : V → St → Prop) : Prop :=
  ∀ (ρ : Rho) (s : Shared) (us : List Value) (R : Result → Shared → Prop), c.Rel ρ S s → VRs s.heap ρ vs us →
    (∀ (v : V) (S' : St) (ρ' : Rho) (u : Value) (h' : Heap) (tk' : Nat), P v S' → c.Rel ρ' S' (shT s h' tk') → VR h' ρ' v u → Step c.env ρ s.heap ρ' h' → R (.ok (.ret u)) (shT s h' tk')) →
    (∀ e s', c.X e s' → R (.error e) s') → codeAny (model c.prog c.w) c.A (.call f ⟨us, []⟩) R s
theorem CW.ofCC {f : Value} {vs : List V} {P : V → St → Prop} (h : CC c S f vs P) : CW c S f vs P :=
  fun ρ s us Q E r hus q x => wpAny_call (h ρ s us _ r hus (fun v S' ρ' u h' tk' p r' hv st => q v S' ρ' u h' tk' p r' hv st) x.1)

theorem len1 {us : List Value} (h : us.length = 1) : ∃ a, us = [a] := by
  cases us with
  | nil => cases h
  | cons a us => exact ⟨a, by rw [List.eq_nil_of_length_eq_zero (Nat.succ.inj h)]⟩
theorem len2 {us : List Value} (h : us.length = 2) : ∃ a b, us = [a, b] := by
  cases us with
  | nil => cases h
  | cons a us =>
    obtain ⟨b, e⟩ := len1 (Nat.succ.inj h)
    exact ⟨a, b, by rw [e]⟩
theorem len3 {us : List Value} (h : us.length = 3) : ∃ a b d, us = [a, b, d] := by
  cases us with
  | nil => cases h
  | cons a us =>
    obtain ⟨b, d, e⟩ := len2 (Nat.succ.inj h)
    exact ⟨a, b, d, by rw [e]⟩
theorem len4 {us : List Value} (h : us.length = 4) : ∃ a b d f, us = [a, b, d, f] := by
  cases us with
  | nil => cases h
  | cons a us =>
    obtain ⟨b, d, f, e⟩ := len3 (Nat.succ.inj h)
    exact ⟨a, b, d, f, by rw [e]⟩
theorem len5 {us : List Value} (h : us.length = 5) : ∃ a b d f g, us = [a, b, d, f, g] := by
  cases us with
  | nil => cases h
  | cons a us =>
    obtain ⟨b, d, f, g, e⟩ := len4 (Nat.succ.inj h)
    exact ⟨a, b, d, f, g, by rw [e]⟩
structure Pre (prog : Program) (w : World) (g : Gd) (ρ : Rho) (sto : Sto) (s : Shared) : Prop where
  gens : s.gens = #[] ∧ (shT s g.s₀.heap g.s₀.toks) = g.s₀
  base : ∀ b o, g.h.get? b = some o → s.heap.get? b = some o
  gM : ∀ (i : Nat) (p : Addr × Addr), ρ[i]? = some p → g.ro ≤ i → g.h.get? p.2 = none
  ro : g.ro ≤ sto.length
  live : ∀ p ∈ ρ, ∃ o, s.heap.get? p.2 = some o
  len : ρ.length = sto.length
  sto : ∀ h : Heap, (∀ b o, s.heap.get? b = some o → h.get? b = some o) → ∀ (i : Nat) (p : Addr × Addr) (o : O), ρ[i]? = some p → sto[i]? = some o → OR prog w h ρ o p
  nd : (ρ.map (·.2)).Nodup
  frs : s.heap.FunFrames g.h g.stack
  held : ∀ p ∈ g.held, (∃ o, s.heap.get? p.1 = some o ∧ o.data = p.2) ∧ (∀ vs, p.2 ≠ .fields vs) ∧ ∀ q ∈ ρ, q.2 ≠ p.1
theorem Rel.pre {c : Cx} {ρ : Rho} {S : St} {s : Shared} (r : c.Rel ρ S s) : Pre c.prog c.w c.g ρ S.sto s :=
  ⟨r.gens, r.base, r.gM, r.ro, fun _ hp => r.mutAt hp, r.len, fun _ k i p o e1 e2 => (r.sto i p o e1 e2).keep r.frame k, r.nd, r.frs, fun p hp => let ⟨a0, a1, _, _, a4⟩ := r.held p hp; ⟨a0, a1, a4⟩⟩
theorem enter_core {prog : Program} {w : World} {A : Around} {g : Gd} {ρ : Rho} {sto : Sto} {s : Shared} {f : Addr} {fd : FuncData} {body : List Stmt} {vs : List V} {us₀ us : List Value} {names : List Str} {oc : Value} {od : Option Addr} {sl : Array (Option Value)} {R : Result → Shared → Prop}
    (r : Pre prog w g ρ sto s) (hfo : s.heap.get? f = some ⟨oc, od, .func fd, sl⟩) (hlim : s.heap.NoLimit) (hcdr : s.heap.CodeRec fd.code fd.qualname) (hbody : fd.body = .stmts body) (hclo : fd.closure = []) (hroom : A.depth < recursionLimit)
    (hlen : names.length = vs.length) (hus : ∀ h : Heap, (∀ b o, s.heap.get? b = some o → h.get? b = some o) → VRs h ρ vs us) (hnd : names.Nodup) (hb : BindsTo s fd ⟨us₀, []⟩ (names.zip us))
    (hkinds : (names.all fun x => fd.scope.names.lookup x == some .local || fd.scope.names.lookup x == some .cell) = true)
    (hcn : ((cellsFrom 0 fd.scope.names []).map (·.1)).Nodup)
    (hco : fd.scope.isCoroutine = false) (hgen : fd.scope.isGenerator = false) (hk : fd.scope.kind = .function)
    (k : ∀ h₁ tk₁, (∀ b o, s.heap.get? b = some o → h₁.get? b = some o) → (∀ y ∈ (callEnvC fd s.heap.objs.size f).cells, s.heap.get? y.2 = none) → Rel prog w { g with stack := callEnvC fd s.heap.objs.size f :: g.stack } (callEnvC fd s.heap.objs.size f) ρ ⟨names.zip vs, sto⟩ (shT s h₁ tk₁) →
      wpAny (model prog w) (A.deeper (callEnvC fd s.heap.objs.size f)) (execs body (callEnvC fd s.heap.objs.size f)) (fun fl s' => R (.ok (.ret (match fl with | .ret v => v | _ => .none))) s')
        (fun e s' => wpAny (model prog w) (A.deeper (callEnvC fd s.heap.objs.size f)) (leaving (callEnvC fd s.heap.objs.size f) e) (fun _ s'' => R (.error e) s'') (fun e' s'' => R (.error e') s'') s') (shT s h₁ tk₁)) :
    codeAny (model prog w) A (.call (.ref f) ⟨us₀, []⟩) R s := by
  refine codeAny_call_function hroom hfo rfl hco hgen hbody hcdr ?_
  refine hb _ _ _ _ ?_
  rw [hclo]
  have hkinds' : ((names.zip us).all fun y => fd.scope.names.lookup y.1 == some .local || fd.scope.names.lookup y.1 == some .cell) = true := by
    rw [List.all_eq_true] at hkinds ⊢
    exact fun y hy => hkinds y.1 (List.of_mem_zip hy).1
  refine wpAny_newFunctionEnv_cells hk (kindsX hkinds' _) fun env' he s₁ x₁ => ?_
  obtain rfl : env' = callEnvC fd s.heap.objs.size f := he
  refine ⟨hlim.keeps x₁.toInCall.keep, codeAny_func ?_⟩
  obtain ⟨h₁, tk₁, rfl, _⟩ := x₁.done
  have hk₁ := x₁.toInCall.keep
  have hLn : s.heap.get? (callEnvC fd s.heap.objs.size f).locals = none := fresh_none
  have hCn : ∀ y ∈ (callEnvC fd s.heap.objs.size f).cells, s.heap.get? y.2 = none := fun y hy => by
    cases z : s.heap.get? y.2 with
    | none => rfl
    | some o => exact absurd (Heap.lt_size z) (Nat.not_lt.mpr (Nat.le_of_lt (x₁.above y.1 y.2 hy)))
  have gN : ∀ {b}, s.heap.get? b = none → g.h.get? b = none := fun {b} e => by
    cases z : g.h.get? b with
    | none => rfl
    | some o => rw [← e, r.base _ _ z]
  have hvs := hus h₁ hk₁
  have hnd' : ((names.zip us).map (·.1)).Nodup := by
    rw [List.map_fst_zip (by rw [hlen, ← hvs.length]; exact Nat.le_refl _)]; exact hnd
  obtain ⟨mL, oL, esL, nL, eL, dL, rL⟩ : ∃ m, h₁.Ns (callEnvC fd s.heap.objs.size f).locals m := ⟨_, x₁.toInCall.ns⟩
  exact k h₁ tk₁ hk₁ hCn {
    gens := r.gens
    base := fun b o e => hk₁ b o (r.base b o e)
    gL := gN hLn
    gC := fun y hy => gN (hCn y hy)
    gM := r.gM
    ro := r.ro
    ns := ⟨_, x₁.toInCall.ns⟩
    cells := fun y hy => let ⟨o, e, d⟩ := x₁.cell y.1 y.2 (lookup_of_mem_nodup (cellsFrom_names fd.scope.names 0 (s.heap.objs.size + 1) [] [] rfl ▸ hcn) hy); ⟨o, _, e, d⟩
    mL := fun p hp z => by obtain ⟨o, ho⟩ := r.live p hp; rw [z, hLn] at ho; cases ho
    mC := fun p hp y hy z => by obtain ⟨o, ho⟩ := r.live p hp; rw [z, hCn y hy] at ho; cases ho
    cL := fun y hy => Nat.ne_of_gt (x₁.above y.1 y.2 hy)
    vars := fun x v e => by
      obtain ⟨u, hm, hvr⟩ := zip_look hvs hlen e
      refine ⟨u, ?_, hvr⟩
      by_cases hloc : (callEnvC fd s.heap.objs.size f).kindOf x = some .local
      · exact .inl ⟨hloc, _, x₁.toInCall.ns, bindL_get hloc hnd' hm⟩
      · rcases kindsX hkinds' (s.heap.objs.size + 1) (x, u) hm with q1 | ⟨q1, q2⟩
        · exact absurd q1 hloc
        · obtain ⟨a, ha⟩ := Option.isSome_iff_exists.mp q2
          obtain ⟨o, e1, e2⟩ := x₁.cell x a ha
          exact .inr ⟨.inl q1, a, o, ha, e1, e2.trans (congrArg _ (bindC_get hloc hnd' hm))⟩
    len := r.len
    sto := r.sto h₁ hk₁
    nd := r.nd
    cd := x₁.apart
    frs := ⟨fun z => (by rw [show (callEnvC fd s.heap.objs.size f).scope.kind = .function from hk] at z; cases z), ⟨_, oL, rfl, gN hLn, eL, fun vs z => (by rw [dL] at z; cases z)⟩, FunFrames.keep hk₁ r.frs⟩
    held := fun p hp => by
      obtain ⟨⟨o, e, d⟩, a1, a4⟩ := r.held p hp
      exact ⟨⟨o, hk₁ _ _ e, d⟩, a1, (fun z => by rw [z, hLn] at e; cases e), (fun y hy z => by rw [← z, hCn y hy] at e; cases e), a4⟩ }
theorem CC.def {body : List Stmt} {K : Frag} {c : Cx} {S : St} {f : Addr} {fd : FuncData} {vs dvs : List V} {ds : List Value} {names : List Str} {oc : Value} {od : Option Addr} {sl : Array (Option Value)} {P : V → St → Prop} (X : Env → Value → Shared → Prop)
    (hW : Wd K c.g.h) (ho : K.lookup f = some ⟨oc, od, .func fd, sl⟩) (hcd : codeIn K fd.code fd.qualname = true) (hbody : fd.body = .stmts body) (hclo : fd.closure = []) (hroom : c.A.depth < recursionLimit)
    (hlen : names.length = (vs ++ dvs).length) (hds : ∀ h ρ, VRs h ρ dvs ds) (hnd : names.Nodup)
    (hb : ∀ (s : Shared) (us : List Value), (∀ b o, c.g.h.get? b = some o → s.heap.get? b = some o) → us.length = vs.length → BindsTo s fd ⟨us, []⟩ (names.zip (us ++ ds)))
    (hkinds : (names.all fun x => fd.scope.names.lookup x == some .local || fd.scope.names.lookup x == some .cell) = true)
    (hcn : ((cellsFrom 0 fd.scope.names []).map (·.1)).Nodup)
    (hX : ∀ L e s', X (callEnvC fd L f) e s' → wpAny (model c.prog c.w) (c.A.deeper (callEnvC fd L f)) (leaving (callEnvC fd L f) e) (fun _ s'' => c.X e s'') (fun _ _ => False) s')
    (h : ∀ L, XW (c.into fd f L (X (callEnvC fd L f))) ⟨names.zip (vs ++ dvs), S.sto⟩ body (Done S P))
    (hco : autoParam (fd.scope.isCoroutine = false) syn1) (hgen : autoParam (fd.scope.isGenerator = false) syn1) (hk : autoParam (fd.scope.kind = .function) syn1) : CC c S (.ref f) vs P := by
  intro ρ s us R r hus q x
  refine enter_core r.pre (r.base _ _ (hW.X _ _ ho)) (hW.lim.keeps r.base) ((codeRec_of hW.X hcd).keeps r.base) hbody hclo hroom hlen (fun h₁ k₁ => VRs.append (hds _ _) (hus.map fun a => a.keep k₁ r.frame)) hnd (hb s us r.base hus.length) hkinds hcn hco hgen hk fun h₁ tk₁ hk₁ hCn r₁ => ?_
  have back : ∀ (fl : Fl) (S' : St) (ρ' : Rho) (u : Value) (h' : Heap) (tk' : Nat), Back S P fl.val S'.sto → Rel c.prog c.w { c.g with stack := callEnvC fd s.heap.objs.size f :: c.g.stack } (callEnvC fd s.heap.objs.size f) ρ' S' (shT s h' tk') → VR h' ρ' fl.val u → Step (callEnvC fd s.heap.objs.size f) ρ h₁ ρ' h' → R (.ok (.ret u)) (shT s h' tk') := fun fl S' ρ' u h' tk' p₂ r₂ hv₂ st₂ =>
    Back.to (Q := fun u s => R (.ok (.ret u)) s) r r₂ rfl r₂.frs.2.2 ((Step.ofKeep hk₁).trans st₂) fresh_none (fun _ => hCn) hv₂ p₂ fun v S₁ ρ₁ _ pp rr vv ss => q v S₁ ρ₁ u h' tk' pp rr vv ss
  refine h s.heap.objs.size ρ _ _ _ r₁ (fun fl S' ρ' u h' tk' p₂ r₂ o₂ st₂ => ?_) ⟨fun e s' hXe => ?_, PassesOwn.leaving⟩
  · cases o₂ with
    | next => exact back .next S' ρ' .none h' tk' p₂ r₂ .none st₂
    | ret hv => exact back (.ret _) S' ρ' _ h' tk' p₂ r₂ hv st₂
  · exact wpAny_mono (hX _ e s' hXe) (fun _ s'' z => x e s'' z) fun _ _ z => z.elim
theorem CW.def {body : List Stmt} {K : Frag} {c : Cx} {S : St} {f : Addr} {fd : FuncData} {vs dvs : List V} {ds : List Value} {names : List Str} {oc : Value} {od : Option Addr} {sl : Array (Option Value)} {P : V → St → Prop} (X : Env → Value → Shared → Prop)
    (hW : Wd K c.g.h) (ho : K.lookup f = some ⟨oc, od, .func fd, sl⟩) (hcd : codeIn K fd.code fd.qualname = true) (hbody : fd.body = .stmts body) (hclo : fd.closure = []) (hroom : c.A.depth < recursionLimit)
    (hlen : names.length = (vs ++ dvs).length) (hds : ∀ h ρ, VRs h ρ dvs ds) (hnd : names.Nodup)
    (hb : ∀ (s : Shared) (us : List Value), (∀ b o, c.g.h.get? b = some o → s.heap.get? b = some o) → us.length = vs.length → BindsTo s fd ⟨us, []⟩ (names.zip (us ++ ds)))
    (hkinds : (names.all fun x => fd.scope.names.lookup x == some .local || fd.scope.names.lookup x == some .cell) = true)
    (hcn : ((cellsFrom 0 fd.scope.names []).map (·.1)).Nodup)
    (hX : ∀ L e s', X (callEnvC fd L f) e s' → wpAny (model c.prog c.w) (c.A.deeper (callEnvC fd L f)) (leaving (callEnvC fd L f) e) (fun _ s'' => c.X e s'') (fun _ _ => False) s')
    (h : ∀ L, XW (c.into fd f L (X (callEnvC fd L f))) ⟨names.zip (vs ++ dvs), S.sto⟩ body (Done S P))
    (hco : autoParam (fd.scope.isCoroutine = false) syn1) (hgen : autoParam (fd.scope.isGenerator = false) syn1) (hk : autoParam (fd.scope.kind = .function) syn1) : CW c S (.ref f) vs P :=
  CW.ofCC (CC.def X hW ho hcd hbody hclo hroom hlen hds hnd hb hkinds hcn hX h hco hgen hk)
end
end

section
open PySem PySem.W PyProof.Rows PySem.Calls
open Builtin.Str (spaceWords partsBetween occurrences)
section
variable {c : Cx} {S : St} {K : Frag}

theorem Str.eq_toList (a b : Str) : (a.cps.toList == b.cps.toList) = decide (a = b) := by
  by_cases h : a = b
  · subst h; simp
  · have : a.cps.toList ≠ b.cps.toList := fun e => h (Str.ext' (Array.toList_inj.mp e))
    rw [decide_eq_false h]; exact beq_eq_false_iff_ne.mpr this

theorem OW2.strs {a b : Str} {S : St} {t : Value → Value → Sem Value} {P : V → St → Prop} (v : V) (p : P v S)
    (h : ∀ (s : Shared) (ta tb : Tok) (Q : Value → Shared → Prop) (E : Value → Shared → Prop), (∀ u tk, (∀ ρ, VR s.heap ρ v u) → Q u { s with toks := tk }) → wpAny (model c.prog c.w) c.A (t (.str a ta) (.str b tb)) Q E s) : OW2 c VR S (.str a) (.str b) t P := by
  intro ρ s x y Q E r h1 h2 q _
  cases h1; cases h2
  exact h s _ _ Q E fun u tk hu => q v S ρ u s.heap tk p (r.keep tk fun _ _ e => e) (hu ρ) (.refl ..)
theorem Op.eqS {a b : Str} {c : Cx} {S : St} {P : V → St → Prop} (p : P (.bool (decide (a = b))) S) : OW2 c VR S (.str a) (.str b) (compareOp .Eq) P :=
  OW2.strs _ p fun s _ _ _ _ q => PySem.P.eq_str (q _ s.toks fun _ => by rw [Str.eq_toList]; exact .bool _)
theorem Op.neS {a b : Str} {c : Cx} {S : St} {P : V → St → Prop} (p : P (.bool (!decide (a = b))) S) : OW2 c VR S (.str a) (.str b) (compareOp .NotEq) P :=
  OW2.strs _ p fun s _ _ _ _ q => PySem.P.ne_str (q _ s.toks fun _ => by
    rw [show (a.cps.toList != b.cps.toList) = !decide (a = b) from by rw [← Str.eq_toList]; rfl]; exact .bool _)
theorem Op.addS {a b : Str} {c : Cx} {S : St} {P : V → St → Prop} (hz : (a ++ b).length ≤ sizeLine) (p : P (.str (a ++ b)) S) : OW2 c VR S (.str a) (.str b) (binaryOp .Add) P :=
  OW2.strs _ p fun s ta tb Q E q => PySem.P.add_str (by
    by_cases ha : (a.length == 0) = true
    · rw [if_pos ha]
      have : a ++ b = b := by
        have h0 : a.cps = #[] := Array.eq_empty_of_size_eq_zero (beq_iff_eq.mp ha)
        exact Str.ext' (by rw [Str.cps_append, h0]; simp)
      rw [this] at q
      exact q _ s.toks fun _ => .str _ _
    · rw [if_neg ha]
      by_cases hb : (b.length == 0) = true
      · rw [if_pos hb]
        have : a ++ b = a := by
          have h0 : b.cps = #[] := Array.eq_empty_of_size_eq_zero (beq_iff_eq.mp hb)
          exact Str.ext' (by rw [Str.cps_append, h0]; simp)
        rw [this] at q
        exact q _ s.toks fun _ => .str _ _
      · rw [if_neg hb]
        exact ⟨hz, q _ (s.toks + 1) fun _ => .str _ _⟩)
theorem Op.inS {a b : Str} {c : Cx} {S : St} {P : V → St → Prop} (p : P (.bool (Txt.contains b a)) S) : OW2 c VR S (.str a) (.str b) (compareOp .In) P :=
  OW2.strs _ p fun s _ _ _ _ q => PySem.SB.contains (q _ s.toks fun _ => .bool _)

noncomputable abbrev JW (c : Cx) (S : St) (out : Str) (l : List Expr) (P : V → St → Prop) : Prop := TW c VR S (joinParts out (evalEach l c.env)) P
theorem JW.nil {out : Str} {c : Cx} {S : St} {P : V → St → Prop} (hz : out.length ≤ sizeLine) (p : P (.str out) S) : JW c S out [] P :=
  TW.tok _ p fun _ s _ _ _ q => joinParts_nil (q _ _ (.str _ _)) hz
theorem JW.cons {out : Str} {e : Expr} {rest : List Expr} {c : Cx} {S : St} {P : V → St → Prop} (h : EW c S e fun v S₁ => ∃ y, A3 (v = .str y) ((out ++ y).length ≤ sizeLine) (JW c S₁ (out ++ y) rest P)) : JW c S out (e :: rest) P := by
  intro ρ s Q E r q x
  refine joinParts_cons (h ρ s _ E r (fun v S₁ ρ₁ u₁ h₁ tk₁ p₁ r₁ v₁ st₁ => ?_) x)
  obtain ⟨y, rfl, hz, p⟩ := p₁
  cases v₁
  exact ⟨hz, p ρ₁ _ _ E r₁ (fun v S₂ ρ₂ u₂ h₂ tk₂ p₂ r₂ v₂ st₂ => q v S₂ ρ₂ u₂ h₂ tk₂ p₂ r₂ v₂ (st₁.trans st₂)) x⟩
theorem EW.fstr {e₁ e₂ : Expr} {rest : List Expr} {pos : Pos} {c : Cx} {S : St} {P : V → St → Prop} (h : JW c S Str.empty (e₁ :: e₂ :: rest) P) : EW c S (.JoinedStr (e₁ :: e₂ :: rest) pos) P :=
  fun ρ s Q E r q x => JoinedStr_many (h ρ s Q E r q x)
theorem EW.fstr1 {e : Expr} {pos : Pos} {c : Cx} {S : St} {P : V → St → Prop} (h : EW c S e P) : EW c S (.JoinedStr [e] pos) P :=
  fun ρ s Q E r q x => JoinedStr_one (h ρ s Q E r q x)
noncomputable def istr (i : Int) : Str := Str.ofString (toString i)
theorem EW.fmt {e : Expr} {pos : Pos} {c : Cx} {S : St} {P : V → St → Prop} (h : EW c S e fun v S₁ => (∃ y, v = .str y ∧ y.length ≤ sizeLine ∧ P (.str y) S₁) ∨ ∃ i : Int, v = .int i ∧ i.natAbs.log2 < 1920 ∧ P (.str (istr i)) S₁) : EW c S (.FormattedValue e (-1) Option.none pos) P := by
  intro ρ s Q E r q x
  refine FormattedValue_plain (h ρ s _ E r (fun v S₁ ρ₁ u₁ h₁ tk₁ p₁ r₁ v₁ st₁ => ?_) x)
  rcases p₁ with ⟨y, rfl, hz, p⟩ | ⟨i, rfl, hz, p⟩
  · cases v₁
    exact formatField_str (fun t' tk => q _ S₁ ρ₁ _ h₁ tk p (r₁.keep tk fun _ _ e => e) (.str _ _) st₁) hz
  · cases v₁
    exact formatField_int_small hz (q _ S₁ ρ₁ _ h₁ _ p (r₁.keep _ fun _ _ e => e) (.str _ _) st₁)
theorem StrOf.int {i : Int} {P : V → St → Prop} (hz : i.natAbs.log2 < 1920) (p : P (.str (istr i)) S) : CW c S (.type "str") [.int i] P := by
  refine OWs.fresh _ p fun ρ s xs Q E r hx q => ?_
  cases hx with
  | cons a b => cases b; cases a
                exact PySem.P.str_of_int hz (q _ s.heap _ (fun _ _ e => e) (.str _ _))

theorem EW.strMeth {o : Expr} {name : Str} {apos pos : Pos} {args : List Expr} {id : String} {c : Cx} {S : St} {P : V → St → Prop} (slot : Slot "str" name id) (hty : typeOf (.builtin id) = pure (.type "method_descriptor"))
    (h : EW c S o fun a S₁ => ∃ y, a = .str y ∧ AW c S₁ pos args fun bs S₂ => CW c S₂ (.builtin id) (.str y :: bs) P)
    (hbase : autoParam (attributeBase o name c.env (eval o c.env) = eval o c.env) syn7)
    (hfew : autoParam (((backTo pos (starEach args c.env)).all (fun x => !x.1) && (backToKw pos (keywordEach [] c.env)).all (fun x => x.1.isSome) && decide (args.length + ([] : List Keyword).length + (if ([] : List Keyword).isEmpty then 0 else 1) < 30)) = true) syn1)
    (hline : autoParam ((apos.endLine == pos.line) = true) syn1)
    (hargs : autoParam (args = [] ∨ ∃ e rest, args = e :: rest ∧ starEach (e :: rest) c.env = (false, eval e c.env) :: starEach rest c.env ∧ (backTo pos (starEach rest c.env)).any (·.1) = false) syn8) :
    EW c S (.Call (.Attribute o name apos) args [] pos) P := by
  intro ρ s Q E r q x
  refine wpAny_Call_method_lateS hbase hfew hline (h ρ s _ E r (fun a S₁ ρ₁ u₁ h₁ tk₁ p₁ r₁ v₁ st₁ => ?_) x)
  obtain ⟨y, rfl, p₁⟩ := p₁
  cases v₁ with
  | str _ t =>
    refine ⟨"str", id, PySem.F.plainAttrs_str, slot, hty, rfl, fun a z => (by cases z), ?_⟩
    have main : wpAny (model c.prog c.w) c.A (spliced (backTo pos (starEach args c.env))) (fun vs' s₂ => wpAny (model c.prog c.w) c.A (call (.builtin id) ([Value.str y t] ++ vs')) Q E s₂) E (shT s h₁ tk₁) :=
      p₁ ρ₁ _ _ E r₁ (fun bs S₂ ρ₂ us₂ h₂ tk₂ p₂ r₂ v₂ st₂ => p₂ ρ₂ _ _ Q E r₂ (.cons (.str y t) v₂) (fun v S₃ ρ₃ u₃ h₃ tk₃ p₃ r₃ v₃ st₃ => q v S₃ ρ₃ u₃ h₃ tk₃ p₃ r₃ v₃ (st₁.trans (st₂.trans st₃))) x) x
    rcases hargs with rfl | ⟨e', rest, rfl, he, hpl⟩
    · refine callWith_method0 ?_
      have : spliced (backTo pos (starEach [] c.env)) = pure [] := rfl
      rw [this] at main
      exact fun Γ p hΓ => main Γ p hΓ Γ p hΓ
    · exact callWith_method1 main he hpl

theorem VRs.texts {h : Heap} {ρ : Rho} : ∀ {xs : List Str} {us : List Value}, VRs h ρ (xs.map .str) us → ∃ l : List (Str × Tok), l.map (·.1) = xs ∧ us = strValues l
  | [], _, .nil => ⟨[], rfl, rfl⟩
  | x :: xs, _, .cons a b => by
    obtain ⟨l, h1, h2⟩ := VRs.texts b
    cases a with
    | str _ t => exact ⟨(x, t) :: l, by simp [h1], by simp [strValues, h2]⟩
theorem strsRel {h : Heap} {ρ : Rho} : ∀ (tk : Nat) (xs : List Str), VRs h ρ (xs.map .str) (strsFrom tk xs)
  | _, [] => .nil
  | tk, x :: r => .cons (.str x tk) (strsRel (tk + 1) r)

theorem StrM.join {sep : Str} {c : Cx} {S : St} {xs : List Str} {P : V → St → Prop} (hz : JoinOk sep xs = true) (p : P (.str (Txt.join sep xs)) S) : CW c S (.builtin "str.join") [.str sep, .lst (xs.map .str)] P := by
  refine OWs.fresh _ p fun ρ s us Q E r hx q => ?_
  cases hx with
  | cons a b => cases b with
    | cons b d => cases d; cases a; cases b with
      | lst hl hm hv =>
        obtain ⟨l, h1, rfl⟩ := hv.texts
        exact PySem.SC.join hl.isList h1 hz fun t' k => q _ s.heap k (fun _ _ e => e) (.str _ _)
theorem StrM.joinRef {sep : Str} {c : Cx} {S : St} {xs : List Str} {j : Nat} {P : V → St → Prop} (hj : S.sto[j]? = some (.lst (xs.map .str))) (hz : JoinOk sep xs = true) (p : P (.str (Txt.join sep xs)) S) : CW c S (.builtin "str.join") [.str sep, .ref j] P := by
  refine OWs.fresh _ p fun ρ s us Q E r hx q => ?_
  cases hx with
  | cons a b => cases b with
    | cons b d => cases d; cases a; cases b with
      | ref hp =>
        obtain ⟨e, us, hl, hv⟩ := r.sto j _ _ hp hj
        obtain ⟨l, h1, rfl⟩ := hv.texts
        exact PySem.SC.join hl.isList h1 hz fun t' k => q _ s.heap k (fun _ _ e => e) (.str _ _)

theorem push_list {us : List Value} {ρ : Rho} {s : Shared} {vs : List V} (r : c.Rel ρ S s) (hv : VRs s.heap ρ vs us) : (∀ b o, s.heap.get? b = some o → (s.heap.push { cls := .type "list", data := .seq us.toArray }).get? b = some o) ∧ VR (s.heap.push { cls := .type "list", data := .seq us.toArray }) ρ (.lst vs) (.ref s.heap.objs.size) := by
  have kk : ∀ b o, s.heap.get? b = some o → (s.heap.push { cls := .type "list", data := .seq us.toArray }).get? b = some o := fun b o e => Heap.get?_push_of_some _ e
  exact ⟨kk, .lst ⟨0, Heap.get?_push_size _ rfl⟩ r.mutLt (hv.step r.frame (Step.ofKeep kk))⟩

theorem StrM.split0 {x : Str} {c : Cx} {S : St} {P : V → St → Prop} (hz : x.length ≤ sizeLine) (hz2 : (spaceWords x (x.length + 1)).length ≤ sizeLine) (p : P (.lst ((Txt.words x).map .str)) S) : CW c S (.builtin "str.split") [.str x] P := by
  refine OWs.fresh _ p fun ρ s us Q E r hx q => ?_
  cases hx with
  | cons a b => cases b; cases a with
    | str _ t =>
      refine call_meets PySem.F.slot_str_split (typeIs_str _ _ _) PySem.F.entry_str_split (PySem.F.args_str_split_1 _) (meets_str_split_space x t hz hz2) ?_
      unfold Txt.words at q
      split
      · rename_i hc
        rw [if_pos hc] at q
        have z := push_list (us := [.str x t]) r (.cons (.str x t) .nil)
        exact q _ _ _ z.1 z.2
      · rename_i hc
        rw [if_neg hc] at q
        have z := push_list (us := strsFrom s.toks (PySem.wordsOf x)) r (strsRel s.toks (PySem.wordsOf x))
        exact q _ _ _ z.1 z.2
theorem StrM.split1 {x y : Str} {c : Cx} {S : St} {P : V → St → Prop} (hy : (y.length == 0) = false) (hz : x.length ≤ sizeLine) (hz2 : (partsBetween x (occurrences x y 0 x.length (x.length + 1)) y.length).length ≤ sizeLine) (p : P (.lst ((Txt.split x y).map .str)) S) : CW c S (.builtin "str.split") [.str x, .str y] P := by
  refine OWs.fresh _ p fun ρ s us Q E r hx q => ?_
  cases hx with
  | cons a b => cases b with
    | cons b d => cases d; cases a with
      | str _ t => cases b with
        | str _ u =>
          unfold Txt.split at q
          cases h1 : (decide (x.length < y.length) || decide (Builtin.Str.strKind x < Builtin.Str.strKind y))
          · rw [h1, if_neg Bool.false_ne_true] at q
            cases hf : (occurrences x y 0 x.length (x.length + 1)).isEmpty
            · rw [hf, if_neg Bool.false_ne_true] at q
              refine call_meets PySem.F.slot_str_split (typeIs_str _ _ _) PySem.F.entry_str_split (PySem.F.args_str_split_2 _ _) (meets_str_split_sep x y t u h1 hy hf hz hz2) ?_
              have z := push_list (us := strsFrom s.toks (partsBetween x (occurrences x y 0 x.length (x.length + 1)) y.length)) r (strsRel s.toks _)
              exact q _ _ _ z.1 z.2
            · rw [hf, if_pos rfl] at q
              refine call_meets PySem.F.slot_str_split (typeIs_str _ _ _) PySem.F.entry_str_split (PySem.F.args_str_split_2 _ _) (meets_str_split_not_found x y t u h1 hy hf) ?_
              have z := push_list (us := [.str x t]) r (.cons (.str x t) .nil)
              exact q _ _ _ z.1 z.2
          · rw [h1, if_pos rfl] at q
            refine call_meets PySem.F.slot_str_split (typeIs_str _ _ _) PySem.F.entry_str_split (PySem.F.args_str_split_2 _ _) (meets_str_split_cannot_occur x y t u h1) ?_
            have z := push_list (us := [.str x t]) r (.cons (.str x t) .nil)
            exact q _ _ _ z.1 z.2
theorem Item.str {x : Str} {value slice : Expr} {c : Cx} {S : St} {i : Int} {P : V → St → Prop} (h0 : -(x.length : Int) ≤ i) (h1 : i < x.length) (hb : fitsSsize i = true) (p : P (.str (Txt.item x i)) S) (hs : autoParam (PlainSub slice) syn6) :
    OW2 c VR S (.str x) (.int i) (fun a b => subscriptTail value slice a b) P := by
  intro ρ s a b Q E r hx hy q _
  cases hx with
  | str _ t => cases hy with
    | int _ u =>
      refine tail_any (typeIs_str s x t) PySem.F.slot_str_getitem.lookup (PySem.SB.getItem hb (charAt_isSome h0 h1) ?_) (hs _ _)
      exact q _ S ρ _ s.heap _ p (r.keep _ fun _ _ e => e) (.str _ _) (.refl ..)
end
end

section
open PySem PySem.W PyProof.Rows PySem.Calls
theorem codeAny_compLoop_go {prog : Program} {w : World} {A : Around} {R : Result → Shared → Prop} {s : Shared} {elt target iter : Expr} {ifs : List Expr} {scope : Scope} {pos : Pos} {it acc : Value} {env : Env} (I : Nat → Shared → Prop)
    (turn : ∀ n s, I n s → wpAny (model prog w) A (pyNext it) (fun r s₁ => match r with
      | none => R (.ok .next) s₁
      | some v => wpAny (model prog w) A (letOwnedTupleGo target it v) (fun _ s₁' => wpAny (model prog w) A (assign target env v) (fun _ s₂ =>
          wpAny (model prog w) A (forIn ifs true fun c r => if r = true then do let ok ← isTrue c env (eval c env); pure (ForInStep.yield ok) else pure (ForInStep.yield r)) (fun ok s₃ =>
            if ok = true then wpAny (model prog w) A (eval elt env) (fun x s₄ =>
              wpAny (model prog w) A (call (.builtin "list.append") [acc, x]) (fun _ s₅ => ∃ m, m < n ∧ I m s₅) (fun _ _ => False) s₄) (fun _ _ => False) s₃
            else ∃ m, m < n ∧ I m s₃) (fun _ _ => False) s₂) (fun _ _ => False) s₁') (fun _ _ => False) s₁) (fun _ _ => False) s)
    (n : Nat) (h : I n s) :
    codeAny (model prog w) A (.compLoop (.ListComp elt [⟨target, iter, ifs, 0⟩] scope pos) 0 it acc env) R s := by
  refine codeAny_loop rfl I (fun n s hI => ?_) n h
  show wpAny _ A ((compTurn (.ListComp elt [⟨target, iter, ifs, 0⟩] scope pos) 0 it acc env).onRaise (fun x => do noteFrame x env; theTreesLotGoes x)) _ _ s
  refine wpAny_noted ?_
  refine wpAny_noRaise ?_
  rw [compTurn_list]
  refine wpAny_bind (wpAny_standAt (wpAny_bind (wpAny_mono (turn n s hI) (fun r s₁ h₁ => ?_) fun _ _ h' => h')))
  cases r with
  | none => exact wpAny_pure h₁
  | some v =>
    refine wpAny_bind (wpAny_mono h₁ (fun _ s₁' h₁' => ?_) fun _ _ h' => h')
    refine wpAny_bind (wpAny_mono h₁' (fun _ s₂ h₂ => wpAny_bind (wpAny_mono h₂ (fun ok s₃ h₃ => ?_) fun _ _ h' => h')) fun _ _ h' => h')
    cases ok with
    | false => exact wpAny_pure ⟨rfl, h₃⟩
    | true =>
      exact wpAny_bind (wpAny_bind (wpAny_mono h₃ (fun x s₄ h₄ => wpAny_bind (wpAny_mono h₄ (fun _ s₅ h₅ => wpAny_pure (wpAny_pure ⟨rfl, h₅⟩)) fun _ _ h' => h')) fun _ _ h' => h'))

theorem heapWith (h h'' : Heap) (I : Addr) (hI : ∃ o, h.get? I = some o) : ∃ hX : Heap, hX.get? I = h''.get? I ∧ ∀ b, b ≠ I → hX.get? b = h.get? b := by
  obtain ⟨o, ho⟩ := hI
  cases q : h''.get? I with
  | some o' => exact ⟨h.update I fun _ => o', Heap.get?_update_self _ ho (Heap.get?_some_iff.mp q).2, fun b hb => Heap.get?_update_other _ _ (Ne.symm hb)⟩
  | none =>
    refine ⟨h.update I fun _ => { cls := .none, data := .freed }, ?_, fun b hb => Heap.get?_update_other _ _ (Ne.symm hb)⟩
    have e1 := (Heap.get?_some_iff.mp ho).1
    cases h
    simp only [Heap.update, Heap.get?, Array.getElem?_modify, if_true] at e1 ⊢
    rw [e1]; rfl

structure StepX (I : Addr) (env : Env) (ρ : Rho) (h : Heap) (ρ' : Rho) (h' : Heap) : Prop where
  more : ∃ τ, ρ' = ρ ++ τ ∧ ∀ p ∈ τ, h.get? p.1 = none ∧ h.get? p.2 = none
  dom : ∀ b o, b ≠ I → h.get? b = some o → ∃ o', h'.get? b = some o'
  keep : ∀ b o, b ≠ I → h.get? b = some o → (∀ p ∈ ρ, p.2 ≠ b) → b ≠ env.locals → (env.func.isSome = true → ∀ c ∈ env.cells, c.2 ≠ b) → h'.get? b = some o
theorem StepX.trans {I : Addr} {env : Env} {ρ ρ₁ ρ₂ : Rho} {h h₁ h₂ : Heap} (x : StepX I env ρ h ρ₁ h₁) (hI : ∃ o, h₁.get? I = some o) (y : Step env ρ₁ h₁ ρ₂ h₂) : StepX I env ρ h ρ₂ h₂ := by
  obtain ⟨⟨τ, rfl, hτ⟩, d, k⟩ := x
  obtain ⟨⟨τ', rfl, hτ'⟩, d', k'⟩ := y
  have none_back : ∀ b, h₁.get? b = none → h.get? b = none := fun b e => by
    cases q : h.get? b with
    | none => rfl
    | some o =>
      by_cases hb : b = I
      · subst hb; obtain ⟨o', e'⟩ := hI; rw [e] at e'; cases e'
      · obtain ⟨o', e'⟩ := d b o hb q; rw [e] at e'; cases e'
  refine ⟨⟨τ ++ τ', by simp, fun p hp => ?_⟩, fun b o hb e => ?_, fun b o hb e h1 h2 h3 => ?_⟩
  · rcases List.mem_append.mp hp with hp | hp
    · exact hτ p hp
    · exact ⟨none_back _ (hτ' p hp).1, none_back _ (hτ' p hp).2⟩
  · obtain ⟨o', e'⟩ := d b o hb e
    exact d' b o' e'
  · refine k' b o (k b o hb e h1 h2 h3) (fun p hp => ?_) h2 h3
    rcases List.mem_append.mp hp with hp | hp
    · exact h1 p hp
    · rintro rfl; rw [(hτ p hp).2] at e; cases e
theorem StepX.other {I : Addr} {env : Env} {ρ ρ₁ : Rho} {h h₁ h₂ : Heap} (x : StepX I env ρ h ρ₁ h₁) (k : ∀ b o, b ≠ I → h₁.get? b = some o → h₂.get? b = some o) : StepX I env ρ h ρ₁ h₂ :=
  ⟨x.more, fun b o hb e => let ⟨o', e'⟩ := x.dom b o hb e; ⟨o', k b o' hb e'⟩, fun b o hb e h1 h2 h3 => k b o hb (x.keep b o hb e h1 h2 h3)⟩

theorem frames_keep {h h' base : Heap} {I : Addr} {l : List Env} (hf : ∀ b ∈ l.filterMap (·.frame), b ≠ I) (k : ∀ b o, b ≠ I → h.get? b = some o → h'.get? b = some o) (x : h.FunFrames base l) : h'.FunFrames base l :=
  FunFrames.map (fun env he L o e1 e2 e3 e4 => ⟨e2, o, k L o (hf L (List.mem_filterMap.mpr ⟨env, he, e1⟩)) e3, e4⟩) x
theorem held_not {g : Gd} {env : Env} {ρ : Rho} {h : Heap} {C : Addr} (fC : h.get? C = none) (x : g.Held env ρ h) : ∀ p ∈ g.held, p.1 ≠ C := by
  rintro p hp z
  obtain ⟨⟨o, e, _⟩, _⟩ := x p hp
  rw [z, fC] at e; cases e
theorem frames_not {h base : Heap} {C : Addr} (fC : h.get? C = none) {l : List Env} (x : h.FunFrames base l) : ∀ b ∈ l.filterMap (·.frame), b ≠ C := by
  rintro b hb rfl
  obtain ⟨_, o, ho, _⟩ := x.mem hb
  rw [fC] at ho; cases ho

theorem Rel.otherDict {prog : Program} {w : World} {g : Gd} {env : Env} {ρ : Rho} {S : St} {s : Shared} (r : Rel prog w g env ρ S s) {I : Addr} {oI : Obj} {es : Array DictEntry} {n : Nat} {h' : Heap} (tk : Nat)
    (ho : s.heap.get? I = some oI) (hd : oI.data = .dict es n) (hg : g.h.get? I = none) (hm : ∀ p ∈ ρ, p.2 ≠ I) (hl : env.locals ≠ I) (hfI : ∀ b ∈ g.stack.filterMap (·.frame), b ≠ I) (hHI : ∀ p ∈ g.held, p.1 ≠ I) (k : ∀ b o, b ≠ I → s.heap.get? b = some o → h'.get? b = some o) : Rel prog w g env ρ S (shT s h' tk) ∧ ∀ {v : V} {u : Value}, VR s.heap ρ v u → VR h' ρ v u := by
  have nD : ∀ {b o}, s.heap.get? b = some o → (∀ es n, o.data ≠ .dict es n) → b ≠ I := by
    rintro b o e hn rfl; rw [ho] at e; cases e; exact hn _ _ hd
  have ks : ∀ b o its n, s.heap.get? b = some o → o.data = .seq its n → h'.get? b = some o := fun b o its n e d => k b o (nD e fun _ _ q => by rw [d] at q; cases q) e
  have kns : ∀ {a : Addr} {m : Str → Option Value}, a ≠ I → s.heap.Ns a m → h'.Ns a m := fun ha ⟨o, es, ep, e, d, x⟩ => ⟨o, es, ep, k _ o ha e, d, x⟩
  have kvr : ∀ {v : V} {u : Value}, VR s.heap ρ v u → VR h' ρ v u := fun x => x.same ks
  refine ⟨{ gens := r.gens, base := fun b o e => k b o (by rintro rfl; rw [hg] at e; cases e) (r.base b o e), gL := r.gL, gC := r.gC, gM := r.gM, ro := r.ro, ns := ?_, cells := fun y hy => ?_, mL := r.mL, mC := r.mC, cL := r.cL, vars := fun x v e => ?_, len := r.len, sto := fun i p o e1 e2 => ?_, nd := r.nd, cd := r.cd, frs := frames_keep hfI k r.frs, held := fun p hp => let ⟨⟨o, e, d⟩, a⟩ := r.held p hp; ⟨⟨o, k _ o (hHI p hp) e, d⟩, a⟩ }, kvr⟩
  · obtain ⟨m, hmm⟩ := r.ns; exact ⟨m, kns hl hmm⟩
  · obtain ⟨o, v, e, d⟩ := r.cells y hy
    exact ⟨o, v, k _ o (nD e fun _ _ q => by rw [d] at q; cases q) e, d⟩
  · obtain ⟨u, a, b⟩ := r.vars x v e
    exact ⟨u, Var.move (kns hl) (fun _ o _ _ a3 a4 => k _ o (nD a3 fun _ _ q => by rw [a4] at q; cases q) a3) a, kvr b⟩
  · have hp := hm p (List.mem_of_getElem? e1)
    exact (r.sto i p o e1 e2).map kvr (fun e ob z => k _ _ (by rw [e]; exact hp) z) (fun _ C z => k _ _ (nD z fun _ _ q => by cases q) z) fun _ ob z => k _ _ hp z

noncomputable abbrev TsW (c : Cx) (S : St) (ifs : List Expr) (P : Bool → St → Prop) : Prop :=
  TW c SameR S (forIn ifs true fun e r => if r = true then do let ok ← isTrue e c.env (eval e c.env); pure (ForInStep.yield ok) else pure (ForInStep.yield r)) P
theorem TsW.nil {c : Cx} {S : St} {P : Bool → St → Prop} (p : P true S) : TsW c S [] P :=
  fun ρ s Q E r q _ => wpAny_tests_nil (q true S ρ true s.heap s.toks p r (.mk _) (.refl ..))
theorem TsW.one {c : Cx} {S : St} {e : Expr} {P : Bool → St → Prop} (h : BW c S e P) : TsW c S [e] P :=
  fun ρ s Q E r q x => wpAny_tests_one (h ρ s Q E r q x)

noncomputable def freeLoc (cl : List (Str × Addr)) (loc : List (Str × V)) : List (Str × V) := loc.filter fun p => (cl.lookup p.1).isSome
theorem freeLoc_none {cl : List (Str × Addr)} {x : Str} (h : (cl.lookup x).isSome = false) : ∀ {loc : List (Str × V)}, (freeLoc cl loc).lookup x = none
  | [] => rfl
  | (y, v) :: r => by
    have ih := freeLoc_none h (loc := r)
    unfold freeLoc at ih ⊢
    rw [List.filter_cons]
    split
    · rename_i h'
      rw [List.lookup_cons]
      have : (x == y) = false := beq_eq_false_iff_ne.mpr (by rintro rfl; rw [h] at h'; cases h')
      rw [this]; exact ih
    · exact ih
theorem freeLoc_some {cl : List (Str × Addr)} {x : Str} (h : (cl.lookup x).isSome = true) : ∀ {loc : List (Str × V)}, (freeLoc cl loc).lookup x = loc.lookup x
  | [] => rfl
  | (y, v) :: r => by
    have ih := freeLoc_some h (loc := r)
    unfold freeLoc at ih ⊢
    rw [List.filter_cons, List.lookup_cons]
    split
    · rename_i h'
      rw [List.lookup_cons, ih]
    · rename_i h'
      have : (x == y) = false := beq_eq_false_iff_ne.mpr (by rintro rfl; exact h' h)
      rw [this]; exact ih

noncomputable def Cx.comp (c : Cx) (scope : Scope) (cl : List (Str × Addr)) (C : Addr) : Cx := { c with env := compEnvC scope cl C c.env, X := fun _ _ => False }

noncomputable def ClOk (c : Cx) (scope : Scope) (cl : List (Str × Addr)) : Prop :=
  (∀ y ∈ cl, y ∈ c.env.cells) ∧ (cl.Pairwise fun x y => x.2 ≠ y.2) ∧ ∀ x a, cl.lookup x = some a → c.env.cells.lookup x = some a ∧ c.env.kindOf x ≠ some .local ∧ ∀ C, ((compEnvC scope cl C c.env).kindOf x = some .cell ∨ (compEnvC scope cl C c.env).kindOf x = some .free)

inductive CompInv (c : Cx) (env : Env) (C I D : Addr) (J : Addr → Nat → St → Prop) (T : Nat → Rho → Heap → Prop) (s : Shared) (ρ : Rho) (n L k : Nat) (s' : Shared) : Prop
  | mk (i : Nat) (ρ' : Rho) (S' : St) (h' : Heap) (tk : Nat) (e : s' = (shT s h' tk)) (hJ : J C i S') (r : Rel c.prog c.w c.g env ρ' S' s') (hT : T i ρ' h') (sx : StepX I env ρ s.heap ρ' h') (pD : ρ'[L]? = some (D, D)) (hi : i ≤ n) (hk : k = n + 1 - i)

theorem comp_block {c : Cx} {elt target iter : Expr} {ifs : List Expr} {scope : Scope} {pos : Pos} {cl : List (Str × Addr)} {I : Addr} {vs : List V} {G : St → Prop} {T : Nat → Rho → Heap → Prop} (W : It c target I vs G T) {S : St} {ρ : Rho} {s : Shared} (r : c.Rel ρ S s) (hT : T 0 ρ s.heap) (hgI : c.g.h.get? I = none)
    (hcell : ∀ y ∈ scope.names, y.2 ≠ .cell) (hkind : scope.kind = .function) (hcl : ClOk c scope cl) {J : Addr → Nat → St → Prop}
    (h0 : ∀ C, J C 0 ⟨freeLoc cl S.loc, S.sto ++ [.lst []]⟩) (hG : ∀ C i S, J C i S → G S)
    (turn : ∀ C i v S', vs[i]? = some v → J C i S' → AsW (c.comp scope cl C) S' target v fun S2 => TsW (c.comp scope cl C) S2 ifs fun ok S3 => (ok = false → J C (i + 1) S3) ∧ (ok = true → EW (c.comp scope cl C) S3 elt fun u S4 => ∃ ws, A3 (S4.sto[S.sto.length]? = some (.lst ws)) (ws.length ≤ sizeLine) (J C (i + 1) (S4.put S.sto.length (.lst (ws ++ [u]))))))
    {RR : Value → Addr → Result → Shared → Prop} {E : Value → Shared → Prop}
    (hRR : ∀ D C S' ρ' h' tk, J C vs.length S' → Rel c.prog c.w c.g (compEnvC scope cl C c.env) ρ' S' (shT s h' tk) → StepX I (compEnvC scope cl C c.env) ρ s.heap ρ' h' → s.heap.get? C = none → s.heap.get? D = none → ρ'[S.sto.length]? = some (D, D) → RR (.ref D) C (.ok .next) (shT s h' tk)) :
    wpAny (model c.prog c.w) c.A (newList []) (fun acc s₃ => wpAny (model c.prog c.w) c.A (newFunctionEnv scope c.env.globals cl [] c.env.qual none .none (some c.env)) (fun cenv s₄ =>
      codeAny (model c.prog c.w) c.A (.compStart (.ListComp elt [⟨target, iter, ifs, 0⟩] scope pos) 0 (.ref I) acc { cenv with scope := relabel scope c.env }) (RR acc cenv.locals) s₄) E s₃) E s := by
  refine wpAny_newObj_type (wpAny_newFunctionEnv hcell (by intro y hy; simp at hy) (fun h₁ hns₁ hsb₁ => ?_) hkind)
  dsimp only at hns₁ hsb₁ ⊢
  generalize hH2 : s.heap.push { cls := .type "list", dict := none, data := .seq ([] : List Value).toArray } = H2 at hns₁ hsb₁ ⊢
  have hC : H2.objs.size = s.heap.objs.size + 1 := by rw [← hH2, Heap.size_push]
  have hDC : s.heap.objs.size ≠ H2.objs.size := by rw [hC]; exact Nat.ne_of_lt (Nat.lt_succ_self _)
  generalize hCg : H2.objs.size = C at hns₁ hsb₁ hC hDC ⊢
  generalize hDg : s.heap.objs.size = D at hC hDC ⊢
  have fresh : ∀ a, D ≤ a → s.heap.get? a = none := fun a ha => by
    cases e : s.heap.get? a with
    | none => rfl
    | some o' => exact absurd (Heap.lt_size e) (Nat.not_lt.mpr (hDg ▸ ha))
  have fD := fresh D (Nat.le_refl _)
  have fC := fresh C (by rw [hC]; exact Nat.le_succ _)
  have old : ∀ b o, s.heap.get? b = some o → h₁.get? b = some o := fun b o e => hsb₁.extBut b o (by rintro rfl; rw [fC] at e; cases e) (Heap.get?_push_of_some _ (hH2 ▸ Heap.get?_push_of_some _ e))
  have hacc : h₁.PlainList D #[] := ⟨0, hsb₁.extBut _ _ hDC (Heap.get?_push_of_some _ (hH2 ▸ hDg ▸ Heap.get?_push_size _ rfl))⟩
  have F := r.frame
  have stD : Step c.env ρ s.heap (ρ ++ [(D, D)]) h₁ := ⟨⟨[(D, D)], rfl, fun q hq => by simp at hq; subst hq; exact ⟨fD, fD⟩⟩, fun b ob e => ⟨ob, old b ob e⟩, fun b ob e _ _ _ => old b ob e⟩
  have gnone : ∀ a, s.heap.get? a = none → c.g.h.get? a = none := fun a e => by
    cases z : c.g.h.get? a with
    | none => rfl
    | some o => rw [r.base _ _ z] at e; cases e
  obtain ⟨hcl1, hcl2, hcl3⟩ := hcl
  -- the state inside
  have r₁ : Rel c.prog c.w c.g (compEnvC scope cl C c.env) (ρ ++ [(D, D)]) ⟨freeLoc cl S.loc, S.sto ++ [.lst []]⟩ (shT s h₁ s.toks) := by
    have rn := (r.new (p := (D, D)) (o := .lst []) s.toks old fD fD fun st => ⟨rfl, [], hacc, .nil⟩).1
    refine { gens := rn.gens, base := rn.base, gL := gnone _ fC, gC := fun y hy => rn.gC y (hcl1 y hy), gM := rn.gM, ro := rn.ro, ns := ⟨_, hns₁⟩, cells := fun y hy => rn.cells y (hcl1 y hy), mL := fun p hp => ?_, mC := fun p hp y hy => rn.mC p hp y (hcl1 y hy), cL := fun y hy => ?_, vars := fun x v e => ?_, len := rn.len, sto := rn.sto, nd := rn.nd, cd := hcl2, frs := rn.frs, held := fun p hp => let ⟨a0, a1, a2, a3, a4⟩ := rn.held p hp; let ⟨⟨o, e, _⟩, _⟩ := r.held p hp; ⟨a0, a1, fun z => (by have q : p.1 = C := z; rw [q] at e; have := fC.symm.trans e; cases this), fun y hy => a3 y (hcl1 y hy), a4⟩ }
    · rcases List.mem_append.mp hp with hp | hp
      · intro z; obtain ⟨o, ho⟩ := r.mutAt hp; rw [z] at ho; have := fC.symm.trans ho; cases this
      · simp at hp; subst hp; exact hDC
    · intro z; obtain ⟨o, v, ho, _⟩ := r.cells y (hcl1 y hy); rw [z] at ho; have := fC.symm.trans ho; cases this
    · have e' : (freeLoc cl S.loc).lookup x = some v := e
      cases q : (cl.lookup x).isSome with
      | false => rw [freeLoc_none q] at e'; cases e'
      | true =>
        rw [freeLoc_some q] at e'
        obtain ⟨a, ha⟩ := Option.isSome_iff_exists.mp q
        top_raiseB0
        obtain ⟨u, hu, hv⟩ := rn.vars x v e'
        obtain ⟨c1, c2, c3⟩ := hcl3 x a ha
        refine ⟨u, ?_, hv⟩
        rcases hu with ⟨k1, _⟩ | ⟨k1, a', o, k2, k3, k4⟩
        · exact absurd k1 c2
        · rw [c1] at k2; cases k2
          exact .inr ⟨c3 C, a, o, ha, k3, k4⟩
  have hT₁ : T 0 (ρ ++ [(D, D)]) h₁ := W.frame _ _ _ _ _ _ hT F stD
  have sx₁ : StepX I (compEnvC scope cl C c.env) ρ s.heap (ρ ++ [(D, D)]) h₁ := ⟨stD.more, fun b o _ e => ⟨o, old b o e⟩, fun b o _ e _ _ _ => old b o e⟩
  have pD : (ρ ++ [(D, D)])[S.sto.length]? = some (D, D) := by rw [← r.len]; simp
  have loop : codeAny (model c.prog c.w) c.A (.compLoop (.ListComp elt [⟨target, iter, ifs, 0⟩] scope pos) 0 (.ref I) (.ref D) (compEnvC scope cl C c.env)) (RR (.ref D) C) (shT s h₁ s.toks) := by
    refine codeAny_compLoop_go (CompInv c (compEnvC scope cl C c.env) C I D J T s ρ vs.length S.sto.length) ?_ (vs.length + 1)
      ⟨0, _, _, h₁, s.toks, rfl, h0 C, r₁, hT₁, sx₁, pD, Nat.zero_le _, rfl⟩
    rintro k s' ⟨i, ρ', S', h', tk, rfl, hJ, r', hT', sx', pD', hi, rfl⟩
    top_raiseB0
    obtain ⟨⟨oI, fs, hoI, hdI⟩, hmI⟩ := W.obj _ _ _ hT'
    by_cases hlt : i < vs.length
    · refine W.item _ i ρ' S' _ _ _ r' (hG C i S' hJ) hT' hlt fun v u h₂ tk₂ hv hvr k₂ hT₂ => ?_
      have r₂ := r'.other tk₂ hoI hdI hgI hmI k₂
      have hvr₂ : VR h₂ ρ' v u := hvr.same fun b o its n e d => k₂ b o (notSeq hoI hdI e fun fs z => by rw [d] at z; cases z) e
      have sx₂ := sx'.other k₂
      refine W.go (i + 1) ρ' _ u _ _ hT₂ ?_
      have X0 : EOk (c.comp scope cl C) (fun _ _ => False) := ⟨fun _ _ z => z, PassesOwn.never⟩
      top_raiseB0
      obtain ⟨⟨oI₂, _, hoI₂, _⟩, _⟩ := W.obj _ _ _ hT₂
      refine turn C i v S' hv hJ ρ' _ u _ _ r₂ hvr₂ (fun _ S₃ ρ₃ _ h₃ tk₃ p₃ r₃ _ st₃ => ?_) X0
      have hT₃ := W.frame _ _ _ _ _ _ hT₂ r₂.frame st₃
      have sx₃ := sx₂.trans ⟨_, hoI₂⟩ st₃
      refine p₃ ρ₃ _ _ _ r₃ (fun ok S₄ ρ₄ u₄ h₄ tk₄ p₄ r₄ o₄ st₄ => ?_) X0
      cases o₄
      obtain ⟨⟨oI₃, _, hoI₃, _⟩, _⟩ := W.obj _ _ _ hT₃
      have hT₄ := W.frame _ _ _ _ _ _ hT₃ r₃.frame st₄
      have sx₄ := sx₃.trans ⟨_, hoI₃⟩ st₄
      have keepD : ∀ {ρa ρb : Rho} {ha hb : Heap}, ρa[S.sto.length]? = some (D, D) → Step (compEnvC scope cl C c.env) ρa ha ρb hb → ρb[S.sto.length]? = some (D, D) := fun e st => by
        obtain ⟨τ, rfl, _⟩ := st.more
        rw [List.getElem?_append_left (List.getElem?_eq_some_iff.mp e).1]; exact e
      have pD₄ := keepD (keepD pD' st₃) st₄
      cases ok with
      | false =>
        rw [if_neg Bool.false_ne_true]
        exact ⟨vs.length + 1 - (i + 1), Nat.sub_lt_sub_left (Nat.lt_succ_of_lt hlt) (Nat.lt_succ_self i), i + 1, ρ₄, S₄, h₄, tk₄, rfl, p₄.1 rfl, r₄, hT₄, sx₄, pD₄, by allgen_close_more, rfl⟩
      | true =>
        rw [if_pos rfl]
        refine p₄.2 rfl ρ₄ _ _ _ r₄ (fun y S₅ ρ₅ u₅ h₅ tk₅ p₅ r₅ v₅ st₅ => ?_) X0
        top_raiseB0
        obtain ⟨⟨oI₄, _, hoI₄, _⟩, _⟩ := W.obj _ _ _ hT₄
        have hT₅ := W.frame _ _ _ _ _ _ hT₄ r₄.frame st₅
        have sx₅ := sx₄.trans ⟨_, hoI₄⟩ st₅
        have pD₅ := keepD pD₄ st₅
        obtain ⟨ws, hws, hsz, p₅⟩ := p₅
        refine Meth.append (c := c.comp scope cl C) (P := fun _ S' => J C (i + 1) S') hws r.ro hsz p₅ ρ₅ _ [.ref D, u₅] _ _ r₅ (.cons (.ref pD₅) (.cons v₅ .nil)) (fun z S₆ ρ₆ u₆ h₆ tk₆ p₆ r₆ v₆ st₆ => ?_) X0
        top_raiseB0
        obtain ⟨⟨oI₅, _, hoI₅, _⟩, _⟩ := W.obj _ _ _ hT₅
        exact ⟨vs.length + 1 - (i + 1), Nat.sub_lt_sub_left (Nat.lt_succ_of_lt hlt) (Nat.lt_succ_self i), i + 1, ρ₆, S₆, h₆, tk₆, rfl, p₆, r₆, W.frame _ _ _ _ _ _ hT₅ r₅.frame st₆, sx₅.trans ⟨_, hoI₅⟩ st₆, keepD pD₅ st₆, by allgen_close_more, rfl⟩
    · obtain rfl : i = vs.length := by allgen_close_more
      refine W.done _ ρ' S' _ _ _ r' (hG C _ S' hJ) hT' fun h₂ tk₂ k₂ => ?_
      have r₂ := r'.other tk₂ hoI hdI hgI hmI k₂
      exact hRR D C S' ρ' h₂ tk₂ hJ r₂ (sx'.other k₂) fC fD pD'
  exact codeAny_compStart_list loop (W.self 0 _ _ _ _ hT₁ loop)
end

section
open PySem PySem.W PyProof.Rows PySem.Calls
theorem StepX.toStep {I : Addr} {env : Env} {ρ ρ' : Rho} {h hX h' : Heap} (x : StepX I env ρ h ρ' h') (hI : ∃ o, h.get? I = some o) (h1 : hX.get? I = h'.get? I) (h2 : ∀ b, b ≠ I → hX.get? b = h.get? b) : Step env ρ hX ρ' h' := by
  obtain ⟨⟨τ, rfl, hτ⟩, d, k⟩ := x
  have nI : ∀ b, h.get? b = none → b ≠ I := by rintro b e rfl; obtain ⟨o, e'⟩ := hI; rw [e] at e'; cases e'
  refine ⟨⟨τ, rfl, fun p hp => ?_⟩, fun b o e => ?_, fun b o e a1 a2 a3 => ?_⟩
  · obtain ⟨e1, e2⟩ := hτ p hp
    exact ⟨(h2 _ (nI _ e1)).trans e1, (h2 _ (nI _ e2)).trans e2⟩
  · by_cases hb : b = I
    · subst hb; exact ⟨o, h1 ▸ e⟩
    · exact d b o hb ((h2 b hb).symm.trans e)
  · by_cases hb : b = I
    · subst hb; exact h1 ▸ e
    · exact k b o hb ((h2 b hb).symm.trans e) a1 a2 a3

theorem Step.otherEnd {env : Env} {ρ ρ' : Rho} {h h' h'' : Heap} (x : Step env ρ h ρ' h') {C : Addr} (hC : h.get? C = none) (k : ∀ b, b ≠ C → h''.get? b = h'.get? b) : Step env ρ h ρ' h'' :=
  ⟨x.more, fun b o e => by
    obtain ⟨o', e'⟩ := x.dom b o e
    exact ⟨o', (k b (by rintro rfl; rw [hC] at e; cases e)).trans e'⟩, fun b o e a1 a2 a3 => (k b (by rintro rfl; rw [hC] at e; cases e)).trans (x.keep b o e a1 a2 a3)⟩
theorem Step.otherMid {env : Env} {ρ ρ' ρ'' : Rho} {h h' hX h'' : Heap} (x : Step env ρ h ρ' h') {I : Addr} (hI : h.get? I = none) (k : ∀ b, b ≠ I → hX.get? b = h'.get? b) (y : Step env ρ' hX ρ'' h'') : Step env ρ h ρ'' h'' :=
  (x.otherEnd hI k).trans y

theorem comp_after {c : Cx} {target : Expr} {cl : List (Str × Addr)} {scope : Scope} {I : Addr} {vs : List V} {G : St → Prop} {T : Nat → Rho → Heap → Prop} (W : It c target I vs G T) {S₁ S' : St} {ρ ρ₁ ρ' : Rho} {s : Shared} {h₁ h' : Heap} {tk₁ tk : Nat} {P : V → St → Prop} {C D : Addr} {X : Prop}
    (hT : T 0 ρ₁ h₁) (hI : s.heap.get? I = none) (hgI : c.g.h.get? I = none) (r₁ : c.Rel ρ₁ S₁ (shT s h₁ tk₁)) (st₁ : Step c.env ρ s.heap ρ₁ h₁)
    (r' : Rel c.prog c.w c.g (compEnvC scope cl C c.env) ρ' S' (shT s h' tk)) (sx : StepX I (compEnvC scope cl C c.env) ρ₁ h₁ ρ' h') (fC : h₁.get? C = none) (pD : ρ'[S₁.sto.length]? = some (D, D)) (hb : Back S₁ P (.ref S₁.sto.length) S'.sto)
    (q : ∀ v S₂ ρ₂, (∀ p ∈ ρ₂, p.2 ≠ C) → c.env.locals ≠ C → s.heap.get? C = none → c.g.h.get? C = none → (∀ b ∈ c.g.stack.filterMap (·.frame), b ≠ C) → (∀ p ∈ c.g.held, p.1 ≠ C) → P v S₂ → c.Rel ρ₂ S₂ (shT s h' tk) → VR h' ρ₂ v (.ref D) → Step c.env ρ s.heap ρ₂ h' → X) : X := by
  obtain ⟨⟨oI, fs, hoI, hdI⟩, hmI⟩ := W.obj _ _ _ hT
  obtain ⟨hX, hX1, hX2⟩ := heapWith h₁ h' I ⟨oI, hoI⟩
  have rX := r₁.other (h' := hX) tk₁ hoI hdI hgI hmI fun b o hb e => (hX2 b hb).trans e
  have stX := sx.toStep ⟨oI, hoI⟩ hX1 hX2
  have hCI : C ≠ I := by rintro rfl; rw [fC] at hoI; cases hoI
  have fX : hX.get? C = none := (hX2 C hCI).trans fC
  have hLC : c.env.locals ≠ C := by
    intro z
    obtain ⟨m, o, _, _, ho, _⟩ := r₁.ns
    rw [z] at ho
    have := fC.symm.trans ho; cases this
  have hsC : s.heap.get? C = none := by
    cases z : s.heap.get? C with
    | none => rfl
    | some o => obtain ⟨o', e'⟩ := st₁.dom C o z; rw [fC] at e'; cases e'
  have hgC : c.g.h.get? C = none := by
    cases z : c.g.h.get? C with
    | none => rfl
    | some o => have := r₁.base _ _ z; have := fC.symm.trans this; cases this
  refine Back.to (Q := fun _ _ => X) (s := (shT s hX tk₁)) rX r' rfl r'.frs stX fX (fun hf => by cases hf) (.ref pD) hb ?_
  intro v S₂ ρ₂ hsub pp rr vv ss
  exact q v S₂ ρ₂ (fun p hp => r'.mL p (hsub p hp)) hLC hsC hgC (frames_not fC r₁.frs) (held_not fC r₁.held) pp rr vv (st₁.otherMid hI hX2 ss)

section
variable {c : Cx} {S : St}
inductive CompK (cc : Cx) (n : Nat) (elt : Expr) (A : St → Prop) (Q : Bool → St → Prop) : Prop
  | mk (no : ∀ S, A S → Q false S) (yes : ∀ S, (∀ R : V → St → Prop, (∀ u S4, (∃ ws, A3 (S4.sto[n]? = some (.lst ws)) (ws.length ≤ sizeLine) (A (S4.put n (.lst (ws ++ [u]))))) → R u S4) → EW cc S elt R) → Q true S)
theorem compY {cc : Cx} {n : Nat} {elt : Expr} {A : St → Prop} {Q : Bool → St → Prop} {S : St} (h : CompK cc n elt A Q) (y : ∀ R : V → St → Prop, (∀ u S4, (∃ ws, A3 (S4.sto[n]? = some (.lst ws)) (ws.length ≤ sizeLine) (A (S4.put n (.lst (ws ++ [u]))))) → R u S4) → EW cc S elt R) : Q true S := h.rec fun _ yes => yes S y
theorem compB {cc : Cx} {n : Nat} {elt : Expr} {A : St → Prop} {Q : Bool → St → Prop} {S : St} {k : Bool} (h : CompK cc n elt A Q) (no : k = false → A S) (y : k = true → ∀ R : V → St → Prop, (∀ u S4, (∃ ws, A3 (S4.sto[n]? = some (.lst ws)) (ws.length ≤ sizeLine) (A (S4.put n (.lst (ws ++ [u]))))) → R u S4) → EW cc S elt R) : Q k S := by
  cases k with
  | false => exact h.rec fun n _ => n S (no rfl)
  | true => exact compY h (y rfl)
inductive CompJ (c : Cx) (S₁ : St) (scope : Scope) (cl : List (Str × Addr)) (target elt : Expr) (ifs : List Expr) (vs : List V) (G : St → Prop) (P : V → St → Prop) : Prop
  | mk (J : Addr → Nat → St → Prop) (h0 : ∀ C, J C 0 ⟨freeLoc cl S₁.loc, S₁.sto ++ [.lst []]⟩) (mono : ∀ C i S, J C i S → G S)
    (turn : ∀ C i v loc sto, vs[i]? = some v → J C i ⟨loc, sto⟩ → ∀ Q, CompK (c.comp scope cl C) S₁.sto.length elt (J C (i + 1)) Q → AsW (c.comp scope cl C) ⟨loc, sto⟩ target v fun S2 => TsW (c.comp scope cl C) S2 ifs Q)
    (fin : ∀ C loc sto, J C vs.length ⟨loc, sto⟩ → Back S₁ P (.ref S₁.sto.length) sto)

theorem EW.comp {elt target iter : Expr} {ifs : List Expr} {scope : Scope} {pos : Pos} {c : Cx} {S : St} {cl : List (Str × Addr)} {P : V → St → Prop} (h : IW c S target iter fun vs G S₁ => CompJ c S₁ scope cl target elt ifs vs G P)
    (hcl : ClOk c scope cl)
    (hclos : autoParam (closureFor scope c.env = pure cl) syn1) (hcell : autoParam (∀ y ∈ scope.names, y.2 ≠ .cell) syn9) (hkind : autoParam (scope.kind = .function) syn1)
    (hnames : autoParam (∀ x ∈ scope.names, x.2 = .local → scope.names.lookup x.1 = some .local) syn9)
    (hs : autoParam (∀ x, foldedSetIterable iter c.env x = pure x) syn4) : EW c S (.ListComp elt [⟨target, iter, ifs, 0⟩] scope pos) P := by
  intro ρ s Q E r q x
  rw [eval_ListComp]
  refine wpAny_comprehension_free (e := .ListComp elt [⟨target, iter, ifs, 0⟩] scope pos) (g := ⟨target, iter, ifs, 0⟩) (gs := []) (use := Option.none) rfl hs hclos hkind hnames ?_
  refine h ρ s _ E r (fun vs G T S₁ ρ₁ I h₁ tk₁ hK W hT hI hgI r₁ st₁ => ?_) x
  obtain ⟨J, h0, hG, turn, fin⟩ := hK
  refine comp_block (RR := fun acc C => compPost (model c.prog c.w) c.A E Option.none Q acc C) W r₁ hT hgI hcell hkind hcl h0 hG (fun C i v S' hv hJ => turn C i v S'.loc S'.sto hv hJ _ ⟨fun S a => ⟨fun _ => a, fun h => (by cases h)⟩, fun S e => ⟨fun h => (by cases h), fun _ => e _ fun _ _ z => z⟩⟩) ?_
  intro D C S' ρ' h' tk hJ r' sx fC fD pD
  obtain ⟨m, hm⟩ := r'.ns
  refine ⟨m, hm, fun h'' hs'' => ?_⟩
  refine comp_after (s := s) W hT hI hgI r₁ st₁ r' sx fC pD (fin C S'.loc S'.sto hJ) ?_
  intro v S₂ ρ₂ hmC hLC hsC hgC hfC hHC pp rr vv ss
  obtain ⟨o, es, n, ho, hd, _⟩ := hm
  obtain ⟨ra, rb⟩ := rr.otherDict (I := C) (h' := h'') tk ho hd hgC hmC hLC hfC hHC fun b o hb e => (hs''.2 b hb).trans e
  exact q v S₂ ρ₂ _ h'' tk pp ra (rb vv) (ss.otherEnd hsC hs''.2)

theorem SW.assignComp {y : Str} {py : Pos} {elt target iter : Expr} {ifs : List Expr} {scope : Scope} {pos spos : Pos} {c : Cx} {S : St} {cl : List (Str × Addr)} {P : Fl → St → Prop} (h : IW c S target iter fun vs G S₁ => CompJ c S₁ scope cl target elt ifs vs G fun v S₂ => P .next (S₂.set y v))
    (hcl : ClOk c scope cl) (hk : StoreOk c.env y)
    (hsw : autoParam (swapsWith (.ListComp elt [⟨target, iter, ifs, 0⟩] scope pos) (some (.Name y py)) spos.line c.env = pure true) syn1)
    (hclos : autoParam (closureFor scope c.env = pure cl) syn1) (hcell : autoParam (∀ y ∈ scope.names, y.2 ≠ .cell) syn9) (hkind : autoParam (scope.kind = .function) syn1)
    (hnames : autoParam (∀ x ∈ scope.names, x.2 = .local → scope.names.lookup x.1 = some .local) syn9)
    (hs : autoParam (∀ x, foldedSetIterable iter c.env x = pure x) syn4) : SW c S (.Assign [.Name y py] (.ListComp elt [⟨target, iter, ifs, 0⟩] scope pos) spos) P := by
  intro ρ s Q E r q x
  rw [exec_Assign_Name_used _ _ _ _ hsw]
  refine wpAny_bind (wpAny_standAt (wpAny_bind ?_))
  show wpAny _ _ (do let _ ← comprehension (.ListComp elt [⟨target, iter, ifs, 0⟩] scope pos) scope c.env _ (newList []) false (eval iter c.env) (some (PySem.assign (Expr.Name y py) c.env))) _ _ s
  refine wpAny_bind (wpAny_mono (wpAny_comprehension_free (e := .ListComp elt [⟨target, iter, ifs, 0⟩] scope pos) (g := ⟨target, iter, ifs, 0⟩) (gs := []) (use := some (PySem.assign (Expr.Name y py) c.env)) (Q := fun _ s' => Q .next s') rfl hs hclos hkind hnames ?_) (fun _ s' hq => wpAny_pure (wpAny_pure hq)) fun _ _ e => e)
  refine h ρ s _ E r (fun vs G T S₁ ρ₁ I h₁ tk₁ hK W hT hI hgI r₁ st₁ => ?_) x
  obtain ⟨J, h0, hG, turn, fin⟩ := hK
  refine comp_block (RR := fun acc C => compPost (model c.prog c.w) c.A E (some (PySem.assign (Expr.Name y py) c.env)) (fun _ s' => Q .next s') acc C) W r₁ hT hgI hcell hkind hcl h0 hG (fun C i v S' hv hJ => turn C i v S'.loc S'.sto hv hJ _ ⟨fun S a => ⟨fun _ => a, fun h => (by cases h)⟩, fun S e => ⟨fun h => (by cases h), fun _ => e _ fun _ _ z => z⟩⟩) ?_
  intro D C S' ρ' h' tk hJ r' sx fC fD pD
  obtain ⟨m, hm⟩ := r'.ns
  show wpAny _ _ (PySem.assign (.Name y py) c.env (.ref D)) _ _ _
  refine comp_after (s := s) W hT hI hgI r₁ st₁ r' sx fC pD (fin C S'.loc S'.sto hJ) ?_
  intro v S₂ ρ₂ hmC hLC hsC hgC hfC hHC pp rr vv ss
  obtain ⟨o, es, n, ho, hd, hx⟩ := hm
  refine wpAny_assign_Name (wp_storeVar rr vv hk fun h₂ tk₂ r₂ st₂ => ?_)
  have ho₂ : h₂.get? C = some o := by
    refine st₂.keep C o ho hmC hLC.symm ?_
    rintro _ y' hy' rfl
    obtain ⟨o', v', e', d'⟩ := rr.cells y' hy'
    have := ho.symm.trans e'
    cases this; rw [hd] at d'; cases d'
  refine ⟨m, ⟨o, es, n, ho₂, hd, hx⟩, fun h'' hs'' => ?_⟩
  obtain ⟨ra, rb⟩ := r₂.otherDict (I := C) (h' := h'') tk₂ ho₂ hd hgC hmC hLC hfC hHC fun b o hb e => (hs''.2 b hb).trans e
  exact q .next _ ρ₂ .next h'' tk₂ pp ra .next ((ss.trans st₂).otherEnd hsC hs''.2)
end
end

section
open PySem PySem.W PyProof.Rows PySem.Calls
section
variable {c : Cx} {S : St} {K : Frag}

noncomputable def St.seq (S : St) (a : V) (vs : List V) : Prop := a = .lst vs ∨ ∃ j, a = .ref j ∧ S.sto[j]? = some (.lst vs)
theorem St.seq.l {S : St} {vs : List V} : S.seq (.lst vs) vs := .inl rfl
theorem St.seq.r {S : St} {j : Nat} {vs : List V} (h : S.sto[j]? = some (.lst vs)) : S.seq (.ref j) vs := .inr ⟨j, rfl, h⟩
theorem Rel.seq {ρ : Rho} {s : Shared} (r : c.Rel ρ S s) {a : V} {vs : List V} {u : Value} (h : S.seq a vs) (hv : VR s.heap ρ a u) : ∃ x us, u = .ref x ∧ s.heap.PlainList x us.toArray ∧ VRs s.heap ρ vs us := by
  rcases h with rfl | ⟨j, rfl, h⟩
  · cases hv with
    | lst hl hm hs => exact ⟨_, _, rfl, hl, hs⟩
  · cases hv with
    | ref hp =>
      obtain ⟨e, us, hl, hv⟩ := r.sto j _ _ hp h
      exact ⟨_, us, rfl, hl, hv⟩

theorem Op.addL {a b : V} {vs ws : List V} {P : V → St → Prop} (ha : S.seq a vs) (hb : S.seq b ws) (hz : vs.length + ws.length ≤ sizeLine) (p : P (.lst (vs ++ ws)) S) : OW2 c VR S a b (binaryOp .Add) P := by
  refine OW2.fresh _ p fun ρ s x y Q E r hx hy q => ?_
  obtain ⟨l, us, rfl, ⟨n, hl⟩, hv⟩ := r.seq ha hx
  obtain ⟨l2, us2, rfl, ⟨n2, hl2⟩, hv2⟩ := r.seq hb hy
  have e : us.toArray ++ us2.toArray = (us ++ us2).toArray := by simp
  refine concat_meets ⟨_, hl, rfl⟩ ⟨_, hl2, rfl⟩ noFill_list_add seq_list_add PySem.F.slot_list_add PySem.F.entry_list_add (PySem.F.args_list_add_2 _ _) (list_addW l l2 us.toArray us2.toArray n n2 _ _ _ _ (by simpa [hv.length, hv2.length] using hz)) ⟨hl, hl2, ?_⟩
  rw [e]
  have z := push_list (us := us ++ us2) r (VRs.append hv2 hv)
  exact q _ _ _ z.1 z.2

theorem VRs.rep {h : Heap} {ρ : Rho} {vs : List V} {us : List Value} (x : VRs h ρ vs us) : ∀ n : Nat, VRs h ρ (List.replicate n vs).flatten (List.replicate n us).flatten
  | 0 => .nil
  | n + 1 => by
    rw [List.replicate_succ, List.replicate_succ, List.flatten_cons, List.flatten_cons]
    exact VRs.append (VRs.rep x n) x
theorem Op.mulL {a : V} {vs : List V} {k : Int} {P : V → St → Prop} (ha : S.seq a vs) (hk0 : 0 ≤ k) (hk : k < 2 ^ 32) (hz : vs.length * k.toNat ≤ 256) (p : P (.lst (List.replicate k.toNat vs).flatten) S) : OW2 c VR S a (.int k) (binaryOp .Mult) P := by
  refine OW2.fresh _ p fun ρ s x y Q E r hx hy q => ?_
  obtain ⟨l, us, rfl, ⟨n, hl⟩, hv⟩ := r.seq ha hx
  cases hy with
  | int _ u =>
    have hsz' : us.toArray.size * k.toNat ≤ 256 := by simpa [hv.length] using hz
    refine wpAny_binaryOp_repeat_ref (T := "list") (U := "int") (by decide) ⟨_, hl, rfl⟩ (fun s' => typeIs_int s' k u) noFill_list_mul PySem.F.fills_int_mul PySem.F.slot_int_rmul repeat_list PySem.F.slot_int_index.lookup
      (call_meets PySem.F.slot_int_rmul (typeIs_int s k u) PySem.F.entry_int_rmul (PySem.F.args_int_rmul_2 _ _) (lm_int_rmul_list_any k u l us.toArray n _ _)
        ⟨hl, rfl, ⟨_, hl, rfl⟩, call_meets PySem.F.slot_list_mul ⟨_, hl, rfl⟩ PySem.F.entry_list_mul (PySem.F.args_list_mul_2 _ _)
          (lm_list_mul_any l us.toArray n _ _ k u (by simp [Builtin.List.listFitsIndex]; allgen_close_more) (by allgen_close_more) (by
            have h5 : us.length * k.toNat ≤ 256 := by simpa using hsz'
            simp [Builtin.List.listTooLong, sizeLine]; allgen_close_more))
          ⟨hl, ?_⟩⟩)
    rw [listMul_foldl_if]
    have z := push_list (us := (List.replicate k.toNat us).flatten) r (hv.rep k.toNat)
    exact q _ _ _ z.1 z.2

theorem ListC.seq {a : V} {vs : List V} {P : V → St → Prop} (ha : S.seq a vs) (hz : vs.length ≤ sizeLine) (p : P (.lst vs) S) : CW c S (.type "list") [a] P := by
  refine OWs.fresh _ p fun ρ s us Q E r hx q => ?_
  cases hx with
  | cons x y =>
    cases y
    obtain ⟨l, us, rfl, ⟨n, hl⟩, hv⟩ := r.seq ha x
    refine call_list_seq l (.inl rfl) hl rfl rfl (fun h' c' k hl' => ?_) (by simpa [hv.length] using hz)
    refine q _ _ _ k (.lst ⟨_, hl'⟩ (fun p hp => ?_) (hv.step r.frame (Step.ofKeep k)))
    exact r.mutLt p hp

theorem TupC.seq {a : V} {vs : List V} {P : V → St → Prop} (ha : S.seq a vs) (hz : vs.length ≤ sizeLine) (p : P (.tup vs) S) : CW c S (.type "tuple") [a] P := by
  refine OWs.fresh _ p fun ρ s us Q E r hx q => ?_
  cases hx with
  | cons x y =>
    cases y
    obtain ⟨l, us, rfl, hl, hv⟩ := r.seq ha x
    refine call_tuple_list hl.isList (fun h' k => ?_) (by simpa [hv.length] using hz)
    have k' : ∀ b o, s.heap.get? b = some o → (h'.push { cls := .type "tuple", data := .seq us.toArray }).get? b = some o := fun b o e => Heap.get?_push_of_some _ (k b o e)
    refine q _ _ _ k' (.tup ⟨_, Heap.get?_push_size _ rfl⟩ (fun p hp => ?_) (hv.step r.frame (Step.ofKeep k')))
    obtain ⟨o, ho⟩ := r.mutAt hp
    exact Nat.ne_of_lt (Heap.lt_size (k _ _ ho))
theorem TupC.tup {vs : List V} {P : V → St → Prop} (p : P (.tup vs) S) : CW c S (.type "tuple") [.tup vs] P := by
  refine OWs.fresh _ p fun ρ s us Q E r hx q => ?_
  cases hx with
  | cons x y =>
    cases y
    cases x with
    | tup hl hm hs => exact call_tuple_tup hl.isTup (q _ s.heap s.toks (fun _ _ e => e) (.tup hl hm hs))
theorem IntC.int {i : Int} {P : V → St → Prop} (p : P (.int i) S) : CW c S (.type "int") [.int i] P := by
  refine OWs.fresh _ p fun ρ s us Q E r hx q => ?_
  cases hx with
  | cons x y => cases y; cases x with
    | int _ t => exact call_int_int (q _ s.heap s.toks (fun _ _ e => e) (.int _ t))
theorem StrM.strip {x : Str} {c : Cx} {S : St} {P : V → St → Prop} (hz : x.length ≤ sizeLine) (p : P (.str (Txt.strip x)) S) : CW c S (.builtin "str.strip") [.str x] P := by
  refine OWs.fresh _ p fun ρ s us Q E r hx q => ?_
  cases hx with
  | cons a b => cases b; cases a
                exact PySem.SC.strip (fun t' k => q _ s.heap k (fun _ _ e => e) (.str _ _)) hz

noncomputable def pickL {α : Type} (vs : List α) (lo hi : Option Int) : List α := (sliceRange (sliceBounds lo hi none vs.length).1 (sliceBounds lo hi none vs.length).2.1 (sliceBounds lo hi none vs.length).2.2).filterMap (vs[·]?)
theorem VRs.picks {h : Heap} {ρ : Rho} {vs : List V} {us : List Value} (x : VRs h ρ vs us) : ∀ is : List Nat, VRs h ρ (is.filterMap (vs[·]?)) (is.filterMap (us[·]?))
  | [] => .nil
  | i :: is => by
    rw [List.filterMap_cons, List.filterMap_cons]
    cases e : vs[i]? with
    | none =>
      have : us[i]? = none := by rw [List.getElem?_eq_none_iff] at e ⊢; rw [x.length]; exact e
      rw [this]; exact VRs.picks x is
    | some v =>
      obtain ⟨u, hu, hv⟩ := x.get e
      rw [hu]; exact .cons hv (VRs.picks x is)
theorem pick_arr (us : List Value) (lo hi : Option Int) : slicePick us.toArray lo hi none = (pickL us lo hi).toArray := by
  unfold slicePick pickL
  simp
theorem VRs.pick {h : Heap} {ρ : Rho} {vs : List V} {us : List Value} (x : VRs h ρ vs us) (lo hi : Option Int) : VRs h ρ (pickL vs lo hi) (pickL us lo hi) := by
  unfold pickL
  rw [x.length]
  exact x.picks _

noncomputable def SlR (S : St) (a : V) (lo hi : Option Int) (P : V → St → Prop) : Prop :=
  (∃ vs, S.seq a vs ∧ vs.length ≤ sizeLine ∧ P (.lst (pickL vs lo hi)) S) ∨ (∃ x, a = .str x ∧ x.length ≤ sizeLine ∧ P (.str (Txt.slice x lo hi)) S)
theorem slice_go {a : V} {lo hi : Option Int} {P : V → St → Prop} {ρ : Rho} {s : Shared} {x vl vu : Value} {Q : Value → Shared → Prop} {E : Value → Shared → Prop} (h : SlR S a lo hi P) (r : c.Rel ρ S s) (hv : VR s.heap ρ a x) (tl : Option (Int × Tok)) (tu : Option (Int × Tok))
    (el : vl = partValue tl) (eu : vu = partValue tu) (e1 : tl.map (·.1) = lo) (e2 : tu.map (·.1) = hi)
    (q : ∀ v u h' tk, P v S → (∀ b o, s.heap.get? b = some o → h'.get? b = some o) → VR h' ρ v u → Q u (shT s h' tk)) :
    ItemOn (model c.prog c.w) c.A E x (.ref s.heap.objs.size) Q { s with heap := s.heap.push { cls := .type "slice", data := .fields #[vl, vu, .none] } } := by
  have k : ∀ b o, s.heap.get? b = some o → (s.heap.push { cls := .type "slice", data := .fields #[vl, vu, .none] }).get? b = some o := fun b o e => Heap.get?_push_of_some _ e
  have r₁ := r.keep s.toks k
  rcases h with ⟨vs, ha, hz, p⟩ | ⟨y, rfl, hz, p⟩
  · have hv₁ := hv.step r.frame (Step.ofKeep k)
    obtain ⟨l, us, rfl, hl, hvs⟩ := r₁.seq ha hv₁
    have pl : IsPart vl lo := by subst el e1; cases tl with
      | none => exact .none
      | some z => exact .int _ _
    have pu : IsPart vu hi := by subst eu e2; cases tu with
      | none => exact .none
      | some z => exact .int _ _
    refine ⟨"list", _, list_getitem_lookup, hl.isList.typeIs, wpAny_getItem_list_slice hl.isList (Heap.IsSliceOf.new ..) pl pu .none (by simp) ?_ (by simpa [hvs.length] using hz)⟩
    rw [pick_arr]
    have z := push_list (us := pickL us lo hi) r₁ (hvs.pick lo hi)
    exact q _ _ _ _ p (fun b o e => z.1 b o (k b o e)) z.2
  · cases hv with
    | str _ t =>
      refine ⟨"str", _, PySem.F.slot_str_getitem.lookup, typeIs_str _ _ _, wpAny_getItem_str_slice (l := tl) (u := tu) (st := Option.none) ⟨_, Heap.get?_push_size _ rfl, rfl, by subst el eu; rfl⟩ rfl ?_⟩
      subst e1 e2
      exact post_val_or_str ⟨Nat.le_trans (Txt.slice_le y _ _) hz, fun t' k' => q (.str (Txt.slice y _ _)) _ _ _ p k (.str _ _)⟩
theorem EW.sliceLo {value lo : Expr} {pp pos : Pos} {c : Cx} {S : St} {P : V → St → Prop} (h : EW c S value fun a S₁ => EW c S₁ lo fun b S₂ => ∃ i, b = .int i ∧ SlR S₂ a (some i) Option.none P) (ht : autoParam (∀ o r, letTemporaryGo value o r = pure ()) syn6) : EW c S (.Subscript value (.Slice (some lo) Option.none Option.none pp) pos) P := by
  intro ρ s Q E r q x
  refine PySem.Subscript_Slice (h ρ s _ E r (fun a S₁ ρ₁ u₁ h₁ tk₁ p₁ r₁ v₁ st₁ => ?_) x) ht
  refine wpAny_Slice (evalPart_some_step ?_)
  refine p₁ ρ₁ _ _ E r₁ (fun b S₂ ρ₂ u₂ h₂ tk₂ p₂ r₂ v₂ st₂ => ?_) x
  refine evalPart_none_step (evalPart_none_step ?_)
  obtain ⟨i, rfl, p₂⟩ := p₂
  cases v₂ with
  | int _ t => exact slice_go p₂ r₂ (v₁.step r₁.frame st₂) (some (i, t)) Option.none rfl rfl rfl rfl fun v u h' tk pv k hv => q v S₂ ρ₂ u h' tk pv (r₂.keep tk k) hv (st₁.trans (st₂.trans (Step.ofKeep k)))

noncomputable abbrev AsL (c : Cx) (S : St) (elts : List Expr) (vs : List V) (P : St → Prop) : Prop := OWs c SameR S vs (fun xs => assignInOrder ((assignEach elts c.env).map (·.2)) xs) fun (_ : Unit) S' => P S'
theorem AsL.nil {P : St → Prop} (p : P S) : AsL c S [] [] P := by
  intro ρ s xs Q E r hx q _
  exact assignInOrder_nil (q () S ρ () s.heap s.toks p r (.mk _) (.refl ..))
theorem AsL.cons {e : Expr} {es : List Expr} {c : Cx} {S : St} {v : V} {vs : List V} {P : St → Prop} (h : AsW c S e v fun S₁ => AsL c S₁ es vs P) (he : autoParam (assignEach (e :: es) c.env = (false, assign e c.env) :: assignEach es c.env) syn1) : AsL c S (e :: es) (v :: vs) P := by
  intro ρ s xs Q E r hx q x
  rw [he]
  cases hx with
  | cons a b =>
    refine assignInOrder_cons (h ρ s _ _ E r a (fun _ S₁ ρ₁ _ h₁ tk₁ p₁ r₁ _ st₁ => ?_) x)
    exact p₁ ρ₁ _ _ Q E r₁ (b.step r.frame st₁) (fun _ S₂ ρ₂ _ h₂ tk₂ p₂ r₂ _ st₂ => q () S₂ ρ₂ () h₂ tk₂ p₂ r₂ (.mk _) (st₁.trans st₂)) x
theorem keepOfBut {s : Shared} {h' : Heap} (e : Heap.ExtBut s.heap.objs.size s.heap h') : ∀ b o, s.heap.get? b = some o → h'.get? b = some o := fun b o q => e b o (Nat.ne_of_lt (Heap.lt_size q)) q
theorem AsW.unpack {elts : List Expr} {pos : Pos} {c : Cx} {S : St} {k : Nat} {a : V} {vs : List V} {P : St → Prop} (ha : a = .tup vs ∨ S.seq a vs) (h : AsL c S elts vs P) (hh : c.A.handled = none) (hn : elts.length = vs.length)
    (hn' : autoParam ((assignEach elts c.env).length = elts.length) syn1) (hstar : autoParam ((assignEach elts c.env).findIdx? (·.1) = none) syn1) : AsW c S (.Tuple elts k pos) a P := by
  intro ρ s u Q E r hv q x
  rcases ha with rfl | ha
  · cases hv with
    | tup hl hm hs =>
      refine assign_Tuple_tuple hh hl.isTup (by rw [hn', hn]; simp [hs.length]) hstar fun h' he => ?_
      have kk := keepOfBut he
      exact h ρ _ _ Q E (r.keep s.toks kk) (hs.step r.frame (Step.ofKeep kk)) (fun _ S₂ ρ₂ _ h₂ tk₂ p₂ r₂ _ st₂ => q () S₂ ρ₂ () h₂ tk₂ p₂ r₂ (.mk _) ((Step.ofKeep kk).trans st₂)) x
  · obtain ⟨l, us, rfl, hl, hs⟩ := r.seq ha hv
    rw [assign_Tuple]
    refine wpAny_bind (wpAny_standAt ?_)
    unfold PySem.unpack
    rw [hn', hn, ← hs.length, ← List.size_toArray (as := us), hstar]
    refine wpAny_bind (wpAny_holding (kun_itemsOf hh hl.isList fun h' he => ?_))
    have kk := keepOfBut he
    exact h ρ _ _ Q E (r.keep s.toks kk) (hs.step r.frame (Step.ofKeep kk)) (fun _ S₂ ρ₂ _ h₂ tk₂ p₂ r₂ _ st₂ => q () S₂ ρ₂ () h₂ tk₂ p₂ r₂ (.mk _) ((Step.ofKeep kk).trans st₂)) x
theorem SW.assignTup {elts : List Expr} {tpos pos : Pos} {e : Expr} {c : Cx} {S : St} {k : Nat} {P : Fl → St → Prop} (h : EW c S e fun v S₁ => AsW c S₁ (.Tuple elts k tpos) v fun S₂ => P .next S₂)
    (hs : autoParam (swapsWithSole [.Tuple elts k tpos] e pos.line c.env = pure false) syn1) (hw : autoParam (swappedStores [.Tuple elts k tpos] e c.env = pure none) syn1) : SW c S (.Assign [.Tuple elts k tpos] e pos) P := by
  intro ρ s Q E r q x
  refine Assign_Tuple (h ρ s _ E r (fun v S₁ ρ₁ u₁ h₁ tk₁ p₁ r₁ v₁ st₁ => ?_) x) hs hw
  exact p₁ ρ₁ _ _ _ E r₁ v₁ (fun _ S₂ ρ₂ _ h₂ tk₂ p₂ r₂ _ st₂ => q .next S₂ ρ₂ .next h₂ tk₂ p₂ r₂ .next (st₁.trans st₂)) x
end
end

section
open PySem PySem.W PyProof.Rows PySem.Calls
mutual
inductive DatOf (σ : Sto) : V → Dat → Prop
  | none : DatOf σ .none .none
  | int (i : Int) : DatOf σ (.int i) (.int i)
  | str (x : Str) : DatOf σ (.str x) (.str x)
  | tup {vs : List V} {ds : List Dat} : DatsOf σ vs ds → DatOf σ (.tup vs) (.tuple ds)
  | lst {vs : List V} {ds : List Dat} : DatsOf σ vs ds → DatOf σ (.lst vs) (.list ds)
  | ref {j : Nat} {vs : List V} {ds : List Dat} : σ[j]? = some (.lst vs) → DatsOf σ vs ds → DatOf σ (.ref j) (.list ds)
inductive DatsOf (σ : Sto) : List V → List Dat → Prop
  | nil : DatsOf σ [] []
  | cons {v : V} {d : Dat} {vs : List V} {ds : List Dat} : DatOf σ v d → DatsOf σ vs ds → DatsOf σ (v :: vs) (d :: ds)
end

section
variable {c : Cx} {S : St} {K : Frag}
theorem DatOf.reads {ρ : Rho} {s : Shared} (r : c.Rel ρ S s) {v : V} {d : Dat} {u : Value} (x : DatOf S.sto v d) (y : VR s.heap ρ v u) : ∃ as, Reads s.heap u (kqdP d) as :=
  DatOf.rec (motive_1 := fun v d _ => ∀ u, VR s.heap ρ v u → ∃ as, Reads s.heap u (kqdP d) as) (motive_2 := fun v d _ => ∀ u, VRs s.heap ρ v u → ∃ as, ReadsAll s.heap u (kqdPs d) as)
    (fun u x => by cases x; exact ⟨_, .none⟩) (fun i u x => by cases x; exact ⟨_, .int i _⟩) (fun y u x => by cases x; exact ⟨_, .str y _⟩)
    (fun _ ih u x => by
      cases x with
      | tup hl _ hs =>
        obtain ⟨as, q⟩ := ih _ hs
        exact hl.elim fun n hl => ⟨as, reads_tuple_at hl rfl rfl q⟩)
    (fun _ ih u x => by
      cases x with
      | lst hl _ hs =>
        obtain ⟨as, q⟩ := ih _ hs
        exact hl.elim fun n hl => ⟨_, reads_list_at hl rfl rfl q⟩)
    (fun hj _ ih u x => by
      cases x with
      | ref hp =>
        obtain ⟨e, us, ⟨n, hl⟩, hs⟩ := r.sto _ _ _ hp hj
        obtain ⟨as, q⟩ := ih _ hs
        exact ⟨_, reads_list_at hl rfl rfl q⟩)
    (fun u x => by cases x; exact ⟨_, .nil⟩)
    (fun _ _ ih ihs u x => by
      cases x with
      | cons x xs =>
        obtain ⟨as, q⟩ := ih _ x
        obtain ⟨bs, p⟩ := ihs _ xs
        exact ⟨_, .cons q p⟩) x u y

theorem kqd_shaped {n : Nat} {d : Dat} (hn : n ≤ 64) (h : kqdOk n d = true) : SeqAt.shaped (kqdP d) = true := by
  have l := kqd_lay n d h
  unfold SeqAt.shaped
  rw [l.1, Bool.true_and]
  exact decide_eq_true (Nat.le_trans l.2 hn)
open Classical in
theorem kqd_eqb {n : Nat} {d e : Dat} (h1 : kqdOk n d = true) (h2 : kqdOk n e = true) : PyData.eqv (kqdP d) (kqdP e) = decide (d = e) := by
  have q := kqd_eqv n d e n h1 h2
  by_cases hq : d = e
  · rw [decide_eq_true hq]; exact q.mpr hq
  · rw [decide_eq_false hq]; exact Bool.eq_false_iff.mpr fun x => hq (q.mp x)
open Classical in
theorem Op.eqD {a b : V} {d e : Dat} {P : V → St → Prop} (ha : DatOf S.sto a d) (hb : DatOf S.sto b e) (h1 : kqdOk 9 d = true) (h2 : kqdOk 9 e = true) (hu : c.A.units + 64 < cLine) (p : P (.bool (decide (d = e))) S) : OW2 c VR S a b (compareOp .Eq) P := by
  refine OW2.fresh _ p fun ρ s x y Q E r hx hy q => ?_
  obtain ⟨as, ra⟩ := ha.reads r hx
  obtain ⟨bs, rb⟩ := hb.reads r hy
  refine eq_dataH ra rb (kqd_shaped (by decide) h1) (kqd_shaped (by decide) h2) hu ?_
  rw [kqd_eqb h1 h2]
  exact q _ s.heap s.toks (fun _ _ e => e) (.bool _)
open Classical in
theorem Op.neD {a b : V} {d e : Dat} {P : V → St → Prop} (ha : DatOf S.sto a d) (hb : DatOf S.sto b e) (h1 : kqdOk 9 d = true) (h2 : kqdOk 9 e = true) (hu : c.A.units + 64 < cLine) (p : P (.bool (!decide (d = e))) S) : OW2 c VR S a b (compareOp .NotEq) P := by
  refine OW2.fresh _ p fun ρ s x y Q E r hx hy q => ?_
  obtain ⟨as, ra⟩ := ha.reads r hx
  obtain ⟨bs, rb⟩ := hb.reads r hy
  refine ne_dataH ra rb (kqd_shaped (by decide) h1) (kqd_shaped (by decide) h2) hu ?_
  rw [kqd_eqb h1 h2]
  exact q _ s.heap s.toks (fun _ _ e => e) (.bool _)
theorem DatsOf.strs {σ : Sto} : ∀ xs : List Str, DatsOf σ (xs.map .str) (xs.map .str)
  | [] => .nil
  | x :: xs => .cons (.str x) (DatsOf.strs xs)
theorem kqdOk_str {n : Nat} {x : Str} : kqdOk n (.str x) = PyData.strOk x := by cases n <;> rfl
open Classical in
theorem Op.inT {x : Str} {c : Cx} {S : St} {xs : List Str} {P : V → St → Prop} (hx : PyData.strOk x = true) (hxs : ∀ y ∈ xs, PyData.strOk y = true) (hu : c.A.units + 64 < cLine) (p : P (.bool (decide (x ∈ xs))) S) : OW2 c VR S (.str x) (.tup (xs.map .str)) (compareOp .In) P := by
  refine OW2.fresh _ p fun ρ s u y Q E r hu' hy q => ?_
  obtain ⟨bs, rx⟩ := (DatOf.str (σ := S.sto) x).reads r hu'
  obtain ⟨as, ra⟩ := (DatOf.tup (σ := S.sto) (DatsOf.strs xs)).reads r hy
  rw [kqdP] at ra
  have hok : ∀ d ∈ xs.map Dat.str, kqdOk 8 d = true := fun d hd => by
    obtain ⟨y, hy, rfl⟩ := List.mem_map.mp hd
    rw [kqdOk_str]; exact hxs y hy
  have hokx : kqdOk 8 (Dat.str x) = true := by rw [kqdOk_str]; exact hx
  have l := kqd_layL hok
  have e : ((kqdPs (xs.map Dat.str)).any fun y => PyData.eqv y (kqdP (Dat.str x))) = decide (x ∈ xs) := by
    have := kqd_any (xs.map Dat.str) (Dat.str x) hok hokx
    have hm : Dat.str x ∈ xs.map Dat.str ↔ x ∈ xs := by simp
    by_cases hq : x ∈ xs
    · rw [decide_eq_true hq]; exact this.mpr (hm.mpr hq)
    · rw [decide_eq_false hq]; exact Bool.eq_false_iff.mpr fun z => hq (hm.mp (this.mp z))
  have ld := kqd_lay 8 (Dat.str x) hokx
  have l2 := ld.2
  refine SeqAt.in_tuple_reads ra rx l.1 ld.1 ?_ (by rw [e]; exact q _ s.heap s.toks (fun _ _ e => e) (.bool _))
  have := Nat.min_le_right (PyData.depthAll (kqdPs (xs.map Dat.str))) (kqdP (Dat.str x)).depth
  allgen_close_more
end
end

section
open PySem PySem.W PyProof.Rows PySem.Calls
open Builtin Builtin.ObjectAttr
theorem EsOf.plain {es : List DictEntry} {us : List (Str × Value)} (x : EsOf es us) : es.any (·.refKey) = false := by
  induction x with
  | nil => rfl
  | cons _ ih => simp only [List.any_cons, ih, Bool.or_false]; rfl
theorem EsOf.getL {es : List DictEntry} {us : List (Str × Value)} (x : EsOf es us) (name : Str) : getL name es = some (us.lookup name) := by
  have hp := x.plain
  unfold W.getL
  have : es.find? (·.key.isStr name) = none ∧ us.lookup name = none ∨ ∃ e, es.find? (·.key.isStr name) = some e ∧ us.lookup name = some e.val := by
    clear hp
    induction x with
    | nil => exact .inl ⟨rfl, rfl⟩
    | cons _ ih =>
      rename_i hs k t v es us hx
      rw [List.find?_cons, List.lookup_cons]
      have hk : ({ hash := hs, key := Value.str k t, val := v } : DictEntry).key.isStr name = (k == name) := rfl
      rw [hk]
      by_cases h : k = name
      · subst h; simp
      · have h1 : (k == name) = false := beq_eq_false_iff_ne.mpr h
        have h2 : (name == k) = false := beq_eq_false_iff_ne.mpr (Ne.symm h)
        rw [h1, h2]; exact ih
  rcases this with ⟨a, b⟩ | ⟨e, a, b⟩
  · rw [a, b, if_neg (by rw [hp]; exact Bool.false_ne_true)]
  · rw [a, b]
noncomputable def putS (us : List (Str × Value)) (name : Str) (v : Value) : List (Str × Value) := match us with
  | [] => [(name, v)]
  | (k, w) :: r => if k = name then (k, v) :: r else (k, w) :: putS r name v
noncomputable def putV (us : List (Str × V)) (name : Str) (v : V) : List (Str × V) := match us with
  | [] => [(name, v)]
  | (k, w) :: r => if k = name then (k, v) :: r else (k, w) :: putV r name v
theorem EsOf.put {es : List DictEntry} {us : List (Str × Value)} (x : EsOf es us) (name : Str) (hs : Int) (t : Tok) (v : Value) : EsOf (putL name hs (.str name t) v es) (putS us name v) := by
  induction x with
  | nil => exact .cons .nil
  | cons hx ih =>
    rename_i hs' k t' w es us
    unfold W.putL putS
    have hk : ({ hash := hs', key := Value.str k t', val := w } : DictEntry).key.isStr name = (k == name) := rfl
    rw [hk]
    by_cases h : k = name
    · subst h; simp only [beq_self_eq_true, if_true]; exact .cons hx
    · have h1 : (k == name) = false := beq_eq_false_iff_ne.mpr h
      rw [h1, if_neg Bool.false_ne_true, if_neg h]; exact .cons ih
theorem EsOf.length {es : List DictEntry} {us : List (Str × Value)} (x : EsOf es us) : es.length = us.length := by
  induction x with
  | nil => rfl
  | cons _ ih => simp [ih]
theorem KVs.putV {h : Heap} {ρ : Rho} {kvs : List (Str × V)} {us : List (Str × Value)} (x : KVs h ρ kvs us) (k : Str) {v : V} {u : Value} (hv : VR h ρ v u) : KVs h ρ (putV kvs k v) (putS us k u) := by
  induction x with
  | nil => exact .cons hv .nil
  | cons a r ih =>
    unfold Mine.putV putS
    split
    · exact .cons hv r
    · exact .cons a ih
theorem KVs.lookup {h : Heap} {ρ : Rho} {kvs : List (Str × V)} {us : List (Str × Value)} (x : KVs h ρ kvs us) {k : Str} {v : V} (e : kvs.lookup k = some v) : ∃ u, us.lookup k = some u ∧ VR h ρ v u := by
  induction x with
  | nil => cases e
  | cons a r ih =>
    rw [List.lookup_cons] at e ⊢
    split
    · rename_i hh; rw [hh] at e; cases e; exact ⟨_, rfl, a⟩
    · rename_i hh; rw [hh] at e; exact ih e
theorem KVs.lookupNone {h : Heap} {ρ : Rho} {kvs : List (Str × V)} {us : List (Str × Value)} (x : KVs h ρ kvs us) {k : Str} (e : kvs.lookup k = none) : us.lookup k = none := by
  induction x with
  | nil => rfl
  | cons a r ih =>
    rw [List.lookup_cons] at e ⊢
    split
    · rename_i hh; rw [hh] at e; cases e
    · rename_i hh; rw [hh] at e; exact ih e
theorem VR.handed {h : Heap} {ρ : Rho} {v : V} {u : Value} (x : VR h ρ v u) : handedIn u = true := by cases x <;> rfl

section
variable {c : Cx} {S : St} {K : Frag}

noncomputable def attrIn (K : Frag) (C : Addr) (name : Str) : Bool := plainGet K C name && hasDictIn K C && (findIn K (.ref C) name == some none) && (findIn K (.ref C) "__setattr__" == some (some (.builtin "object.__setattr__"))) && plainOver K C

theorem Rel.inst {ρ : Rho} {s : Shared} (r : c.Rel ρ S s) {j : Nat} {p : Addr × Addr} {C : Addr} {f : List (Str × V)} (hp : ρ[j]? = some p) (hj : S.sto[j]? = some (.inst C f)) :
    p.1 ≠ p.2 ∧ ∃ es n us, InstAt s.heap p.1 (instObj C p.2) C (some (dictOf es n)) ∧ s.heap.get? p.2 = some (dictOf es n) ∧ EsOf es us ∧ KVs s.heap ρ f us := by
  obtain ⟨e, hi, es, n, us, h1, h2, hv⟩ := r.sto j p _ hp hj
  exact ⟨e, es, n, us, ⟨hi, rfl, rfl, h1⟩, h1, h2, hv⟩

theorem EW.attr {o : Expr} {name : Str} {pos : Pos} {K : Frag} {c : Cx} {S : St} {P : V → St → Prop} (hW : Wd K c.g.h) (h : EW c S o fun a S₁ => E4 (fun j C f v => A5 (a = .ref j) (S₁.sto[j]? = some (.inst C f)) (f.lookup name = some v) (attrIn K C name = true) (P v S₁)))
    (he : autoParam (eval (.Attribute o name pos) c.env = (do
      let a ← eval o c.env
      standAt pos.atName
      let r ← holding [a] (getAttr a name true)
      letTemporaryGo o a r
      pure r)) syn1) : EW c S (.Attribute o name pos) P := by
  intro ρ s Q E r q x
  refine Attribute_any_ (h ρ s _ E r (fun a S₁ ρ₁ u₁ h₁ tk₁ p₁ r₁ v₁ st₁ => ?_) x) he
  obtain ⟨j, C, f, v, rfl, hj, hf, ha, p⟩ := p₁
  cases v₁ with
  | ref hp =>
    obtain ⟨hne, es, n, us, I, ho, hes, hv⟩ := r₁.inst hp hj
    simp only [attrIn, Bool.and_eq_true, beq_iff_eq] at ha
    obtain ⟨⟨⟨⟨a1, a2⟩, a3⟩, a4⟩, a5⟩ := ha
    obtain ⟨u, hu, hvr⟩ := hv.lookup hf
    refine get_value (hW.X.keeps r₁.base) I (plainGet_of a1).1 (findObj_own a2 a3 rfl (by rw [lookIn_dict, hes.getL, hu])) hvr.handed ?_
    exact q v S₁ ρ₁ u h₁ _ p (r₁.keep _ fun _ _ e => e) hvr st₁

theorem osa_inst {A : Around} {K : Frag} {R : Result → Shared → Prop} {prog : Program} {w : World} {s : Shared} {x dx C : Addr} {name : Str} {tk : Tok} {v : Value} {es : List DictEntry} {n : Nat} (X : K.In s.heap) {ox : Obj} (I : InstAt s.heap x ox C (some (dictOf es n))) (hdd : ox.dict = some dx) (ho : s.heap.get? dx = some (dictOf es n))
    (hp : plainOver K C = true) (ht : takerIn K C name = some none) (hh : (clsIn K C).any (·.hasDict) = true) (hpl : es.any (·.refKey) = false) (hz : (putL name (PyData.keyHash w.params name) (.str name s.toks) v es).length ≤ 1000)
    (h : ∀ h', h'.get? dx = some (dictOf (putL name (PyData.keyHash w.params name) (.str name s.toks) v es) (putN name es n)) → Heap.SameBut dx s.heap h' → R (.ok (.ret .none)) (shT s h' (s.toks + 1))) :
    codeAny (model prog w) A (.call (.builtin "object.__setattr__") ⟨[.ref x, .str name tk, v], []⟩) R s := by
  refine osa_open X I hp ht fun b => ?_
  obtain ⟨cd, hc, hd'⟩ := any_some hh
  obtain ⟨hx, hcl, hn, -⟩ := I
  obtain ⟨oc, odi, oda, osl⟩ := ox
  dsimp only at hcl hdd
  subst hcl hdd
  refine wpAny_bind (wpAny_pure (wpAny_bind (wpAny_bind (wpAny_loadPart hx (wpAny_bind ((looks_clsIn X hc).here ?_))))))
  rw [hd']
  refine wpAny_pure (a := some dx) (wpAny_bind (wpAny_pure (wpAny_bind ?_)))
  unfold nsSet
  refine wpAny_bind (wpAny_bind (wpAny_askSetting (wpAny_pure (wpAny_bind (wpAny_mkText (wpAny_bind (wpAny_loadPart ho ?_)))))))
  dsimp only
  have hcnd : (!es.toArray.any (·.key.isStr name) && es.toArray.any (·.refKey)) = false := by
    rw [← Array.any_toList, ← Array.any_toList]
    show (!es.any _ && es.any _) = false
    rw [hpl, Bool.and_false]
  rw [aRefKeyMayBeTheName_at, hcnd]
  have hput := putName_dict name (PyData.keyHash w.params name) (.str name s.toks) v es n
  have hfree : (Obj.putName name (PyData.keyHash w.params name) (.str name s.toks) v (dictOf es n)).isFreed = false := by rw [hput]; rfl
  have ho' := Heap.get?_update_self (Obj.putName name (PyData.keyHash w.params name) (.str name s.toks) v) ho hfree
  rw [hput] at ho'
  refine wpAny_updatePart ho ?_
  refine wpAny_bind (wpAny_lookBehind ho' (pastItsLine_dict (by rw [List.size_toArray, sizeLine_eq]; allgen_close_more)) ?_)
  exact wpAny_pure (h _ ho' (Heap.SameBut.update ..))
theorem putS_len (name : Str) (u : Value) : ∀ l : List (Str × Value), (putS l name u).length ≤ l.length + 1
  | [] => by simp [putS]
  | a :: r => by
    have := putS_len name u r
    unfold putS
    split <;> simp; allgen_close_more
theorem inst_set {A : Around} {j : Nat} {p : Addr × Addr} {C : Addr} {f : List (Str × V)} {name : Str} {v : V} {u : Value} {ρ : Rho} {s : Shared} {Q : Unit → Shared → Prop} {E : Value → Shared → Prop} (hW : Wd K c.g.h) (r : c.Rel ρ S s) (hp : ρ[j]? = some p) (hj : S.sto[j]? = some (.inst C f)) (hro : c.g.ro ≤ j)
    (ha : attrIn K C name = true) (hz : f.length ≤ 500) (hv : VR s.heap ρ v u)
    (q : ∀ h' tk', c.Rel ρ (S.put j (.inst C (putV f name v))) (shT s h' tk') → Step c.env ρ s.heap ρ h' → Q () (shT s h' tk')) :
    wpAny (model c.prog c.w) A (setAttr (.ref p.1) name u) Q E s := by
  obtain ⟨hne, es, n, us, I, ho, hes, hkv⟩ := r.inst hp hj
  simp only [attrIn, Bool.and_eq_true, beq_iff_eq] at ha
  obtain ⟨⟨⟨⟨a1, a2⟩, a3⟩, a4⟩, a5⟩ := ha
  have X := hW.X.keeps r.base
  have htk : takerIn K C name = some none := by unfold takerIn; rw [a3]; rfl
  have hlen : (putL name (PyData.keyHash c.w.params name) (.str name (s.toks + 1)) u es).length ≤ 1000 := by
    have h1 := (hes.put name (PyData.keyHash c.w.params name) (s.toks + 1) u).length
    have h3 := putS_len name u us
    have h4 : us.length = f.length := hkv.length
    allgen_close_more
  have hx := I.at_
  refine set_plain X I a4 (osa_inst (s := { s with toks := s.toks + 1 }) X I rfl ho a5 htk a2 hes.plain hlen fun h' ho' hs => ?_)
  have zz := r.put (o' := .inst C (putV f name v)) (s.toks + 1 + 1) hp hro hj hs ⟨_, ho'⟩ fun st => ⟨hne, (hs.2 _ hne).trans hx, _, _, _, ho', hes.put name _ _ u, (hkv.step r.frame st).putV name (hv.step r.frame st)⟩
  exact q _ _ zz.1 zz.2
end
end

section
open PySem PySem.W PyProof.Rows PySem.Calls
open Builtin Builtin.ObjectAttr
section
variable {c : Cx} {S : St} {K : Frag}

theorem SW.setAttr {o value : Expr} {attr : Str} {tpos pos : Pos} {K : Frag} {c : Cx} {S : St} {P : Fl → St → Prop} (hW : Wd K c.g.h) (h : EW c S value fun v S₁ => EW c S₁ o fun a S₂ => E3 (fun j C f => A6 (a = .ref j) (S₂.sto[j]? = some (.inst C f)) (c.g.ro ≤ j) (f.length ≤ 500) (attrIn K C attr = true) (P .next (S₂.put j (.inst C (putV f attr v))))))
    (hs : autoParam (swapsWith value (some (.Attribute o attr tpos)) pos.line c.env = pure false) syn3) : SW c S (.Assign [.Attribute o attr tpos] value pos) P := by
  intro ρ s Q E r q x
  refine plainObj_wpAny_Assign_Attribute (h ρ s _ E r (fun v S₁ ρ₁ u₁ h₁ tk₁ p₁ r₁ v₁ st₁ => ?_) x) hs
  refine p₁ ρ₁ _ _ E r₁ (fun a S₂ ρ₂ u₂ h₂ tk₂ p₂ r₂ v₂ st₂ => ?_) x
  obtain ⟨j, C, f, rfl, hj, hro, hz, ha, p⟩ := p₂
  cases v₂ with
  | ref hp => exact inst_set hW r₂ hp hj hro ha hz (v₁.step r₁.frame st₂) fun h' tk' r' st' => q .next _ ρ₂ .next h' tk' p r' .next (st₁.trans (st₂.trans st'))
theorem SW.augAttr {o value : Expr} {attr : Str} {op : Operator} {tpos pos : Pos} {K : Frag} {c : Cx} {S : St} {P : Fl → St → Prop} (hW : Wd K c.g.h) (h : EW c S o fun a S₁ => E4 (fun j C f v => A5 (a = .ref j) (S₁.sto[j]? = some (.inst C f)) (f.lookup attr = some v) (attrIn K C attr = true) (EW c S₁ value fun b S₂ => OW2 c VR S₂ v b (inplaceOp op) fun d S₃ => S₃.sto[j]? = some (.inst C f) ∧ c.g.ro ≤ j ∧ f.length ≤ 500 ∧ P .next (S₃.put j (.inst C (putV f attr d)))))) : SW c S (.AugAssign (.Attribute o attr tpos) op value pos) P := by
  intro ρ s Q E r q x
  refine wpAny_AugAssign_AttributeAny (h ρ s _ E r (fun a S₁ ρ₁ u₁ h₁ tk₁ p₁ r₁ v₁ st₁ => ?_) x)
  obtain ⟨j, C, f, v, rfl, hj, hf, ha, p₁⟩ := p₁
  cases v₁ with
  | ref hp =>
    rename_i pp
    obtain ⟨hne, es, n, us, I, ho, hes, hv⟩ := r₁.inst hp hj
    have ha' := ha
    simp only [attrIn, Bool.and_eq_true, beq_iff_eq] at ha'
    obtain ⟨⟨⟨⟨a1, a2⟩, a3⟩, a4⟩, a5⟩ := ha'
    obtain ⟨u, hu, hvr⟩ := hv.lookup hf
    refine get_value (hW.X.keeps r₁.base) I (plainGet_of a1).1 (findObj_own a2 a3 rfl (by rw [lookIn_dict, hes.getL, hu])) hvr.handed ?_
    have r₁' : c.Rel ρ₁ S₁ _ := r₁.keep (tk₁ + 1) fun _ _ e => e
    refine p₁ ρ₁ _ _ E r₁' (fun b S₂ ρ₂ u₂ h₂ tk₂ p₂ r₂ v₂ st₂ => ?_) x
    refine p₂ ρ₂ _ _ _ _ E r₂ (hvr.step r₁.frame st₂) v₂ (fun d S₃ ρ₃ u₃ h₃ tk₃ p₃ r₃ v₃ st₃ => ?_) x
    obtain ⟨hj₃, hro, hz, p⟩ := p₃
    have hp₃ : ρ₃[j]? = some pp := by
      obtain ⟨τ, rfl, _⟩ := (st₂.trans st₃).more
      rw [List.getElem?_append_left (List.getElem?_eq_some_iff.mp hp).1]; exact hp
    exact inst_set hW r₃ hp₃ hj₃ hro ha hz v₃ fun h' tk' r' st' => q .next _ ρ₃ .next h' tk' p r' .next (st₁.trans (st₂.trans (st₃.trans st')))

noncomputable def methIn (K : Frag) (C : Addr) (name : Str) (f : Addr) : Bool := plainGet K C name && (findIn K (.ref C) name == some (some (.ref f))) && (typeIn K (.ref f) == some (.type "function")) && keepIn K (.ref f)
theorem EW.method {o : Expr} {name : Str} {apos pos : Pos} {args : List Expr} {K : Frag} {c : Cx} {S : St} {P : V → St → Prop} (f : Addr) (hW : Wd K c.g.h) (h : EW c S o fun a S₁ => E3 (fun j C fs => A5 (a = .ref j) (S₁.sto[j]? = some (.inst C fs)) (fs.lookup name = Option.none) (methIn K C name f = true) (AW c S₁ pos args fun bs S₂ => CW c S₂ (.ref f) (.ref j :: bs) P)))
    (pl : Sem Bool) (he : autoParam (eval (.Call (.Attribute o name apos) args [] pos) c.env = (do
      let ov ← eval o c.env
      standAt apos.atName
      let (f, first) ← holding [ov] (getMethod ov name pl)
      callWith pos f first (backTo pos (starEach args c.env)) [])) syn1)
    (hargs : autoParam (args = [] ∨ ∃ e rest, args = e :: rest ∧ starEach (e :: rest) c.env = (false, eval e c.env) :: starEach rest c.env ∧ (backTo pos (starEach rest c.env)).any (·.1) = false) syn8) :
    EW c S (.Call (.Attribute o name apos) args [] pos) P := by
  intro ρ s Q E r q x
  refine MethodCall_ (h ρ s _ E r (fun a S₁ ρ₁ u₁ h₁ tk₁ p₁ r₁ v₁ st₁ => ?_) x) he
  obtain ⟨j, C, fs, rfl, hj, hn, hm, p₁⟩ := p₁
  cases v₁ with
  | ref hp =>
    obtain ⟨hne, es, n, us, I, ho, hes, hv⟩ := r₁.inst hp hj
    simp only [methIn, Bool.and_eq_true, beq_iff_eq] at hm
    obtain ⟨⟨⟨m1, m2⟩, m3⟩, m4⟩ := hm
    have X := hW.X.keeps r₁.base
    refine method_fn X I (plainGet_of m1).1 (plainGet_of m1).2 m2 m3 (by
      show (lookIn name (dictOf es n)).map _ = _
      rw [lookIn_dict, hes.getL, hv.lookupNone hn]; rfl) ?_
    have main : wpAny (model c.prog c.w) c.A (spliced (backTo pos (starEach args c.env))) (fun vs' s₂ => K.In s₂.heap ∧ wpAny (model c.prog c.w) c.A (call (.ref f) ([Value.ref _] ++ vs')) Q E s₂) E (shT s h₁ tk₁) :=
      p₁ ρ₁ _ _ E r₁ (fun bs S₂ ρ₂ us₂ h₂ tk₂ p₂ r₂ v₂ st₂ => ⟨hW.X.keeps r₂.base, p₂ ρ₂ _ _ Q E r₂ (.cons ((VR.ref hp).step r₁.frame st₂) v₂) (fun v S₃ ρ₃ u₃ h₃ tk₃ p₃ r₃ v₃ st₃ => q v S₃ ρ₃ u₃ h₃ tk₃ p₃ r₃ v₃ (st₁.trans (st₂.trans st₃))) x⟩) x
    rcases hargs with rfl | ⟨e', rest, rfl, he, hpl⟩
    · refine callWith_K0 (K := K) X m4 ?_
      have : spliced (backTo pos (starEach [] c.env)) = pure [] := rfl
      rw [this] at main
      exact (show _ ∧ wpAny (model c.prog c.w) c.A (call (.ref f) ([Value.ref _] ++ [])) Q E _ from by
        have := main
        exact ⟨X, fun Γ p hΓ => (this Γ p hΓ).2 Γ p hΓ⟩).2
    · exact callWith_K X m4 main he hpl

theorem EW.callCls {x : Str} {np pos : Pos} {e : Expr} {rest : List Expr} {C : Addr} {K : Frag} {c : Cx} {S : St} {P : V → St → Prop} (hW : Wd K c.g.h) (hE : EnvOk c.env) (hn : nsIn K mainGlobals x = some (some (.ref C))) (hk : keepIn K (.ref C) = true)
    (h : AW c S pos (e :: rest) fun vs S₁ => CW c S₁ (.ref C) vs P) (hx : autoParam (c.env.kindOf x = some .globalImplicit) syn1) (hd : autoParam ((x == ("__debug__" : Str)) = false) syn2)
    (he : autoParam (starEach (e :: rest) c.env = (false, eval e c.env) :: starEach rest c.env) syn5) (hp : autoParam ((backTo pos (starEach rest c.env)).any (·.1) = false) syn1) : EW c S (.Call (.Name x np) (e :: rest) [] pos) P := by
  intro ρ s Q E r q x'
  refine Call_ (wp_global hW hE r hn hx ?_ hd)
  refine callWith_K (K := K) (first := []) (hW.X.keeps r.base) hk (h ρ s _ E r (fun vs S₁ ρ₁ us h₁ tk₁ p₁ r₁ v₁ st₁ => ⟨hW.X.keeps r₁.base, ?_⟩) x') he hp
  exact p₁ ρ₁ _ us Q E r₁ v₁ (fun v S₂ ρ₂ u₂ h₂ tk₂ p₂ r₂ v₂ st₂ => q v S₂ ρ₂ u₂ h₂ tk₂ p₂ r₂ v₂ (st₁.trans st₂)) x'

theorem CW.make {C fI : Addr} {vs : List V} {P : V → St → Prop} (hW : Wd K c.g.h) (hm : makesIn K C = true) (hi : findIn K (.ref C) "__init__" = some (some (.ref fI))) (hf : typeIn K (.ref fI) = some (.type "function"))
    (h : ∀ A' : Around, A'.handled = c.A.handled → A'.depth = c.A.depth + 1 → A'.frames = c.A.frames → A'.units ≤ c.A.units + 1 → CC { c with A := A' } (S.new (.inst C [])) (.ref fI) (.ref S.sto.length :: vs) fun v S' => v = .none ∧ P (.ref S.sto.length) S') : CW c S (.ref C) vs P := by
  intro ρ s us Q E r hus q x
  have X := hW.X.keeps r.base
  obtain ⟨hh, g, d, t, os⟩ := s
  refine wpAny_call (make_core (makes_of X hm) (looks_findIn X hi) (fun self => bind_fn X self hf) (.inl rfl) ?_)
  have k : ∀ b o, hh.get? b = some o → ((hh.push emptyDict).push (instObj C hh.objs.size)).get? b = some o := fun b o e => Heap.get?_push_of_some _ (Heap.get?_push_of_some _ e)
  have f1 : hh.get? hh.objs.size = none := fresh_none
  have f2 : hh.get? (hh.objs.size + 1) = none := Heap.get?_none_of_le (Nat.le_succ _)
  have e1 : ((hh.push emptyDict).push (instObj C hh.objs.size)).get? (hh.objs.size + 1) = some (instObj C hh.objs.size) := by heap_get
  have e2 : ((hh.push emptyDict).push (instObj C hh.objs.size)).get? hh.objs.size = some (dictOf [] 0) := Heap.get?_push_of_some _ (Heap.get?_push_size _ rfl)
  have zz := r.new (p := (hh.objs.size + 1, hh.objs.size)) (o := .inst C []) t k f2 f1 fun st => ⟨by simp, e1, [], 0, [], e2, .nil, .nil⟩
  refine h (c.A.under (.builtin "type.__call__" ⟨.ref C :: us, []⟩)) rfl rfl (by cases hfr : c.A.frames <;> first | exact hfr | rfl | (show pushEnvs _ c.A.frames = _; rw [hfr]; rfl)) (by show c.A.units + _ ≤ _; exact Nat.add_le_add_left (by first | decide | exact Nat.le_refl 1 | (show (Code.builtin "type.__call__" _).cUnits ≤ 1; rw [show (Code.builtin "type.__call__" ⟨.ref C :: us, []⟩).cUnits = 1 from by first | rfl | kernel_rfl]; exact Nat.le_refl 1)) _) (ρ ++ [(hh.objs.size + 1, hh.objs.size)]) ⟨_, g, d, t, os⟩ (.ref (hh.objs.size + 1) :: us) _ zz.1 (.cons (.ref (p := (hh.objs.size + 1, hh.objs.size)) (by rw [← r.len]; simp)) (hus.step r.frame zz.2)) (fun v S' ρ' u h' tk' p r' hv st => ?_) (fun e s' hX => ?_)
  rotate_left
  · exact x.1 e s' hX
  obtain ⟨rfl, p⟩ := p
  cases hv
  refine ⟨rfl, ?_⟩
  refine q (.ref S.sto.length) S' ρ' (.ref (hh.objs.size + 1)) h' tk' p r' (.ref (p := (hh.objs.size + 1, hh.objs.size)) ?_) (zz.2.trans st)
  obtain ⟨τ, rfl, _⟩ := st.more
  rw [List.getElem?_append_left (by simp [← r.len]), ← r.len]; simp
end
end

section
open PySem PySem.W PyProof.Rows PySem.Calls
section
variable {M : Model} {prog : Program} {w : World} {A : Around} {E : Value → Shared → Prop} {R : Result → Shared → Prop} {h : Heap} {g : Array GenState} {d : Drawn} {t : Nat} {os : OsState} {K : Frag}
variable {nm q : Str} {C N : Addr} {bs bm bx : List Value} {hdct : Bool} {sn : List Str} {sub : List Value} {ab : Bool} {col : Option Bool} {dd : Option Addr} {k0 k1 k2 k3 k5 : Option Value} {B newId initId : String}

theorem exc_check_new (F : ExcBaseFacts B newId initId bx) (hcB : (Value.ref C :: bm).contains (.type B) = true) {rest : List Value} {Q : Unit → Shared → Prop} (hC : h.get? C = some (excClassObj nm q C N bs bm hdct sn sub ab col dd k0 k1 k2 k3 k5 newId))
    (hq : Q () ⟨h, g, d, t, os⟩) : wpAny M A (checkBuiltinCall newId ⟨.ref C :: rest, []⟩) Q E ⟨h, g, d, t, os⟩ := by
  have hstar := F.noStar
  unfold checkBuiltinCall
  rw [F.newKind, F.newSplit, F.newRow]
  dsimp only
  repeat (first | refine wpAny_loadPart_at hC ?_ | (refine wpAny_isSubtype_exc hC ?_; rw [hcB]) | refine wpAny_staticBase_exc hC ?_ | refine wpAny_madeBy_exc hC ?_ | simp only [bne_self_eq_false, Bool.false_eq_true, if_false] | wp_step)
  exact hq

theorem exc_new (F : ExcBaseFacts B newId initId bx) (hcB : (Value.ref C :: bm).contains (.type B) = true) (hcA : (Value.ref C :: bm).contains (.type "AttributeError") = false) (hcN : (Value.ref C :: bm).contains (.type "NameError") = false) {rest : List Value} (hC : h.get? C = some (excClassObj nm q C N bs bm hdct sn sub ab col dd k0 k1 k2 k3 k5 newId))
    (hq : R (.ok (.ret (.ref (h.objs.size + 1)))) ⟨(h.push { cls := .type "tuple", data := .seq rest.toArray }).push
      { cls := .ref C, data := .fields #[.ref h.objs.size, .none, .none, .none, .bool false, .none] }, g, d, t, os⟩) (hrest : rest.length ≤ sizeLine) :
    codeAny (model prog w) A (.builtin newId ⟨.ref C :: rest, []⟩) R ⟨h, g, d, t, os⟩ := by
  have hends := F.ends
  refine codeAny_builtinAt F.entry ?_
  unfold Builtin.«BaseException.__new__»
  refine PySem.wpAt_bind ?_
  show PySem.wpAt _ _ _ (stack >>= _) _ _ _
  refine PySem.wpAt_bind (PySem.wpAt_stack fun p below => PySem.wpAt_of_wpAny ?_)
  wp_walk
  refine PySem.wpAt_of_wpAny ?_
  rw [F.owner]
  repeat (first | with_reducible refine wpAny_madeHere_exc F.canon hC ?_ | with_reducible refine wpAny_loadPart_at hC ?_ | (with_reducible refine wpAny_isSubtype_exc hC ?_; first | rw [hcB] | rw [hcA] | rw [hcN]) | wp_step)
  show R _ _
  rw [Heap.size_push]
  exact hq

theorem exc_type_call (F : ExcBaseFacts B newId initId bx) (hcB : (Value.ref C :: bm).contains (.type B) = true) (hcA : (Value.ref C :: bm).contains (.type "AttributeError") = false) (hcN : (Value.ref C :: bm).contains (.type "NameError") = false) {rest : List Value} {fI : Addr} {Q : PySem.Fin → Shared → Prop}
    (hC : h.get? C = some (excClassObj nm q C N bs bm hdct sn sub ab col dd k0 k1 k2 k3 k5 newId)) (X : K.In h) (hi : findIn K (.ref C) "__init__" = some (some (.ref fI))) (hf : typeIn K (.ref fI) = some (.type "function"))
    (hq : ∀ h' e, Heap.MadeExcOf h h' e (.ref C) rest →
      wpAny (model prog w) A (call (.ref fI) (.ref e :: rest)) (fun r s' => r = .none ∧ Q (.done (.ret (.ref e))) s') E ⟨h', g, d, t, os⟩) (hrest : rest.length ≤ sizeLine) :
    wpAny (model prog w) A (Builtin.«type.__call__» ⟨.ref C :: rest, []⟩) Q E ⟨h, g, d, t, os⟩ := by
  repeat (first | with_reducible refine wpAny_loadPart_at hC ?_ | with_reducible refine wpAny_madeBy_exc hC ?_ | wp_step)
  refine codeAny_call_builtin_code (Code.quiet_builtin _ F.quiet) (exc_check_new F hcB hC ?_)
  refine exc_new F hcB hcA hcN hC ?_ hrest
  show wpAny _ _ _ _ _ _
  have kk : ∀ b o, h.get? b = some o → ((h.push { cls := .type "tuple", data := .seq rest.toArray }).push { cls := .ref C, data := .fields #[.ref h.objs.size, .none, .none, .none, .bool false, .none] }).get? b = some o := fun b o e => Heap.get?_push_of_some _ (Heap.get?_push_of_some _ e)
  have hC₁ := kk _ _ hC
  have X₁ := X.keeps kk
  have hget : ((h.push { cls := .type "tuple", data := .seq rest.toArray }).push
      { cls := .ref C, data := .fields #[.ref h.objs.size, .none, .none, .none, .bool false, .none] }).get? (h.objs.size + 1) = some
      { cls := .ref C, data := .fields #[.ref h.objs.size, .none, .none, .none, .bool false, .none] } := by heap_get
  have hcC : (Value.ref C :: bm).contains (.ref C) = true := by simp
  unfold isInstance
  repeat (first | with_reducible refine wpAny_loadPart_at hget ?_ | (with_reducible refine wpAny_isSubtype_exc hC₁ ?_; rw [hcC]) | wp_step)
  show wpAny _ _ (typeLookup (.ref C) _) _ _ _
  refine (looks_findIn X₁ hi).at ?_
  refine wpAny_holding (wpAny_bind ((bind_fn X₁ _ hf).at ?_))
  refine wpAny_bind (wpAny_mono (hq _ (h.objs.size + 1) ⟨fun b o hb => Heap.get?_push_of_some _ (Heap.get?_push_of_some _ hb), Heap.get?_none_of_le (Nat.le_succ _), h.objs.size, hget, Heap.get?_none_of_le (Nat.le_refl _), ?_⟩) (fun r s' hr => ?_) fun _ _ x => x)
  · exact Heap.get?_push_of_some _ (Heap.get?_push_at rfl rfl)
  · obtain ⟨rfl, hQ⟩ := hr
    wp_walk
    exact hQ

theorem exc_call (F : ExcBaseFacts B newId initId bx) (hcB : (Value.ref C :: bm).contains (.type B) = true) (hcA : (Value.ref C :: bm).contains (.type "AttributeError") = false) (hcN : (Value.ref C :: bm).contains (.type "NameError") = false) {rest : List Value} {fI : Addr} {Q : Value → Shared → Prop}
    (hC : h.get? C = some (excClassObj nm q C N bs bm hdct sn sub ab col dd k0 k1 k2 k3 k5 newId)) (X : K.In h) (hi : findIn K (.ref C) "__init__" = some (some (.ref fI))) (hf : typeIn K (.ref fI) = some (.type "function"))
    (hq : ∀ h' e, Heap.MadeExcOf h h' e (.ref C) rest →
      wpAny (model prog w) (A.under (.builtin "type.__call__" ⟨.ref C :: rest, []⟩)) (call (.ref fI) (.ref e :: rest)) (fun r s' => r = .none ∧ Q (.ref e) s') E ⟨h', g, d, t, os⟩) (hrest : rest.length ≤ sizeLine) :
    wpAny (model prog w) A (call (.ref C) rest) Q E ⟨h, g, d, t, os⟩ := by
  have f1 := tc_lookup
  have f2 := tc_bind (.ref C)
  have hT : (⟨h, g, d, t, os⟩ : Shared).TypeIs (.ref C) "type" := ⟨_, hC, rfl⟩
  refine wpAny_call (codeAny_of_tree ?_)
  show wpAny _ _ (callAny (.ref C) _) _ _ _
  repeat (any_goals (first | assumption | with_reducible refine wpAny_loadPart_at hC ?_ | wp_step))
  refine ⟨rfl, ?_⟩
  refine codeAny_call_builtin_at (Code.quiet_builtin _ (by decide +kernel)) entry_typeCall (wpAny_check_type_call_sub hC (exc_type_call F hcB hcA hcN hC X hi hf (fun h' e hm => ?_) hrest))
  exact hq h' e hm
end
end

section
open PySem PySem.W PyProof.Rows PySem.Calls
open Builtin Builtin.ObjectAttr
noncomputable def ExcObj (h : Heap) (x C : Addr) (vs : Array Value) (us : List (Str × Value)) : Prop :=
  (h.get? x = some { cls := .ref C, data := .fields vs } ∧ us = []) ∨
  ∃ dx es n, h.get? x = some { cls := .ref C, dict := some dx, data := .fields vs } ∧ dx ≠ x ∧ h.get? dx = some (dictOf es n) ∧ EsOf es us
noncomputable def excOwn (h : Heap) (x b : Addr) : Prop := b = x ∨ ∃ o dx, h.get? x = some o ∧ o.dict = some dx ∧ b = dx

section
variable {prog : Program} {w : World} {A : Around} {E : Value → Shared → Prop} {R : Result → Shared → Prop} {s : Shared} {K : Frag} {x C : Addr}

theorem osa_openX {ox : Obj} {od : Option Obj} {name : Str} {tk : Tok} {v : Value} {cd : ClassData} (X : K.In s.heap) (I : InstAt s.heap x ox C od) (hc : clsIn K C = some cd) (hsub : subIn K (.ref C) (.type "object") = some true)
    (hpass : ∀ self, refuseLoop self "__setattr__" cd.mro = pure ()) (ht : takerIn K C name = some none)
    (h : ∀ b, wpAny (model prog w) A.in1 (storeInOwnDict (.ref x) (.ref C) (.str name tk) name v b)
      (fun fin s' => match fin with | .done f => R (.ok f) s' | .again c' => c'.quiet = true ∧ codeAny (model prog w) A c' R s') (fun e s' => R (.error e) s') s) :
    codeAny (model prog w) A (.call (.builtin "object.__setattr__") ⟨[.ref x, .str name tk, v], []⟩) R s := by
  have SF := PySem.F.store_object
  have sub : Looks (model prog w) s.heap (isInstance (.ref x) (.type "object")) true := I.type.andThen (looks_subIn X hsub)
  refine codeAny_call_builtin SF.slot.plain SF.entry (@check_slot (model prog w) _ _ s "object.__setattr__" "object" "__setattr__" (.ref x) [.str name tk, v] [] _ SF.kind SF.split sub (SF.args (.ref x) (.str name tk) v) ?_)
  obtain ⟨attr, ha, hr⟩ := Option.bind_eq_some_iff.mp ht
  have hm : Looks (model prog w) s.heap (mroOf (.ref C)) cd.mro := (looks_clsIn X hc).andThen .now
  have L3 : Looks (model prog w) s.heap (storeTaker? attr) none := by
    cases attr with
    | none => exact .now
    | some a =>
      obtain ⟨b, hb, hr⟩ := Option.map_eq_some_iff.mp hr
      refine (looks_takesIn X hb).andThen ?_
      cases b with
      | true => cases hr
      | false => exact .now
  rw [osa_eq, refuse_eq]
  refine wpAny_bind (wpAny_bind (I.type.here (wpAny_bind (hm.here ?_))))
  rw [hpass]
  refine wpAny_pure (wpAny_bind (I.type.here (wpAny_bind ((looks_findIn X ha).here (wpAny_bind (L3.here ?_))))))
  exact h _

theorem nsSet_go {h : Heap} {g : Array GenState} {d : Drawn} {t : Nat} {os : OsState} {dx : Addr} {name : Str} {v : Value} {es : List DictEntry} {n : Nat} {us : List (Str × Value)} {M : Model} {Q : PySem.Fin → Shared → Prop} {tk : Tok} (hp : M.w = w) (ho : h.get? dx = some (dictOf es n)) (hes : EsOf es us) (hz : us.length ≤ 500)
    (q : ∀ h' tk' es' n', h'.get? dx = some (dictOf es' n') → EsOf es' (putS us name v) → Heap.SameBut dx h h' → Q (.done (.ret .none)) ⟨h', g, d, tk', os⟩) : wpAny M A (storeInDict dx (.str name tk) name v) Q E ⟨h, g, d, t, os⟩ := by
  unfold storeInDict newKeyGuard
  refine wpAny_bind (wpAny_pure (wpAny_bind ?_))
  unfold nsSet
  refine wpAny_bind (wpAny_bind (wpAny_askSetting (wpAny_pure (wpAny_bind (wpAny_mkText (wpAny_bind (wpAny_loadPart ho ?_)))))))
  dsimp only
  have hcnd : (!es.toArray.any (·.key.isStr name) && es.toArray.any (·.refKey)) = false := by
    rw [← Array.any_toList, ← Array.any_toList]
    show (!es.any _ && es.any _) = false
    rw [hes.plain, Bool.and_false]
  rw [aRefKeyMayBeTheName_at, hcnd]
  have hput := putName_dict name (PyData.keyHash M.w.params name) (.str name t) v es n
  have hfree : (Obj.putName name (PyData.keyHash M.w.params name) (.str name t) v (dictOf es n)).isFreed = false := by rw [hput]; rfl
  have ho' := Heap.get?_update_self (Obj.putName name (PyData.keyHash M.w.params name) (.str name t) v) ho hfree
  rw [hput] at ho'
  have hes' := hes.put name (PyData.keyHash M.w.params name) t v
  have hl := hes'.length
  have hl2 := putS_len name v us
  refine wpAny_updatePart ho ?_
  refine wpAny_bind (wpAny_lookBehind ho' (pastItsLine_dict (by rw [List.size_toArray, sizeLine_eq]; allgen_close_more)) ?_)
  exact wpAny_pure (q _ _ _ _ ho' hes' (Heap.SameBut.update ..))

theorem exc_osa {vs : Array Value} {us : List (Str × Value)} {name : Str} {v : Value} {cd : ClassData} {tk : Tok} (X : K.In s.heap) (I : ExcObj s.heap x C vs us) (hc : clsIn K C = some cd) (hd : cd.hasDict = true) (hsub : subIn K (.ref C) (.type "object") = some true)
    (hpass : ∀ self, refuseLoop self "__setattr__" cd.mro = pure ()) (ht : takerIn K C name = some none) (hz : us.length ≤ 500)
    (q : ∀ h' tk', ExcObj h' x C vs (putS us name v) → (∀ b o, ¬ excOwn s.heap x b → s.heap.get? b = some o → h'.get? b = some o) → (∀ b, excOwn h' x b → excOwn s.heap x b ∨ s.heap.get? b = none) → R (.ok (.ret .none)) (shT s h' tk')) :
    codeAny (model prog w) A (.call (.builtin "object.__setattr__") ⟨[.ref x, .str name tk, v], []⟩) R s := by
  rcases I with ⟨hx, rfl⟩ | ⟨dx, es, n, hx, hne, ho, hes⟩
  · have I' : InstAt s.heap x { cls := .ref C, data := .fields vs } C none := ⟨hx, rfl, rfl, trivial⟩
    refine osa_openX X I' hc hsub hpass ht fun b => ?_
    refine wpAny_bind (wpAny_pure (wpAny_bind (wpAny_bind (wpAny_loadPart hx (wpAny_bind ((looks_clsIn X hc).here ?_))))))
    rw [hd]
    refine wpAny_bind (wpAny_alloc ?_)
    have hxs : x ≠ s.heap.objs.size := Nat.ne_of_lt (Heap.lt_size hx)
    have hx₁ : (s.heap.push { cls := .type "dict", data := .dict #[] }).get? x = some { cls := .ref C, data := .fields vs } := Heap.get?_push_of_some _ hx
    refine wpAny_bind (wpAny_update hx₁ ?_)
    refine wpAny_pure (a := some s.heap.objs.size) ?_
    have hx₂ := Heap.get?_update_self (fun o : Obj => { o with dict := some s.heap.objs.size }) hx₁ rfl
    have ho₂ : ((s.heap.push { cls := .type "dict", data := .dict #[] }).update x fun o => { o with dict := some s.heap.objs.size }).get? s.heap.objs.size = some (dictOf [] 0) := by
      rw [Heap.get?_update_other _ _ hxs]; exact Heap.get?_push_size _ rfl
    obtain ⟨hh, g, d, t, os⟩ := s
    refine nsSet_go (w := w) rfl ho₂ .nil (Nat.zero_le _) fun h' tk' es' n' e1 e2 hs => ?_
    refine q h' tk' (.inr ⟨_, es', n', (hs.2 x hxs).trans hx₂, hxs.symm, e1, e2⟩) (fun b o hb e => ?_) fun b hb => ?_
    · have hbx : b ≠ x := fun z => hb (.inl z)
      exact (hs.2 b (Nat.ne_of_lt (Heap.lt_size e))).trans ((Heap.get?_update_other _ _ (Ne.symm hbx)).trans (Heap.get?_push_of_some _ e))
    · rcases hb with rfl | ⟨o, dx, e, ed, rfl⟩
      · exact .inl (.inl rfl)
      · have := (hs.2 x hxs).trans hx₂
        rw [this] at e; cases e; cases ed
        exact .inr fresh_none
  · have I' : InstAt s.heap x { cls := .ref C, dict := some dx, data := .fields vs } C (some (dictOf es n)) := ⟨hx, rfl, rfl, ho⟩
    refine osa_openX X I' hc hsub hpass ht fun b => ?_
    refine wpAny_bind (wpAny_pure (wpAny_bind (wpAny_bind (wpAny_loadPart hx (wpAny_bind ((looks_clsIn X hc).here ?_))))))
    rw [hd]
    refine wpAny_pure (a := some dx) ?_
    obtain ⟨hh, g, d, t, os⟩ := s
    refine nsSet_go (w := w) rfl ho hes hz fun h' tk' es' n' e1 e2 hs => ?_
    refine q h' tk' (.inr ⟨dx, es', n', (hs.2 x hne.symm).trans hx, hne, e1, e2⟩) (fun b o hb e => ?_) fun b hb => ?_
    · exact (hs.2 b fun z => hb (.inr ⟨_, dx, hx, rfl, z⟩)).trans e
    · rcases hb with rfl | ⟨o, dx', e, ed, rfl⟩
      · exact .inl (.inl rfl)
      · rw [(hs.2 x hne.symm).trans hx] at e; cases e; cases ed
        exact .inl (.inr ⟨_, _, hx, rfl, rfl⟩)

theorem exc_set {vs : Array Value} {us : List (Str × Value)} {name : Str} {v : Value} {cd : ClassData} {Q : Unit → Shared → Prop} (X : K.In s.heap) (I : ExcObj s.heap x C vs us) (hc : clsIn K C = some cd) (hd : cd.hasDict = true) (hsub : subIn K (.ref C) (.type "object") = some true)
    (hpass : ∀ self, refuseLoop self "__setattr__" cd.mro = pure ()) (ht : takerIn K C name = some none) (hs : findIn K (.ref C) "__setattr__" = some (some (.builtin "object.__setattr__"))) (hz : us.length ≤ 500)
    (q : ∀ h' tk', ExcObj h' x C vs (putS us name v) → (∀ b o, ¬ excOwn s.heap x b → s.heap.get? b = some o → h'.get? b = some o) → (∀ b, excOwn h' x b → excOwn s.heap x b ∨ s.heap.get? b = none) → Q () (shT s h' tk')) :
    wpAny (model prog w) A (setAttr (.ref x) name v) Q E s := by
  have go := exc_osa (prog := prog) (w := w) (A := A) (R := fun r s' => match r with | .ok (.ret _) => Q () s' | .ok _ => False | .error e => E e s') (s := { s with toks := s.toks + 1 }) (tk := s.toks) X I hc hd hsub hpass ht hz q
  rcases I with ⟨hx, rfl⟩ | ⟨dx, es, n, hx, hne, ho, hes⟩
  · exact set_plain X (ox := { cls := .ref C, data := .fields vs }) (od := none) ⟨hx, rfl, rfl, trivial⟩ hs go
  · exact set_plain X (ox := { cls := .ref C, dict := some dx, data := .fields vs }) (od := some (dictOf es n)) ⟨hx, rfl, rfl, ho⟩ hs go
end
end

section
open PySem PySem.W PyProof.Rows PySem.Calls
structure ExcStep (h : Heap) (x : Addr) (h' : Heap) : Prop where
  keep : ∀ b o, ¬ excOwn h x b → h.get? b = some o → h'.get? b = some o
  own : ∀ b, excOwn h' x b → excOwn h x b ∨ h.get? b = none
theorem ExcStep.trans {h h₁ h₂ : Heap} {x : Addr} (a : ExcStep h x h₁) (b : ExcStep h₁ x h₂) : ExcStep h x h₂ := by
  refine ⟨fun c o hc e => ?_, fun c hc => ?_⟩
  · refine b.keep c o (fun z => ?_) (a.keep c o hc e)
    rcases a.own c z with z | z
    · exact hc z
    · rw [z] at e; cases e
  · rcases b.own c hc with z | z
    · exact a.own c z
    · cases e : h.get? c with
      | none => exact .inr rfl
      | some o =>
        by_cases hz : excOwn h x c
        · exact .inl hz
        · rw [a.keep c o hz e] at z; cases z

structure ExcCls (K : Frag) (C : Addr) (name : Str) : Prop where
  cd : ∃ cd, clsIn K C = some cd ∧ cd.hasDict = true ∧ ∀ self, refuseLoop self "__setattr__" cd.mro = pure ()
  sub : subIn K (.ref C) (.type "object") = some true
  taker : takerIn K C name = some none
  set : findIn K (.ref C) "__setattr__" = some (some (.builtin "object.__setattr__"))

section
variable {prog : Program} {w : World} {A : Around} {E : Value → Shared → Prop} {R : Result → Shared → Prop} {s : Shared} {K : Frag} {x C : Addr}

theorem exc_set' {vs : Array Value} {us : List (Str × Value)} {name : Str} {v : Value} {Q : Unit → Shared → Prop} (X : K.In s.heap) (Y : ExcCls K C name) (I : ExcObj s.heap x C vs us) (hz : us.length ≤ 500)
    (q : ∀ h' tk', ExcObj h' x C vs (putS us name v) → ExcStep s.heap x h' → Q () (shT s h' tk')) :
    wpAny (model prog w) A (setAttr (.ref x) name v) Q E s := by
  obtain ⟨cd, hc, hd, hp⟩ := Y.cd
  exact exc_set X I hc hd Y.sub hp Y.taker Y.set hz fun h' tk' a b c => q h' tk' a ⟨b, c⟩

theorem init_row {env : Env} {vs : Array Value} {us : List (Str × Value)} {name : Str} {v : Value} {p1 p2 p3 p4 : Pos} {m : Str → Option Value} {Q : Flow → Shared → Prop} (hk : env.scope.kind = .function) (hl1 : env.kindOf "self" = some .local) (hl2 : env.kindOf name = some .local)
    (hm : s.heap.Ns env.locals m) (h1 : m "self" = some (.ref x)) (h2 : m name = some v) (X : K.In s.heap) (Y : ExcCls K C name) (I : ExcObj s.heap x C vs us) (hz : us.length ≤ 500) (hdb : (name == ("__debug__" : Str)) = false)
    (q : ∀ h' tk', ExcObj h' x C vs (putS us name v) → ExcStep s.heap x h' → Q .next (shT s h' tk')) :
    wpAny (model prog w) A (exec (.Assign [.Attribute (.Name "self" p1) name p2] (.Name name p3) p4) env) Q E s := by
  refine plainObj_wpAny_Assign_Attribute ?_ rfl
  refine wpAny_Name (wpAny_loadName_local hk hl2 hm h2 ?_) hdb
  refine wpAny_Name (wpAny_loadName_local hk hl1 hm h1 ?_) (by decide +kernel)
  exact exc_set' X Y I hz q

theorem exc_init {f : Addr} {fd : FuncData} {oc : Value} {od : Option Addr} {sl : Array (Option Value)} {p1 p2 p3 p4 q1 q2 q3 q4 r1 r2 r3 r4 : Pos} {u1 u2 u3 : Value} {vs : Array Value} {Q : Value → Shared → Prop}
    (X : K.In s.heap) (ho : K.lookup f = some ⟨oc, od, .func fd, sl⟩) (hcd : codeIn K fd.code fd.qualname = true) (hlim : s.heap.NoLimit)
    (hbody : fd.body = .stmts [.Assign [.Attribute (.Name "self" p1) "kind" p2] (.Name "kind" p3) p4, .Assign [.Attribute (.Name "self" q1) "at" q2] (.Name "at" q3) q4, .Assign [.Attribute (.Name "self" r1) "detail" r2] (.Name "detail" r3) r4]) (hclo : fd.closure = []) (hroom : A.depth < recursionLimit)
    (hb : BindsTo s fd ⟨[.ref x, u1, u2, u3], []⟩ [("self", .ref x), ("kind", u1), ("at", u2), ("detail", u3)])
    (k0 : fd.scope.names.lookup ("self" : Str) = some .local) (k1 : fd.scope.names.lookup ("kind" : Str) = some .local) (k2 : fd.scope.names.lookup ("at" : Str) = some .local) (k3 : fd.scope.names.lookup ("detail" : Str) = some .local)
    (Y1 : ExcCls K C "kind") (Y2 : ExcCls K C "at") (Y3 : ExcCls K C "detail") (I0 : s.heap.get? x = some { cls := .ref C, data := .fields vs }) (hK : ∀ a o, K.lookup a = some o → a ≠ x)
    (q : ∀ h' tk', ExcObj h' x C vs [("kind", u1), ("at", u2), ("detail", u3)] → ExcStep s.heap x h' → Q .none (shT s h' tk'))
    (hco : autoParam (fd.scope.isCoroutine = false) syn1) (hgen : autoParam (fd.scope.isGenerator = false) syn1) (hk : autoParam (fd.scope.kind = .function) syn1) :
    wpAny (model prog w) A (call (.ref f) [.ref x, u1, u2, u3]) Q E s := by
  refine wpAny_call (codeAny_call_function hroom (X _ _ ho) rfl hco hgen hbody (codeRec_of X hcd) (hb _ _ _ _ ?_))
  rw [hclo]
  refine wpAny_newFunctionEnv_cells hk (List.forall_mem_cons.2 ⟨.inl k0, List.forall_mem_cons.2 ⟨.inl k1, List.forall_mem_cons.2 ⟨.inl k2, List.forall_mem_cons.2 ⟨.inl k3, fun _ h => (by cases h)⟩⟩⟩⟩) fun env' he s₁ x₁ => ?_
  obtain rfl : env' = callEnvC fd s.heap.objs.size f := he
  refine ⟨hlim.keeps x₁.toInCall.keep, codeAny_func ?_⟩
  obtain ⟨h₁, tk₁, rfl, _⟩ := x₁.done
  have hk₁ := x₁.toInCall.keep
  have hns := x₁.toInCall.ns
  have hnd : (([("self", Value.ref x), ("kind", u1), ("at", u2), ("detail", u3)] : List (Str × Value)).map (·.1)).Nodup := by
    show (["self", "kind", "at", "detail"] : List Str).Nodup
    decide +kernel
  have g0 := bindL_get (kindOf := (callEnvC fd s.heap.objs.size f).kindOf) (m := fun _ => none) k0 hnd (.head _)
  have g1 := bindL_get (kindOf := (callEnvC fd s.heap.objs.size f).kindOf) (m := fun _ => none) k1 hnd (.tail _ (.head _))
  have g2 := bindL_get (kindOf := (callEnvC fd s.heap.objs.size f).kindOf) (m := fun _ => none) k2 hnd (.tail _ (.tail _ (.head _)))
  have g3 := bindL_get (kindOf := (callEnvC fd s.heap.objs.size f).kindOf) (m := fun _ => none) k3 hnd (.tail _ (.tail _ (.tail _ (.head _))))
  -- the exception stands as it was
  have I₁ : ExcObj h₁ x C vs [] := .inl ⟨hk₁ _ _ I0, rfl⟩
  have ownK : ∀ b, excOwn h₁ x b → b = x := fun b hb => by
    rcases hb with rfl | ⟨o, dx, e, ed, rfl⟩
    · rfl
    · rw [hk₁ _ _ I0] at e; cases e; cases ed
  have st₁ : ExcStep s.heap x h₁ := ⟨fun b o _ e => hk₁ b o e, fun b hb => .inl (.inl (ownK b hb))⟩
  have X₁ := X.keeps hk₁
  obtain ⟨oL, esL, nL, eL, dL, rL⟩ := hns
  have notOwn : ∀ h', ExcStep h₁ x h' → h'.get? s.heap.objs.size = some oL := fun h' st =>
    st.keep _ _ (fun z => by have e := I0; rw [← ownK _ z] at e; exact absurd (Heap.lt_size e) (Nat.lt_irrefl _)) eL
  have keepX : ∀ {h'}, ExcStep h₁ x h' → K.In h' := fun {h'} st a o e => st.keep a o (fun z => hK a _ e (ownK _ z)) (X₁ a o e)
  refine wpAny_execs_cons (init_row hk k0 k1 ⟨oL, esL, nL, eL, dL, rL⟩ g0 g1 X₁ Y1 I₁ (Nat.zero_le _) (by decide +kernel) fun h2 tk2 I2 s2 => ?_)
  refine wpAny_execs_cons (init_row hk k0 k2 ⟨oL, esL, nL, notOwn _ s2, dL, rL⟩ g0 g2 (keepX s2) Y2 I2 (by with_unfolding_all exact Nat.le_of_ble_eq_true rfl) (by decide +kernel) fun h3 tk3 I3 s3 => ?_)
  have s23 := s2.trans s3
  refine wpAny_execs_cons (init_row hk k0 k3 ⟨oL, esL, nL, notOwn _ s23, dL, rL⟩ g0 g3 (keepX s23) Y3 I3 (by with_unfolding_all exact Nat.le_of_ble_eq_true rfl) (by decide +kernel) fun h4 tk4 I4 s4 => ?_)
  exact wpAny_execs_nil (q h4 tk4 (by with_unfolding_all exact I4) (st₁.trans (s23.trans s4)))
end
end

section
open PySem PySem.W PyProof.Rows PySem.Calls
inductive FlyObj (base : Heap) (l : List Env) (x C : Addr) (us : List (Str × Value)) (h : Heap) : Prop
  | mk (vs : Array Value) (dx : Addr) (es : List DictEntry) (n : Nat) (h1 : h.get? x = some { cls := .ref C, dict := some dx, data := .fields vs }) (h2 : dx ≠ x) (h3 : h.get? dx = some (dictOf es n)) (h4 : EsOf es us) (h5 : ∀ b ∈ l.filterMap (·.frame), b ≠ dx) (h6 : 1 < vs.size)
    (h7 : vs[1]? = some .none ∨ E3 fun T oT ts => A6 (vs[1]? = some (.ref T)) (base.get? T = none) (T ≠ x) (h.get? T = some oT) (oT.data = .fields ts) (ts[3]? = some .none))
structure Fly (base : Heap) (l : List Env) (x C : Addr) (us : List (Str × Value)) (h : Heap) : Prop where
  stays : base.StaysIn h
  new : base.get? x = none
  frames : h.FunFrames base l
  obj : FlyObj base l x C us h

noncomputable def SameData (h h' : Heap) : Prop := ∀ b o, h.get? b = some o → (∀ vs, o.data ≠ .fields vs) → ∃ o', h'.get? b = some o' ∧ o'.data = o.data
section
variable {M : Model} {A : Around} {E : Value → Shared → Prop} {s : Shared}

theorem fly_entry {base : Heap} {env : Env} {outer : List Env} {L x C dx : Addr} {vs : Array Value} {es : List DictEntry} {n : Nat} {us : List (Str × Value)} {head : Value} {hadNext : Bool} {Q : Unit → Shared → Prop}
    (hfr : A.frames = some (env :: outer)) (hl : s.heap.FunFrames base (env :: outer)) (hf : env.frame = some L) (he : s.heap.get? x = some { cls := .ref C, dict := some dx, data := .fields vs }) (hdx : dx ≠ x) (hD : s.heap.get? dx = some (dictOf es n)) (hes : EsOf es us)
    (hnl : ∀ b ∈ (env :: outer).filterMap (·.frame), b ≠ dx) (hkb : base.StaysIn s.heap) (hen : base.get? x = none) (hsz : 1 < vs.size)
    (h : ∀ h', Fly base (env :: outer) x C us h' → SameData s.heap h' → Q () { s with heap := h' }) :
    wpAny M A (do let a ← frameOf env; let pl ← entryPlaceOf L hadNext; let b ← EntryCells.newEntry head a .none (rawInt L) .none pl; setField (.ref x) 1 b) (fun _ s' => wpAny M A (setFlight (.ref x) none) Q E s') E s := by
  have hene : x ∉ (env :: outer).filterMap (·.frame) := fun hm => by
    obtain ⟨_, o, ho, hnf⟩ := hl.mem hm
    rw [he] at ho; injection ho with ho; subst ho; exact hnf vs rfl
  refine wpAny_bind (wpAny_frameOf_fun hfr hl hf fun h₁ hs₁ => ?_)
  refine wpAny_bind (wpAny_entryPlaceOf fun pl hpl => ?_)
  unfold EntryCells.newEntry newFields
  refine wpAny_bind (wpAny_newObj_type ?_ (hpl.sizeOk5 _ _ _ _ _))
  have he₁ : h₁.get? x = some _ := (hs₁.2.1 x hene).trans he
  have hD₁ : h₁.get? dx = some (dictOf es n) := (hs₁.2.1 dx fun hm => hnl dx hm rfl).trans hD
  have kb₁ : base.StaysIn h₁ := fun b o hbo => (hs₁.2.1 b fun hm => by rw [(hl.mem hm).1] at hbo; cases hbo).trans (hkb b o hbo)
  generalize hob : ({ cls := .type "traceback", dict := none, data := .fields ([head, .ref L, .none, rawInt L, .none] ++ (if pl.isEmpty then List.replicate 6 Value.none else pl)).toArray } : Obj) = ob
  have hbd : ob.data = .fields ([head, .ref L, .none, rawInt L, .none] ++ (if pl.isEmpty then List.replicate 6 Value.none else pl)).toArray := by rw [← hob]
  have hbf : ob.isFreed = false := by rw [← hob]; rfl
  have he₂ := Heap.get?_push_of_some ob he₁
  refine wpAny_setField he₂ rfl hsz ?_
  have hTx : h₁.objs.size ≠ x := Nat.ne_of_gt (Heap.lt_size he₁)
  have hTd : h₁.objs.size ≠ dx := Nat.ne_of_gt (Heap.lt_size hD₁)
  have he₃ := Heap.get?_update_self (Obj.mapFields (·.setIfInBounds 1 (Value.ref h₁.objs.size))) he₂ rfl
  have hT₃ := (Heap.get?_update_other (h₁.push ob) (Obj.mapFields (·.setIfInBounds 1 (Value.ref h₁.objs.size))) (Ne.symm hTx)).trans (Heap.get?_push_size h₁ hbf)
  unfold setFlight
  refine wpAny_bind (wpAny_field he₃ rfl (x := .ref h₁.objs.size) (by simp [hsz]) ?_)
  rw [if_pos (show (Value.ref h₁.objs.size != Value.none) = true from by simp)]
  refine wpAny_setField hT₃ hbd (by simp only [List.size_toArray, List.length_append, List.length_cons, List.length_nil] <;> allgen_close_more) (h _ ?_ ?_)
  rotate_left
  · intro b o hb hnf
    obtain ⟨sl, hs⟩ := hs₁.2.2 b o hb
    have hbx : b ≠ x := fun q => by rw [q, he] at hb; injection hb with hb; subst hb; exact hnf vs rfl
    refine ⟨{ o with slots := sl }, ?_, rfl⟩
    show (((h₁.push ob).update x _).update h₁.objs.size _).get? b = _
    have hbT : h₁.objs.size ≠ b := Nat.ne_of_gt (Heap.lt_size hs)
    rw [Heap.get?_update_other _ _ hbT, Heap.get?_update_other _ _ (Ne.symm hbx)]
    exact Heap.get?_push_of_some _ hs
  have keep : ∀ b o, b ≠ x → h₁.get? b = some o →
      (((h₁.push ob).update x (Obj.mapFields (·.setIfInBounds 1 (Value.ref h₁.objs.size)))).update h₁.objs.size
        (Obj.mapFields (·.setIfInBounds 3 ((none : Option Addr).elim Value.none fun f => rawInt f)))).get? b = some o := fun b o hbe hb => by
    have hbT : h₁.objs.size ≠ b := Nat.ne_of_gt (Heap.lt_size hb)
    rw [Heap.get?_update_other _ _ hbT, Heap.get?_update_other _ _ (Ne.symm hbe)]
    exact Heap.get?_push_of_some _ hb
  have noRecord : ∀ b o, s.heap.get? b = some o → (∀ vs, o.data ≠ .fields vs) → b ≠ x := fun b o hb hnf q => by
    rw [q, he] at hb; injection hb with hb; subst hb; exact hnf vs rfl
  refine ⟨fun b o hbo => keep b o (fun q => by rw [q, hen] at hbo; cases hbo) (kb₁ b o hbo), hen, hl.of_keeps fun b o hb hnf => ?_, ?_⟩
  · obtain ⟨sl, hs⟩ := hs₁.2.2 b o hb
    exact ⟨_, keep b _ (noRecord b o hb hnf) hs, rfl⟩
  · refine ⟨vs.setIfInBounds 1 (Value.ref h₁.objs.size), dx, es, n, ?_, hdx, keep _ _ hdx hD₁, hes, hnl, by simp [hsz], .inr ⟨h₁.objs.size, _, _, by simp [hsz], kb₁.fresh, hTx, Heap.get?_update_self _ hT₃ (Obj.isFreed_of_fields (Obj.data_mapFields hbd _)), Obj.data_mapFields hbd _, ?_⟩⟩
    · rw [Heap.get?_update_other _ _ hTx]; exact he₃
    · first | (simp; done) | (rcases hpl with rfl | ⟨_, _, _, _, _, _, _, rfl⟩ <;> simp)

theorem fly_leave {base : Heap} {env : Env} {outer : List Env} {L x C : Addr} {us : List (Str × Value)} {Q : Unit → Shared → Prop}
    (hfr : A.frames = some (env :: outer)) (hf : env.frame = some L) (F : Fly base (env :: outer) x C us s.heap) (h : ∀ h', Fly base outer x C us h' → SameData s.heap h' → Q () { s with heap := h' }) :
    wpAny M A (leaving env (.ref x)) Q E s := by
  obtain ⟨f1, f2, f3, vs, dx, es, n, he, hdx, hD, hes, hnl, hsz, ht⟩ := F
  have fin : ∀ h', Fly base (env :: outer) x C us h' → SameData s.heap h' → Q () { s with heap := h' } := fun h' F' sd => by
    refine h h' ⟨F'.stays, F'.new, F'.frames.2.2, ?_⟩ sd
    obtain ⟨vs, dx, es, n, a1, a2, a3, a4, a5, a6, a7⟩ := F'.obj
    exact ⟨vs, dx, es, n, a1, a2, a3, a4, fun b hb => a5 b (by rw [List.filterMap_cons, hf]; exact .tail _ hb), a6, a7⟩
  unfold leaving noteFrame
  simp only [hf]
  rcases ht with h1 | ⟨T, oT, ts, h1, hnT, hTx, hT, hdT, h3⟩
  · refine wpAny_bind (wpAny_bind (wpAny_field he rfl h1 ?_))
    rw [if_neg (by decide)]
    exact fly_entry hfr f3 hf he hdx hD hes hnl f1 f2 hsz fin
  · refine wpAny_bind (wpAny_bind (wpAny_field he rfl h1 ?_))
    rw [if_pos (show (Value.ref T != Value.none) = true from by simp)]
    refine wpAny_bind (wpAny_field hT hdT h3 ?_)
    rw [if_neg (show ¬ ((Value.none == rawInt L) = true) from by simp [rawInt])]
    refine wpAny_bind (wpAny_setField hT hdT (Array.getElem?_eq_some_iff.mp h3).1 ?_)
    have other : ∀ b, b ≠ T → (s.heap.update T (Obj.mapFields (·.setIfInBounds 3 Value.none))).get? b = s.heap.get? b := fun b hb => Heap.get?_update_other _ _ (Ne.symm hb)
    have noRecord : ∀ b o, s.heap.get? b = some o → (∀ vs, o.data ≠ .fields vs) → b ≠ T := fun b o hb hnf q => by
      rw [q, hT] at hb; injection hb with hb; subst hb; exact hnf ts hdT
    exact fly_entry hfr (f3.of_keeps fun b o hb hnf => ⟨o, (other b (noRecord b o hb hnf)).trans hb, rfl⟩) hf ((other x (Ne.symm hTx)).trans he) hdx ((other dx (noRecord dx _ hD fun vs z => by cases z)).trans hD) hes hnl
      (fun b o hbo => (other b fun q => by rw [q, hnT] at hbo; cases hbo).trans (f1 b o hbo)) f2 hsz fun h' F' sd => fin h' F' fun b o hb hnf => sd b o ((other b (noRecord b o hb hnf)).trans hb) hnf
end

section
variable {prog : Program} {w : World} {A : Around} {E : Value → Shared → Prop} {s : Shared} {K : Frag} {env : Env}
theorem raise_own {C : Addr} {e : Expr} {pos : Pos} {Q : Flow → Shared → Prop} (hh : A.handled = none)
    (h : wpAny (model prog w) A (eval e env) (fun v s₁ => E3 (fun a ob vs => A7 (v = .ref a) (K.In s₁.heap) (s₁.heap.get? a = some ob) (ob.cls = .ref C) (ob.data = .fields vs) (vs[1]? = some .none) (E (.ref a) s₁))) E s)
    (hsub : subIn K (.ref C) (.type "BaseException") = some true) (hty : typeIn K (.ref C) = some (.type "type")) : wpAny (model prog w) A (exec (.Raise (some e) none pos) env) Q E s := by
  show wpAny (model prog w) A (do standAt pos; raiseStmt env (some (do let v ← eval e env; standAt pos; pure v)) none) Q E s
  refine wpAny_bind (wpAny_standAt ?_)
  unfold raiseStmt
  dsimp only
  refine wpAny_bind (wpAny_bind (wpAny_mono h (fun v s₁ h₁ => wpAny_bind (wpAny_standAt (wpAny_pure ?_))) fun _ _ x => x))
  obtain ⟨a, ob, vs, rfl, X, ha, hcls, hd, h1, hE⟩ := h₁
  have hnt : ∀ {Q' : Bool → Shared → Prop}, Q' false s₁ → wpAny (model prog w) A (isType (.ref a)) Q' E s₁ := by
    intro Q' hq
    simp only [isType, loadHead]
    refine wpAny_bind (wpAny_loadPart ha ?_)
    rw [hd]; exact wpAny_pure hq
  have ht : Looks (model prog w) s₁.heap (typeOf (.ref a)) (.ref C) := hcls ▸ (Looks.ld ha).andThen .now
  have hi : Looks (model prog w) s₁.heap (isInstance (.ref a) (.type "BaseException")) true := ht.andThen (looks_subIn X hsub)
  refine wpAny_bind (wpAny_pure ?_)
  dsimp only
  refine wpAny_bind (wpAny_holding ?_)
  unfold excFromValue isExcClass
  refine wpAny_bind (wpAny_bind (hnt ?_))
  rw [if_neg Bool.false_ne_true]
  refine wpAny_pure ?_
  rw [if_neg Bool.false_ne_true]
  refine wpAny_bind (hi.here ?_)
  rw [if_pos rfl]
  refine wpAny_pure ?_
  refine wpAny_bind (hnt ?_)
  rw [if_neg Bool.false_ne_true]
  unfold raisedInstance
  refine wpAny_bind (wpAny_bind (ht.here (wpAny_bind ((looks_typeIn X hty).here ?_))))
  rw [if_pos (by rfl)]
  refine wpAny_pure ?_
  unfold setFlight raiseNew
  refine wpAny_bind (wpAny_bind (wpAny_field ha hd h1 ?_))
  rw [if_neg (by decide)]
  refine wpAny_pure (wpAny_bind (wpAny_handled ?_))
  rw [hh]
  first
    | exact wpAny_throw hE
    | exact wpAny_bind (wpAny_pure (wpAny_throw hE))
end
end

section
open PySem PySem.W PyProof.Rows PySem.Calls
section
variable {c : Cx} {S : St} {K : Frag}
theorem EW.strMeth1 {o e : Expr} {name : Str} {apos pos : Pos} {id : String} {c : Cx} {S : St} {P : V → St → Prop} (slot : Slot "str" name id) (hty : typeOf (.builtin id) = pure (.type "method_descriptor"))
    (h : EW c S o fun a S₁ => ∃ y, a = .str y ∧ EW c S₁ e fun b S₂ => CW c S₂ (.builtin id) [.str y, b] P)
    (hbase : autoParam (attributeBase o name c.env (eval o c.env) = eval o c.env) syn7)
    (he : autoParam (starEach [e] c.env = (false, eval e c.env) :: starEach [] c.env) syn5)
    (hline : autoParam ((apos.endLine == pos.line) = true) syn1) : EW c S (.Call (.Attribute o name apos) [e] [] pos) P :=
  EW.strMeth (args := [e]) slot hty (fun ρ s Q E r q x => h ρ s Q E r (fun v S₁ ρ₁ u h' tk' p => q v S₁ ρ₁ u h' tk' (let ⟨y, hy, p⟩ := p; ⟨y, hy, AW.cons (fun ρ s Q E r q x => p ρ s Q E r (fun v S₁ ρ₁ u h' tk' p => q v S₁ ρ₁ u h' tk' (AW.nil p)) x) he⟩)) x)
    hbase (by rw [he]; rfl) hline (.inr ⟨e, [], rfl, he, rfl⟩)
theorem EW.listMeth1 {o e : Expr} {name : Str} {apos pos : Pos} {id : String} {c : Cx} {S : St} {P : V → St → Prop} (slot : Slot "list" name id) (hty : typeOf (.builtin id) = pure (.type "method_descriptor"))
    (h : EW c S o fun a S₁ => E2 (fun j vs => A3 (a = .ref j) (S₁.sto[j]? = some (.lst vs)) (EW c S₁ e fun b S₂ => CW c S₂ (.builtin id) [.ref j, b] P)))
    (hbase : autoParam (attributeBase o name c.env (eval o c.env) = eval o c.env) syn7)
    (he : autoParam (starEach [e] c.env = (false, eval e c.env) :: starEach [] c.env) syn5)
    (hline : autoParam ((apos.endLine == pos.line) = true) syn1) : EW c S (.Call (.Attribute o name apos) [e] [] pos) P :=
  EW.listMeth (args := [e]) slot hty (fun ρ s Q E r q x => h ρ s Q E r (fun v S₁ ρ₁ u h' tk' p => q v S₁ ρ₁ u h' tk' (let ⟨j, vs, hj, hs, p⟩ := p; ⟨j, vs, hj, hs, AW.cons (fun ρ s Q E r q x => p ρ s Q E r (fun v S₁ ρ₁ u h' tk' p => q v S₁ ρ₁ u h' tk' (AW.nil p)) x) he⟩)) x)
    hbase (by rw [he]; rfl) hline (.inr ⟨e, [], rfl, he, rfl⟩)
end
end

section
open PySem PySem.W PyProof.Rows PySem.Calls
section
variable {c : Cx} {S : St} {K : Frag}

noncomputable def intAt (K : Frag) (x : Str) : Option Int := match nsIn K mainGlobals x with
  | some (some (.int i _)) => some i
  | _ => none
theorem EW.globalInt {x : Str} {pos : Pos} {K : Frag} {c : Cx} {S : St} {i : Int} {P : V → St → Prop} (hW : Wd K c.g.h) (hE : EnvOk c.env) (hn : intAt K x = some i) (p : P (.int i) S) (hx : autoParam (c.env.kindOf x = some .globalImplicit) syn1) (hd : autoParam ((x == ("__debug__" : Str)) = false) syn2) : EW c S (.Name x pos) P := by
  intro ρ s Q E r q _
  unfold intAt at hn
  split at hn
  · rename_i j t he
    cases hn
    exact wp_global hW hE r he hx (q _ S ρ _ s.heap s.toks p r (.int _ t) (.refl ..)) hd
  · cases hn

inductive VPs (h : Heap) (ρ : Rho) : List (V × V) → List (Value × Value) → Prop
  | nil : VPs h ρ [] []
  | cons {a b : V} {u v : Value} {vs : List (V × V)} {us : List (Value × Value)} : VR h ρ a u → VR h ρ b v → VPs h ρ vs us → VPs h ρ ((a, b) :: vs) ((u, v) :: us)
theorem VPs.length {h : Heap} {ρ : Rho} {vs : List (V × V)} {us : List (Value × Value)} (x : VPs h ρ vs us) : us.length = vs.length := by
  induction x with
  | nil => rfl
  | cons _ _ _ ih => simp [ih]
noncomputable abbrev PW (c : Cx) (S : St) (pos : Pos) (ks : List (Option Expr)) (vs : List Expr) (P : List (V × V) → St → Prop) : Prop := TW c VPs S (evalPairs (pairTrees ks vs c.env pos)) P
theorem PW.nil {pos : Pos} {c : Cx} {S : St} {P : List (V × V) → St → Prop} (p : P [] S) : PW c S pos [] [] P :=
  fun ρ s Q E r q _ => pairTrees_nil_walk (q [] S ρ [] s.heap s.toks p r .nil (.refl ..))
theorem PW.cons {pos : Pos} {k v : Expr} {vs : List Expr} {c : Cx} {S : St} {ks : List (Option Expr)} {P : List (V × V) → St → Prop} (h : EW c S k fun a S₁ => EW c S₁ v fun b S₂ => PW c S₂ pos ks vs fun l S₃ => P ((a, b) :: l) S₃) : PW c S pos (some k :: ks) (v :: vs) P := by
  intro ρ s Q E r q x
  refine pairTrees_cons_walk (h ρ s _ E r (fun a S₁ ρ₁ u₁ h₁ tk₁ p₁ r₁ v₁ st₁ => ?_) x)
  refine p₁ ρ₁ _ _ E r₁ (fun b S₂ ρ₂ u₂ h₂ tk₂ p₂ r₂ v₂ st₂ => ?_) x
  refine p₂ ρ₂ _ _ E r₂ (fun l S₃ ρ₃ u₃ h₃ tk₃ p₃ r₃ v₃ st₃ => ?_) x
  exact q _ S₃ ρ₃ _ h₃ tk₃ p₃ r₃ (.cons ((v₁.step r₁.frame st₂).step r₂.frame st₃) (v₂.step r₂.frame st₃) v₃) (st₁.trans (st₂.trans st₃))
noncomputable def mergeK {K : Type} [DecidableEq K] (d more : List (K × V)) : List (K × V) := more.foldl (fun acc kv => putK acc kv.1 kv.2) d
theorem KVs.merge {K : Type} [DecidableEq K] {h : Heap} {ρ : Rho} {d : List (K × V)} {us : List (K × Value)} (x : KVs h ρ d us) {more : List (K × V)} {ws : List (K × Value)} (y : KVs h ρ more ws) : KVs h ρ (mergeK d more) (merged us ws) := by
  induction y generalizing d us with
  | nil => exact x
  | cons a _ ih => exact ih (x.put _ a)
theorem VR.int_inv {h : Heap} {ρ : Rho} {i : Int} {u : Value} (x : VR h ρ (.int i) u) : ∃ t, u = .int i t := by cases x; exact ⟨_, rfl⟩
theorem VR.str_inv {h : Heap} {ρ : Rho} {i : Str} {u : Value} (x : VR h ρ (.str i) u) : ∃ t, u = .str i t := by cases x; exact ⟨_, rfl⟩
theorem VPs.nil_inv {h : Heap} {ρ : Rho} {us : List (Value × Value)} (x : VPs h ρ [] us) : us = [] := by cases x; rfl
theorem VPs.cons_inv {h : Heap} {ρ : Rho} {a b : V} {vs : List (V × V)} {us : List (Value × Value)} (x : VPs h ρ ((a, b) :: vs) us) : ∃ u v r, us = (u, v) :: r ∧ VR h ρ a u ∧ VR h ρ b v ∧ VPs h ρ vs r := by
  cases x with
  | cons h1 h2 h3 => exact ⟨_, _, _, rfl, h1, h2, h3⟩
theorem carriesI {prog : Program} {w : World} {h : Heap} {ρ : Rho} {iv : List (Int × V)} : ∀ {us : List (Value × Value)}, VPs h ρ (iv.map fun p => (.int p.1, p.2)) us → ∃ ws, Carries (intKind prog w) us ws ∧ KVs h ρ iv ws := by
  induction iv with
  | nil => intro us x; rw [x.nil_inv]; exact ⟨[], trivial, .nil⟩
  | cons p r ih =>
    intro us x
    obtain ⟨u, v, us', rfl, hu, hb, hr⟩ := x.cons_inv
    obtain ⟨t, rfl⟩ := hu.int_inv
    obtain ⟨ws, h1, h2⟩ := ih hr
    exact ⟨(p.1, _) :: ws, ⟨by simp [intKind, Value.isInt], rfl, h1⟩, .cons hb h2⟩
theorem carriesS {prog : Program} {w : World} {h : Heap} {ρ : Rho} {iv : List (Str × V)} : ∀ {us : List (Value × Value)}, VPs h ρ (iv.map fun p => (.str p.1, p.2)) us → ∃ ws, Carries (PySem.strKind prog w) us ws ∧ KVs h ρ iv ws := by
  induction iv with
  | nil => intro us x; rw [x.nil_inv]; exact ⟨[], trivial, .nil⟩
  | cons p r ih =>
    intro us x
    obtain ⟨u, v, us', rfl, hu, hb, hr⟩ := x.cons_inv
    obtain ⟨t, rfl⟩ := hu.str_inv
    obtain ⟨ws, h1, h2⟩ := ih hr
    exact ⟨(p.1, _) :: ws, ⟨by simp [PySem.strKind, Value.isStrOf], rfl, h1⟩, .cons hb h2⟩

theorem EW.dictI {values : List Expr} {pos : Pos} {K : Frag} {c : Cx} {S : St} {keys : List (Option Expr)} {P : V → St → Prop} (hW : Wd K c.g.h) (hall : keys.all (·.isSome) = true) (hl : keys.length = values.length) (h0 : keys ≠ []) (hlen : keys.length ≤ 15)
    (h : PW c (S.new (.di [])) pos keys values fun kvs S₁ => ∃ (iv : List (Int × V)), A3 (kvs = iv.map (fun p => (.int p.1, p.2))) (S₁.sto[S.sto.length]? = some (.di [])) (P (.ref S.sto.length) (S₁.put S.sto.length (.di (mergeK [] iv))))) : EW c S (.Dict keys values pos) P := by
  intro ρ s Q E r q x
  have kk : ∀ b o, s.heap.get? b = some o → (s.heap.push { cls := .type "dict", data := .dict #[] }).get? b = some o := fun b o e => Heap.get?_push_of_some _ e
  have hne := hW.notModules r
  have z := r.new (p := (s.heap.objs.size, s.heap.objs.size)) (o := .di []) s.toks kk fresh_none fresh_none fun st => ⟨rfl, hne, [], Heap.DictOf.new _, .nil⟩
  refine wpAny_Dict_walk (knd := intKind c.prog c.w) hall hl h0 hlen (h _ _ _ E z.1 (fun kvs S₁ ρ₁ us h₁ tk₁ p₁ r₁ v₁ st₁ => ?_) x)
  obtain ⟨iv, rfl, hd, p₁⟩ := p₁
  obtain ⟨ws, hc, hk⟩ := carriesI (prog := c.prog) (w := c.w) v₁
  have hp : ρ₁[S.sto.length]? = some (s.heap.objs.size, s.heap.objs.size) := by
    obtain ⟨τ, e, _⟩ := st₁.more
    rw [e, ← r.len, List.getElem?_append_left (by simp)]; simp
  obtain ⟨_, _, us', hd', hv'⟩ := r₁.sto _ _ _ hp hd
  cases hv'
  refine ⟨ws, hc, hd', fun h' hm hs => ?_⟩
  have zz := r₁.put (o' := .di (mergeK [] iv)) (tk₁ + us.length) hp (by have := r.ro; exact this) hd hs (by obtain ⟨o, _, _, ho, _⟩ := hm; exact ⟨o, ho⟩) fun st => ⟨rfl, hne, _, hm, KVs.merge .nil (hk.step r₁.frame st)⟩
  exact q _ _ ρ₁ _ h' _ p₁ zz.1 (.ref (p := (s.heap.objs.size, s.heap.objs.size)) hp) (z.2.trans (st₁.trans zz.2))
theorem EW.dictS {values : List Expr} {pos : Pos} {K : Frag} {c : Cx} {S : St} {keys : List (Option Expr)} {P : V → St → Prop} (hW : Wd K c.g.h) (hall : keys.all (·.isSome) = true) (hl : keys.length = values.length) (h0 : keys ≠ []) (hlen : keys.length ≤ 15)
    (h : PW c (S.new (.ds [])) pos keys values fun kvs S₁ => ∃ (iv : List (Str × V)), A3 (kvs = iv.map (fun p => (.str p.1, p.2))) (S₁.sto[S.sto.length]? = some (.ds [])) (P (.ref S.sto.length) (S₁.put S.sto.length (.ds (mergeK [] iv))))) : EW c S (.Dict keys values pos) P := by
  intro ρ s Q E r q x
  have kk : ∀ b o, s.heap.get? b = some o → (s.heap.push { cls := .type "dict", data := .dict #[] }).get? b = some o := fun b o e => Heap.get?_push_of_some _ e
  have hne := hW.notModules r
  have z := r.new (p := (s.heap.objs.size, s.heap.objs.size)) (o := .ds []) s.toks kk fresh_none fresh_none fun st => ⟨rfl, hne, [], Heap.DictOf.new _, .nil⟩
  refine wpAny_Dict_walk (knd := PySem.strKind c.prog c.w) hall hl h0 hlen (h _ _ _ E z.1 (fun kvs S₁ ρ₁ us h₁ tk₁ p₁ r₁ v₁ st₁ => ?_) x)
  obtain ⟨iv, rfl, hd, p₁⟩ := p₁
  obtain ⟨ws, hc, hk⟩ := carriesS (prog := c.prog) (w := c.w) v₁
  have hp : ρ₁[S.sto.length]? = some (s.heap.objs.size, s.heap.objs.size) := by
    obtain ⟨τ, e, _⟩ := st₁.more
    rw [e, ← r.len, List.getElem?_append_left (by simp)]; simp
  obtain ⟨_, _, us', hd', hv'⟩ := r₁.sto _ _ _ hp hd
  cases hv'
  refine ⟨ws, hc, hd', fun h' hm hs => ?_⟩
  have zz := r₁.put (o' := .ds (mergeK [] iv)) (tk₁ + us.length) hp (by have := r.ro; exact this) hd hs (by obtain ⟨o, _, _, ho, _⟩ := hm; exact ⟨o, ho⟩) fun st => ⟨rfl, hne, _, hm, KVs.merge .nil (hk.step r₁.frame st)⟩
  exact q _ _ ρ₁ _ h' _ p₁ zz.1 (.ref (p := (s.heap.objs.size, s.heap.objs.size)) hp) (z.2.trans (st₁.trans zz.2))
theorem It.tuple {target : Expr} (hh : c.A.handled = none) (hg : GoOk c target) (I ax : Addr) (hne : ax ≠ I) (vs : List V) (us : List Value) :
    It c target I vs (fun _ => True) (fun i ρ h => h.IsTupleIter I ax i ∧ h.IsTuple ax us.toArray ∧ VRs h ρ vs us ∧ (∀ p ∈ ρ, p.2 ≠ ax) ∧ ∀ p ∈ ρ, p.2 ≠ I) where
  item := fun env i ρ S s Q E r _ hT hi hQ => by
    obtain ⟨h1, h2, h3, h4, h5⟩ := hT
    have hv := List.getElem?_eq_getElem hi
    obtain ⟨u, hu, hvr⟩ := h3.get hv
    refine wpAny_pyNext_tuple_item h1 h2 (x := u) (by simpa using hu) fun h' hit hs => ?_
    refine hQ _ u h' s.toks hv hvr (fun b o hb e => (hs.2 b hb).trans e) ⟨hit, h2.extBut hs.extBut hne, ?_, h4, h5⟩
    obtain ⟨o, ho, hc, hd⟩ := h1
    exact h3.same fun b o' its n e d => (hs.2 b (notSeq ho hd e fun fs q => by rw [d] at q; cases q)).trans e
  done := fun env ρ S s Q E r _ hT hQ => by
    obtain ⟨h1, h2, h3, h4, h5⟩ := hT
    refine wpAny_pyNext_tuple_end hh h1 h2 (by simp [← h3.length]) fun h' he => hQ h' s.toks fun b o hb e => he b o hb e
  frame := fun env i ρ h ρ' h' hT F st => by
    obtain ⟨⟨o, ho, hc, hd⟩, ⟨ol, hol, hcl, n, hdl⟩, h3, h4, h5⟩ := hT
    refine ⟨⟨o, ?_, hc, hd⟩, ⟨ol, st.at F hol hdl h4, hcl, n, hdl⟩, h3.step F st, st.muts hol h4, st.muts ho h5⟩
    refine st.keep I _ ho h5 ?_ ?_
    · rintro rfl; obtain ⟨o', es, m, e, d⟩ := F.loc; rw [ho] at e; cases e; rw [hd] at d; cases d
    · rintro _ y hy rfl; obtain ⟨o', v, e, d⟩ := F.cells y hy; rw [ho] at e; cases e; rw [hd] at d; cases d
  obj := fun i ρ h hT => by
    obtain ⟨⟨o, ho, hc, hd⟩, _, _, _, h5⟩ := hT
    exact ⟨⟨o, _, ho, hd⟩, h5⟩
  self := fun i ρ s Q E hT h => wpAny_pyIter_tupleiter hT.1 h
  go := fun i ρ s v Q E hT h => by
    obtain ⟨⟨o, ho, hc, hd⟩, _⟩ := hT
    exact hg I v s Q E ⟨o, _, _, ho, hc, by decide, hd⟩ h
theorem ItW.tup {target : Expr} {vs : List V} (hh : c.A.handled = none) (hg : GoOk c target) : ItW c S target (.tup vs) vs fun _ => True := by
  intro ρ s u Q E r hv q
  cases hv with
  | tup hl' hm hs =>
    rename_i a us
    have hl : s.heap.IsTuple a us.toArray := by obtain ⟨n, e⟩ := hl'; exact ⟨_, e, rfl, n, rfl⟩
    have hne : a ≠ s.heap.objs.size := by obtain ⟨o, ho, _⟩ := hl; exact Nat.ne_of_lt (Heap.lt_size ho)
    refine wpAny_pyIter_tuple hl (q _ _ _ s.toks (It.tuple hh hg s.heap.objs.size a hne vs us) ⟨⟨_, Heap.get?_push_size _ rfl, rfl, rfl⟩, hl.push _, hs.step r.frame (Step.ofKeep fun _ _ e => Heap.get?_push_of_some _ e), hm, r.mutLt⟩ fresh_none r.sizeFresh fun _ _ e => Heap.get?_push_of_some _ e)
end
end

section
open PySem PySem.W PyProof.Rows PySem.Calls
noncomputable def ltL : List Str → List Str → Bool
  | [], [] => false
  | [], _ :: _ => true
  | _ :: _, [] => false
  | a :: x, b :: y => if a = b then ltL x y else decide (a.cps.toList < b.cps.toList)

noncomputable abbrev plainL (items : List Value) (n : Nat) : Obj := { cls := .type "list", dict := none, data := .seq items.toArray n, slots := #[] }
theorem sv_get {xs : List (Str × Tok)} {i : Nat} : (strValues xs).toArray[i]? = (xs[i]?).map fun p => Value.str p.1 p.2 := by
  simp [strValues]

theorem lt_loop (l b : Addr) (xs ys : List (Str × Tok)) (n n2 : Nat) (k : Nat) :
    ∀ i : Nat, xs.length - i = k → i ≤ xs.length → i ≤ ys.length → Meets (Builtin.«list.__eq__.loop» ⟨[.ref l, .ref b, rawInt i, rawInt 0], []⟩)
      (fun _ R s => s.heap.get? l = some (plainL (strValues xs) n) ∧ s.heap.get? b = some (plainL (strValues ys) n2) ∧
        R (.ok (.ret (.bool (ltL ((xs.map (·.1)).drop i) ((ys.map (·.1)).drop i))))) s) := by
  have done : ∀ i : Nat, (xs.length ≤ i ∨ ys.length ≤ i) → i ≤ xs.length → i ≤ ys.length → Meets (Builtin.«list.__eq__.loop» ⟨[.ref l, .ref b, rawInt i, rawInt 0], []⟩)
      (fun _ R s => s.heap.get? l = some (plainL (strValues xs) n) ∧ s.heap.get? b = some (plainL (strValues ys) n2) ∧
        R (.ok (.ret (.bool (ltL ((xs.map (·.1)).drop i) ((ys.map (·.1)).drop i))))) s) := by
    intro i hi h1 h2 prog w A R s h
    obtain ⟨hp, g, d, tk, os⟩ := s; obtain ⟨hl, hb, h⟩ := h
    have fin : ltL ((xs.map (·.1)).drop i) ((ys.map (·.1)).drop i) = decide (xs.length < ys.length) := by
      by_cases e1 : xs.length ≤ i
      · rw [List.drop_eq_nil_of_le (by simpa using e1)]
        by_cases e2 : ys.length ≤ i
        · rw [List.drop_eq_nil_of_le (by simpa using e2)]
          have : ¬ xs.length < ys.length := by allgen_close_more
          simp [ltL, this]
        · cases q : (ys.map (·.1)).drop i with
          | nil => have := congrArg List.length q; simp at this; allgen_close_more
          | cons a r =>
            have : xs.length < ys.length := by allgen_close_more
            simp [ltL, this]
      · have e2 : ys.length ≤ i := by allgen_close_more
        rw [List.drop_eq_nil_of_le (as := ys.map _) (by simpa using e2)]
        cases q : (xs.map (·.1)).drop i with
        | nil => have := congrArg List.length q; simp at this; allgen_close_more
        | cons a r =>
          have : ¬ xs.length < ys.length := by allgen_close_more
          simp [ltL, this]
    rw [fin] at h
    have hsz : (strValues xs).toArray.size = xs.length := by simp [strValues]
    have hsz2 : (strValues ys).toArray.size = ys.length := by simp [strValues]
    wp_walk using AutoSeq1.wpAny_loadPart' hl, AutoSeq1.wpAny_loadPart' hb
    rw [sv_get, sv_get, show ((i : Nat) : Int).toNat = i from by simp]
    rcases hi with hi | hi
    · rw [List.getElem?_eq_none hi]
      wp_walk using AutoSeq1.wpAny_loadPart' hl, AutoSeq1.wpAny_loadPart' hb
      show R (.ok (.ret (.bool (decide ((strValues xs).toArray.size < (strValues ys).toArray.size))))) _
      rw [hsz, hsz2]; exact h
    · rw [List.getElem?_eq_none hi]
      cases xs[i]? with
      | none =>
        wp_walk using AutoSeq1.wpAny_loadPart' hl, AutoSeq1.wpAny_loadPart' hb
        show R (.ok (.ret (.bool (decide ((strValues xs).toArray.size < (strValues ys).toArray.size))))) _
        rw [hsz, hsz2]; exact h
      | some p =>
        wp_walk using AutoSeq1.wpAny_loadPart' hl, AutoSeq1.wpAny_loadPart' hb
        show R (.ok (.ret (.bool (decide ((strValues xs).toArray.size < (strValues ys).toArray.size))))) _
        rw [hsz, hsz2]; exact h
  induction k with
  | zero => intro i hk h1 h2; exact done i (.inl (by allgen_close_more)) h1 h2
  | succ k ih =>
    intro i hk h1 h2
    by_cases hy : ys.length ≤ i
    · exact done i (.inr hy) h1 h2
    intro prog w A R s h
    obtain ⟨hp, g, d, tk, os⟩ := s; obtain ⟨hl, hb, h⟩ := h
    have hlt : i < xs.length := by allgen_close_more
    have hlt2 : i < ys.length := by allgen_close_more
    wp_walk using AutoSeq1.wpAny_loadPart' hl, AutoSeq1.wpAny_loadPart' hb
    have g1 : (strValues xs).toArray[((i : Nat) : Int).toNat]? = some (.str xs[i].1 xs[i].2) := by rw [show ((i : Nat) : Int).toNat = i from by simp, sv_get]; simp [hlt]
    have g2 : (strValues ys).toArray[((i : Nat) : Int).toNat]? = some (.str ys[i].1 ys[i].2) := by rw [show ((i : Nat) : Int).toNat = i from by simp, sv_get]; simp [hlt2]
    have d1 : (xs.map (·.1)).drop i = xs[i].1 :: (xs.map (·.1)).drop (i + 1) := by rw [List.drop_eq_getElem_cons (by simpa using hlt)]; simp
    have d2 : (ys.map (·.1)).drop i = ys[i].1 :: (ys.map (·.1)).drop (i + 1) := by rw [List.drop_eq_getElem_cons (by simpa using hlt2)]; simp
    have hc : ((i : Int) + 1) = ((i + 1 : Nat) : Int) := by push_cast; rfl
    rw [d1, d2] at h
    rw [g1, g2]
    refine wpAny_bind (eqBool_str ?_)
    by_cases he : xs[i].1 = ys[i].1
    · have e1 : (xs[i].1 == ys[i].1) = true := by simpa using he
      rw [e1]
      rw [show ltL (xs[i].1 :: (xs.map (·.1)).drop (i + 1)) (ys[i].1 :: (ys.map (·.1)).drop (i + 1)) = ltL ((xs.map (·.1)).drop (i + 1)) ((ys.map (·.1)).drop (i + 1)) from by rw [ltL, if_pos he]] at h
      wp_walk
      rw [hc]
      exact ⟨plainId_quiet MeetsSeq3.plain_eq_loop _, codeAny_builtin MeetsSeq3.entry_eq_loop (by
        rw [Around.under_plainId MeetsSeq3.plain_eq_loop _]
        exact ih (i + 1) (by rw [Nat.sub_succ, hk]; rfl) hlt hlt2 prog w A R _ ⟨hl, hb, h⟩)⟩
    · have e1 : (xs[i].1 == ys[i].1) = false := by simpa using he
      rw [e1]
      rw [show ltL (xs[i].1 :: (xs.map (·.1)).drop (i + 1)) (ys[i].1 :: (ys.map (·.1)).drop (i + 1)) = decide (xs[i].1.cps.toList < ys[i].1.cps.toList) from by rw [ltL, if_neg he]] at h
      wp_walk using AutoSeq1.wpAny_loadPart' hl, AutoSeq1.wpAny_loadPart' hb
      rw [g1, g2]
      dsimp only
      refine wpAny_bind (PyProof.Rows.lt_str ?_)
      wp_walk
      exact h

theorem list_lt (l b : Addr) (xs ys : List (Str × Tok)) (n n2 : Nat) :
    Meets (Builtin.«list.__lt__» ⟨[.ref l, .ref b], []⟩)
      (fun _ R s => s.heap.get? l = some (plainL (strValues xs) n) ∧ s.heap.get? b = some (plainL (strValues ys) n2) ∧
        R (.ok (.ret (.bool (ltL (xs.map (·.1)) (ys.map (·.1)))))) s) := by
  intro prog w A R s h
  obtain ⟨hp, g, d, tk, os⟩ := s; obtain ⟨hl, hb, h⟩ := h
  have f3 := AutoSeq1.sub_list_list
  wp_walk using AutoSeq1.wpAny_loadPart' hl, AutoSeq1.wpAny_loadPart' hb
  exact ⟨plainId_quiet MeetsSeq3.plain_eq_loop _, codeAny_builtin MeetsSeq3.entry_eq_loop (by
    rw [Around.under_plainId MeetsSeq3.plain_eq_loop _]
    exact lt_loop l b xs ys n n2 _ 0 rfl (Nat.zero_le _) (Nat.zero_le _) prog w A R _ ⟨hl, hb, by simpa using h⟩)⟩

theorem keyLt_lists {prog : Program} {w : World} {A : Around} {E : Value → Shared → Prop} {s : Shared} {l b : Addr} {xs ys : List (Str × Tok)} {n n2 : Nat} {Q : Bool → Shared → Prop} (hu : A.units < cLine) (hl : s.heap.get? l = some (plainL (strValues xs) n)) (hb : s.heap.get? b = some (plainL (strValues ys) n2))
    (h : Q (ltL (xs.map (·.1)) (ys.map (·.1))) s) : wpAny (model prog w) A (keyLt' oneType' (.ref l) (.ref b)) Q E s := by
  rw [keyLt'_oneType, oneLt'_eq]
  simp only [if_true]
  refine wpAny_bind (wpAny_cRoomFor hu ?_)
  refine wpAny_bind (wpAny_callSpecialIfBound?_slot (s := s) ⟨_, hl, rfl⟩ PySem.F.slot_list_lt (call_meets PySem.F.slot_list_lt ⟨_, hl, rfl⟩ PySem.F.entry_list_lt (PySem.F.args_list_lt_2 _ _) (list_lt l b xs ys n n2) ⟨hl, hb, ?_⟩))
  exact wpAny_truthy_bool h
end

section
open PySem PySem.W PyProof.Rows PySem.Calls
noncomputable def krun {α : Type} (lt : Nat → Nat → Bool) : KasT α → α
  | .ret a => a
  | .ask i j k => krun lt (k (lt i j))
noncomputable def Kix {α : Type} (n : Nat) (R : α → Prop) : KasT α → Prop
  | .ret a => R a
  | .ask i j k => i < n ∧ j < n ∧ ∀ b, Kix n R (k b)
theorem Kix.mono {α : Type} {n : Nat} {R R' : α → Prop} (h : ∀ a, R a → R' a) : ∀ {t : KasT α}, Kix n R t → Kix n R' t
  | .ret _, x => h _ x
  | .ask _ _ _, ⟨a, b, c⟩ => ⟨a, b, fun k => Kix.mono h (c k)⟩
theorem Kix.bind {α β : Type} {n : Nat} {R : α → Prop} {R' : β → Prop} {f : α → KasT β} (hf : ∀ a, R a → Kix n R' (f a)) : ∀ {t : KasT α}, Kix n R t → Kix n R' (t.bind f)
  | .ret _, x => hf _ x
  | .ask _ _ _, ⟨a, b, c⟩ => ⟨a, b, fun k => Kix.bind hf (c k)⟩
theorem Kix.run {α : Type} {n : Nat} {R : α → Prop} {lt : Nat → Nat → Bool} : ∀ {t : KasT α}, Kix n R t → R (krun lt t)
  | .ret _, x => x
  | .ask i j k, ⟨_, _, c⟩ => (Kix.run (lt := lt) (c (lt i j)) : R (krun lt (k (lt i j))))
theorem Kix.wp {α : Type} {n : Nat} {R : α → Prop} {lt : Nat → Nat → Bool} {cmp : Nat → Nat → (Bool → Shared → Prop) → Shared → Prop} {s : Shared} (hc : ∀ i j C, i < n → j < n → C (lt i j) s → cmp i j C s) {Q : α → Shared → Prop} : ∀ {t : KasT α}, Kix n R t → Q (krun lt t) s → t.kasWp cmp Q s
  | .ret _, _, q => q
  | .ask i j k, ⟨a, b, c⟩, q => hc i j _ a b (Kix.wp hc (c (lt i j)) q)

noncomputable def PB (n : Nat) (p : Array Nat) : Prop := ∀ x ∈ p, x < n
theorem PB.at {n : Nat} {p : Array Nat} (h : PB n p) (hn : 0 < n) (i : Nat) : p.getD i 0 < n := by
  by_cases hi : i < p.size
  · have : p.getD i 0 = p[i] := by simp [Array.getD, hi]
    rw [this]; exact h _ (Array.getElem_mem hi)
  · have : p.getD i 0 = 0 := by simp [Array.getD, hi]
    rw [this]; exact hn
theorem PB.rev {n : Nat} {p : Array Nat} (h : PB n p) (i j : Nat) : PB n (kas_rev p i j) := fun x hx => h x ((mirror_perm p i j _).mem_iff.mp hx)
theorem PB.bub {n : Nat} {p : Array Nat} (h : PB n p) (i j : Nat) : PB n (bubble p i j) := fun x hx => h x ((bubble_perm p i j).mem_iff.mp hx)
theorem kix_asc {n : Nat} (hn : 0 < n) {p : Array Nat} (h : PB n p) : ∀ (f m : Nat), Kix n (fun _ => True) (kas_asc p f m)
  | 0, _ => trivial
  | f + 1, m => ⟨h.at hn _, h.at hn _, fun b => by cases b; exact kix_asc hn h f (m + 1); trivial⟩
theorem kix_desc {n : Nat} (hn : 0 < n) : ∀ (f : Nat) {p : Array Nat} (_ : PB n p) (m q : Nat), Kix n (fun r => PB n r.1) (kas_desc f p m q)
  | 0, p, h, _, _ => h
  | f + 1, p, h, m, q => ⟨h.at hn _, h.at hn _, fun b => by
    cases b with
    | true =>
      show Kix n _ (if q > 0 then kas_desc f (kas_rev p (m - (q + 1)) m) (m + 1) 0 else kas_desc f p (m + 1) 0)
      split
      · exact kix_desc hn f (h.rev _ _) _ _
      · exact kix_desc hn f h _ _
    | false =>
      exact ⟨h.at hn _, h.at hn _, fun d => by
        cases d with
        | true => exact h
        | false => exact kix_desc hn f h _ _⟩⟩
theorem kix_tail3 {n : Nat} (hn : 0 < n) {p : Array Nat} (h : PB n p) (m r : Nat) : Kix n (fun r => PB n r.2) (kas_tail3 m r p) := by
  unfold kas_tail3
  refine Kix.bind (R := fun _ => True) (fun a _ => ?_) (kix_asc hn (h.rev 0 m) _ _)
  exact h.rev 0 m
theorem kix_descPart {n : Nat} (hn : 0 < n) {p : Array Nat} (h : PB n p) (m r : Nat) : Kix n (fun r => PB n r.2) (kas_descPart m r p) := by
  refine Kix.bind (fun a ha => ?_) (kix_desc hn _ h _ _)
  split
  · exact kix_tail3 hn (ha.rev _ _) _ _
  · exact kix_tail3 hn ha _ _
theorem kix_count {n : Nat} (hn : 0 < n) {p : Array Nat} (h : PB n p) (r : Nat) : Kix n (fun r => PB n r.2) (kas_count r p) := by
  refine Kix.bind (fun a _ => ?_) (kix_asc hn h _ _)
  split
  · exact h
  · split
    · refine ⟨h.at hn _, h.at hn _, fun b => ?_⟩
      cases b with
      | true => exact h
      | false => exact kix_descPart hn (h.rev _ _) _ _
    · exact kix_descPart hn h _ _
theorem kix_place {n : Nat} (hn : 0 < n) {p : Array Nat} (h : PB n p) (k : Nat) : ∀ (f l r : Nat), Kix n (fun _ => True) (kas_place p k f l r)
  | 0, _, _ => trivial
  | f + 1, l, r => by
    unfold kas_place
    split
    · trivial
    · refine ⟨h.at hn _, h.at hn _, fun b => ?_⟩
      cases b with
      | true => exact kix_place hn h k f _ _
      | false => exact kix_place hn h k f _ _
theorem kix_bin {n : Nat} (hn : 0 < n) : ∀ (f : Nat) {p : Array Nat} (_ : PB n p) (k : Nat), Kix n (PB n) (kas_bin f p k)
  | 0, p, h, _ => h
  | f + 1, p, h, k => Kix.bind (fun _ _ => kix_bin hn f (h.bub _ _) _) (kix_place hn h k _ _ _)
theorem kix_sort {n : Nat} (hn : 0 < n) : Kix n (PB n) (kas_sort n) := by
  have h0 : PB n (List.toArray (List.range n)) := fun x hx => by simpa using hx
  refine Kix.bind (fun a ha => ?_) (kix_count hn h0 n)
  split
  · exact kix_bin hn _ ha _
  · exact ha

noncomputable def srt (rows : List (List Str)) : List (List Str) :=
  if rows.length < 2 then rows else (krun (fun i j => ltL (rows.getD i []) (rows.getD j [])) (kas_sort rows.length)).toList.map fun i => rows.getD i []

theorem Rel.relocal {prog : Program} {w : World} {g : Gd} {env : Env} {ρ : Rho} {S : St} {s : Shared} (r : Rel prog w g env ρ S s) {m : Str → Option Value} {h' : Heap} (tk : Nat) (hm : s.heap.Ns env.locals m) (hm' : h'.Ns env.locals m)
    (k : ∀ b o, b ≠ env.locals → s.heap.get? b = some o → h'.get? b = some o) : Rel prog w g env ρ S (shT s h' tk) ∧ Step env ρ s.heap ρ h' := by
  have F := r.frame
  have st : Step env ρ s.heap ρ h' := by
    refine ⟨⟨[], by simp, by simp⟩, fun b o e => ?_, fun b o e _ h2 _ => k b o h2 e⟩
    by_cases hb : b = env.locals
    · subst hb; obtain ⟨o', _, _, e', _⟩ := hm'; exact ⟨o', e'⟩
    · exact ⟨o, k b o hb e⟩
  refine ⟨{ gens := r.gens, base := fun b o e => k b o (by rintro rfl; rw [r.gL] at e; cases e) (r.base b o e), gL := r.gL, gC := r.gC, gM := r.gM, ro := r.ro, ns := ⟨m, hm'⟩, cells := fun c hc => ?_, mL := r.mL, mC := r.mC, cL := r.cL, vars := fun x v e => ?_, len := r.len, sto := fun i p o e1 e2 => ?_, nd := r.nd, cd := r.cd, frs := FunFrames.up (fun b o e hn => ?_) r.frs, held := r.held.up fun b o e _ h1 _ _ => ⟨o, k b o h1 e, rfl⟩ }, st⟩
  · obtain ⟨o, v, e, d⟩ := r.cells c hc
    exact ⟨o, v, k _ _ (r.cL c hc) e, d⟩
  · obtain ⟨u, hu, hv⟩ := r.vars x v e
    refine ⟨u, ?_, hv.step F st⟩
    rcases hu with ⟨ky, m'', hm'', e'⟩ | ⟨ky, a', o, c1, c2, c3⟩
    · refine .inl ⟨ky, m, hm', ?_⟩
      obtain ⟨o1, es1, n1, f1, d1, _, k1⟩ := hm
      obtain ⟨o2, es2, n2, f2, d2, _, k2⟩ := hm''
      rw [f1] at f2; cases f2; rw [d1] at d2; cases d2
      rw [← k1 x, k2 x]; exact e'
    · exact .inr ⟨ky, a', o, c1, k _ _ (r.cL _ (cells_mem c1)) c2, c3⟩
  · obtain ⟨o₀, es, n, e0, d0, _⟩ := hm
    refine OR.step F st ?_ (fun hne C hi => k _ _ ?_ hi) (r.sto i p o e1 e2)
    · have hne := r.mL p (List.mem_of_getElem? e1)
      obtain ⟨o', ho', _⟩ := (r.sto i p o e1 e2).at
      rw [ho']; exact k _ _ hne ho'
    · rintro q; rw [q, e0] at hi; cases hi; cases d0
  · by_cases hb : b = env.locals
    · subst hb; obtain ⟨o', _, _, e', d', _⟩ := hm'; exact ⟨o', e', fun vs z => by rw [d'] at z; cases z⟩
    · exact ⟨o, k b o hb e, hn⟩
end

section
open PySem PySem.W PyProof.Rows PySem.Calls
section
variable {c : Cx} {S : St}

theorem list_sort_small {prog : Program} {w : World} {A : Around} {E : Value → Shared → Prop} {s : Shared} {a : Addr} {vs : List Value} {n : Nat} {P : Fin → Shared → Prop} (ho : s.heap.get? a = some (seqObj "list" vs.toArray n)) (h2 : vs.length < 2)
    (h : P (.done (.ret .none)) { s with heap := sortedHeap s.heap a vs vs.toArray }) : wpAny (model prog w) A (Builtin.«list.sort» ⟨[.ref a], []⟩) P E s := by
  rw [list_sort_plain]
  have ha : a < s.heap.objs.size := Heap.lt_size ho
  refine wpAny_bind (listItems_at ho rfl ?_)
  refine wpAny_bind (listUpdate_at ho rfl ?_ (by rw [List.size_toArray, sizeLine_eq]; allgen_close_more) (Nat.zero_le _))
  obtain ⟨e1, ho1⟩ : ∃ e1, (s.heap.update a (Obj.mapSeq fun _ => #[])).get? a = some (seqObj "list" #[] e1) := ⟨_, get?_update_seq ho (fun _ => #[])⟩
  refine wpAny_bind (seqEpoch_at ho1 rfl ?_)
  refine wpAny_bind (wpAny_newTuple ?_ (by show vs.length ≤ _; rw [sizeLine_eq]; allgen_close_more))
  refine wpAny_bind (wpAny_newList ?_ (Nat.zero_le _))
  refine wpAny_holding ?_
  have ho6 : (((s.heap.update a (Obj.mapSeq fun _ => #[])).push (seqObj "tuple" vs.toArray 0)).push (seqObj "list" #[] 0)).get? a = some (seqObj "list" #[] e1) := by
    rw [Heap.get?_push_ne _ _ _ (by rw [size_push', Heap.size_update]; exact Nat.ne_of_lt (Nat.lt_succ_of_lt ha)), Heap.get?_push_ne _ _ _ (by rw [Heap.size_update]; exact Nat.ne_of_lt ha)]
    exact ho1
  show wpAny (model prog w) A _ P E { s with heap := ((s.heap.update a (Obj.mapSeq fun _ => #[])).push (seqObj "tuple" vs.toArray 0)).push (seqObj "list" #[] 0) }
  dsimp only
  have h2' : vs.toArray.size < 2 := by simpa using h2
  rw [if_pos h2', if_pos h2']
  refine wpAny_bind (wpAny_pure ?_)
  rw [StateT.run_pure]
  refine wpAny_bind (wpAny_pure ?_)
  dsimp only
  refine wpAny_bind (seqEpoch_at ho6 rfl ?_)
  have e : (vs.toArray.zip vs.toArray).map (·.2) = vs.toArray := by
    apply Array.ext
    · simp
    · intro i h1 h2; simp
  refine wpAny_bind (listUpdate_at ho6 rfl ?_ (Nat.zero_le _) (by
    show ((vs.toArray.zip vs.toArray).map (·.2)).size ≤ _
    rw [e, List.size_toArray, sizeLine_eq]; allgen_close_more))
  simp only [bne_self_eq_false, Bool.false_eq_true, if_false]
  have h' : P (.done (.ret .none)) { s with heap := sortedHeap s.heap a vs ((vs.toArray.zip vs.toArray).map (·.2)) } := by rw [e]; exact h
  exact wpAny_pure h'
theorem sorted_small {prog : Program} {w : World} {A : Around} {E : Value → Shared → Prop} {s : Shared} {l : Addr} {vs : List Value} {Q : Value → Shared → Prop} (hl : s.heap.IsList l vs.toArray) (h2 : vs.length < 2)
    (h : Q (.ref (s.heap.objs.size + 1)) { s with heap := sortedAll s.heap vs vs.toArray }) : wpAny (model prog w) A (call (.builtin "sorted") [.ref l]) Q E s := by
  refine Calls.call_function_entry kind_sorted plain_sorted entry_sorted (args_sorted1 _) ?_
  unfold Builtin.«sorted»
  refine wpAny_bind (m := checkCount "sorted" 1 1 _) (wpAny_pure ?_)
  refine wpAny_bind (collect_list hl ?_ (by rw [sizeLine_eq]; allgen_close_more))
  refine wpAny_bind (wpAny_newList ?_ (by rw [sizeLine_eq]; allgen_close_more))
  have hsz : ((s.heap.push (seqObj "list" #[] 0)).update s.heap.objs.size (Obj.mapSeq (· ++ vs.toArray))).objs.size = s.heap.objs.size + 1 := by
    rw [Heap.size_update, size_push']
  have hoL : (((s.heap.push (seqObj "list" #[] 0)).update s.heap.objs.size (Obj.mapSeq (· ++ vs.toArray))).push (seqObj "list" vs.toArray 0)).get? (s.heap.objs.size + 1) = some (seqObj "list" vs.toArray 0) := by
    rw [← hsz]; exact Heap.get?_push_size _ rfl
  show wpAny _ _ _ _ _ { s with heap := ((s.heap.push (seqObj "list" #[] 0)).update s.heap.objs.size (Obj.mapSeq (· ++ vs.toArray))).push (seqObj "list" vs.toArray 0) }
  rw [hsz]
  refine wpAny_bind (wpAny_holding (wpAny_call_entry slot_list_sort ⟨_, hoL, rfl⟩ entry_list_sort (list_sort_small hoL h2 ⟨_, rfl, ?_⟩) (args_list_sort _)))
  exact wpAny_pure ⟨_, rfl, h⟩

noncomputable def rowV (r : List Str) : V := .lst (r.map .str)
theorem rows_each {h : Heap} {ρ : Rho} : ∀ {rows : List (List Str)} {us : List Value}, VRs h ρ (rows.map rowV) us → ∀ i, (hi : i < rows.length) → ∃ x xs n, us.getD i .none = .ref x ∧ h.get? x = some (plainL (strValues xs) n) ∧ xs.map (·.1) = rows.getD i [] ∧ VR h ρ (rowV (rows.getD i [])) (us.getD i .none)
  | [], _, _, i, hi => by simp at hi
  | r :: rows, _, .cons hv hr, 0, _ => by
    have hv0 := hv
    cases hv with
    | lst hl hm hs =>
      obtain ⟨l, e1, rfl⟩ := hs.texts
      obtain ⟨n, hn⟩ := hl
      exact ⟨_, l, n, rfl, hn, e1, hv0⟩
  | r :: rows, _, .cons hv hr, i + 1, hi => rows_each hr i (by simpa using hi)
theorem VRs.ofEach {h : Heap} {ρ : Rho} {rows : List (List Str)} {us : List Value} (he : ∀ i, i < rows.length → VR h ρ (rowV (rows.getD i [])) (us.getD i .none)) : ∀ (l : List Nat), (∀ i ∈ l, i < rows.length) → VRs h ρ ((l.map fun i => rows.getD i []).map rowV) (l.map fun i => us.getD i .none)
  | [], _ => .nil
  | i :: l, hl => .cons (he i (hl i (.head _))) (VRs.ofEach he l fun j hj => hl j (.tail _ hj))

theorem Sorted.seq {a : V} {rows : List (List Str)} {P : V → St → Prop} (ha : S.seq a (rows.map rowV)) (hz : rows.length < 64) (hu : c.A.units + 64 < cLine) (p : P (.lst ((srt rows).map rowV)) S) : CW c S (.builtin "sorted") [a] P := by
  intro ρ s xs Q E r hx q _
  cases hx with
  | cons hv hn =>
    cases hn
    obtain ⟨l, us, rfl, hl, hvs⟩ := r.seq ha hv
    have hlen : us.length = rows.length := by rw [hvs.length, List.length_map]
    have each := rows_each hvs
    by_cases h2 : rows.length < 2
    · refine sorted_small hl.isList (by allgen_close_more) ?_
      have kk : ∀ b o, s.heap.get? b = some o → (sortedAll s.heap us us.toArray).get? b = some o := fun b o e => sortedAll_old e
      obtain ⟨e, he⟩ := sortedAll_at s.heap us us.toArray
      have hs : srt rows = rows := by unfold srt; rw [if_pos h2]
      rw [hs] at p
      refine q _ S ρ _ _ s.toks p (r.keep s.toks kk) (.lst ⟨e, he⟩ (fun p hp => ?_) (hvs.step r.frame (Step.ofKeep kk))) (Step.ofKeep kk)
      obtain ⟨o, ho⟩ := r.mutAt hp
      exact Nat.ne_of_lt (Nat.lt_succ_of_lt (Heap.lt_size ho))
    · obtain ⟨m, hm⟩ := r.ns
      have hs : srt rows = (krun (fun i j => ltL (rows.getD i []) (rows.getD j [])) (kas_sort rows.length)).toList.map fun i => rows.getD i [] := by unfold srt; rw [if_neg h2]
      rw [hs] at p
      have hpb : PB rows.length (krun (fun i j => ltL (rows.getD i []) (rows.getD j [])) (kas_sort rows.length)) := (kix_sort (by allgen_close_more)).run
      generalize hL : c.env.locals = L at hm
      have emp : ∀ b, ({} : Heap).get? b = none := fun b => by unfold Heap.get?; simp
      obtain ⟨news, hnews⟩ : ∃ news : List (Addr × Obj), news = (List.range s.heap.objs.size).filterMap fun b => if b = L then none else (s.heap.get? b).map fun o => (b, o) := ⟨_, rfl⟩
      have inN : ∀ b o, b ≠ L → s.heap.get? b = some o → (b, o) ∈ news := fun b o hb e => by
        rw [hnews, List.mem_filterMap]
        exact ⟨b, List.mem_range.mpr (Heap.lt_size e), by rw [if_neg hb, e]; rfl⟩
      have ofN : ∀ q ∈ news, q.1 ≠ L ∧ s.heap.get? q.1 = some q.2 := fun q hq => by
        rw [hnews, List.mem_filterMap] at hq
        obtain ⟨b, _, hb⟩ := hq
        by_cases e : b = L
        · rw [if_pos e] at hb; cases hb
        · rw [if_neg e] at hb
          obtain ⟨o, ho, rfl⟩ := Option.map_eq_some_iff.mp hb
          exact ⟨e, ho⟩
      have F : Fr {} L s.heap m := ⟨hm, fun b o e => (by rw [emp] at e; cases e), Nat.zero_le _⟩
      have N : News {} L s.heap news := fun q hq => ⟨(ofN q hq).2, (ofN q hq).1, emp _⟩
      have neL : ∀ {b : Addr} {its : Array Value} {n : Nat} {o : Obj}, s.heap.get? b = some o → o.data = .seq its n → b ≠ L := by
        rintro b its n o e d rfl
        obtain ⟨o₀, es, n', e0, d0, _⟩ := hm
        rw [e0] at e; cases e; rw [d0] at d; cases d
      refine kas_sorted (vs := us) (T := .type "list") F N hl.isList (by allgen_close_more) (by allgen_close_more) (fun h F' N' v hv => ?_) (by decide +kernel) fun D e1 h' F' N' hD => ?_
      · obtain ⟨i, hi, rfl⟩ := List.getElem_of_mem hv
        obtain ⟨x, xs, n, g1, g2, _, _⟩ := each i (by allgen_close_more)
        have e : us[i] = .ref x := by rw [← g1]; simp [List.getD, hi]
        rw [e]
        have hx := (N' _ (inN x _ (neL g2 rfl) g2)).1
        exact fun A Q E s k q => wpAny_typeOf ⟨_, k _ _ hx, rfl⟩ q
      · rw [hlen]
        refine Kix.wp (lt := fun i j => ltL (rows.getD i []) (rows.getD j [])) (fun i j C hi hj hC => ?_) (kix_sort (by allgen_close_more)) ?_
        · obtain ⟨x, xs, n, g1, g2, g3, _⟩ := each i hi
          obtain ⟨y, ys, n2, k1, k2, k3, _⟩ := each j hj
          unfold kas_ask
          rw [g1, k1]
          refine keyLt_lists (xs := xs) (ys := ys) (n := n) (n2 := n2) ?_ ?_ ?_ ?_
          · show c.A.units + 1 + 1 < _
            allgen_close_more
          · exact (N' _ (.tail _ (inN x _ (neL g2 rfl) g2))).1
          · exact (N' _ (.tail _ (inN y _ (neL k2 rfl) k2))).1
          · rw [g3, k3]; exact hC
        · refine KasFin.intro F' N' (.head fun q hq => Nat.ne_of_lt (hD q hq)) fun h'' c2 F'' N'' => ?_
          have kk : ∀ b o, b ≠ L → s.heap.get? b = some o → h''.get? b = some o := fun b o hb e => (N'' _ (.tail _ (inN b o hb e))).1
          subst hL
          obtain ⟨r'', st''⟩ := r.relocal (h' := h'') s.toks hm F''.ns kk
          refine q _ S ρ _ h'' s.toks p r'' (.lst ⟨c2, (N'' _ (.head _)).1⟩ (fun q hq => ?_) ?_) st''
          · obtain ⟨o, ho⟩ := r.mutAt hq
            exact Nat.ne_of_lt (hD _ (inN _ o (r.mL q hq) ho))
          · refine VRs.ofEach (fun i hi => ?_) _ fun i hi => hpb i (by simpa using hi)
            obtain ⟨_, _, _, _, _, _, hvr⟩ := each i hi
            exact hvr.step r.frame st''
end
end

section
open PySem PySem.W PyProof.Rows PySem.Calls
section
variable {prog : Program} {w : World} {A : Around} {E : Value → Shared → Prop} {s : Shared} {K : Frag} {x C : Addr}

theorem exc_get {ox od : Obj} {name : Str} {v : Value} {expr : Bool} {Q : Value → Shared → Prop} (X : K.In s.heap) (I : InstAt s.heap x ox C (some od)) (hga : findIn K (.ref C) "__getattribute__" = some (some (.builtin "BaseException.__getattribute__")))
    (hgt : findIn K (.ref C) "__getattr__" = some none) (hsub : subIn K (.ref C) (.type "BaseException") = some true) (hf : findObj K C (some od) name = some (.value v)) (hv : handedIn v = true) (h : Q v { s with toks := s.toks + 1 }) :
    wpAny (model prog w) A (getAttr (.ref x) name expr) Q E s := by
  obtain ⟨hh, g, d, t, os⟩ := s
  have L0 := I.type (M := model prog w)
  have L1 := looks_findIn (M := model prog w) X hga
  have L2 := looks_findIn (M := model prog w) X hgt
  have LF := looks_find (M := model prog w) X I hf
  have LS : Looks (model prog w) hh (isInstance (.ref x) (.type "BaseException")) true := L0.andThen (looks_subIn X hsub)
  unfold getAttr getAttrBy
  refine wpAny_bind (wpAny_mkText (wpAny_holding (wpAny_bind (L0.at (wpAny_bind (L1.at ?_))))))
  have e1 : (onTheHeap (Value.ref C) && Value.builtin "BaseException.__getattribute__" == Value.builtin "object.__getattribute__") = false := by
    have : (Value.builtin "BaseException.__getattribute__" == Value.builtin "object.__getattribute__") = false := by decide +kernel
    rw [this, Bool.and_false]
  dsimp only
  rw [e1]
  rw [if_neg Bool.false_ne_true]
  unfold getAttrByItsOwn hookBefore
  refine wpAny_bind ?_
  show wpAny _ _ (typeLookup (.ref C) "__getattr__") _ _ _
  refine L2.at ?_
  refine wpAny_bind (wpAny_attempt (wpAny_holding ?_))
  have e2 : callGetattribute (.ref x) (.str name t) (.builtin "BaseException.__getattribute__") expr = boundAndCalled (.builtin "BaseException.__getattribute__") (.ref x) (.str name t) := by
    unfold callGetattribute
    cases expr <;> rfl
  rw [e2]
  unfold boundAndCalled
  rw [PySem.F.attr_Exception.ga.bind (.ref x)]
  refine wpAny_bind (wpAny_pure ?_)
  dsimp only
  refine wpAny_call (codeAny_call_builtin PySem.F.attr_Exception.ga.plain PySem.F.entry_bexc_ga ?_)
  have hk : builtinKind "BaseException.__getattribute__" = some .slot := by decide +kernel
  have hsplit : splitId "BaseException.__getattribute__" = some ("BaseException", "__getattribute__") := by decide +kernel
  have ha := PySem.F.args_bexc_ga (.ref x) (.str name t)
  unfold checkBuiltinCall
  rw [hk, hsplit]
  dsimp only
  refine wpAny_bind ?_
  refine LS _ _ _ _ (fun _ _ e => e) ?_
  rw [Bool.not_true, if_neg Bool.false_ne_true]
  unfold argsOk at ha
  have hq : ∀ {Q' : Unit → Shared → Prop} {E' : Value → Shared → Prop}, Q' () ⟨hh, g, d, t + 1, os⟩ → wpAny (model prog w) A.in1 (match Manifest.signature? "BaseException.__getattribute__" with
            | some sig => Bind.checkArgs "BaseException.__getattribute__" sig { pos := [Value.ref x] ++ [Value.str name t] }
            | x => pure ()) Q' E' ⟨hh, g, d, t + 1, os⟩ := by
    intro Q' E' q
    cases hsig : Manifest.signature? "BaseException.__getattribute__" with
    | none => exact wpAny_pure q
    | some sig =>
      rw [hsig] at ha
      have h2 : Bind.checkArgs "BaseException.__getattribute__" sig ⟨[.ref x, .str name t], []⟩ = pure () := ha
      show wpAny _ _ (Bind.checkArgs "BaseException.__getattribute__" sig ⟨[.ref x, .str name t], []⟩) Q' E' _
      rw [h2]; exact wpAny_pure q
  refine hq ?_
  unfold Builtin.«object.__getattribute__»
  refine wpAny_bind (wpAny_of_eq (a := (Value.ref x, [Value.str name t])) (by rfl) ?_)
  dsimp only
  refine wpAny_bind (wpAny_of_eq (a := name) (by rfl) (wpAny_bind (L0 _ _ _ _ (fun _ _ e => e) (wpAny_bind (LF _ _ _ _ (fun _ _ e => e) ?_)))))
  refine wpAny_pure ?_
  show wpAny _ _ (handedOut v) _ _ _
  rw [handedOut_of hv]; exact wpAny_pure h
end
end

section
open PySem PySem.W PyProof.Rows PySem.Calls
noncomputable def ExcIn (h : Heap) (x C : Addr) (us : List (Str × Value)) : Prop := ∃ ox dx es n, InstAt h x ox C (some (dictOf es n)) ∧ ox.dict = some dx ∧ EsOf es us
noncomputable def excAttrIn (K : Frag) (C : Addr) (name : Str) : Bool := (findIn K (.ref C) "__getattribute__" == some (some (.builtin "BaseException.__getattribute__"))) && (findIn K (.ref C) "__getattr__" == some none) && (subIn K (.ref C) (.type "BaseException") == some true) && hasDictIn K C && (findIn K (.ref C) name == some none)
theorem ExcIn.keeps {h h' : Heap} {x C : Addr} {us : List (Str × Value)} (I : ExcIn h x C us) (k : ∀ b o, h.get? b = some o → h'.get? b = some o) : ExcIn h' x C us := by
  obtain ⟨ox, dx, es, n, ⟨a1, a2, a3, a4⟩, hd, hes⟩ := I
  refine ⟨ox, dx, es, n, ⟨k _ _ a1, a2, a3, ?_⟩, hd, hes⟩
  rw [hd] at a4 ⊢
  exact k _ _ a4
section
variable {c : Cx} {S : St} {K : Frag}
theorem EW.excAttr {o : Expr} {name : Str} {pos : Pos} {K : Frag} {c : Cx} {S : St} {P : V → St → Prop} (hW : Wd K c.g.h) (h : EW c S o fun a S₁ => E5 (fun x C us u v => A6 (a = .obj x) (ExcIn c.g.h x C us) (us.lookup name = some u) ((∀ h ρ, VR h ρ v u)) (excAttrIn K C name = true) (P v S₁)))
    (he : autoParam (eval (.Attribute o name pos) c.env = (do
      let a ← eval o c.env
      standAt pos.atName
      let r ← holding [a] (getAttr a name true)
      letTemporaryGo o a r
      pure r)) syn1) : EW c S (.Attribute o name pos) P := by
  intro ρ s Q E r q x
  refine Attribute_any_ (h ρ s _ E r (fun a S₁ ρ₁ u₁ h₁ tk₁ p₁ r₁ v₁ st₁ => ?_) x) he
  obtain ⟨xx, C, us, u, v, rfl, I, hl, hv, ha, p⟩ := p₁
  cases v₁
  simp only [excAttrIn, Bool.and_eq_true, beq_iff_eq] at ha
  obtain ⟨⟨⟨⟨a1, a2⟩, a3⟩, a4⟩, a5⟩ := ha
  obtain ⟨ox, dx, es, n, I', hd, hes⟩ := I.keeps r₁.base
  refine exc_get (hW.X.keeps r₁.base) I' a1 a2 a3 (findObj_own a4 a5 (by rfl) ?_) (VR.handed (hv h₁ ρ₁)) ?_
  · rw [lookIn_dict, hes.getL, hl]
  · exact q v S₁ ρ₁ u h₁ (tk₁ + 1) p (r₁.keep (tk₁ + 1) fun _ _ e => e) (hv _ _) st₁
end

section
variable {M : Model} {A : Around} {E : Value → Shared → Prop} {s : Shared}
theorem fly_flight {base : Heap} {l : List Env} {x C : Addr} {us : List (Str × Value)} {Q : Unit → Shared → Prop}
    (F : Fly base l x C us s.heap) (h : ∀ h', Fly base l x C us h' → SameData s.heap h' → Q () { s with heap := h' }) : wpAny M A (setFlight (.ref x) none) Q E s := by
  obtain ⟨f1, f2, f3, vs, dx, es, n, he, hdx, hD, hes, hnl, hsz, ht⟩ := F
  unfold setFlight
  rcases ht with h1 | ⟨T, oT, ts, h1, hnT, hTx, hT, hdT, h3⟩
  · refine wpAny_bind (wpAny_field he rfl h1 ?_)
    rw [if_neg (by decide)]
    refine wpAny_pure ?_
    exact h s.heap ⟨f1, f2, f3, vs, dx, es, n, he, hdx, hD, hes, hnl, hsz, .inl h1⟩ fun b o e _ => ⟨o, e, rfl⟩
  · refine wpAny_bind (wpAny_field he rfl h1 ?_)
    rw [if_pos (show (Value.ref T != Value.none) = true from by simp)]
    have hsz3 : 3 < ts.size := (Array.getElem?_eq_some_iff.mp h3).1
    have other : ∀ b, b ≠ T → (s.heap.update T (Obj.mapFields (·.setIfInBounds 3 ((none : Option Addr).elim Value.none fun f => rawInt f)))).get? b = s.heap.get? b := fun b hb => Heap.get?_update_other _ _ (Ne.symm hb)
    have noRecord : ∀ b o, s.heap.get? b = some o → (∀ vs, o.data ≠ .fields vs) → b ≠ T := fun b o hb hnf q => by
      rw [q, hT] at hb; injection hb with hb; subst hb; exact hnf ts hdT
    refine wpAny_setField hT hdT hsz3 (h _ ⟨fun b o hbo => (other b fun q => by rw [q, hnT] at hbo; cases hbo).trans (f1 b o hbo), f2, f3.of_keeps fun b o hb hnf => ⟨o, (other b (noRecord b o hb hnf)).trans hb, rfl⟩, vs, dx, es, n, (other x (Ne.symm hTx)).trans he, hdx, (other dx (noRecord dx _ hD fun vs z => by cases z)).trans hD, hes, hnl, hsz, .inr ⟨T, _, _, h1, hnT, hTx, Heap.get?_update_self _ hT (Obj.isFreed_of_fields (Obj.data_mapFields hdT _)), Obj.data_mapFields hdT _, by simp [hsz3]⟩⟩ fun b o hb hnf => ⟨o, (other b (noRecord b o hb hnf)).trans hb, rfl⟩)

theorem fly_note {base : Heap} {env : Env} {outer : List Env} {L x C : Addr} {us : List (Str × Value)} {Q : Unit → Shared → Prop}
    (hfr : A.frames = some (env :: outer)) (hf : env.frame = some L) (F : Fly base (env :: outer) x C us s.heap) (h : ∀ h', Fly base (env :: outer) x C us h' → SameData s.heap h' → Q () { s with heap := h' }) :
    wpAny M A (noteFrame (.ref x) env) (fun _ s' => wpAny M A (setFlight (.ref x) none) Q E s') E s := by
  obtain ⟨f1, f2, f3, vs, dx, es, n, he, hdx, hD, hes, hnl, hsz, ht⟩ := F
  unfold noteFrame
  simp only [hf]
  rcases ht with h1 | ⟨T, oT, ts, h1, hnT, hTx, hT, hdT, h3⟩
  · refine wpAny_bind (wpAny_field he rfl h1 ?_)
    rw [if_neg (by decide)]
    exact fly_entry hfr f3 hf he hdx hD hes hnl f1 f2 hsz h
  · refine wpAny_bind (wpAny_field he rfl h1 ?_)
    rw [if_pos (show (Value.ref T != Value.none) = true from by simp)]
    refine wpAny_bind (wpAny_field hT hdT h3 ?_)
    rw [if_neg (show ¬ ((Value.none == rawInt L) = true) from by simp [rawInt])]
    refine wpAny_bind (wpAny_setField hT hdT (Array.getElem?_eq_some_iff.mp h3).1 ?_)
    have other : ∀ b, b ≠ T → (s.heap.update T (Obj.mapFields (·.setIfInBounds 3 Value.none))).get? b = s.heap.get? b := fun b hb => Heap.get?_update_other _ _ (Ne.symm hb)
    have noRecord : ∀ b o, s.heap.get? b = some o → (∀ vs, o.data ≠ .fields vs) → b ≠ T := fun b o hb hnf q => by
      rw [q, hT] at hb; injection hb with hb; subst hb; exact hnf ts hdT
    exact fly_entry hfr (f3.of_keeps fun b o hb hnf => ⟨o, (other b (noRecord b o hb hnf)).trans hb, rfl⟩) hf ((other x (Ne.symm hTx)).trans he) hdx ((other dx (noRecord dx _ hD fun vs z => by cases z)).trans hD) hes hnl
      (fun b o hbo => (other b fun q => by rw [q, hnT] at hbo; cases hbo).trans (f1 b o hbo)) f2 hsz fun h' F' sd => h h' F' fun b o hb hnf => sd b o ((other b (noRecord b o hb hnf)).trans hb) hnf
end

structure FnAt (K : Frag) (f : Addr) (names : List Str) (fd : FuncData) (body : List Stmt) : Prop where
  ho : ∃ oc od sl, K.lookup f = some ⟨oc, od, .func fd, sl⟩
  hcd : codeIn K fd.code fd.qualname = true
  hbody : fd.body = .stmts body
  hclo : fd.closure = []
  hnd : names.Nodup
  hb : ∀ (s : Shared) (us : List Value), us.length = names.length → BindsTo s fd ⟨us, []⟩ (names.zip us)
  hkinds : (names.all fun x => fd.scope.names.lookup x == some .local || fd.scope.names.lookup x == some .cell) = true
  hcn : ((cellsFrom 0 fd.scope.names []).map (·.1)).Nodup
  hco : fd.scope.isCoroutine = false
  hgen : fd.scope.isGenerator = false
  hk : fd.scope.kind = .function

theorem FnAt.enter {c : Cx} {K : Frag} {f : Addr} {names : List Str} {fd : FuncData} {body : List Stmt} (F : FnAt K f names fd body) (hW : Wd K c.g.h) (hroom : c.A.depth < recursionLimit) {S : St} {ρ : Rho} {s : Shared} {us : List Value} {vs : List V} {R : Result → Shared → Prop}
    (r : c.Rel ρ S s) (hus : VRs s.heap ρ vs us) (hlen : names.length = vs.length)
    (k : ∀ h₁ tk₁, (∀ b o, s.heap.get? b = some o → h₁.get? b = some o) → (∀ y ∈ (callEnvC fd s.heap.objs.size f).cells, s.heap.get? y.2 = none) → Rel c.prog c.w { c.g with stack := callEnvC fd s.heap.objs.size f :: c.g.stack } (callEnvC fd s.heap.objs.size f) ρ ⟨names.zip vs, S.sto⟩ (shT s h₁ tk₁) →
      wpAny (model c.prog c.w) (c.A.deeper (callEnvC fd s.heap.objs.size f)) (execs body (callEnvC fd s.heap.objs.size f)) (fun fl s' => R (.ok (.ret (match fl with | .ret v => v | _ => .none))) s')
        (fun e s' => wpAny (model c.prog c.w) (c.A.deeper (callEnvC fd s.heap.objs.size f)) (leaving (callEnvC fd s.heap.objs.size f) e) (fun _ s'' => R (.error e) s'') (fun e' s'' => R (.error e') s'') s') (shT s h₁ tk₁)) :
    codeAny (model c.prog c.w) c.A (.call (.ref f) ⟨us, []⟩) R s := by
  obtain ⟨oc, od, sl, ho⟩ := F.ho
  exact enter_core r.pre (r.base _ _ (hW.X _ _ ho)) (hW.lim.keeps r.base) ((codeRec_of hW.X F.hcd).keeps r.base) F.hbody F.hclo hroom hlen (fun h₁ k₁ => hus.map fun a => a.keep k₁ r.frame) F.hnd (F.hb s us (hus.length.trans hlen.symm)) F.hkinds F.hcn F.hco F.hgen F.hk k

theorem funFrames_rebase {base base' h : Heap} {l : List Env} (x : h.FunFrames base l) (hin : ∀ env ∈ l, ∀ a, env.frame = some a → base'.get? a = none) : h.FunFrames base' l :=
  FunFrames.map (fun env he L o e1 _ e3 e4 => ⟨hin env he L e1, o, e3, e4⟩) x

theorem Rel.regd {prog : Program} {w : World} {g : Gd} {env : Env} {ρ : Rho} {S : St} {s : Shared} (r : Rel prog w g env ρ S s) {H : Heap} (tk₀ : Nat) {hl : List (Addr × Data)} (sub : ∀ b o, H.get? b = some o → s.heap.get? b = some o)
    (hL : H.get? env.locals = none) (hC : ∀ c ∈ env.cells, H.get? c.2 = none) {stk : List Env} (hfr : s.heap.FunFrames H stk) (hh : ∀ p ∈ hl, (∃ o, s.heap.get? p.1 = some o ∧ o.data = p.2) ∧ (∀ vs, p.2 ≠ .fields vs) ∧ p.1 ≠ env.locals ∧ (∀ c ∈ env.cells, c.2 ≠ p.1) ∧ ∀ q ∈ ρ, q.2 ≠ p.1) :
    Rel prog w { s₀ := (shT s H tk₀), ro := S.sto.length, stack := stk, held := hl } env ρ S s where
  gens := ⟨r.gens.1, rfl⟩
  base := sub
  gL := hL
  gC := hC
  gM := fun i p hp hi => by have := (List.getElem?_eq_some_iff.mp hp).1; rw [r.len] at this; exact absurd this (Nat.not_lt.mpr hi)
  ro := Nat.le_refl _
  ns := r.ns
  cells := r.cells
  mL := r.mL
  mC := r.mC
  cL := r.cL
  vars := r.vars
  len := r.len
  sto := r.sto
  nd := r.nd
  cd := r.cd
  frs := hfr
  held := hh
end

section
open PySem PySem.W PyProof.Rows
set_option maxHeartbeats 8000000
theorem nq : builtinNamed = builtinNamed := rfl
name_quick tw8075568018651887793 for builtinNamed by nq
name_quick tw11045969416838239377 for builtinNamed by nq
name_quick tw18301376980945427864 for builtinNamed by nq
name_quick tw14979626087600564940 for builtinNamed by nq
name_quick tw11705733892432689576 for builtinNamed by nq
name_quick tw4919607303878514444 for builtinNamed by nq
name_quick tw8376752744543775738 for builtinNamed by nq
name_quick tw8719427161674164953 for builtinNamed by nq
name_quick tw11452132507678324671 for builtinNamed by nq
name_quick tw16735964619085208501 for builtinNamed by nq
name_quick tw1437513875802745899 for builtinNamed by nq
name_quick tw2413185636571951891 for builtinNamed by nq
name_quick tw16548257151911338427 for builtinNamed by nq
name_quick tw16846860572762119324 for builtinNamed by nq
name_quick tw16741492637210864865 for builtinNamed by nq
name_quick tw7378761846476686904 for builtinNamed by nq
name_quick tw4679858250743294509 for builtinNamed by nq
name_quick tw5529568453561195837 for builtinNamed by nq
name_quick tw5189142188285759775 for builtinNamed by nq
name_quick tw1402947280878808549 for builtinNamed by nq
name_quick tw11566699232636054958 for builtinNamed by nq
name_quick tw932993149863042379 for builtinNamed by nq
name_quick tw18101931140130867144 for builtinNamed by nq
name_quick tw17070079461858475408 for builtinNamed by nq
name_quick tw3560238982266916124 for builtinNamed by nq
name_quick tw8595292554425487202 for builtinNamed by nq
name_quick tw16643379632663270332 for builtinNamed by nq
name_quick tw16593013826814733010 for builtinNamed by nq
name_quick tw17828083071136270317 for builtinNamed by nq
name_quick tw7323676302269181137 for builtinNamed by nq
name_quick tw2611137233208623240 for builtinNamed by nq
name_quick tw13254397897704925713 for builtinNamed by nq
name_quick tw13358618909089187005 for builtinNamed by nq
name_quick tw117213463901210413 for builtinNamed by nq
name_quick tw10706342367453228570 for builtinNamed by nq
name_quick tw2627984346626558326 for builtinNamed by nq
name_quick tw9407582987413476825 for builtinNamed by nq
name_quick tw17111948838632640456 for builtinNamed by nq
name_quick tw3577408171920636059 for builtinNamed by nq
name_quick tw10528696920762540405 for builtinNamed by nq
name_quick tw6004533443673955352 for builtinNamed by nq
name_quick tw11306939235166856333 for builtinNamed by nq
name_quick tw12659028871203227004 for builtinNamed by nq
name_quick tw15168306246750427876 for builtinNamed by nq
name_quick tw5349121933718820234 for builtinNamed by nq
name_quick tw17672482021469178181 for builtinNamed by nq
name_quick tw3282434896037501709 for builtinNamed by nq
name_quick tw11939915149646268982 for builtinNamed by nq
name_quick tw16018607276475445134 for builtinNamed by nq
name_quick tw14168537005229113720 for builtinNamed by nq
name_quick tw15263041282635125899 for builtinNamed by nq
name_quick tw4775785305629353868 for builtinNamed by nq
name_quick tw17000458434675057986 for builtinNamed by nq
name_quick tw13559156169165276386 for builtinNamed by nq
name_quick tw3362959441861295915 for builtinNamed by nq
name_quick tw1333364371103165705 for builtinNamed by nq
name_quick tw7392212959928792091 for builtinNamed by nq
name_quick tw8376441433122354887 for builtinNamed by nq
name_quick tw16817318245366136608 for builtinNamed by nq
name_quick tw4011157648589011858 for builtinNamed by nq
name_quick tw13145125596335152023 for builtinNamed by nq
name_quick tw13759679279233594173 for builtinNamed by nq
name_quick tw13678640442995254988 for builtinNamed by nq
name_quick tw8603108125212654177 for builtinNamed by nq
name_quick tw4658958612460137192 for builtinNamed by nq
name_quick tw16531745337717519161 for builtinNamed by nq
name_quick tw1503297043503765363 for builtinNamed by nq
name_quick tw9763268239775435451 for builtinNamed by nq
name_quick tw17730448691065144110 for builtinNamed by nq
name_quick tw17964007177503468958 for builtinNamed by nq
name_quick tw6245536207120538393 for builtinNamed by nq
name_quick tw10205541121877940668 for builtinNamed by nq
name_quick tw18345786424863182364 for builtinNamed by nq
name_quick tw11788150170368784547 for builtinNamed by nq
name_quick tw1291980286583624508 for builtinNamed by nq
open_top hd for PySem.Challenge.rw_sj0035_01
end

section
open PySem PySem.W PyProof.Rows PySem.Calls
noncomputable abbrev KF : Params → Frag := hd.heap_39

structure Ok (c : Cx) (k : Nat) : Prop where
  W : Wd (KF c.w.params) c.g.h
  h : c.A.handled = none
  d : c.A.depth + k < recursionLimit
  u : c.A.units + 10 * k < cLine
  st : c.A.frames = some c.g.stack
theorem Ok.into {c : Cx} {k : Nat} {fd : FuncData} {f L : Addr} {X : Value → Shared → Prop} (h : Ok c (k + 1)) : Ok (c.into fd f L X) k :=
  ⟨h.W, h.h, by have := h.d; show c.A.depth + 1 + k < _; allgen_close_more, by have := h.u; show c.A.units + 3 + 10 * k < _; allgen_close_more, Around.frames_deeper h.st⟩
theorem Ok.room {c : Cx} {k : Nat} (h : Ok c k) : c.A.depth < recursionLimit := by have := h.d; allgen_close_more
theorem Ok.less {c : Cx} {k j : Nat} (h : Ok c k) (hj : j ≤ k) : Ok c j := ⟨h.W, h.h, by have := h.d; allgen_close_more, by have := h.u; allgen_close_more, h.st⟩
theorem Ok.less' {c : Cx} {k n j : Nat} (h : Ok c (k + n)) (hj : autoParam (Nat.ble j n = true) syn10) : Ok c (k + j) := h.less (Nat.add_le_add_left (Nat.le_of_ble_eq_true hj) k)
noncomputable def noX : Env → Value → Shared → Prop := fun _ _ _ => False

theorem seqN {rest : List Stmt} {c : Cx} {P : Fl → St → Prop} {S : St} (h : XW c S rest P) : After rest c P .next S := After.next h
theorem seqR {rest : List Stmt} {c : Cx} {P : Fl → St → Prop} {S : St} {v : V} (h : P (.ret v) S) : After rest c P (.ret v) S := After.ret h
theorem brT {k : Bool} {A B : Prop} (h : k = true) (a : A) : (k = true → A) ∧ (k = false → B) := ⟨fun _ => a, fun h' => by rw [h] at h'; cases h'⟩
theorem brF {k : Bool} {A B : Prop} (h : k = false) (b : B) : (k = true → A) ∧ (k = false → B) := ⟨fun h' => (by rw [h] at h'; cases h'), fun _ => b⟩

noncomputable abbrev St.has (x : Str) (S : St) (v : V) : Prop := S.loc.lookup x = some v
theorem look_here {S : St} {x : Str} {v : V} : (S.set x v).loc.lookup x = some v := by
  show ((x, v) :: S.loc).lookup x = some v
  rw [List.lookup_cons]; simp
theorem look_there {x y : Str} (h : (x == y) = false) {S : St} {v : V} {r : Option V} (e : S.loc.lookup x = r) : (S.set y v).loc.lookup x = r := by
  show ((y, v) :: S.loc).lookup x = r
  rw [List.lookup_cons, h]; exact e
theorem look_put {S : St} {j : Nat} {o : O} {x : Str} {r : Option V} (e : S.loc.lookup x = r) : (S.put j o).loc.lookup x = r := e
theorem look_new {S : St} {o : O} {x : Str} {r : Option V} (e : S.loc.lookup x = r) : (S.new o).loc.lookup x = r := e
end

open PySem PySem.W PyProof.Rows PySem.Calls in
set_option hygiene false in
local macro_rules | `(tactic| tb_start) => `(tactic| repeat' first | assumption | exact look_here | refine look_there (by kernel_rfl) ?_ | refine look_put ?_ | refine look_new ?_ | with_unfolding_all rfl)

section
open PySem PySem.W PyProof.Rows PySem.Calls
noncomputable def plainNm (x : Str) : Bool := !(x == ("__debug__" : Str)) && !(x == ("__classdict__" : Str))
section
variable {c : Cx} {S : St}
theorem EW.nm {x : Str} {pos : Pos} {c : Cx} {S : St} {v : V} {P : V → St → Prop} (e : S.loc.lookup x = some v) (p : P v S) (hk : c.env.scope.kind = .function) (hx : plainNm x = true) : EW c S (.Name x pos) P := by
  simp only [plainNm, Bool.and_eq_true, Bool.not_eq_true'] at hx
  exact EW.name e p hk hx.1 hx.2
theorem AW.n1 {x : Str} {pos p1 : Pos} {c : Cx} {S : St} {v : V} {P : List V → St → Prop} (e : S.loc.lookup x = some v) (p : P [v] S) (hk : autoParam (c.env.scope.kind = .function) syn1) (hx : autoParam (plainNm x = true) syn2) : AW c S pos [.Name x p1] P :=
  AW.cons (EW.nm e (AW.nil p) hk hx)
theorem AW.n2 {x y : Str} {pos p1 p2 : Pos} {c : Cx} {S : St} {v w : V} {P : List V → St → Prop} (e : S.loc.lookup x = some v) (f : S.loc.lookup y = some w) (p : P [v, w] S) (hk : autoParam (c.env.scope.kind = .function) syn1) (hx : autoParam ((plainNm x && plainNm y) = true) syn2) : AW c S pos [.Name x p1, .Name y p2] P := by
  rw [Bool.and_eq_true] at hx
  exact AW.cons (EW.nm e (AW.cons (EW.nm f (AW.nil p) hk hx.2)) hk hx.1)
theorem AW.ni {x : Str} {pos p1 p2 : Pos} {n : Int} {k : Nat} {c : Cx} {S : St} {v : V} {P : List V → St → Prop} (e : S.loc.lookup x = some v) (p : P [v, .int n] S) (hk : autoParam (c.env.scope.kind = .function) syn1) (hx : autoParam (plainNm x = true) syn2) : AW c S pos [.Name x p1, .Constant (.int n) k p2] P :=
  AW.cons (EW.nm e (AW.cons (EW.int (AW.nil p))) hk hx)
theorem AW.n3 {x y z : Str} {pos p1 p2 p3 : Pos} {c : Cx} {S : St} {v w u : V} {P : List V → St → Prop} (e : S.loc.lookup x = some v) (f : S.loc.lookup y = some w) (g : S.loc.lookup z = some u) (p : P [v, w, u] S) (hk : autoParam (c.env.scope.kind = .function) syn1) (hx : autoParam ((plainNm x && plainNm y && plainNm z) = true) syn2) : AW c S pos [.Name x p1, .Name y p2, .Name z p3] P := by
  rw [Bool.and_eq_true, Bool.and_eq_true] at hx
  exact AW.cons (EW.nm e (AW.cons (EW.nm f (AW.cons (EW.nm g (AW.nil p) hk hx.2)) hk hx.1.2)) hk hx.1.1)
theorem AW.i1 {pos p1 : Pos} {n : Int} {k : Nat} {c : Cx} {S : St} {P : List V → St → Prop} (p : P [.int n] S) : AW c S pos [.Constant (.int n) k p1] P :=
  AW.cons (EW.int (AW.nil p))
theorem AW.s1 {pos p1 : Pos} {n : Str} {k : Nat} {c : Cx} {S : St} {P : List V → St → Prop} (p : P [.str n] S) : AW c S pos [.Constant (.str n) k p1] P :=
  AW.cons (EW.str (AW.nil p))
theorem AW.nil' {pos : Pos} {c : Cx} {S : St} {P : List V → St → Prop} (p : P [] S) : AW c S pos [] P := AW.nil p
theorem EW.bni {x : Str} {op : Operator} {pos p1 p2 : Pos} {n : Int} {k : Nat} {c : Cx} {S : St} {v : V} {P : V → St → Prop} (e : S.loc.lookup x = some v) (p : OW2 c VR S v (.int n) (binaryOp op) P) (hk : autoParam (c.env.scope.kind = .function) syn1) (hx : autoParam (plainNm x = true) syn2) : EW c S (.BinOp (.Name x p1) op (.Constant (.int n) k p2) pos) P :=
  EW.binop (EW.nm e (EW.int p) hk hx)
theorem EW.bnn {x y : Str} {op : Operator} {pos p1 p2 : Pos} {c : Cx} {S : St} {v w : V} {P : V → St → Prop} (e : S.loc.lookup x = some v) (f : S.loc.lookup y = some w) (p : OW2 c VR S v w (binaryOp op) P) (hk : autoParam (c.env.scope.kind = .function) syn1) (hx : autoParam ((plainNm x && plainNm y) = true) syn2) : EW c S (.BinOp (.Name x p1) op (.Name y p2) pos) P := by
  rw [Bool.and_eq_true] at hx
  exact EW.binop (EW.nm e (EW.nm f p hk hx.2) hk hx.1)
theorem BW.cni {x : Str} {op : CmpOp} {pos p1 p2 : Pos} {n : Int} {k : Nat} {c : Cx} {S : St} {v : V} {P : Bool → St → Prop} (e : S.loc.lookup x = some v) (p : OW2 c VR S v (.int n) (compareOp op) (BoolP P)) (hk : autoParam (c.env.scope.kind = .function) syn1) (hx : autoParam (plainNm x = true) syn2) (hm : autoParam (behindInMarks op (.Constant (.int n) k p2) = false) syn1) : BW c S (.Compare (.Name x p1) [op] [.Constant (.int n) k p2] pos) P :=
  BW.cmp (EW.nm e (EW.int p) hk hx) hm
theorem BW.cns {x : Str} {op : CmpOp} {pos p1 p2 : Pos} {n : Str} {k : Nat} {c : Cx} {S : St} {v : V} {P : Bool → St → Prop} (e : S.loc.lookup x = some v) (p : OW2 c VR S v (.str n) (compareOp op) (BoolP P)) (hk : autoParam (c.env.scope.kind = .function) syn1) (hx : autoParam (plainNm x = true) syn2) (hm : autoParam (behindInMarks op (.Constant (.str n) k p2) = false) syn1) : BW c S (.Compare (.Name x p1) [op] [.Constant (.str n) k p2] pos) P :=
  BW.cmp (EW.nm e (EW.str p) hk hx) hm
theorem EW.inn {x y : Str} {pos p1 p2 : Pos} {c : Cx} {S : St} {v w : V} {P : V → St → Prop} (e : S.loc.lookup x = some v) (f : S.loc.lookup y = some w) (p : OW2 c VR S v w (fun a b => subscriptTail (.Name x p1) (.Name y p2) a b) P) (hk : autoParam (c.env.scope.kind = .function) syn1) (hx : autoParam ((plainNm x && plainNm y) = true) syn2) : EW c S (.Subscript (.Name x p1) (.Name y p2) pos) P := by
  rw [Bool.and_eq_true] at hx
  exact EW.item (EW.nm e (EW.nm f p hk hx.2) hk hx.1)
theorem EW.ini {x : Str} {pos p1 p2 : Pos} {n : Int} {k : Nat} {c : Cx} {S : St} {v : V} {P : V → St → Prop} (e : S.loc.lookup x = some v) (p : OW2 c VR S v (.int n) (fun a b => subscriptTail (.Name x p1) (.Constant (.int n) k p2) a b) P) (hk : autoParam (c.env.scope.kind = .function) syn1) (hx : autoParam (plainNm x = true) syn2) : EW c S (.Subscript (.Name x p1) (.Constant (.int n) k p2) pos) P :=
  EW.item (EW.nm e (EW.int p) hk hx)
end
end

open PySem PySem.W PyProof.Rows PySem.Calls in
local macro_rules | `(tactic| top_caught0) => `(tactic| (refine (?_ : let Q2 := _; SW _ _ _ Q2); intro Q2))

open PySem PySem.W PyProof.Rows PySem.Calls in
set_option hygiene false in
local macro_rules | `(tactic| tb_rel) => `(tactic| with_reducible first
  | (refine XW.cons (?_ : let Q2 := _; SW _ _ _ Q2); intro Q2)
  | refine XW.nil ?_
  | refine seqN ?_
  | refine seqR ?_
  | refine turnN (by assumption) ?_
  | refine turnR (by assumption) ?_
  | (refine (?_ : EW _ _ _ _); first
      | refine EW.name (by tb_start) ?_
      | (refine (?_ : EW _ _ (.BinOp _ _ _ _) _); first
          | refine EW.bni (by tb_start) ?_
          | refine EW.bnn (by tb_start) (by tb_start) ?_
          | refine EW.binop ?_)
      | (refine (?_ : EW _ _ (.Subscript _ _ _) _); first
          | refine EW.inn (by tb_start) (by tb_start) ?_
          | refine EW.ini (by tb_start) ?_
          | refine EW.item ?_)
      | refine EW.int ?_
      | refine EW.str ?_
      | refine EW.none ?_
      | refine EW.bool ?_
      | refine EW.cmp ?_
      | refine EW.ifexp ?_
      | refine EW.neg ?_)
  | (refine (?_ : SW _ _ _ _); first
      | refine SW.assign ?_
      | refine SW.ret ?_
      | refine SW.if ?_
      | refine SW.expr ?_
      | refine SW.setItem ?_
      | refine SW.aug (by tb_start) ?_)
  | (refine (?_ : AW _ _ _ _ _); first
      | refine AW.n1 (by tb_start) ?_
      | refine AW.ni (by tb_start) ?_
      | refine AW.n2 (by tb_start) (by tb_start) ?_
      | refine AW.n3 (by tb_start) (by tb_start) (by tb_start) ?_
      | refine AW.i1 ?_
      | refine AW.s1 ?_
      | refine AW.cons ?_
      | refine AW.nil ?_)
  | (refine (?_ : BW _ _ _ _); first
      | (refine (?_ : BW _ _ (.Compare _ _ _ _) _); first
          | refine BW.cni (by tb_start) ?_
          | refine BW.cns (by tb_start) ?_
          | refine BW.cmp ?_)
      | refine BW.or ?_
      | refine BW.or_nil ?_
      | refine BW.plain ?_)
  | (refine (?_ : OW2 _ _ _ _ _ _ _); first
      | refine Op.add ?_
      | refine Op.iadd ?_
      | refine Op.sub ?_
      | refine Op.eqI ?_
      | refine Op.neI ?_
      | refine Op.lt ?_
      | refine Op.gt ?_
      | refine Op.ge ?_)
  | refine Tr.int ?_
  | refine Tr.bool ?_)

section
open PySem PySem.W PyProof.Rows PySem.Calls
theorem rng1 {n i : Nat} {v : V} (h : ((List.range n).map fun k => V.int ((k : Nat) : Int))[i]? = some v) : i < n ∧ v = .int i := by
  rw [List.getElem?_map] at h
  obtain ⟨k, hk, rfl⟩ := Option.map_eq_some_iff.mp h
  obtain ⟨h1, rfl⟩ := List.getElem?_eq_some_iff.mp hk
  simp at h1 ⊢; exact h1
theorem rng2 {a : Int} {n i : Nat} {v : V} (h : ((List.range n).map fun k => V.int (a + ((k : Nat) : Int)))[i]? = some v) : i < n ∧ v = .int (a + i) := by
  rw [List.getElem?_map] at h
  obtain ⟨k, hk, rfl⟩ := Option.map_eq_some_iff.mp h
  obtain ⟨h1, rfl⟩ := List.getElem?_eq_some_iff.mp hk
  simp at h1 ⊢; exact h1
end

section
open PySem PySem.W PyProof.Rows PySem.Calls
noncomputable def rowP (bs : List Int) : Nat → Int
  | 0 => 0
  | i + 1 => rowP bs i + if bs.getD i 0 ≠ 0 then 2 ^ i else 0
theorem f_row_number {c : Cx} {S : St} {k : Nat} (ok : Ok c (k + 1)) {bs : List Int} (hl : bs.length ≤ 8) {P : V → St → Prop} (p : P (.int (rowP bs bs.length)) S) (hp : ∀ o ∈ S.sto, o.bel S.sto.length) : CW c S (.ref 157) [.lst (bs.map .int)] P := by
  refine CW.def (names := ["bits"]) (ds := []) (dvs := []) noX ok.W (by rfl) (by rfl) (by rfl) (by rfl) ok.room (by rfl) (fun _ _ => .nil) (by decide +kernel) (fun s us _ hu => ?_) (by decide +kernel) (by decide +kernel) (fun _ _ _ h => h.elim) fun L => ?_
  · obtain ⟨a, rfl⟩ := len1 hu
    exact .of_eq (by rfl)
  repeat tb_rel
  refine SW.for ?_
  refine IW.range1 ok.W ⟨rfl, rfl, rfl⟩ ok.h .name (by kernel_rfl) ?_
  refine EW.callBuiltin (id := "len") ok.W ⟨rfl, rfl, rfl⟩ (by kernel_rfl) (by kernel_rfl) ?_
  repeat tb_rel
  refine Len.lst (by simp; allgen_close_more) ⟨_, rfl, by simp; allgen_close_more, by simp; allgen_close_more, ?_⟩
  refine ⟨fun i S' => A3 (S'.sto = S.sto) (S'.has "row" (.int (rowP bs i))) (S'.has "bits" (.lst (bs.map .int))), ⟨rfl, by tb_start, by tb_start⟩, fun _ _ _ => trivial, ?_, ?_⟩
  · intro i v l9 s9
    generalize (St.mk l9 s9) = S'
    rintro hv ⟨h1, h2, h3⟩ Q0 hT0
    obtain ⟨hi, rfl⟩ := rng1 hv
    simp at hi
    refine AsW.name ?_ ⟨rfl, .inl rfl⟩
    repeat tb_rel
    refine Item.lst (v := .int bs[i]) (by allgen_close_more) (by allgen_close_more) (by simp [hi]) ?_
    repeat tb_rel
    have hg : bs.getD i 0 = bs[i] := by simp [List.getD, hi]
    refine ⟨fun hk => ?_, fun hk => ?_⟩
    · repeat tb_rel
      refine Op.shl (by allgen_close_more) (by allgen_close_more) (by decide) ?_
      repeat tb_rel
      refine ⟨h1, ?_, by tb_start⟩
      have : bs.getD i 0 ≠ 0 := by rw [hg]; simpa using hk
      rw [rowP, if_pos this]
      refine look_here.trans ?_
      simp
    · repeat tb_rel
      refine ⟨h1, ?_, by tb_start⟩
      have : ¬ bs.getD i 0 ≠ 0 := by rw [hg]; simpa using hk
      rw [rowP, if_neg this, Int.add_zero]
      tb_start
  · intro l9 s9
    generalize (St.mk l9 s9) = S'
    rintro ⟨h1, h2, h3⟩
    repeat tb_rel
    simp at h2
    show Back S P _ S'.sto
    rw [h1]
    have := Back.plain (S := S) (P := P) (v := .int (rowP bs bs.length)) (σ' := S.sto) (ex := []) rfl trivial hp p
    simpa [Fl.val] using this
end

section
open PySem PySem.W PyProof.Rows PySem.Calls
noncomputable def XFE (g : Gd) (k d : Str) (e : Value) (s' : Shared) : Prop :=
  ∃ x t1 t2 t3, e = .ref x ∧ (shT s' g.s₀.heap g.s₀.toks) = g.s₀ ∧ Fly g.h g.stack x 64 [("kind", .str k t1), ("at", .int (-1) t2), ("detail", .str d t3)] s'.heap ∧ ∀ p ∈ g.held, (∃ o, s'.heap.get? p.1 = some o ∧ o.data = p.2) ∧ ∀ vs, p.2 ≠ .fields vs

theorem fe_cls (p : Params) (name : Str) (h : takerIn (KF p) 64 name = some none) : ExcCls (KF p) 64 name where
  cd := by
    have e1 : (clsIn (KF p) 64).map (fun cd => (cd.mro, cd.hasDict)) = some ([.ref 64, .ref 39, .type "Exception", .type "BaseException", .type "object"], true) := by kernel_rfl
    obtain ⟨cd, hc, e2⟩ := Option.map_eq_some_iff.mp e1
    obtain ⟨e3, e4⟩ := Prod.mk.inj e2
    refine ⟨cd, hc, e4, fun self => ?_⟩
    rw [e3, refuseLoop_ref, refuseLoop_ref]; exact PySem.F.store_Exception.passes self
  sub := by kernel_rfl
  taker := h
  set := by kernel_rfl

theorem SW.raiseFE {c : Cx} {S : St} {e1 e2 e3 : Expr} {np cpos pos : Pos} {P : Fl → St → Prop} (hW : Wd (KF c.w.params) c.g.h) (hE : EnvOk c.env) (hh : c.A.handled = none) (hr : c.A.depth + 1 < recursionLimit)
    (h : AW c S cpos [e1, e2, e3] fun vs S₁ => ∃ k d, vs = [.str k, .int (-1), .str d] ∧ ∀ e s', XFE c.g k d e s' → c.X e s')
    (hx : autoParam (c.env.kindOf "FormatError" = some .globalImplicit) syn1)
    (he : autoParam (starEach [e1, e2, e3] c.env = (false, eval e1 c.env) :: starEach [e2, e3] c.env) syn5) (hp : autoParam ((backTo cpos (starEach [e2, e3] c.env)).any (·.1) = false) syn1) :
    SW c S (.Raise (some (.Call (.Name "FormatError" np) [e1, e2, e3] [] cpos)) Option.none pos) P := by
  intro ρ s Q E r q x
  refine raise_own (K := KF c.w.params) (C := 64) hh ?_ (by kernel_rfl) (by kernel_rfl)
  refine Call_ (wp_global hW hE r (v := .ref 64) (by kernel_rfl) hx ?_ (by decide +kernel))
  refine callWith_K (K := KF c.w.params) (first := []) (hW.X.keeps r.base) (by kernel_rfl) (h ρ s _ E r (fun vs S₁ ρ₁ us h₁ tk₁ p₁ r₁ v₁ st₁ => ⟨hW.X.keeps r₁.base, ?_⟩) x) he hp
  obtain ⟨k, d, rfl, hX⟩ := p₁
  cases v₁ with
  | cons a v₁ => cases v₁ with
    | cons b v₁ => cases v₁ with
      | cons c' v₁ =>
        cases v₁; cases a; cases b; cases c'
        rename_i t1 t2 t3
        have X₁ := hW.X.keeps r₁.base
        refine exc_call (K := KF c.w.params) (fI := 36) (bm := [.ref 39, .type "Exception", .type "BaseException", .type "object"]) PySem.F.excBase_Exception (by decide +kernel) (by decide +kernel) (by decide +kernel) (X₁ 64 _ (by with_unfolding_all rfl)) X₁ (by kernel_rfl) (by kernel_rfl) (fun h' ex hm => ?_) (by rw [sizeLine_eq]; show 3 ≤ _; decide)
        obtain ⟨t, het, htn, htt⟩ := hm.there
        have X₂ := X₁.keeps hm.keeps
        refine exc_init (K := KF c.w.params) (C := 64) X₂ (f := 36) (by with_unfolding_all rfl) (by kernel_rfl) ((hW.lim.keeps r₁.base).keeps hm.keeps) (by with_unfolding_all rfl) (by rfl) hr ?_ (by with_unfolding_all rfl) (by with_unfolding_all rfl) (by with_unfolding_all rfl) (by with_unfolding_all rfl) (fe_cls _ _ (by kernel_rfl)) (fe_cls _ _ (by kernel_rfl)) (fe_cls _ _ (by kernel_rfl)) het (fun a o e => ?_) (fun h'' tk'' I st => ⟨rfl, ?_⟩)
        · exact .of_defaults (T := 29) rfl (X₂ 29 _ (by with_unfolding_all rfl)) rfl (by rfl) (by rfl)
        · rintro rfl
          have := X₁ _ _ e
          have hn := hm.new
          (try dsimp only at this)
          rw [hn] at this; cases this
        · have hn := hm.new
          have own1 : ∀ b, excOwn h' ex b → b = ex := fun b hb => by
            rcases hb with rfl | ⟨o, dx, e, ed, rfl⟩
            · rfl
            · (try dsimp only at het); rw [het] at e; cases e; cases ed
          have kp : ∀ b o, h₁.get? b = some o → h''.get? b = some o := fun b o e => by
            refine st.keep b o (fun z => ?_) (hm.keeps b o e)
            rw [own1 b z] at e; (try dsimp only at hn); rw [hn] at e; cases e
          have gn : c.g.h.get? ex = none := by
            cases z : c.g.h.get? ex with
            | none => rfl
            | some o => have := r₁.base _ _ z; (try dsimp only at this hn); rw [hn] at this; cases this
          rcases I with ⟨_, I⟩ | ⟨dx, es, n, i1, i2, i3, i4⟩
          · cases I
          · refine ⟨ex, _, _, rfl, hW.X.keeps fun b o e => kp b o (r₁.base b o e), i1, rfl, rfl, rfl, x.1 _ _ (hX _ _ ⟨ex, t1, t2, t3, rfl, r₁.gens.2, ⟨fun b o e => kp b o (r₁.base b o e), gn, FunFrames.keep kp r₁.frs, _, dx, es, n, i1, i2, i3, i4, fun b hb => ?_, by simp, .inl rfl⟩, fun p hp => by obtain ⟨⟨o, e, d⟩, a1, _⟩ := r₁.held p hp; exact ⟨⟨o, kp _ _ e, d⟩, a1⟩⟩)⟩
            rintro rfl
            obtain ⟨_, o, ho, _⟩ := r₁.frs.mem hb
            have hho := hm.keeps _ _ ho
            rcases st.own b (.inr ⟨_, b, i1, rfl, rfl⟩) with z | z
            · exact i2 (own1 _ z)
            · (try dsimp only at z hho); rw [hho] at z; cases z
end

section
open PySem PySem.W PyProof.Rows PySem.Calls
noncomputable abbrev Ex (α : Type) := Except (Str × Str) α
noncomputable def XE {α : Type} (g : Gd) (r : Ex α) (e : Value) (s' : Shared) : Prop := ∃ k d, r = .error (k, d) ∧ XFE g k d e s'
noncomputable abbrev XEg {α : Type} (g : Gd) (r : Ex α) (env' : Env) : Value → Shared → Prop := XE { g with stack := env' :: g.stack } r
theorem XE.leave {α : Type} {c : Cx} {k : Nat} (ok : Ok c k) {r : Ex α} (hX : ∀ e s', XE c.g r e s' → c.X e s') {fd : FuncData} {f : Addr} : ∀ L e s', XE { c.g with stack := callEnvC fd L f :: c.g.stack } r e s' →
    wpAny (model c.prog c.w) (c.A.deeper (callEnvC fd L f)) (leaving (callEnvC fd L f) e) (fun _ s'' => c.X e s'') (fun _ _ => False) s' := by
  rintro L e s' ⟨kd, d, hr, x, t1, t2, t3, rfl, hs, F, H⟩
  exact fly_leave (Around.frames_deeper ok.st) rfl F fun h' F' sd => hX _ _ ⟨kd, d, hr, x, t1, t2, t3, rfl, hs, F', fun p hp => by
    obtain ⟨⟨o, e, d⟩, nf⟩ := H p hp
    obtain ⟨o', e', d'⟩ := sd _ o e fun vs z => nf vs (d ▸ z)
    exact ⟨⟨o', e', d'.trans d⟩, nf⟩⟩

noncomputable def checkedName (name : Str) : Ex Str :=
  if Txt.words name ≠ [name] ∨ Txt.contains name "#" = true ∨ Txt.item name (-1) = "\\" then .error ("bad_name", name) else .ok name
noncomputable def nameOk (name : Str) : Bool := PyData.strOk name && (Txt.words name).all PyData.strOk && decide (name.length ≤ 1000) && decide ((Builtin.Str.spaceWords name (name.length + 1)).length ≤ 1000) && decide ((Txt.words name).length ≤ 1000)

theorem dats_inj : ∀ {xs ys : List Str}, xs.map Dat.str = ys.map Dat.str → xs = ys
  | [], [], _ => rfl
  | [], _ :: _, h => by cases h
  | _ :: _, [], h => by cases h
  | x :: xs, y :: ys, h => by
    simp only [List.map_cons, List.cons.injEq, Dat.str.injEq] at h
    rw [h.1, dats_inj h.2]
theorem kqd_strs {n : Nat} {xs : List Str} (h : ∀ y ∈ xs, PyData.strOk y = true) : kqdOk (n + 1) (.list (xs.map .str)) = true := by
  show (xs.map Dat.str).all (kqdOk n) = true
  rw [List.all_eq_true]
  intro d hd
  obtain ⟨y, hy, rfl⟩ := List.mem_map.mp hd
  rw [kqdOk_str]; exact h y hy

theorem f_checked_name {c : Cx} {S : St} {k : Nat} (ok : Ok c (k + 10)) {name : Str} (hn : nameOk name = true) {P : V → St → Prop}
    (hX : ∀ e s', XE c.g (checkedName name) e s' → c.X e s') (p : ∀ y, checkedName name = .ok y → P (.str y) S) (hp : ∀ o ∈ S.sto, o.bel S.sto.length) : CW c S (.ref 178) [.str name] P := by
  simp only [nameOk, Bool.and_eq_true, decide_eq_true_eq, List.all_eq_true] at hn
  obtain ⟨⟨⟨⟨n1, n2⟩, n3⟩, n4⟩, n5⟩ := hn
  have hsl : (1000 : Nat) ≤ sizeLine := by rw [sizeLine_eq]; decide
  refine CW.def (names := ["name"]) (ds := []) (dvs := []) (XEg c.g (checkedName name)) ok.W (by rfl) (by rfl) (by rfl) (by rfl) ok.room (by rfl) (fun _ _ => .nil) (by decide +kernel) (fun s us _ hu => ?_) (by decide +kernel) (by decide +kernel) (XE.leave ok hX) fun L => ?_
  · obtain ⟨a, rfl⟩ := len1 hu
    exact .of_eq (by rfl)
  repeat tb_rel
  refine EW.strMeth (id := "str.split") PySem.F.slot_str_split (by kernel_rfl) ?_
  repeat tb_rel
  refine ⟨_, rfl, ?_⟩
  repeat tb_rel
  refine StrM.split0 (by allgen_close_more) (by allgen_close_more) ?_
  refine EW.list ?_
  repeat tb_rel
  refine ⟨?_, by simp; allgen_close_more⟩
  refine Op.neD (d := .list ((Txt.words name).map .str)) (e := .list [.str name]) (.lst (DatsOf.strs _)) (.lst (DatsOf.strs [name])) (kqd_strs n2) (kqd_strs (xs := [name]) (by simpa using n1)) (by have := ok.u; show c.A.units + 3 + 64 < _; allgen_close_more) ?_
  refine ⟨_, rfl, fun hk => ?_, fun hk => ?_⟩
  · have herr : checkedName name = .error ("bad_name", name) := by
      unfold checkedName; rw [if_pos (.inl fun e => by simp [e] at hk)]
    refine brT rfl ?_
    repeat tb_rel
    refine SW.raiseFE (ok.into (k := k + 9)).W ⟨rfl, rfl, rfl⟩ ok.h (by have := ok.d; show c.A.depth + 1 + 1 < _; allgen_close_more) ?_
    repeat tb_rel
    refine ⟨_, rfl, ?_⟩
    repeat tb_rel
    exact ⟨_, _, rfl, fun e s' h => ⟨_, _, herr, h⟩⟩
  · have n1' : Txt.words name = [name] := by
      by_cases e : Txt.words name = [name]
      · exact e
      · simp at hk
        rcases hk with hk
        exact hk
    repeat tb_rel
    refine Op.inS ?_
    refine ⟨_, rfl, fun hk => ?_, fun hk2 => ?_⟩
    · have herr : checkedName name = .error ("bad_name", name) := by
        unfold checkedName; rw [if_pos (.inr (.inl hk))]
      refine brT rfl ?_
      repeat tb_rel
      refine SW.raiseFE (ok.into (k := k + 9)).W ⟨rfl, rfl, rfl⟩ ok.h (by have := ok.d; show c.A.depth + 1 + 1 < _; allgen_close_more) ?_
      repeat tb_rel
      refine ⟨_, rfl, ?_⟩
      repeat tb_rel
      exact ⟨_, _, rfl, fun e s' h => ⟨_, _, herr, h⟩⟩
    · repeat tb_rel
      refine ⟨_, rfl, ?_⟩
      have hne : 0 < name.length := by
        rcases Nat.eq_zero_or_pos name.length with e | e
        · have : name = "" := Str.ext' (by rw [Array.eq_empty_of_size_eq_zero e]; rfl)
          subst this
          exact absurd n1' (by decide +kernel)
        · exact e
      refine Item.str (by allgen_close_more) (by allgen_close_more) (by decide) ?_
      repeat tb_rel
      refine Op.eqS ?_
      refine ⟨_, rfl, fun hk => ?_, fun hk => ?_⟩
      · have herr : checkedName name = .error ("bad_name", name) := by
          unfold checkedName; rw [if_pos (.inr (.inr (by simpa using hk)))]
        refine brT rfl ?_
        repeat tb_rel
        refine SW.raiseFE (ok.into (k := k + 9)).W ⟨rfl, rfl, rfl⟩ ok.h (by have := ok.d; show c.A.depth + 1 + 1 < _; allgen_close_more) ?_
        repeat tb_rel
        refine ⟨_, rfl, ?_⟩
        repeat tb_rel
        exact ⟨_, _, rfl, fun e s' h => ⟨_, _, herr, h⟩⟩
      · repeat tb_rel
        refine brF rfl ?_
        repeat tb_rel
        have hok : checkedName name = .ok name := by
          unfold checkedName; rw [if_neg]
          rintro (h | h | h)
          · exact h n1'
          · rw [h] at hk2; cases hk2
          · rw [h] at hk; simp at hk
        have := Back.plain (S := S) (P := P) (v := .str name) (σ' := S.sto) (ex := []) rfl trivial hp (p _ hok)
        show Back S P (.str name) S.sto
        simpa using this
end

section
open PySem PySem.W PyProof.Rows PySem.Calls
noncomputable def gateKinds : List Str := ["buf", "not", "and", "or", "xor", "nand", "nor", "xnor", "mux"]
noncomputable def arity (kind : Str) : Nat := if kind = "buf" ∨ kind = "not" then 1 else if kind = "mux" then 3 else 2
noncomputable def bit (bs : List Int) (i : Nat) : Int := bs.getD i 0
noncomputable def gateV (kind : Str) (bs : List Int) : Int :=
  if kind = "buf" then bit bs 0 else
  if kind = "not" then 1 - bit bs 0 else
  if kind = "and" then Builtin.bitAnd (bit bs 0) (bit bs 1) else
  if kind = "or" then Builtin.bitOr (bit bs 0) (bit bs 1) else
  if kind = "xor" then Builtin.bitXor (bit bs 0) (bit bs 1) else
  if kind = "nand" then 1 - Builtin.bitAnd (bit bs 0) (bit bs 1) else
  if kind = "nor" then 1 - Builtin.bitOr (bit bs 0) (bit bs 1) else
  if kind = "xnor" then 1 - Builtin.bitXor (bit bs 0) (bit bs 1) else
  if bit bs 0 ≠ 0 then bit bs 2 else bit bs 1
theorem item_bit {c : Cx} {S : St} {bs : List Int} {i : Nat} {value slice : Expr} {P : V → St → Prop} (h : i < bs.length) (hb : i < 2 ^ 63) (p : P (.int (bit bs i)) S) (hs : autoParam (PlainSub slice) syn6) : OW2 c VR S (.lst (bs.map .int)) (.int i) (fun x y => subscriptTail value slice x y) P :=
  Item.lst (v := .int (bit bs i)) (by allgen_close_more) (by allgen_close_more) (by simp [h, bit, List.getD]) p hs

theorem f_gate_value {c : Cx} {S : St} {k : Nat} (ok : Ok c (k + 1)) {kind : Str} {bs : List Int} (hk : kind ∈ gateKinds) (hl : arity kind ≤ bs.length) {P : V → St → Prop} (p : P (.int (gateV kind bs)) S) (hp : ∀ o ∈ S.sto, o.bel S.sto.length) : CW c S (.ref 164) [.str kind, .lst (bs.map .int)] P := by
  refine CW.def (names := ["kind", "bits"]) (ds := []) (dvs := []) noX ok.W (by rfl) (by rfl) (by rfl) (by rfl) ok.room (by rfl) (fun _ _ => .nil) (by decide +kernel) (fun s us _ hu => ?_) (by decide +kernel) (by decide +kernel) (fun _ _ _ h => h.elim) fun L => ?_
  · obtain ⟨a, b, rfl⟩ := len2 hu
    exact .of_eq (by rfl)
  have fin : ∀ {v : Int}, v = gateV kind bs → Back S P (.int v) S.sto := fun e => by
    have := Back.plain (S := S) (P := P) (v := .int (gateV kind bs)) (σ' := S.sto) (ex := []) rfl trivial hp p
    rw [e]; simpa using this
  have b0 : 0 < bs.length := by unfold arity at hl; split at hl <;> (try split at hl) <;> allgen_close_more
  have b1 : ¬ (kind = "buf" ∨ kind = "not") → 1 < bs.length := fun h => by unfold arity at hl; rw [if_neg h] at hl; split at hl <;> allgen_close_more
  repeat tb_rel
  refine Op.eqS ?_
  refine ⟨_, rfl, ?_⟩
  by_cases h1 : kind = "buf"
  · refine brT (by first | exact decide_eq_true h1 | simp [h1]) ?_
    repeat tb_rel
    refine item_bit (i := 0) b0 (by decide) ?_
    repeat tb_rel
    exact fin (by unfold gateV; rw [if_pos h1])
  refine brF (by first | exact decide_eq_false h1 | simp [h1]) ?_
  repeat tb_rel
  refine Op.eqS ?_
  refine ⟨_, rfl, ?_⟩
  by_cases h2 : kind = "not"
  · refine brT (by first | exact decide_eq_true h2 | simp [h2]) ?_
    repeat tb_rel
    refine item_bit (i := 0) b0 (by decide) ?_
    repeat tb_rel
    exact fin (by unfold gateV; rw [if_neg h1, if_pos h2])
  refine brF (by first | exact decide_eq_false h2 | simp [h2]) ?_
  repeat tb_rel
  have b1 := b1 (by simp [h1, h2])
  refine Op.eqS ?_
  refine ⟨_, rfl, ?_⟩
  by_cases h3 : kind = "and"
  · refine brT (by first | exact decide_eq_true h3 | simp [h3]) ?_
    repeat tb_rel
    refine item_bit (i := 0) b0 (by decide) ?_
    repeat tb_rel
    refine item_bit (i := 1) b1 (by decide) ?_
    refine Op.and ?_
    repeat tb_rel
    exact fin (by unfold gateV; rw [if_neg h1, if_neg h2, if_pos h3])
  refine brF (by first | exact decide_eq_false h3 | simp [h3]) ?_
  repeat tb_rel
  refine Op.eqS ?_
  refine ⟨_, rfl, ?_⟩
  by_cases h4 : kind = "or"
  · refine brT (by first | exact decide_eq_true h4 | simp [h4]) ?_
    repeat tb_rel
    refine item_bit (i := 0) b0 (by decide) ?_
    repeat tb_rel
    refine item_bit (i := 1) b1 (by decide) ?_
    refine Op.or ?_
    repeat tb_rel
    exact fin (by unfold gateV; rw [if_neg h1, if_neg h2, if_neg h3, if_pos h4])
  refine brF (by first | exact decide_eq_false h4 | simp [h4]) ?_
  repeat tb_rel
  refine Op.eqS ?_
  refine ⟨_, rfl, ?_⟩
  by_cases h5 : kind = "xor"
  · refine brT (by first | exact decide_eq_true h5 | simp [h5]) ?_
    repeat tb_rel
    refine item_bit (i := 0) b0 (by decide) ?_
    repeat tb_rel
    refine item_bit (i := 1) b1 (by decide) ?_
    refine Op.xor ?_
    repeat tb_rel
    exact fin (by unfold gateV; rw [if_neg h1, if_neg h2, if_neg h3, if_neg h4, if_pos h5])
  refine brF (by first | exact decide_eq_false h5 | simp [h5]) ?_
  repeat tb_rel
  refine Op.eqS ?_
  refine ⟨_, rfl, ?_⟩
  by_cases h6 : kind = "nand"
  · refine brT (by first | exact decide_eq_true h6 | simp [h6]) ?_
    repeat tb_rel
    refine item_bit (i := 0) b0 (by decide) ?_
    repeat tb_rel
    refine item_bit (i := 1) b1 (by decide) ?_
    refine Op.and ?_
    repeat tb_rel
    exact fin (by unfold gateV; rw [if_neg h1, if_neg h2, if_neg h3, if_neg h4, if_neg h5, if_pos h6])
  refine brF (by first | exact decide_eq_false h6 | simp [h6]) ?_
  repeat tb_rel
  refine Op.eqS ?_
  refine ⟨_, rfl, ?_⟩
  by_cases h7 : kind = "nor"
  · refine brT (by first | exact decide_eq_true h7 | simp [h7]) ?_
    repeat tb_rel
    refine item_bit (i := 0) b0 (by decide) ?_
    repeat tb_rel
    refine item_bit (i := 1) b1 (by decide) ?_
    refine Op.or ?_
    repeat tb_rel
    exact fin (by unfold gateV; rw [if_neg h1, if_neg h2, if_neg h3, if_neg h4, if_neg h5, if_neg h6, if_pos h7])
  refine brF (by first | exact decide_eq_false h7 | simp [h7]) ?_
  repeat tb_rel
  refine Op.eqS ?_
  refine ⟨_, rfl, ?_⟩
  by_cases h8 : kind = "xnor"
  · refine brT (by first | exact decide_eq_true h8 | simp [h8]) ?_
    repeat tb_rel
    refine item_bit (i := 0) b0 (by decide) ?_
    repeat tb_rel
    refine item_bit (i := 1) b1 (by decide) ?_
    refine Op.xor ?_
    repeat tb_rel
    exact fin (by unfold gateV; rw [if_neg h1, if_neg h2, if_neg h3, if_neg h4, if_neg h5, if_neg h6, if_neg h7, if_pos h8])
  refine brF (by first | exact decide_eq_false h8 | simp [h8]) ?_
  repeat tb_rel
  refine Op.eqS ?_
  refine ⟨_, rfl, ?_⟩
  have h9 : kind = "mux" := by
    simp [gateKinds, h1, h2, h3, h4, h5, h6, h7, h8] at hk; exact hk
  have b2 : 2 < bs.length := by unfold arity at hl; rw [if_neg (by simp [h1, h2]), if_pos h9] at hl; allgen_close_more
  refine brT (by first | exact decide_eq_true h9 | simp [h9]) ?_
  repeat tb_rel
  refine item_bit (i := 0) b0 (by decide) ?_
  repeat tb_rel
  by_cases hb : bit bs 0 ≠ 0
  · refine brT (by first | exact decide_eq_true hb | simp [hb]) ?_
    repeat tb_rel
    refine item_bit (i := 2) b2 (by decide) ?_
    repeat tb_rel
    exact fin (by unfold gateV; rw [if_neg h1, if_neg h2, if_neg h3, if_neg h4, if_neg h5, if_neg h6, if_neg h7, if_neg h8, if_pos hb])
  · refine brF (by simpa using hb) ?_
    repeat tb_rel
    refine item_bit (i := 1) b1 (by decide) ?_
    repeat tb_rel
    exact fin (by unfold gateV; rw [if_neg h1, if_neg h2, if_neg h3, if_neg h4, if_neg h5, if_neg h6, if_neg h7, if_neg h8, if_neg hb])
end

section
open PySem PySem.W PyProof.Rows PySem.Calls
set_option genInjectivity false in
inductive Par where
  | none
  | num (n : Int)
  | own (nm : Str) (n : Int)
  | flop (edge : Int) (nm : Str) (init : Int)
noncomputable def Par.v : Par → V
  | .none => .none
  | .num n => .int n
  | .own nm n => .tup [.str nm, .int n]
  | .flop e nm i => .tup [.int e, .str nm, .int i]
set_option genInjectivity false in
structure Cell where
  kind : Str
  out : Int
  ins : List Int
  par : Par
noncomputable def Cell.v (c : Cell) : V := .tup [.str c.kind, .int c.out, .tup (c.ins.map .int), c.par.v]

theorem rowP_pos (bs : List Int) : ∀ n, 0 ≤ rowP bs n
  | 0 => by simp [rowP]
  | n + 1 => by
    have := rowP_pos bs n
    unfold rowP
    have h2 : (0 : Int) < 2 ^ n := Int.pow_pos (by decide)
    split <;> allgen_close_more
noncomputable def tabV (n : Int) (bs : List Int) : Int := Builtin.bitAnd (n / 2 ^ (rowP bs bs.length).toNat) 1
noncomputable def cellV (kind : Str) (par : Par) (bs : List Int) : Int :=
  if kind = "lut" then (match par with | .num n => tabV n bs | _ => 0)
  else if kind = "cell" then (match par with | .own _ n => tabV n bs | _ => 0)
  else gateV kind bs
noncomputable def tabOk (kind : Str) (par : Par) (n : Nat) : Prop :=
  n ≤ 8 ∧ (kind = "lut" → ∃ m, par = .num m) ∧ (kind = "cell" → ∃ nm m, par = .own nm m) ∧ (kind ≠ "lut" → kind ≠ "cell" → kind ∈ gateKinds ∧ arity kind ≤ n)

theorem f_cell_value {c : Cx} {S : St} {k : Nat} (ok : Ok c (k + 2)) {kind : Str} {par : Par} {bs : List Int} (hk : tabOk kind par bs.length) {P : V → St → Prop} (p : P (.int (cellV kind par bs)) S) (hp : ∀ o ∈ S.sto, o.bel S.sto.length) : CW c S (.ref 171) [.str kind, par.v, .lst (bs.map .int)] P := by
  obtain ⟨hl, k1, k2, k3⟩ := hk
  refine CW.def (names := ["kind", "param", "bits"]) (ds := []) (dvs := []) noX ok.W (by rfl) (by rfl) (by rfl) (by rfl) ok.room (by rfl) (fun _ _ => .nil) (by decide +kernel) (fun s us _ hu => ?_) (by decide +kernel) (by decide +kernel) (fun _ _ _ h => h.elim) fun L => ?_
  · obtain ⟨a, b, d, rfl⟩ := len3 hu
    exact .of_eq (by rfl)
  have fin : ∀ {v : Int}, v = cellV kind par bs → Back S P (.int v) S.sto := fun e => by
    have := Back.plain (S := S) (P := P) (v := .int (cellV kind par bs)) (σ' := S.sto) (ex := []) rfl trivial hp p
    rw [e]; simpa using this
  repeat tb_rel
  refine Op.eqS ?_
  refine ⟨_, rfl, ?_⟩
  by_cases h1 : kind = "lut"
  · obtain ⟨m, rfl⟩ := k1 h1
    refine brT (by first | exact decide_eq_true h1 | simp [h1]) ?_
    repeat tb_rel
    refine EW.callDef (f := 157) ok.W ⟨rfl, rfl, rfl⟩ (by kernel_rfl) (by kernel_rfl) ?_
    repeat tb_rel
    refine f_row_number (k := k) (ok.into) hl ?_ hp
    refine Op.shr (rowP_pos _ _) ?_
    repeat tb_rel
    refine Op.and ?_
    repeat tb_rel
    exact fin (by unfold cellV; rw [if_pos h1]; rfl)
  refine brF (by first | exact decide_eq_false h1 | simp [h1]) ?_
  repeat tb_rel
  refine Op.eqS ?_
  refine ⟨_, rfl, ?_⟩
  by_cases h2 : kind = "cell"
  · obtain ⟨nm, m, rfl⟩ := k2 h2
    refine brT (by first | exact decide_eq_true h2 | simp [h2]) ?_
    repeat tb_rel
    refine Item.tup (v := .int m) (by decide) (by decide) (by rfl) ?_
    refine EW.callDef (f := 157) ok.W ⟨rfl, rfl, rfl⟩ (by kernel_rfl) (by kernel_rfl) ?_
    repeat tb_rel
    refine f_row_number (k := k) (ok.into) hl ?_ hp
    refine Op.shr (rowP_pos _ _) ?_
    repeat tb_rel
    refine Op.and ?_
    repeat tb_rel
    exact fin (by unfold cellV; rw [if_neg h1, if_pos h2]; rfl)
  refine brF (by first | exact decide_eq_false h2 | simp [h2]) ?_
  obtain ⟨k3, k4⟩ := k3 h1 h2
  repeat tb_rel
  refine EW.callDef (f := 164) ok.W ⟨rfl, rfl, rfl⟩ (by kernel_rfl) (by kernel_rfl) ?_
  repeat tb_rel
  refine f_gate_value (k := k) (ok.into) k3 k4 ?_ hp
  repeat tb_rel
  exact fin (by unfold cellV; rw [if_neg h1, if_neg h2])

theorem ClOk.nil {c : Cx} {scope : Scope} : ClOk c scope [] := ⟨by simp, .nil, fun _ _ h => by cases h⟩
theorem ClOk.one {c : Cx} {scope : Scope} {x : Str} {a : Addr} (e : c.env.cells.lookup x = some a) (hk : c.env.kindOf x = some .cell) (hk2 : ∀ C, ((compEnvC scope [(x, a)] C c.env).kindOf x = some .cell ∨ (compEnvC scope [(x, a)] C c.env).kindOf x = some .free)) : ClOk c scope [(x, a)] := by
  refine ⟨fun y hy => ?_, List.pairwise_singleton _ _, fun y b h => ?_⟩
  · simp at hy; subst hy; exact cells_mem e
  · rw [List.lookup_cons] at h
    by_cases hy : y = x
    · subst hy; simp at h; subst h; exact ⟨e, by rw [hk]; exact (fun z => by cases z), hk2⟩
    · rw [beq_eq_false_iff_ne.mpr hy] at h; cases h
end

section
open PySem PySem.W PyProof.Rows PySem.Calls
noncomputable def bitsOf (n : Nat) (row : Nat) : List Int := (List.range n).map fun i => Builtin.bitAnd ((row : Int) / 2 ^ i) 1
noncomputable def rowText (n : Nat) (row : Nat) : Str := Txt.strip (Txt.join "" ((bitsOf n row).map istr) ++ " 1")
noncomputable def rowsUpTo (kind : Str) (par : Par) (n : Nat) (m : Nat) : List Str := ((List.range m).filter fun row => cellV kind par (bitsOf n row) = 1).map (rowText n)
noncomputable def tableRows (kind : Str) (par : Par) (n : Nat) : List Str := rowsUpTo kind par n (2 ^ n)
theorem rowsUpTo_succ (kind : Str) (par : Par) (n m : Nat) : rowsUpTo kind par n (m + 1) = rowsUpTo kind par n m ++ if cellV kind par (bitsOf n m) = 1 then [rowText n m] else [] := by
  unfold rowsUpTo
  rw [List.range_succ, List.filter_append, List.map_append]
  congr 1
  by_cases h : cellV kind par (bitsOf n m) = 1 <;> simp [h]
theorem rowsUpTo_len (kind : Str) (par : Par) (n m : Nat) : (rowsUpTo kind par n m).length ≤ m := by
  unfold rowsUpTo
  rw [List.length_map]
  exact Nat.le_trans (List.length_filter_le _ _) (by simp)

mutual
theorem V.bel_mono {n m : Nat} (h : n ≤ m) : ∀ {v : V}, v.bel n → v.bel m
  | .none, _ => trivial
  | .bool _, _ => trivial
  | .int _, _ => trivial
  | .str _, _ => trivial
  | .ref i, hi => Nat.lt_of_lt_of_le hi h
  | .obj _, _ => trivial
  | .tup vs, hv => belL_mono h hv
  | .lst vs, hv => belL_mono h hv
theorem belL_mono {n m : Nat} (h : n ≤ m) : ∀ {vs : List V}, belL n vs → belL m vs
  | [], _ => trivial
  | _ :: _, hv => ⟨V.bel_mono h hv.1, belL_mono h hv.2⟩
end
theorem O.bel_mono {n m : Nat} (h : n ≤ m) : ∀ {o : O}, o.bel n → o.bel m
  | .lst _, hv => belL_mono h hv
  | .di _, hv => belL_mono h hv
  | .ds _, hv => belL_mono h hv
  | .inst _ _, hv => belL_mono h hv
noncomputable def StoOk (σ : Sto) : Prop := ∀ o ∈ σ, o.bel σ.length
theorem StoOk.push {σ : Sto} {o : O} (h : StoOk σ) (ho : o.bel (σ.length + 1)) : StoOk (σ ++ [o]) := by
  intro o' h'
  rw [List.length_append]
  rcases List.mem_append.mp h' with h' | h'
  · exact O.bel_mono (Nat.le_add_right ..) (h _ h')
  · simp at h'; subst h'; exact ho
theorem belL_ints {n : Nat} : ∀ l : List Int, belL n (l.map .int)
  | [] => trivial
  | _ :: l => ⟨trivial, belL_ints l⟩
theorem belL_strs {n : Nat} : ∀ l : List Str, belL n (l.map .str)
  | [] => trivial
  | _ :: l => ⟨trivial, belL_strs l⟩

theorem Back.frz {S S2 : St} {P : V → St → Prop} {σ' : Sto} {vs : List V} (hσ : S2.sto = σ' ++ [.lst vs]) (hlen : σ'.length = S.sto.length) (hb : belL σ'.length vs) (ho : StoOk σ') (p : P (.lst vs) ⟨S.loc, σ'⟩) : Back S P (.ref S.sto.length) S2.sto := by
  rw [hσ]
  refine Back.freeze (σ' := σ') (ex := [.lst vs]) hlen (Nat.le_refl _) ?_ (hlen ▸ hb) (fun o h => hlen ▸ ho o h) p
  rw [← hlen]; simp
theorem Back.pl {S S2 : St} {P : V → St → Prop} {σ' ex : Sto} {v : V} (hσ : S2.sto = σ' ++ ex) (hlen : σ'.length = S.sto.length) (hb : v.bel σ'.length) (ho : StoOk σ') (p : P v ⟨S.loc, σ'⟩) : Back S P v S2.sto := by
  rw [hσ]
  exact Back.plain hlen (hlen ▸ hb) (fun o h => hlen ▸ ho o h) p

theorem foldl_len (k b : Nat) : ∀ (xs : List Str) (a : Nat), (∀ x ∈ xs, x.length + k ≤ b) → xs.foldl (fun acc x => acc + x.length + k) a ≤ a + xs.length * b
  | [], a, _ => by simp
  | x :: xs, a, h => by
    have ih := foldl_len k b xs (a + x.length + k) fun y hy => h y (.tail _ hy)
    have hx := h x (.head _)
    rw [List.foldl_cons, List.length_cons, Nat.succ_mul]
    allgen_close_more
theorem joinOk {sep : Str} {xs : List Str} (b : Nat) (h : ∀ x ∈ xs, x.length + sep.length ≤ b) (hz : xs.length * b ≤ 1000000) : JoinOk sep xs = true := by
  unfold JoinOk
  have := foldl_len sep.length b xs 0 h
  have e : xs.toArray.foldl (fun acc x => acc + x.length + sep.length) 0 = xs.foldl (fun acc x => acc + x.length + sep.length) 0 := by simp
  rw [e]
  unfold Builtin.Str.tooLong
  simp [sizeLine_eq]; allgen_close_more
theorem bitsOf01 {n row : Nat} : ∀ b ∈ (List.range n).map (fun i => Builtin.bitAnd ((row : Int) / 2 ^ i) 1), b = 0 ∨ b = 1 := by
  intro b hb
  obtain ⟨i, _, rfl⟩ := List.mem_map.mp hb
  rw [bitAnd_m1]; allgen_close_more

theorem at_end {σ : Sto} {o : O} : (σ ++ [o])[σ.length]? = some o := by simp
theorem Ok.comp {c : Cx} {k : Nat} (h : Ok c k) {scope : Scope} {cl : List (Str × Addr)} {C : Addr} : Ok (c.comp scope cl C) k := ⟨h.W, h.h, h.d, h.u, h.st⟩

theorem f_table_rows {c : Cx} {S : St} {k : Nat} (ok : Ok c (k + 4)) {cell : Cell} (hk : tabOk cell.kind cell.par cell.ins.length) {P : V → St → Prop} (p : P (.lst ((tableRows cell.kind cell.par cell.ins.length).map .str)) S) (hp : StoOk S.sto) : CW c S (.ref 197) [cell.v] P := by
  have hsl : (1000 : Nat) ≤ sizeLine := by rw [sizeLine_eq]; decide
  obtain ⟨kind, out, ins, par⟩ := cell
  dsimp only at hk p
  have hl := hk.1
  refine OWs.ro fun hro => ?_
  refine CW.def (names := ["cell"]) (ds := []) (dvs := []) noX ok.W (by rfl) (by rfl) (by rfl) (by rfl) ok.room (by rfl) (fun _ _ => .nil) (by decide +kernel) (fun s us _ hu => ?_) (by decide +kernel) (by decide +kernel) (fun _ _ _ h => h.elim) fun L => ?_
  · obtain ⟨a, rfl⟩ := len1 hu
    exact .of_eq (by rfl)
  repeat tb_rel
  refine SW.assignTup ?_
  repeat tb_rel
  refine AsW.unpack (.inl rfl) ?_ ok.h (by rfl)
  refine AsL.cons (AsW.name ?_ ⟨rfl, .inl rfl⟩)
  refine AsL.cons (AsW.name ?_ ⟨rfl, .inl rfl⟩)
  refine AsL.cons (AsW.name ?_ ⟨rfl, .inl rfl⟩)
  refine AsL.cons (AsW.name ?_ ⟨rfl, .inl rfl⟩)
  refine AsL.nil ?_
  repeat tb_rel
  refine EW.listM ?_
  repeat tb_rel
  refine ⟨?_, by simp⟩
  repeat tb_rel
  refine SW.for ?_
  refine IW.range1 ok.W ⟨rfl, rfl, rfl⟩ ok.h .name (by kernel_rfl) ?_
  repeat tb_rel
  refine EW.callBuiltin (id := "len") ok.W ⟨rfl, rfl, rfl⟩ (by kernel_rfl) (by kernel_rfl) ?_
  repeat tb_rel
  refine Len.tup (by simp; allgen_close_more) ?_
  refine Op.shl (by allgen_close_more) (by simp; allgen_close_more) (by decide) ?_
  obtain ⟨m, hm⟩ : ∃ m : Nat, m = 2 ^ ins.length := ⟨_, rfl⟩
  have hnum : (1 : Int) * 2 ^ ((ins.map V.int).length : Int).toNat = (m : Int) := by rw [hm]; simp
  rw [hnum]
  have h256 : m ≤ 256 := by rw [hm]; exact Nat.le_trans (Nat.pow_le_pow_right (by decide) hl) (by decide)
  refine ⟨_, rfl, by allgen_close_more, by allgen_close_more, ?_⟩
  refine ⟨fun i S' => A5 (S'.sto = S.sto ++ [.lst ((rowsUpTo kind par ins.length i).map .str)]) (S'.has "rows" (.ref S.sto.length)) (S'.has "kind" (.str kind)) (S'.has "ins" (.tup (ins.map .int))) (S'.has "param" par.v), ⟨rfl, by tb_start, by tb_start, by tb_start, by tb_start⟩, fun _ _ _ => trivial, ?_, ?_⟩
  · intro i v loc' sto' hv hJ0
    refine (?_ : let G0 := _; G0); intro G0
    obtain ⟨h1, h2, h3, h4, h5⟩ := hJ0
    obtain ⟨hi, rfl⟩ := rng1 hv
    unfold G0; clear G0
    intro Q0 hT0
    simp at hi
    obtain rfl : sto' = _ := h1
    have hlr := rowsUpTo_len kind par ins.length i
    have hso : StoOk (S.sto ++ [.lst ((rowsUpTo kind par ins.length i).map .str)]) := hp.push (belL_strs _)
    refine AsW.name ?_ ⟨rfl, .inr ⟨rfl, rfl, rfl⟩⟩
    refine XW.cons ?_
    refine SW.assignComp (cl := [("row", L + 1)]) ?_ (ClOk.one (by rfl) (by rfl) fun C => .inl (by rfl)) ⟨rfl, .inl rfl⟩
    refine IW.range1 ok.W ⟨rfl, rfl, rfl⟩ ok.h .name (by kernel_rfl) ?_
    refine EW.callBuiltin (id := "len") ok.W ⟨rfl, rfl, rfl⟩ (by kernel_rfl) (by kernel_rfl) ?_
    repeat tb_rel
    refine Len.tup (by simp; allgen_close_more) ⟨_, rfl, by simp; allgen_close_more, by simp; allgen_close_more, ?_⟩
    refine ⟨fun C j S2 => S2.sto = (S.sto ++ [.lst ((rowsUpTo kind par ins.length i).map .str)]) ++ [.lst ((bitsOf j i).map .int)] ∧ S2.has "row" (.int i), fun C => ⟨rfl, (freeLoc_some (by rfl)).trans look_here⟩, fun _ _ _ _ => trivial, ?_, ?_⟩
    · intro C j v loc2 sto2 hv hJ0
      refine (?_ : let G0 := _; G0); intro G0
      obtain ⟨g1, g2⟩ := hJ0
      obtain ⟨hj, rfl⟩ := rng1 hv
      unfold G0; clear G0
      intro Q0 hT0
      simp at hj
      obtain rfl : sto2 = _ := g1
      refine AsW.name ?_ ⟨rfl, .inl rfl⟩
      refine TsW.nil (compY hT0 ?_)
      intro R0 hR0
      repeat tb_rel
      refine Op.shr (by allgen_close_more) ?_
      repeat tb_rel
      refine Op.and ?_
      refine hR0 _ _ ?_
      refine ⟨(bitsOf j i).map .int, by simp [St.set], by simp [bitsOf]; allgen_close_more, ?_, by tb_start⟩
      simp [St.set, St.put, bitsOf, List.range_succ]
    · intro C loc2 sto2 hJ0
      refine (?_ : let G0 := _; G0); intro G0
      obtain ⟨g1, g2⟩ := hJ0
      unfold G0; clear G0
      simp only [List.length_map, List.length_range, Int.toNat_natCast] at g1
      refine Back.frz (S2 := ⟨loc2, sto2⟩) g1 rfl (belL_ints _) hso ?_
      repeat tb_rel
      refine EW.callDef (f := 171) ok.W ⟨rfl, rfl, rfl⟩ (by kernel_rfl) (by kernel_rfl) ?_
      repeat tb_rel
      have hbl : (bitsOf ins.length i).length = ins.length := by simp [bitsOf]
      refine f_cell_value (k := k + 1) (ok.into) (by rw [hbl]; exact hk) ?_ hso
      repeat tb_rel
      refine ⟨_, rfl, ?_⟩
      by_cases hc : cellV kind par (bitsOf ins.length i) = 1
      · refine brT (by first | exact decide_eq_true hc | simp [hc]) ?_
        refine XW.cons ?_
        refine SW.assign ?_ ?bb ?cc
        case bb => exact ⟨rfl, .inl rfl⟩
        case cc => exact swaps_plain rfl _ _ _
        refine EW.strMeth1 (id := "str.join") ?a ?b ?_ ?d ?e ?f
        case a => exact PySem.F.slot_str_join
        case b => kernel_rfl
        case d => exact attributeBase_plain rfl _ _
        case e => exact starEach_plain rfl _ _
        case f => with_unfolding_all rfl
        repeat tb_rel
        refine ⟨_, rfl, ?_⟩
        refine EW.comp (cl := []) ?_ ClOk.nil
        refine IW.of ?_
        repeat tb_rel
        refine ⟨_, _, ItW.lst ok.h .name, ?_⟩
        refine ⟨fun C j S2 => S2.sto = (S.sto ++ [.lst ((rowsUpTo kind par ins.length i).map .str)]) ++ [.lst (((bitsOf ins.length i).take j).map fun b => .str (istr b))], fun C => by rfl, fun _ _ _ _ => trivial, ?_, ?_⟩
        · rintro C j v loc2 sto2 hv g1 Q0 hT0
          obtain rfl : sto2 = _ := g1
          rw [List.getElem?_map] at hv
          obtain ⟨b, hb, rfl⟩ := Option.map_eq_some_iff.mp hv
          refine AsW.name ?_ ⟨rfl, .inl rfl⟩
          refine TsW.nil (compY hT0 ?_)
          intro R0 hR0
          refine EW.callType (T := "str") ok.W ⟨rfl, rfl, rfl⟩ (by kernel_rfl) (by kernel_rfl) ?_
          repeat tb_rel
          refine StrOf.int ?_ ?_
          · rcases bitsOf01 b (List.mem_of_getElem? hb) with rfl | rfl <;> decide
          · refine hR0 _ _ ?_
            refine ⟨((bitsOf ins.length i).take j).map fun b => .str (istr b), by simp [St.set], by simp; allgen_close_more, ?_⟩
            simp [St.set, St.put, List.take_add_one, hb]
        · rintro C loc2 sto2 g1
          simp only [List.length_map, List.take_length] at g1
          refine Back.frz (S2 := ⟨loc2, sto2⟩) g1 rfl (by
            have := belL_strs (n := (S.sto ++ [O.lst ((rowsUpTo kind par ins.length i).map .str)]).length) ((bitsOf ins.length i).map istr)
            rwa [List.map_map] at this) hso ?_
          have hj : (List.map (fun b => V.str (istr b)) (bitsOf ins.length i)) = ((bitsOf ins.length i).map istr).map .str := by rw [List.map_map]; rfl
          rw [hj]
          have h1l : ∀ x ∈ (bitsOf ins.length i).map istr, x.length = 1 := fun x hx => by
            obtain ⟨b, hb, rfl⟩ := List.mem_map.mp hx
            rcases bitsOf01 b hb with rfl | rfl <;> decide +kernel
          have hcnt : ((bitsOf ins.length i).map istr).length = ins.length := by simp [bitsOf]
          refine StrM.join (joinOk 1 (fun x hx => by rw [h1l x hx]; decide +kernel) (by rw [hcnt]; allgen_close_more)) ?_
          repeat tb_rel
          have hjl : (Txt.join "" ((bitsOf ins.length i).map istr)).length ≤ 100 := by
            show (Builtin.Str.glued "" _).length ≤ 100
            rw [StrLaws.glued_eq_join]
            refine Nat.le_trans (StrLaws.join_length_le _ _) ?_
            have hs : ∀ l : List Str, (∀ x ∈ l, x.length = 1) → (l.map (·.length)).sum = l.length := by
              intro l h
              induction l with
              | nil => rfl
              | cons x l ih => simp [h x (.head _), ih fun y hy => h y (.tail _ hy)]; allgen_close_more
            rw [hs _ h1l, hcnt]
            show ins.length + ins.length * 0 ≤ 100
            allgen_close_more
          refine EW.listMeth1 (id := "list.append") ?a ?b ?_ ?d ?e ?f
          case a => exact slot_list_append
          case b => kernel_rfl
          case d => exact attributeBase_plain rfl _ _
          case e => exact starEach_plain rfl _ _
          case f => with_unfolding_all rfl
          repeat tb_rel
          refine ⟨S.sto.length, _, rfl, at_end, ?_⟩
          refine EW.strMeth (id := "str.strip") ?a ?b ?_ ?d ?e ?f ?g
          case a => exact PySem.F.slot_str_strip
          case b => kernel_rfl
          case d => exact attributeBase_plain rfl _ _
          case e => rfl
          case f => with_unfolding_all rfl
          case g => exact .inl rfl
          repeat tb_rel
          refine Op.addS (by rw [Str.length_append]; show _ + 2 ≤ _; allgen_close_more) ?_
          refine ⟨_, rfl, ?_⟩
          repeat tb_rel
          refine StrM.strip (by rw [Str.length_append]; show _ + 2 ≤ _; allgen_close_more) ?_
          refine Meth.append at_end hro (by simp; allgen_close_more) ?_
          repeat tb_rel
          refine ⟨?_, by tb_start, by tb_start, by tb_start, by tb_start⟩
          rw [rowsUpTo_succ, if_pos hc, List.map_append]
          show (S.sto ++ [O.lst _]).set S.sto.length (O.lst _) = _
          simp [rowText]
      · refine brF (by first | exact decide_eq_false hc | simp [hc]) ?_
        repeat tb_rel
        refine ⟨?_, by tb_start, by tb_start, by tb_start, by tb_start⟩
        rw [rowsUpTo_succ, if_neg hc, List.append_nil]; rfl
  · intro loc' sto' hJ0
    refine (?_ : let G0 := _; G0); intro G0
    obtain ⟨h1, h2, h3, h4, h5⟩ := hJ0
    obtain rfl : sto' = _ := h1
    unfold G0; clear G0
    repeat tb_rel
    refine Back.frz (S2 := ⟨loc', _⟩) rfl rfl (belL_strs _) hp ?_
    have e : (List.map (fun k => V.int ((k : Nat) : Int)) (List.range (m : Int).toNat)).length = 2 ^ ins.length := by rw [List.length_map, List.length_range, Int.toNat_natCast, hm]
    rw [e]
    exact p
end

section
open PySem PySem.W PyProof.Rows PySem.Calls
noncomputable abbrev Names := List (Int × Str)
noncomputable def Names.v (nm : Names) : List (Int × V) := nm.map fun p => (p.1, .str p.2)
noncomputable def Names.get (nm : Names) (net : Int) : Option Str := (nm.find? fun p => p.1 = net).map (·.2)
theorem Names.getK (nm : Names) (net : Int) : Mine.getK nm.v net = (nm.get net).map .str := by
  unfold Mine.getK Names.get Names.v
  induction nm with
  | nil => rfl
  | cons p r ih =>
    rw [List.map_cons, List.find?_cons, List.find?_cons]
    by_cases h : p.1 = net
    · simp [h]
    · simp only [h, decide_false]; exact ih
noncomputable def netName (nm : Names) (net : Int) : Ex Str := match nm.get net with
  | some x => .ok x
  | none => .error ("bad_net", istr net)

theorem f_net_name {c : Cx} {S : St} {k : Nat} (ok : Ok c (k + 2)) {nm : Names} {j : Nat} {net : Int} (hj : S.sto[j]? = some (.di nm.v)) (hz : net.natAbs.log2 < 1920) {P : V → St → Prop}
    (hX : ∀ e s', XE c.g (netName nm net) e s' → c.X e s') (p : ∀ y, netName nm net = .ok y → P (.str y) S) (hp : StoOk S.sto) : CW c S (.ref 192) [.ref j, .int net] P := by
  refine CW.def (names := ["names", "net"]) (ds := []) (dvs := []) (XEg c.g (netName nm net)) ok.W (by rfl) (by rfl) (by rfl) (by rfl) ok.room (by rfl) (fun _ _ => .nil) (by decide +kernel) (fun s us _ hu => ?_) (by decide +kernel) (by decide +kernel) (XE.leave ok hX) fun L => ?_
  · obtain ⟨a, b, rfl⟩ := len2 hu
    exact .of_eq (by rfl)
  repeat tb_rel
  refine NotIn.of (In.di hj ?_)
  rw [Names.getK]
  cases hg : nm.get net with
  | none =>
    refine ⟨_, rfl, _, rfl, ?_⟩
    refine brT (by rfl) ?_
    repeat tb_rel
    refine SW.raiseFE (ok.into (k := k + 1)).W ⟨rfl, rfl, rfl⟩ ok.h (by have := ok.d; show c.A.depth + 1 + 1 < _; allgen_close_more) ?_
    repeat tb_rel
    refine ⟨_, rfl, ?_⟩
    repeat tb_rel
    refine EW.callType (T := "str") ok.W ⟨rfl, rfl, rfl⟩ (by kernel_rfl) (by kernel_rfl) ?_
    repeat tb_rel
    refine StrOf.int hz ?_
    repeat tb_rel
    have herr : netName nm net = .error ("bad_net", istr net) := by unfold netName; rw [hg]
    exact ⟨_, _, rfl, fun e s' h => ⟨_, _, herr, h⟩⟩
  | some x =>
    refine ⟨_, rfl, _, rfl, ?_⟩
    refine brF (by rfl) ?_
    repeat tb_rel
    refine Item.di (v := .str x) hj (by rw [Names.getK, hg]; rfl) ?_
    repeat tb_rel
    have hok : netName nm net = .ok x := by unfold netName; rw [hg]
    refine Back.pl (S2 := ⟨_, S.sto⟩) (σ' := S.sto) (ex := []) (by simp) rfl trivial hp (p _ hok)
end

section
open PySem PySem.W PyProof.Rows PySem.Calls
theorem It.weaken {c : Cx} {target : Expr} {I : Addr} {vs : List V} {G G' : St → Prop} {T : Nat → Rho → Heap → Prop} (W : It c target I vs G T) (h : ∀ S, G' S → G S) : It c target I vs G' T :=
  ⟨fun env i ρ S s Q E r g => W.item env i ρ S s Q E r (h S g), fun env ρ S s Q E r g => W.done env ρ S s Q E r (h S g), W.frame, W.obj, W.self, W.go⟩
theorem ItW.seq {c : Cx} {S : St} {target : Expr} {a : V} {vs : List V} (hh : c.A.handled = none) (hg : GoOk c target) (ha : S.seq a vs) : ItW c S target a vs fun S' => S'.seq a vs := by
  rcases ha with rfl | ⟨j, rfl, hj⟩
  · intro ρ s u Q E r hv q
    exact ItW.lst (S := S) hh hg ρ s u Q E r hv fun T I h' tk' W => q T I h' tk' (W.weaken fun _ _ => trivial)
  · intro ρ s u Q E r hv q
    exact ItW.ref hh hg hj ρ s u Q E r hv fun T I h' tk' W => q T I h' tk' (W.weaken fun S' h => by
      rcases h with h | ⟨j', h, h'⟩
      · cases h
      · cases h; exact h')
theorem St.seq.grow {S S' : St} {a : V} {vs : List V} {ex : Sto} (h : S.seq a vs) (e : S'.sto = S.sto ++ ex) : S'.seq a vs := by
  rcases h with rfl | ⟨j, rfl, hj⟩
  · exact .inl rfl
  · refine .inr ⟨j, rfl, ?_⟩
    rw [e, List.getElem?_append_left (List.getElem?_eq_some_iff.mp hj).1]; exact hj

noncomputable abbrev Port := Str × List Int
noncomputable def Port.v (p : Port) : V := .tup [.str p.1, .lst (p.2.map .int)]
noncomputable def bitName (n : Str) (i : Nat) : Str := ((("" ++ n) ++ "[") ++ istr i) ++ "]"
noncomputable def bitNames (ports : List Port) : List Str := ports.flatMap fun p => (List.range p.2.length).map (bitName p.1)
theorem bitNames_succ {ports : List Port} {i : Nat} {q : Port} (hq : ports[i]? = some q) : bitNames (ports.take (i + 1)) = bitNames (ports.take i) ++ (List.range q.2.length).map (bitName q.1) := by
  unfold bitNames
  rw [List.take_add_one, hq, List.flatMap_append]
  simp
noncomputable def portsOk (ports : List Port) : Prop := ports.length ≤ 20 ∧ ∀ p ∈ ports, p.1.length ≤ 100 ∧ p.2.length ≤ 20
theorem istr_len_all : ∀ i : Fin 200, (istr (i.val : Int)).length ≤ 10 := by decide +kernel
theorem istr_len {i : Nat} (h : i < 200) : (istr i).length ≤ 10 := istr_len_all ⟨i, h⟩
theorem log2_nat {i : Nat} (h : i < 2 ^ 1000) : (i : Int).natAbs.log2 < 1920 := by
  rw [Int.natAbs_natCast]
  by_cases h0 : i = 0
  · subst h0; decide
  · exact Nat.lt_trans ((Nat.log2_lt h0).mpr h) (by decide)

theorem f_bit_names {c : Cx} {S : St} {k : Nat} (ok : Ok c (k + 2)) {a : V} {ports : List Port} (ha : S.seq a (ports.map Port.v)) (hk : portsOk ports) {P : V → St → Prop} (p : P (.lst ((bitNames ports).map .str)) S) (hp : StoOk S.sto) : CW c S (.ref 150) [a] P := by
  have hsl : (10000 : Nat) ≤ sizeLine := by rw [sizeLine_eq]; decide
  refine OWs.ro fun hro => ?_
  refine CW.def (names := ["ports"]) (ds := []) (dvs := []) noX ok.W (by rfl) (by rfl) (by rfl) (by rfl) ok.room (by rfl) (fun _ _ => .nil) (by decide +kernel) (fun s us _ hu => ?_) (by decide +kernel) (by decide +kernel) (fun _ _ _ h => h.elim) fun L => ?_
  · obtain ⟨a, rfl⟩ := len1 hu
    exact .of_eq (by rfl)
  repeat tb_rel
  refine EW.listM ?_
  repeat tb_rel
  refine ⟨?_, by simp⟩
  repeat tb_rel
  refine SW.for ?_
  refine IW.of ?_
  repeat tb_rel
  refine ⟨_, _, ItW.seq ok.h .tup (ha.grow (ex := [.lst []]) rfl), ?_⟩
  have hcl : ∀ i, i ≤ ports.length → (bitNames (ports.take i)).length ≤ 20 * i := by
    intro i
    induction i with
    | zero => intro _; simp [bitNames]
    | succ i ih =>
      intro h
      have := ih (by allgen_close_more)
      obtain ⟨q, hq⟩ : ∃ q, ports[i]? = some q := ⟨_, List.getElem?_eq_getElem (by allgen_close_more)⟩
      have hb := (hk.2 q (List.mem_of_getElem? hq)).2
      rw [bitNames_succ hq, List.length_append, List.length_map, List.length_range]
      allgen_close_more
  refine ⟨fun i S' => S'.sto = S.sto ++ [.lst ((bitNames (ports.take i)).map .str)] ∧ S'.has "names" (.ref S.sto.length), ⟨rfl, by tb_start⟩, fun i S' h => ha.grow h.1, ?_, ?_⟩
  · intro i v loc' sto' hv hJ0
    refine (?_ : let G0 := _; G0); intro G0
    obtain ⟨h1, h2⟩ := hJ0
    obtain rfl : sto' = _ := h1
    unfold G0; clear G0
    intro Q0 hT0
    rw [List.getElem?_map] at hv
    obtain ⟨⟨n, bs⟩, hq, rfl⟩ := Option.map_eq_some_iff.mp hv
    have hi := (List.getElem?_eq_some_iff.mp hq).1
    have hb := hk.2 _ (List.mem_of_getElem? hq)
    dsimp only at hb
    refine AsW.unpack (.inl rfl) ?_ ok.h (by rfl)
    refine AsL.cons (AsW.name ?_ (by exact ⟨rfl, .inl rfl⟩))
    refine AsL.cons (AsW.name ?_ (by exact ⟨rfl, .inl rfl⟩))
    refine AsL.nil ?_
    repeat tb_rel
    refine SW.for ?_
    refine IW.range1 ok.W ⟨rfl, rfl, rfl⟩ ok.h .name (by kernel_rfl) ?_
    refine EW.callBuiltin (id := "len") ok.W ⟨rfl, rfl, rfl⟩ (by kernel_rfl) (by kernel_rfl) ?_
    repeat tb_rel
    refine Len.lst (by simp; allgen_close_more) ⟨_, rfl, by simp; allgen_close_more, by simp; allgen_close_more, ?_⟩
    have hc := hcl i (by allgen_close_more)
    have hpl := hk.1
    refine ⟨fun q S2 => A3 (S2.sto = S.sto ++ [.lst ((bitNames (ports.take i) ++ (List.range q).map (bitName n)).map .str)]) (S2.has "names" (.ref S.sto.length)) (S2.has "name" (.str n)), ⟨by simp [St.set], by tb_start, by tb_start⟩, fun _ _ _ => trivial, ?_, ?_⟩
    · intro q v loc2 sto2 hv2 hJ0
      refine (?_ : let G0 := _; G0); intro G0
      obtain ⟨g1, g2, g3⟩ := hJ0
      obtain rfl : sto2 = _ := g1
      obtain ⟨hq2, rfl⟩ := rng1 hv2
      unfold G0; clear G0
      intro Q0 hT0
      simp at hq2
      refine AsW.name ?_ (by exact ⟨rfl, .inl rfl⟩)
      have hil := istr_len (i := q) (by allgen_close_more)
      have l0 : ("" ++ n).length = n.length := by rw [Str.length_append]; show 0 + _ = _; allgen_close_more
      have l1 : (("" ++ n) ++ "[").length = n.length + 1 := by rw [Str.length_append, l0]; rfl
      have l2 : ((("" ++ n) ++ "[") ++ istr q).length ≤ n.length + 11 := by rw [Str.length_append, l1]; allgen_close_more
      have l3 : (((("" ++ n) ++ "[") ++ istr q) ++ "]").length ≤ n.length + 12 := by rw [Str.length_append]; show _ + 1 ≤ _; allgen_close_more
      repeat tb_rel
      refine EW.listMeth1 (id := "list.append") ?sa ?sb ?_ ?sd ?se ?sf
      case sa => exact slot_list_append
      case sb => kernel_rfl
      case sd => exact attributeBase_plain rfl _ _
      case se => exact starEach_plain rfl _ _
      case sf => with_unfolding_all rfl
      repeat tb_rel
      refine ⟨S.sto.length, _, rfl, at_end, ?_⟩
      refine EW.fstr ?_
      refine JW.cons (EW.fmt ?_)
      repeat tb_rel
      refine .inl ⟨_, rfl, by allgen_close_more, _, rfl, ?_, ?_⟩
      · show ("" ++ n).length ≤ _; allgen_close_more
      refine JW.cons ?_
      repeat tb_rel
      refine ⟨_, rfl, ?_, ?_⟩
      · show (("" ++ n) ++ "[").length ≤ _; allgen_close_more
      refine JW.cons (EW.fmt ?_)
      repeat tb_rel
      refine .inr ⟨_, rfl, ?_, _, rfl, ?_, ?_⟩
      · exact log2_nat (Nat.lt_of_lt_of_le (by allgen_close_more : q < 64) (by decide))
      · show ((("" ++ n) ++ "[") ++ istr q).length ≤ _; allgen_close_more
      refine JW.cons ?_
      repeat tb_rel
      refine ⟨_, rfl, ?_, ?_⟩
      · show (((("" ++ n) ++ "[") ++ istr q) ++ "]").length ≤ _; allgen_close_more
      refine JW.nil ?_ ?_
      · show (((("" ++ n) ++ "[") ++ istr q) ++ "]").length ≤ _; allgen_close_more
      refine Meth.append at_end hro (by simp; allgen_close_more) ?_
      repeat tb_rel
      refine ⟨?_, by tb_start, by tb_start⟩
      show (S.sto ++ [O.lst _]).set S.sto.length (O.lst _) = _
      simp [List.range_succ, bitName]
      rfl
    · intro loc2 sto2 hJ0
      refine (?_ : let G0 := _; G0); intro G0
      obtain ⟨g1, g2, g3⟩ := hJ0
      unfold G0; clear G0
      refine seqN (XW.nil (turnN hT0 ⟨?_, g2⟩))
      show sto2 = _
      rw [show sto2 = _ from g1, bitNames_succ hq]
      simp
  · intro loc' sto' hJ0
    refine (?_ : let G0 := _; G0); intro G0
    obtain ⟨h1, h2⟩ := hJ0
    obtain rfl : sto' = _ := h1
    unfold G0; clear G0
    repeat tb_rel
    refine Back.frz (S2 := ⟨loc', _⟩) rfl rfl (belL_strs _) hp ?_
    have e : ports.take (ports.map Port.v).length = ports := by simp
    rw [e]
    exact p
end

section
open PySem PySem.W PyProof.Rows PySem.Calls
theorem XW.mid {c : Cx} {S : St} {st : Stmt} {rest : List Stmt} {P : Fl → St → Prop} (Q : St → Prop) (h : SW c S st fun f S₁ => f = .next ∧ Q S₁) (k : ∀ loc sto, Q ⟨loc, sto⟩ → XW c ⟨loc, sto⟩ rest P) : XW c S (st :: rest) P :=
  XW.cons (TW.mono h fun v S' p => ⟨fun _ => k S'.loc S'.sto p.2, fun v' e => by rw [p.1] at e; cases e⟩)
theorem okBind {α β : Type} {a : α} {f : α → Ex β} : ((Except.ok a : Ex α) >>= f) = f a := rfl
theorem XE.bind {α β : Type} {g : Gd} {r : Ex α} {f : α → Ex β} {res : Ex β} {e : Value} {s' : Shared} (x : XE g r e s') (h : (r >>= f) = res) : XE g res e s' := by
  obtain ⟨k, d, rfl, h'⟩ := x
  exact ⟨k, d, h.symm, h'⟩
theorem XE.error {α : Type} {g : Gd} {res : Ex α} {k d : Str} {e : Value} {s' : Shared} (x : XFE g k d e s') (h : Except.error (k, d) = res) : XE g res e s' := ⟨k, d, h.symm, x⟩
end

section
open PySem PySem.W PyProof.Rows PySem.Calls
noncomputable def flopRows (nm : Names) (cell : Cell) (clk data s r e : Int) (name : Str) (init : Int) : Ex (List Str) :=
  if s ≠ 0 ∨ r ≠ 0 then .error ("not_in_blif", name) else
  netName nm data >>= fun d => netName nm cell.out >>= fun o => netName nm clk >>= fun k => checkedName name >>= fun n =>
    pure [Txt.join " " [".latch", d, o, if e = 1 then "re" else "fe", k, istr init], ".cname " ++ n]
noncomputable def netOk (n : Int) : Prop := n.natAbs.log2 < 1920
noncomputable def namesOk (nm : Names) : Prop := ∀ p ∈ nm, p.2.length ≤ 200
theorem netName_len {nm : Names} (h : namesOk nm) {net : Int} {y : Str} (e : netName nm net = .ok y) : y.length ≤ 200 := by
  unfold netName at e
  split at e
  · rename_i x hx
    cases e
    obtain ⟨p, hp, rfl⟩ := Option.map_eq_some_iff.mp hx
    exact h p (List.mem_of_find?_eq_some hp)
  · cases e

theorem f_flop_rows {c : Cx} {S : St} {k : Nat} (ok : Ok c (k + 20)) {nm : Names} {j : Nat} {kind name : Str} {out clk data s r e init : Int} (hj : S.sto[j]? = some (.di nm.v)) (hnm : namesOk nm) (hn : nameOk name = true) (n1 : netOk data) (n2 : netOk out) (n3 : netOk clk) (n4 : netOk init) (hil : (istr init).length ≤ 10) {P : V → St → Prop}
    (hX : ∀ ex s', XE c.g (flopRows nm ⟨kind, out, [clk, data, s, r], .flop e name init⟩ clk data s r e name init) ex s' → c.X ex s')
    (p : ∀ y, flopRows nm ⟨kind, out, [clk, data, s, r], .flop e name init⟩ clk data s r e name init = .ok y → P (.lst (y.map .str)) S) (hp : StoOk S.sto) : CW c S (.ref 204) [(Cell.mk kind out [clk, data, s, r] (.flop e name init)).v, .ref j] P := by
  have hsl : (10000 : Nat) ≤ sizeLine := by rw [sizeLine_eq]; decide
  generalize hm : flopRows nm ⟨kind, out, [clk, data, s, r], .flop e name init⟩ clk data s r e name init = res at hX p
  refine CW.def (names := ["cell", "names"]) (ds := []) (dvs := []) (XEg c.g res) ok.W (by rfl) (by rfl) (by rfl) (by rfl) ok.room (by rfl) (fun _ _ => .nil) (by decide +kernel) (fun s us _ hu => ?_) (by decide +kernel) (by decide +kernel) (XE.leave ok hX) fun L => ?_
  · obtain ⟨a, b, rfl⟩ := len2 hu
    exact .of_eq (by rfl)
  repeat tb_rel
  refine SW.assignTup ?_
  repeat tb_rel
  refine Item.tup (v := .tup [.int clk, .int data, .int s, .int r]) (by decide) (by decide) (by rfl) ?_
  refine AsW.unpack (.inl rfl) ?_ ok.h (by rfl)
  refine AsL.cons (AsW.name ?_ (by exact ⟨rfl, .inl rfl⟩))
  refine AsL.cons (AsW.name ?_ (by exact ⟨rfl, .inl rfl⟩))
  refine AsL.cons (AsW.name ?_ (by exact ⟨rfl, .inl rfl⟩))
  refine AsL.cons (AsW.name ?_ (by exact ⟨rfl, .inl rfl⟩))
  refine AsL.nil ?_
  repeat tb_rel
  refine SW.assignTup ?_
  repeat tb_rel
  refine Item.tup (v := .tup [.int e, .str name, .int init]) (by decide) (by decide) (by rfl) ?_
  refine AsW.unpack (.inl rfl) ?_ ok.h (by rfl)
  refine AsL.cons (AsW.name ?_ (by exact ⟨rfl, .inl rfl⟩))
  refine AsL.cons (AsW.name ?_ (by exact ⟨rfl, .inl rfl⟩))
  refine AsL.cons (AsW.name ?_ (by exact ⟨rfl, .inl rfl⟩))
  refine AsL.nil ?_
  repeat tb_rel
  have raise : s ≠ 0 ∨ r ≠ 0 → res = .error ("not_in_blif", name) := fun h => by rw [← hm]; unfold flopRows; rw [if_pos h]
  refine ⟨_, rfl, fun hk => ?_, fun hk => ?_⟩
  · refine brT rfl ?_
    repeat tb_rel
    refine SW.raiseFE (ok.into (k := k + 19)).W ⟨rfl, rfl, rfl⟩ ok.h (by have := ok.d; show c.A.depth + 1 + 1 < _; allgen_close_more) ?_
    repeat tb_rel
    refine ⟨_, rfl, ?_⟩
    repeat tb_rel
    exact ⟨_, _, rfl, fun ex s' h => ⟨_, _, raise (.inl (by simpa using hk)), h⟩⟩
  repeat tb_rel
  refine ⟨_, rfl, fun hk2 => ?_, fun hk2 => ?_⟩
  · refine brT rfl ?_
    repeat tb_rel
    refine SW.raiseFE (ok.into (k := k + 19)).W ⟨rfl, rfl, rfl⟩ ok.h (by have := ok.d; show c.A.depth + 1 + 1 < _; allgen_close_more) ?_
    repeat tb_rel
    refine ⟨_, rfl, ?_⟩
    repeat tb_rel
    exact ⟨_, _, rfl, fun ex s' h => ⟨_, _, raise (.inr (by simpa using hk2)), h⟩⟩
  have hns : ¬ (s ≠ 0 ∨ r ≠ 0) := by simp at hk hk2; allgen_close_more
  unfold flopRows at hm
  rw [if_neg hns] at hm
  repeat tb_rel
  refine brF rfl ?_
  iterate 6 tb_rel
  obtain ⟨mk, hmk⟩ : ∃ mk : Str, mk = if e = 1 then ("re" : Str) else ("fe" : Str) := ⟨_, rfl⟩
  have hml : mk.length = 2 := by rw [hmk]; split <;> rfl
  rw [← hmk] at hm
  refine XW.mid (fun S1 => A8 (S1.sto = S.sto) (S1.has "cell" (Cell.mk kind out [clk, data, s, r] (.flop e name init)).v) (S1.has "names" (.ref j)) (S1.has "clk" (.int clk)) (S1.has "data" (.int data)) (S1.has "name" (.str name)) (S1.has "init" (.int init)) (S1.has "mark" (.str mk))) ?_ ?_
  · top_caught0
    repeat tb_rel
    refine ⟨_, rfl, ?_⟩
    by_cases he : e = 1
    · refine brT (by first | exact decide_eq_true he | simp [he]) ?_
      rw [if_pos he] at hmk
      subst hmk
      repeat tb_rel
      exact ⟨rfl, rfl, by tb_start, by tb_start, by tb_start, by tb_start, by tb_start, by tb_start, by tb_start⟩
    · refine brF (by first | exact decide_eq_false he | simp [he]) ?_
      rw [if_neg he] at hmk
      subst hmk
      repeat tb_rel
      exact ⟨rfl, rfl, by tb_start, by tb_start, by tb_start, by tb_start, by tb_start, by tb_start, by tb_start⟩
  intro loc sto hJ0
  refine (?_ : let G0 := _; G0); intro G0
  obtain ⟨g1, g2, g3, g4, g5, g6, g7, g8⟩ := hJ0
  obtain rfl : sto = _ := g1
  unfold G0; clear G0
  repeat tb_rel
  refine EW.list ?_
  repeat tb_rel
  refine EW.callDef (f := 192) ok.W ⟨rfl, rfl, rfl⟩ (by kernel_rfl) (by kernel_rfl) ?_
  repeat tb_rel
  refine f_net_name (k := k + 10) (by first | exact ok.into.less' | exact ok.into.less (by allgen_close_more)) (by exact hj) n1 (by exact fun e s' h => h.bind hm) ?_ (by exact hp)
  intro d hd
  rw [hd, okBind] at hm
  repeat tb_rel
  refine EW.callDef (f := 192) ok.W ⟨rfl, rfl, rfl⟩ (by kernel_rfl) (by kernel_rfl) ?_
  repeat tb_rel
  refine Item.tup (v := .int out) (by decide) (by decide) (by rfl) ?_
  repeat tb_rel
  refine f_net_name (k := k + 10) (by first | exact ok.into.less' | exact ok.into.less (by allgen_close_more)) (by exact hj) n2 (by exact fun e s' h => h.bind hm) ?_ (by exact hp)
  intro o ho
  rw [ho, okBind] at hm
  repeat tb_rel
  refine EW.callDef (f := 192) ok.W ⟨rfl, rfl, rfl⟩ (by kernel_rfl) (by kernel_rfl) ?_
  repeat tb_rel
  refine f_net_name (k := k + 10) (by first | exact ok.into.less' | exact ok.into.less (by allgen_close_more)) (by exact hj) n3 (by exact fun e s' h => h.bind hm) ?_ (by exact hp)
  intro kk hkk
  rw [hkk, okBind] at hm
  repeat tb_rel
  refine EW.callType (T := "str") ok.W ⟨rfl, rfl, rfl⟩ (by kernel_rfl) (by kernel_rfl) ?_
  repeat tb_rel
  refine StrOf.int n4 ?_
  repeat tb_rel
  refine ⟨?_, by simp; allgen_close_more⟩
  repeat tb_rel
  refine EW.list ?_
  repeat tb_rel
  refine EW.strMeth1 (id := "str.join") ?sa ?sb ?_ ?sd ?se ?sf
  case sa => exact PySem.F.slot_str_join
  case sb => kernel_rfl
  case sd => exact attributeBase_plain rfl _ _
  case se => exact starEach_plain rfl _ _
  case sf => with_unfolding_all rfl
  repeat tb_rel
  refine ⟨_, rfl, ?_⟩
  repeat tb_rel
  refine StrM.join (xs := [".latch", d, o, mk, kk, istr init]) (joinOk 300 ?_ (by simp)) ?_
  · have h1 := netName_len hnm hd
    have h2 := netName_len hnm ho
    have h3 := netName_len hnm hkk
    have h4 : (" " : Str).length = 1 := rfl
    have h5 : (".latch" : Str).length = 6 := rfl
    intro x hx
    simp only [List.mem_cons, List.not_mem_nil, or_false] at hx
    rcases hx with rfl | rfl | rfl | rfl | rfl | rfl <;> allgen_close_more
  repeat tb_rel
  refine EW.callDef (f := 178) ok.W ⟨rfl, rfl, rfl⟩ (by kernel_rfl) (by kernel_rfl) ?_
  repeat tb_rel
  refine f_checked_name (k := k + 9) (by first | exact ok.into.less' | exact ok.into.less (by allgen_close_more)) hn (by exact fun e s' h => h.bind hm) ?_ (by exact hp)
  intro y hy
  rw [hy, okBind] at hm
  have hyl : y.length ≤ 1000 := by
    unfold checkedName at hy
    split at hy
    · cases hy
    · cases hy
      simp only [nameOk, Bool.and_eq_true, decide_eq_true_eq] at hn
      exact hn.1.1.2
  refine Op.addS (by rw [Str.length_append]; show 7 + _ ≤ _; allgen_close_more) ?_
  repeat tb_rel
  refine ⟨?_, by simp; allgen_close_more⟩
  repeat tb_rel
  refine Back.pl (S2 := ⟨_, S.sto⟩) (σ' := S.sto) (ex := []) (by simp) rfl ?_ hp (p _ hm.symm)
  exact ⟨trivial, trivial, trivial⟩
end

section
open PySem PySem.W PyProof.Rows PySem.Calls
noncomputable def mapE {α β : Type} (f : α → Ex β) : List α → Ex (List β)
  | [] => .ok []
  | a :: l => f a >>= fun b => mapE f l >>= fun r => .ok (b :: r)
theorem mapE_cons {α β : Type} {f : α → Ex β} {a : α} {l : List α} {ws : List β} (h : mapE f (a :: l) = .ok ws) : ∃ b ys, f a = .ok b ∧ mapE f l = .ok ys ∧ b :: ys = ws := by
  have h : (f a >>= fun b => mapE f l >>= fun r => .ok (b :: r)) = Except.ok ws := h
  cases hb : f a with
  | error x => rw [hb] at h; cases h
  | ok y =>
    rw [hb, okBind] at h
    cases hw : mapE f l with
    | error x => rw [hw] at h; cases h
    | ok ys => rw [hw] at h; cases h; exact ⟨y, ys, rfl, rfl, rfl⟩
theorem mapE_err {α β : Type} {f : α → Ex β} {l : List α} {i : Nat} {a : α} {ws : List β} {e : Str × Str} (h1 : l[i]? = some a) (h2 : mapE f (l.take i) = .ok ws) (h3 : f a = .error e) : mapE f l = .error e := by
  induction l generalizing i ws with
  | nil => cases h1
  | cons b l ih =>
    show (f b >>= fun b => mapE f l >>= fun r => .ok (b :: r)) = _
    cases i with
    | zero => cases h1; rw [h3]; rfl
    | succ i =>
      obtain ⟨y, ys, e1, e2, _⟩ := mapE_cons h2
      rw [e1, okBind, ih h1 e2]; rfl
theorem mapE_succ {α β : Type} {f : α → Ex β} {l : List α} {i : Nat} {a : α} {ws : List β} {b : β} (h1 : l[i]? = some a) (h2 : mapE f (l.take i) = .ok ws) (h3 : f a = .ok b) : mapE f (l.take (i + 1)) = .ok (ws ++ [b]) := by
  induction l generalizing i ws with
  | nil => cases h1
  | cons c l ih =>
    show (f c >>= fun b => mapE f (l.take i) >>= fun r => .ok (b :: r)) = _
    cases i with
    | zero => cases h1; cases h2; rw [h3]; rfl
    | succ i =>
      obtain ⟨y, ys, e1, e2, rfl⟩ := mapE_cons h2
      rw [e1, okBind, ih h1 e2]; rfl
theorem mapE_len {α β : Type} {f : α → Ex β} {l : List α} {ws : List β} (h : mapE f l = .ok ws) : ws.length = l.length := by
  induction l generalizing ws with
  | nil => cases h; rfl
  | cons a l ih =>
    obtain ⟨y, ys, _, e2, rfl⟩ := mapE_cons h
    exact congrArg (· + 1) (ih e2)
theorem mapE_all {α β : Type} {f : α → Ex β} {p : β → Prop} (hf : ∀ a b, f a = .ok b → p b) {l : List α} {ws : List β} (h : mapE f l = .ok ws) : ∀ b ∈ ws, p b := by
  induction l generalizing ws with
  | nil => cases h; exact fun _ h => absurd h List.not_mem_nil
  | cons a l ih =>
    obtain ⟨y, ys, e1, e2, rfl⟩ := mapE_cons h
    exact List.forall_mem_cons.2 ⟨hf a _ e1, ih e2⟩
theorem XE.map {α β γ : Type} {g : Gd} {f : α → Ex β} {l : List α} {i : Nat} {a : α} {ws : List β} {G : List β → Ex γ} {res : Ex γ} {e : Value} {s' : Shared} (hl : l[i]? = some a) (hw : mapE f (l.take i) = .ok ws) (h : (mapE f l >>= G) = res) (x : XE g (f a) e s') : XE g res e s' := by
  obtain ⟨k, d, hk, h'⟩ := x
  refine XE.bind (r := mapE f l) ⟨k, d, mapE_err hl hw hk, h'⟩ h

noncomputable def cellRows (nm : Names) (cell : Cell) : Ex (List Str) :=
  if cell.kind = "flop" then match cell.ins, cell.par with
    | [clk, data, s, r], .flop e name init => flopRows nm cell clk data s r e name init
    | _, _ => .ok []
  else if cell.kind = "latch" then match cell.par with
    | .own name _ => .error ("not_in_blif", name)
    | _ => .ok []
  else if cell.ins.length > 8 then .error ("too_many_inputs", istr cell.out)
  else mapE (netName nm) cell.ins >>= fun ws => netName nm cell.out >>= fun o => .ok (Txt.join " " (".names" :: (ws ++ [o])) :: tableRows cell.kind cell.par cell.ins.length)

noncomputable def cellOk (cell : Cell) : Prop := netOk cell.out ∧ (∀ n ∈ cell.ins, netOk n) ∧ cell.ins.length ≤ 20 ∧
  if cell.kind = "flop" then ∃ clk data s r e name init, cell.ins = [clk, data, s, r] ∧ cell.par = .flop e name init ∧ nameOk name = true ∧ netOk init ∧ (istr init).length ≤ 10
  else if cell.kind = "latch" then ∃ name n, cell.par = .own name n
  else cell.ins.length ≤ 8 → tabOk cell.kind cell.par cell.ins.length

theorem f_cell_rows {c : Cx} {S : St} {k : Nat} (ok : Ok c (k + 30)) {nm : Names} {j : Nat} {cell : Cell} (hj : S.sto[j]? = some (.di nm.v)) (hnm : namesOk nm) (hk : cellOk cell) {P : V → St → Prop}
    (hX : ∀ ex s', XE c.g (cellRows nm cell) ex s' → c.X ex s')
    (p : ∀ y, cellRows nm cell = .ok y → P (.lst (y.map .str)) S) (hp : StoOk S.sto) : CW c S (.ref 211) [cell.v, .ref j] P := by
  have hsl : (10000 : Nat) ≤ sizeLine := by rw [sizeLine_eq]; decide
  obtain ⟨hk1, hk2, hk3, hk4⟩ := hk
  generalize hm : cellRows nm cell = res at hX p
  refine OWs.ro fun hro => ?_
  refine CW.def (names := ["cell", "names"]) (ds := []) (dvs := []) (XEg c.g res) ok.W (by rfl) (by rfl) (by rfl) (by rfl) ok.room (by rfl) (fun _ _ => .nil) (by decide +kernel) (fun s us _ hu => ?_) (by decide +kernel) (by decide +kernel) (XE.leave ok hX) fun L => ?_
  · obtain ⟨a, b, rfl⟩ := len2 hu
    exact .of_eq (by rfl)
  unfold cellRows at hm
  repeat tb_rel
  refine Item.tup (v := .str cell.kind) (by decide) (by decide) (by rfl) ?_
  repeat tb_rel
  refine Op.eqS ?_
  refine ⟨_, rfl, ?_⟩
  by_cases h1 : cell.kind = "flop"
  · rw [if_pos h1] at hm hk4
    obtain ⟨clk, data, s, r, e, name, init, e1, e2, n1, n2, n3⟩ := hk4
    obtain ⟨kind, out, ins, par⟩ := cell
    dsimp only at e1 e2 h1
    subst e1; subst e2
    refine brT (by first | exact decide_eq_true h1 | simp [h1]) ?_
    repeat tb_rel
    refine EW.callDef (f := 204) ok.W ⟨rfl, rfl, rfl⟩ (by kernel_rfl) (by kernel_rfl) ?_
    repeat tb_rel
    refine f_flop_rows (k := k + 8) (by first | exact ok.into.less' | exact ok.into.less (by allgen_close_more)) (by exact hj) hnm n1 (hk2 data (by simp)) hk1 (hk2 clk (by simp)) n2 n3 ?_ ?_ (by exact hp)
    · dsimp only at hm; rw [hm]; exact fun _ _ h => h
    · dsimp only at hm; rw [hm]
      intro y hy
      repeat tb_rel
      refine Back.pl (S2 := ⟨_, S.sto⟩) (σ' := S.sto) (ex := []) (v := .lst (y.map .str)) (by simp) rfl (by exact belL_strs _) hp (p _ hy)
  rw [if_neg h1] at hm hk4
  refine brF (by first | exact decide_eq_false h1 | simp [h1]) ?_
  repeat tb_rel
  refine Item.tup (v := .str cell.kind) (by decide) (by decide) (by rfl) ?_
  repeat tb_rel
  refine Op.eqS ?_
  refine ⟨_, rfl, ?_⟩
  by_cases h2 : cell.kind = "latch"
  · rw [if_pos h2] at hm hk4
    obtain ⟨name, n, e1⟩ := hk4
    rw [e1] at hm
    refine brT (by first | exact decide_eq_true h2 | simp [h2]) ?_
    repeat tb_rel
    refine SW.raiseFE (ok.into (k := k + 29)).W ⟨rfl, rfl, rfl⟩ ok.h (by have := ok.d; show c.A.depth + 1 + 1 < _; allgen_close_more) ?_
    repeat tb_rel
    refine ⟨_, rfl, ?_⟩
    repeat tb_rel
    refine Item.tup (v := cell.par.v) (by decide) (by decide) (by rfl) ?_
    repeat tb_rel
    rw [e1]
    refine Item.tup (v := .str name) (by decide) (by decide) (by rfl) ?_
    repeat tb_rel
    exact ⟨_, _, rfl, fun ex s' h => XE.error h hm⟩
  rw [if_neg h2] at hm hk4
  refine brF (by first | exact decide_eq_false h2 | simp [h2]) ?_
  repeat tb_rel
  refine EW.callBuiltin (id := "len") ok.W ⟨rfl, rfl, rfl⟩ (by kernel_rfl) (by kernel_rfl) ?_
  repeat tb_rel
  refine Item.tup (v := .tup (cell.ins.map .int)) (by decide) (by decide) (by rfl) ?_
  repeat tb_rel
  refine Len.tup (by simp; allgen_close_more) ?_
  refine EW.globalInt (i := 8) ok.W ⟨rfl, rfl, rfl⟩ (by kernel_rfl) ?_
  repeat tb_rel
  refine ⟨_, rfl, ?_⟩
  by_cases h3 : cell.ins.length > 8
  · rw [if_pos h3] at hm
    refine brT (by simp; allgen_close_more) ?_
    repeat tb_rel
    refine SW.raiseFE (ok.into (k := k + 29)).W ⟨rfl, rfl, rfl⟩ ok.h (by have := ok.d; show c.A.depth + 1 + 1 < _; allgen_close_more) ?_
    repeat tb_rel
    refine ⟨_, rfl, ?_⟩
    repeat tb_rel
    refine EW.callType (T := "str") ok.W ⟨rfl, rfl, rfl⟩ (by kernel_rfl) (by kernel_rfl) ?_
    repeat tb_rel
    refine Item.tup (v := .int cell.out) (by decide) (by decide) (by rfl) ?_
    repeat tb_rel
    refine StrOf.int hk1 ?_
    repeat tb_rel
    exact ⟨_, _, rfl, fun ex s' h => XE.error h hm⟩
  rw [if_neg h3] at hm
  have hk5 := hk4 (by allgen_close_more)
  refine brF (by simp; allgen_close_more) ?_
  repeat tb_rel
  refine EW.listM ?_
  repeat tb_rel
  refine ⟨?_, by simp; allgen_close_more⟩
  repeat tb_rel
  refine SW.for ?_
  refine IW.of ?_
  repeat tb_rel
  refine Item.tup (v := .tup (cell.ins.map .int)) (by decide) (by decide) (by rfl) ?_
  refine ⟨_, _, ItW.tup ok.h .name, ?_⟩
  refine ⟨fun i S' => ∃ ws, A5 (mapE (netName nm) (cell.ins.take i) = .ok ws) (S'.sto = S.sto ++ [.lst (((".names" : Str) :: ws).map .str)]) (S'.has "words" (.ref S.sto.length)) (S'.has "cell" cell.v) (S'.has "names" (.ref j)), ⟨[], rfl, rfl, by tb_start, by tb_start, by tb_start⟩, fun _ _ _ => trivial, ?_, ?_⟩
  · intro i v loc' sto' hv hJ0
    refine (?_ : let G0 := _; G0); intro G0
    obtain ⟨ws, g0, g1, g2, g3, g4⟩ := hJ0
    obtain rfl : sto' = _ := g1
    unfold G0; clear G0
    intro Q0 hT0
    rw [List.getElem?_map] at hv
    obtain ⟨net, hnet, rfl⟩ := Option.map_eq_some_iff.mp hv
    have hwl := mapE_len g0
    rw [List.length_take] at hwl
    refine AsW.name ?_ (by exact ⟨rfl, .inl rfl⟩)
    repeat tb_rel
    refine EW.listMeth1 (id := "list.append") ?sa ?sb ?_ ?sd ?se ?sf
    case sa => exact slot_list_append
    case sb => kernel_rfl
    case sd => exact attributeBase_plain rfl _ _
    case se => exact starEach_plain rfl _ _
    case sf => with_unfolding_all rfl
    repeat tb_rel
    refine ⟨S.sto.length, _, rfl, at_end, ?_⟩
    refine EW.callDef (f := 192) ok.W ⟨rfl, rfl, rfl⟩ (by kernel_rfl) (by kernel_rfl) ?_
    repeat tb_rel
    have hjlt := (List.getElem?_eq_some_iff.mp hj).1
    refine f_net_name (k := k + 10) (nm := nm) (by first | exact ok.into.less' | exact ok.into.less (by allgen_close_more)) (by show (S.sto ++ _)[j]? = _; rw [List.getElem?_append_left hjlt]; exact hj) (hk2 net (List.mem_of_getElem? hnet)) (by exact fun e s' h => h.map hnet g0 hm) ?_ (by exact hp.push (belL_strs _))
    intro y hy
    refine Meth.append at_end hro (by simp; allgen_close_more) ?_
    repeat tb_rel
    refine ⟨ws ++ [y], mapE_succ hnet g0 hy, ?_, by tb_start, by tb_start, by tb_start⟩
    show (S.sto ++ [O.lst _]).set S.sto.length (O.lst _) = _
    simp
  · intro loc' sto' hJ0
    refine (?_ : let G0 := _; G0); intro G0
    obtain ⟨ws, g0, g1, g2, g3, g4⟩ := hJ0
    obtain rfl : sto' = _ := g1
    unfold G0; clear G0
    rw [List.length_map, List.take_length] at g0
    rw [g0, okBind] at hm
    have hwl := mapE_len g0
    repeat tb_rel
    refine EW.listMeth1 (id := "list.append") ?sa ?sb ?_ ?sd ?se ?sf
    case sa => exact slot_list_append
    case sb => kernel_rfl
    case sd => exact attributeBase_plain rfl _ _
    case se => exact starEach_plain rfl _ _
    case sf => with_unfolding_all rfl
    repeat tb_rel
    refine ⟨S.sto.length, _, rfl, at_end, ?_⟩
    refine EW.callDef (f := 192) ok.W ⟨rfl, rfl, rfl⟩ (by kernel_rfl) (by kernel_rfl) ?_
    repeat tb_rel
    refine Item.tup (v := .int cell.out) (by decide) (by decide) (by rfl) ?_
    repeat tb_rel
    have hjlt := (List.getElem?_eq_some_iff.mp hj).1
    refine f_net_name (k := k + 10) (nm := nm) (by first | exact ok.into.less' | exact ok.into.less (by allgen_close_more)) (by show (S.sto ++ _)[j]? = _; rw [List.getElem?_append_left hjlt]; exact hj) hk1 (by exact fun e s' h => h.bind hm) ?_ (by exact hp.push (belL_strs _))
    intro o ho
    rw [ho, okBind] at hm
    refine Meth.append at_end hro (by simp; allgen_close_more) ?_
    repeat tb_rel
    have e1 : (S.sto ++ [O.lst (((".names" : Str) :: ws).map .str)]).set S.sto.length (O.lst (((".names" : Str) :: ws).map .str ++ [.str o])) = S.sto ++ [O.lst (((".names" : Str) :: (ws ++ [o])).map .str)] := by simp
    show EW _ ⟨loc', (S.sto ++ [O.lst _]).set S.sto.length (O.lst _)⟩ _ _
    rw [e1]
    repeat tb_rel
    refine EW.list ?_
    refine AW.cons ?_
    refine EW.strMeth1 (id := "str.join") ?sa ?sb ?_ ?sd ?se ?sf
    case sa => exact PySem.F.slot_str_join
    case sb => kernel_rfl
    case sd => exact attributeBase_plain rfl _ _
    case se => exact starEach_plain rfl _ _
    case sf => with_unfolding_all rfl
    repeat tb_rel
    refine ⟨_, rfl, ?_⟩
    repeat tb_rel
    refine StrM.joinRef at_end (joinOk 300 ?_ (by simp; allgen_close_more)) ?_
    · have h1 := netName_len hnm ho
      have h2 := mapE_all (fun a b h => netName_len hnm h) g0
      have h4 : (" " : Str).length = 1 := rfl
      have h5 : (".names" : Str).length = 6 := rfl
      intro x hx
      simp only [List.mem_cons, List.mem_append, List.not_mem_nil, or_false] at hx
      rcases hx with rfl | hx | rfl
      · allgen_close_more
      · have := h2 x hx; allgen_close_more
      · allgen_close_more
    repeat tb_rel
    refine ⟨?_, by simp; allgen_close_more⟩
    refine EW.callDef (f := 197) ok.W ⟨rfl, rfl, rfl⟩ (by kernel_rfl) (by kernel_rfl) ?_
    repeat tb_rel
    refine f_table_rows (k := k + 10) (by first | exact ok.into.less' | exact ok.into.less (by allgen_close_more)) hk5 ?_ (by exact hp.push (belL_strs _))
    have htl : (tableRows cell.kind cell.par cell.ins.length).length ≤ 256 := Nat.le_trans (rowsUpTo_len _ _ _ _) (Nat.le_trans (Nat.pow_le_pow_right (by decide) (show cell.ins.length ≤ 8 by allgen_close_more)) (by decide))
    refine Op.addL .l .l (by simp; allgen_close_more) ?_
    repeat tb_rel
    refine Back.pl (S2 := ⟨_, _⟩) (σ' := S.sto) (ex := [_]) rfl rfl ?_ hp ?_
    · exact ⟨trivial, belL_strs _⟩
    · exact p _ hm.symm
end

section
open PySem PySem.W PyProof.Rows PySem.Calls
theorem TW.st {c : Cx} {α β : Type} {out : Heap → Rho → α → β → Prop} {S : St} {t : Sem β} {P : α → St → Prop} (σ : Sto) (e : S.sto = σ) (h : TW c out ⟨S.loc, σ⟩ t P) : TW c out S t P := by
  subst e; exact h
theorem XW.st {c : Cx} {S : St} {l : List Stmt} {P : Fl → St → Prop} (σ : Sto) (e : S.sto = σ) (h : XW c ⟨S.loc, σ⟩ l P) : XW c S l P := by
  subst e; exact h
theorem St.ext {S : St} {σ : Sto} (e : S.sto = σ) : S = ⟨S.loc, σ⟩ := by subst e; rfl
theorem at0 {σ r : Sto} {a : O} : (σ ++ a :: r)[σ.length]? = some a := by simp
theorem at1 {σ r : Sto} {a b : O} : (σ ++ a :: b :: r)[σ.length + 1]? = some b := by rw [List.getElem?_append_right (by allgen_close_more)]; simp
theorem at2 {σ r : Sto} {a b d : O} : (σ ++ a :: b :: d :: r)[σ.length + 2]? = some d := by rw [List.getElem?_append_right (by allgen_close_more)]; simp
theorem set0 {σ r : Sto} {a x : O} : (σ ++ a :: r).set σ.length x = σ ++ x :: r := by rw [List.set_append_right _ _ (by allgen_close_more)]; simp
theorem set1 {σ r : Sto} {a b x : O} : (σ ++ a :: b :: r).set (σ.length + 1) x = σ ++ a :: x :: r := by rw [List.set_append_right _ _ (by allgen_close_more)]; simp
theorem set2 {σ r : Sto} {a b d x : O} : (σ ++ a :: b :: d :: r).set (σ.length + 2) x = σ ++ a :: b :: x :: r := by rw [List.set_append_right _ _ (by allgen_close_more)]; simp
theorem at_old {σ r : Sto} {i : Nat} {o : O} (h : σ[i]? = some o) : (σ ++ r)[i]? = some o := by rw [List.getElem?_append_left (List.getElem?_eq_some_iff.mp h).1]; exact h
theorem new1 {σ r : Sto} {o : O} : (σ ++ r) ++ [o] = σ ++ (r ++ [o]) := List.append_assoc ..

theorem putK_new {K : Type} [DecidableEq K] {kvs : List (K × V)} {k : K} {v : V} (h : ∀ p ∈ kvs, p.1 ≠ k) : putK kvs k v = kvs ++ [(k, v)] := by
  unfold putK
  rw [if_neg]
  intro hh
  obtain ⟨p, hp, e⟩ := List.any_eq_true.mp hh
  exact h p hp (by simpa using e)

noncomputable def foldE {α β : Type} (f : β → α → Ex β) : β → List α → Ex β
  | b, [] => .ok b
  | b, a :: l => f b a >>= fun b' => foldE f b' l
theorem foldE_cons {α β : Type} {f : β → α → Ex β} {a : α} {l : List α} {b : β} : foldE f b (a :: l) = (f b a >>= fun b' => foldE f b' l) := rfl
theorem foldE_append {α β : Type} {f : β → α → Ex β} {l m : List α} {b : β} : foldE f b (l ++ m) = (foldE f b l >>= fun b' => foldE f b' m) := by
  induction l generalizing b with
  | nil => rfl
  | cons a l ih =>
    rw [List.cons_append, foldE_cons, foldE_cons]
    cases h : f b a with
    | error e => rfl
    | ok b' => rw [okBind, okBind]; exact ih
theorem foldE_pre {α β : Type} {f : β → α → Ex β} {M : List α → β → Prop} (step : ∀ p b a b', M p b → f b a = .ok b' → M (p ++ [a]) b') {l p : List α} {b r : β} (h0 : M p b) (h : foldE f b l = .ok r) : M (p ++ l) r := by
  induction l generalizing p b with
  | nil => cases h; rw [List.append_nil]; exact h0
  | cons a l ih =>
    rw [foldE_cons] at h
    cases hb : f b a with
    | error e => rw [hb] at h; cases h
    | ok y => rw [hb, okBind] at h; rw [List.append_cons]; exact ih (step _ _ _ _ h0 hb) h
theorem foldE_one {α β : Type} {f : β → α → Ex β} {a : α} {b : β} : foldE f b [a] = f b a := by
  show (f b a >>= fun b' => .ok b') = _
  cases f b a <;> rfl
theorem foldE_snoc {α β : Type} {f : β → α → Ex β} {l : List α} {a : α} {b b' b'' : β} (h : foldE f b l = .ok b') (h' : f b' a = .ok b'') : foldE f b (l ++ [a]) = .ok b'' := by
  rw [foldE_append, h, okBind, foldE_one, h']
theorem foldE_err {α β : Type} {f : β → α → Ex β} {l m : List α} {a : α} {b b' : β} {e : Str × Str} (h : foldE f b l = .ok b') (h' : f b' a = .error e) : foldE f b (l ++ a :: m) = .error e := by
  rw [foldE_append, h, okBind]
  show (f b' a >>= _) = _
  rw [h']; rfl
theorem split_at {α : Type} {l : List α} {i : Nat} {a : α} (h : l[i]? = some a) : l = l.take i ++ a :: l.drop (i + 1) := by
  obtain ⟨hi, rfl⟩ := List.getElem?_eq_some_iff.mp h
  rw [← List.drop_eq_getElem_cons hi, List.take_append_drop]
theorem take_snoc {α : Type} {l : List α} {i : Nat} {a : α} (h : l[i]? = some a) : l.take (i + 1) = l.take i ++ [a] := by
  rw [List.take_add_one, h]; rfl
theorem XE.fold {α β γ δ : Type} {g : Gd} {f : β → α → Ex β} {l m : List α} {a : α} {b b' : β} {r : Ex δ} {F : δ → Ex β} {G : β → Ex γ} {res : Ex γ} {e : Value} {s' : Shared} (hw : foldE f b l = .ok b') (hf : f b' a = (r >>= F)) (h : (foldE f b (l ++ a :: m) >>= G) = res) (x : XE g r e s') : XE g res e s' := by
  obtain ⟨k, d, hk, h'⟩ := x
  refine XE.bind (r := foldE f b (l ++ a :: m)) ⟨k, d, foldE_err hw ?_, h'⟩ h
  rw [hf, hk]; rfl

theorem netOk_small {z : Int} (h0 : 0 ≤ z) (h : z < 2 ^ 60) : netOk z := by
  obtain ⟨n, rfl⟩ := Int.eq_ofNat_of_zero_le h0
  show (n : Int).natAbs.log2 < 1920
  rw [Int.natAbs_natCast]
  by_cases h0 : n = 0
  · subst h0; decide
  · exact Nat.lt_trans ((Nat.log2_lt (k := 60) h0).mpr (by allgen_close_more)) (by decide)
theorem istr_len' {z : Int} (h0 : 0 ≤ z) (h : z < 200) : (istr z).length ≤ 10 := by
  obtain ⟨n, rfl⟩ := Int.eq_ofNat_of_zero_le h0
  exact istr_len (by allgen_close_more)
theorem StoOk.more {σ r : Sto} (h : StoOk σ) (hr : ∀ o ∈ r, o.bel (σ.length + r.length)) : StoOk (σ ++ r) := by
  intro o ho
  rw [List.length_append]
  rcases List.mem_append.mp ho with ho | ho
  · exact O.bel_mono (Nat.le_add_right ..) (h _ ho)
  · exact hr _ ho
theorem bel_names {nm : Names} {n : Nat} : (O.di nm.v).bel n := by
  show belL _ (nm.v.map (·.2))
  rw [show nm.v.map (·.2) = (nm.map (·.2)).map V.str from by simp [Names.v]]
  exact belL_strs _
theorem bel_marksI {l : List Int} {n : Nat} : (O.di (l.map fun x => (x, V.bool true))).bel n := by
  show belL _ _
  rw [belL_iff]
  intro v hv
  simp only [List.map_map, List.mem_map, Function.comp] at hv
  obtain ⟨_, _, rfl⟩ := hv
  trivial
theorem bel_marksS {l : List Str} {n : Nat} : (O.ds (l.map fun x => (x, V.bool true))).bel n := by
  show belL _ _
  rw [belL_iff]
  intro v hv
  simp only [List.map_map, List.mem_map, Function.comp] at hv
  obtain ⟨_, _, rfl⟩ := hv
  trivial
theorem putK_mark {K : Type} [DecidableEq K] {l : List K} {k : K} (h : k ∉ l) : putK (l.map fun x => (x, V.bool true)) k (.bool true) = (l ++ [k]).map fun x => (x, V.bool true) := by
  rw [putK_new]
  · simp
  · intro p hp e
    obtain ⟨x, hx, rfl⟩ := List.mem_map.mp hp
    exact h (e ▸ hx)
set_option genInjectivity false in
structure Net where
  name : Str
  count : Nat
  ins : List Port
  outs : List Port
  cells : List Cell
noncomputable abbrev NetO (N : Net) (ji jo jc : Nat) : O := .inst 139 [("name", .str N.name), ("count", .int N.count), ("inputs", .ref ji), ("outputs", .ref jo), ("cells", .ref jc)]
structure NetAt (σ : Sto) (j ji jo jc : Nat) (N : Net) : Prop where
  obj : σ[j]? = some (NetO N ji jo jc)
  i : σ[ji]? = some (.lst (N.ins.map Port.v))
  o : σ[jo]? = some (.lst (N.outs.map Port.v))
  c : σ[jc]? = some (.lst (N.cells.map Cell.v))
theorem NetAt.grow {σ r : Sto} {j ji jo jc : Nat} {N : Net} (h : NetAt σ j ji jo jc N) : NetAt (σ ++ r) j ji jo jc N := ⟨at_old h.obj, at_old h.i, at_old h.o, at_old h.c⟩

noncomputable def portStep (_ : Unit) (p : Port) : Ex Unit := if p.2.length = 0 then .error ("empty_port", p.1) else .ok ()
noncomputable def netText (n : Int) : Str := ("" ++ "n") ++ istr n
noncomputable def baseNames (m : Nat) : Names := [((0 : Int), ("$false" : Str)), ((1 : Int), ("$true" : Str))] ++ (List.range m).map fun (i : Nat) => (2 + (i : Int), netText (2 + (i : Int)))
noncomputable def seenStep (seen : List Str) (t : Str) : Ex (List Str) := if t ∈ seen then .error ("bad_name", t) else checkedName t >>= fun y => .ok (seen ++ [y])
noncomputable def putN (nm : Names) (net : Int) (x : Str) : Names := nm.map fun p => if p.1 = net then (p.1, x) else p
noncomputable def netStep (texts : List Str) (st : List Int × Names) (net : Int) : Ex (List Int × Names) :=
  if net < 2 ∨ net ∈ st.1 ∨ st.2.get net = none then .error ("bad_net", istr net) else .ok (st.1 ++ [net], putN st.2 net (texts.getD st.1.length ""))
noncomputable def signalNames (N : Net) : Ex Names :=
  foldE portStep () (N.ins ++ N.outs) >>= fun _ =>
  foldE seenStep [] (bitNames N.ins ++ bitNames N.outs) >>= fun _ =>
  foldE (netStep (bitNames N.ins)) ([], baseNames (N.count - 2)) (N.ins.flatMap (·.2)) >>= fun st => .ok st.2

theorem baseNames_succ (m : Nat) : baseNames (m + 1) = baseNames m ++ [(2 + (m : Int), netText (2 + (m : Int)))] := by
  unfold baseNames; rw [List.range_succ]; simp
theorem baseNames_lt {m : Nat} : ∀ p ∈ baseNames m, p.1 < 2 + (m : Int) := by
  intro p hp
  unfold baseNames at hp
  simp only [List.mem_append, List.mem_cons, List.not_mem_nil, or_false, List.mem_map, List.mem_range] at hp
  rcases hp with (rfl | rfl) | ⟨i, hi, rfl⟩
  · show (0 : Int) < _; allgen_close_more
  · show (1 : Int) < _; allgen_close_more
  · show 2 + (i : Int) < _; allgen_close_more
theorem putN_v {nm : Names} {net : Int} {x : Str} (h : nm.get net ≠ none) : putK nm.v net (.str x) = (putN nm net x).v := by
  unfold putK
  rw [if_pos]
  · unfold Names.v putN
    rw [List.map_map, List.map_map]
    apply List.map_congr_left
    intro p _
    by_cases e : p.1 = net <;> simp [e]
  · rw [List.any_eq_true]
    unfold Names.get at h
    cases hf : nm.find? fun p => p.1 = net with
    | none => rw [hf] at h; exact absurd rfl h
    | some p => exact ⟨(p.1, .str p.2), List.mem_map.mpr ⟨p, List.mem_of_find?_eq_some hf, rfl⟩, by simpa using List.find?_some hf⟩
theorem getK_marks {K : Type} [DecidableEq K] {l : List K} {k : K} : (getK (l.map fun x => (x, V.bool true)) k).isSome = decide (k ∈ l) := by
  unfold getK
  induction l with
  | nil => rfl
  | cons x l ih =>
    rw [List.map_cons, List.find?_cons]
    by_cases e : x = k
    · simp [e]
    · simp only [e, decide_false]; rw [ih]; simp [Ne.symm e]
theorem checkedName_eq {t y : Str} (h : checkedName t = .ok y) : y = t := by
  unfold checkedName at h
  split at h <;> cases h
  rfl
theorem bitNames_len (ports : List Port) : (bitNames ports).length = (ports.flatMap (·.2)).length := by
  unfold bitNames
  induction ports with
  | nil => rfl
  | cons p r ih => simp [ih]
theorem netStep_inv {texts : List Str} {st st' : List Int × Names} {net : Int} (h : netStep texts st net = .ok st') : st' = (st.1 ++ [net], putN st.2 net (texts.getD st.1.length "")) := by
  unfold netStep at h
  split at h
  · cases h
  · cases h; rfl
theorem foldE_taken {texts : List Str} {l : List Int} {t : List Int} {nm : Names} {st : List Int × Names} (h : foldE (netStep texts) (t, nm) l = .ok st) : st.1 = t ++ l :=
  foldE_pre (M := fun p st => st.1 = t ++ p) (fun p b a b' m e => by rw [netStep_inv e, ← List.append_assoc, ← m]) (p := []) (List.append_nil _).symm h
theorem foldE_seen {l t r : List Str} (h : foldE seenStep t l = .ok r) : r = t ++ l :=
  foldE_pre (M := fun p r => r = t ++ p) (fun p b a b' m e => by
    unfold seenStep at e
    split at e
    · cases e
    · cases hc : checkedName a with
      | error e' => rw [hc] at e; cases e
      | ok y => rw [hc] at e; cases e; rw [checkedName_eq hc, ← List.append_assoc, ← m]) (p := []) (List.append_nil _).symm h
theorem putN_len (nm : Names) (net : Int) (x : Str) : (putN nm net x).length = nm.length := by unfold putN; simp
theorem foldE_nlen {texts : List Str} {l : List Int} {t : List Int} {nm : Names} {st : List Int × Names} (h : foldE (netStep texts) (t, nm) l = .ok st) : st.2.length = nm.length :=
  foldE_pre (M := fun _ st => st.2.length = nm.length) (fun p b a b' m e => by rw [netStep_inv e, putN_len, m]) (p := []) rfl h
end

section
open PySem PySem.W PyProof.Rows PySem.Calls
structure NetOk (N : Net) : Prop where
  count : 2 ≤ N.count ∧ N.count ≤ 150
  ins : portsOk N.ins
  outs : portsOk N.outs
  texts : ∀ t ∈ bitNames N.ins ++ bitNames N.outs, nameOk t = true
  nets : ∀ p ∈ N.ins ++ N.outs, ∀ n ∈ p.2, netOk n

theorem f_signal_names {c : Cx} {S : St} {k : Nat} (ok : Ok c (k + 20)) {N : Net} {j ji jo jc : Nat} (hN : NetAt S.sto j ji jo jc N) (hk : NetOk N) {P : V → St → Prop}
    (hX : ∀ ex s', XE c.g (signalNames N) ex s' → c.X ex s')
    (p : ∀ nm, signalNames N = .ok nm → P (.ref S.sto.length) ⟨S.loc, S.sto ++ [.di nm.v]⟩) (hp : StoOk S.sto) : CW c S (.ref 185) [.ref j] P := by
  have hsl : (10000 : Nat) ≤ sizeLine := by rw [sizeLine_eq]; decide
  obtain ⟨⟨hk1, hk1'⟩, hk2, hk3, hk4, hk5⟩ := hk
  generalize hm : signalNames N = res at hX p
  refine OWs.ro fun hro => ?_
  refine CW.def (names := ["netlist"]) (ds := []) (dvs := []) (XEg c.g res) ok.W (by rfl) (by rfl) (by rfl) (by rfl) ok.room (by rfl) (fun _ _ => .nil) (by decide +kernel) (fun s us _ hu => ?_) (by decide +kernel) (by decide +kernel) (XE.leave ok hX) fun L => ?_
  · obtain ⟨a, rfl⟩ := len1 hu
    exact .of_eq (by rfl)
  unfold signalNames at hm
  repeat tb_rel
  with_reducible refine EW.dictI (K := KF c.w.params) ?dz ?da ?db ?dc ?dd ?_
  case dz => exact ok.W
  case da => rfl
  case db => rfl
  case dc => exact List.cons_ne_nil _ _
  case dd => exact Nat.le_of_ble_eq_true rfl
  refine PW.cons ?_
  repeat tb_rel
  refine PW.cons ?_
  repeat tb_rel
  refine PW.nil ?_
  refine ⟨[(0, .str "$false"), (1, .str "$true")], rfl, at_end, ?_⟩
  repeat tb_rel
  refine TW.st (S.sto ++ [.di (baseNames 0).v]) ?e0 ?_
  case e0 => exact set0 (r := [])
  repeat tb_rel
  refine SW.for ?_
  refine IW.of ?_
  repeat tb_rel
  refine EW.attr ok.W ?_
  repeat tb_rel
  refine ⟨j, 139, _, .ref ji, rfl, at_old hN.obj, by rfl, by kernel_rfl, ?_⟩
  refine EW.attr ok.W ?_
  repeat tb_rel
  refine ⟨j, 139, _, .ref jo, rfl, at_old hN.obj, by rfl, by kernel_rfl, ?_⟩
  have hil := hk2.1
  have hol := hk3.1
  refine Op.addL (.r (at_old hN.i)) (.r (at_old hN.o)) (by simp; allgen_close_more) ?_
  refine ⟨_, _, ItW.lst ok.h .tup, ?_⟩
  refine ⟨fun i S' => A4 (foldE portStep () ((N.ins ++ N.outs).take i) = .ok ()) (S'.sto = S.sto ++ [.di (baseNames 0).v]) (S'.has "netlist" (.ref j)) (S'.has "names" (.ref S.sto.length)), ⟨rfl, rfl, by tb_start, by tb_start⟩, fun _ _ _ => trivial, ?_, ?_⟩
  · intro i v loc' sto' hv hJ0
    refine (?_ : let G0 := _; G0); intro G0
    obtain ⟨g0, g1, g2, g3⟩ := hJ0
    obtain rfl : sto' = _ := g1
    unfold G0; clear G0
    intro Q0 hT0
    rw [← List.map_append, List.getElem?_map] at hv
    obtain ⟨⟨n, bs⟩, hq, rfl⟩ := Option.map_eq_some_iff.mp hv
    have hb : bs.length ≤ 20 := by
      rcases List.mem_append.mp (List.mem_of_getElem? hq) with h | h
      · exact (hk2.2 _ h).2
      · exact (hk3.2 _ h).2
    refine AsW.unpack (.inl rfl) ?_ ok.h (by rfl)
    refine AsL.cons (AsW.name ?_ (by exact ⟨rfl, .inl rfl⟩))
    refine AsL.cons (AsW.name ?_ (by exact ⟨rfl, .inl rfl⟩))
    refine AsL.nil ?_
    repeat tb_rel
    refine EW.callBuiltin (id := "len") ok.W ⟨rfl, rfl, rfl⟩ (by kernel_rfl) (by kernel_rfl) ?_
    repeat tb_rel
    refine Len.lst (by simp; allgen_close_more) ?_
    repeat tb_rel
    refine ⟨_, rfl, ?_⟩
    by_cases h0 : bs.length = 0
    · refine brT (by first | exact decide_eq_true h0 | simp [h0]) ?_
      repeat tb_rel
      refine SW.raiseFE (ok.into (k := k + 19)).W ⟨rfl, rfl, rfl⟩ ok.h (by have := ok.d; show c.A.depth + 1 + 1 < _; allgen_close_more) ?_
      repeat tb_rel
      refine ⟨_, rfl, ?_⟩
      repeat tb_rel
      refine ⟨_, _, rfl, fun ex s' h => ?_⟩
      rw [split_at hq] at hm
      refine XE.bind (r := foldE portStep () _) (XE.error h ?_) hm
      refine (foldE_err g0 ?_).symm
      show (if bs.length = 0 then _ else _) = _
      rw [if_pos h0]
    · refine brF (by first | exact decide_eq_false h0 | simp [h0]) ?_
      repeat tb_rel
      refine ⟨?_, rfl, by tb_start, by tb_start⟩
      rw [take_snoc hq]
      refine foldE_snoc g0 ?_
      show (if bs.length = 0 then _ else _) = _
      rw [if_neg h0]
  intro loc' sto' hJ0
  refine (?_ : let G0 := _; G0); intro G0
  obtain ⟨g0, g1, g2, g3⟩ := hJ0
  obtain rfl : sto' = _ := g1
  unfold G0; clear G0
  rw [← List.map_append, List.length_map, List.take_length] at g0
  rw [g0, okBind] at hm
  clear g0
  repeat tb_rel
  refine SW.for ?_
  refine IW.range2 ok.W ⟨rfl, rfl, rfl⟩ ok.h .name (by kernel_rfl) ?_
  repeat tb_rel
  refine EW.attr ok.W ?_
  repeat tb_rel
  refine ⟨j, 139, _, .int N.count, rfl, at_old hN.obj, by rfl, by kernel_rfl, ?_⟩
  refine ⟨_, _, rfl, rfl, by allgen_close_more, by allgen_close_more, ?_⟩
  refine ⟨fun i S' => A3 (S'.sto = S.sto ++ [.di (baseNames i).v]) (S'.has "netlist" (.ref j)) (S'.has "names" (.ref S.sto.length)), ⟨rfl, by tb_start, by tb_start⟩, fun _ _ _ => trivial, ?_, ?_⟩
  · intro i v loc' sto' hv hJ0
    refine (?_ : let G0 := _; G0); intro G0
    obtain ⟨g1, g2, g3⟩ := hJ0
    obtain rfl : sto' = _ := g1
    obtain ⟨hi, rfl⟩ := rng2 hv
    unfold G0; clear G0
    intro Q0 hT0
    replace hi : i < N.count - 2 := by rw [← Int.toNat_sub N.count 2]; exact hi
    have hi9 : i < 150 := by allgen_close_more
    refine AsW.name ?_ (by exact ⟨rfl, .inl rfl⟩)
    have hil := istr_len_all
    repeat tb_rel
    refine EW.fstr ?_
    refine JW.cons ?_
    repeat tb_rel
    refine ⟨_, rfl, ?_, ?_⟩
    · show 1 ≤ _; allgen_close_more
    refine JW.cons (EW.fmt ?_)
    repeat tb_rel
    have hz : netOk (2 + (i : Int)) := netOk_small (by allgen_close_more) (by allgen_close_more)
    have hzl := istr_len' (z := 2 + (i : Int)) (by allgen_close_more) (by allgen_close_more)
    have hnl : (netText (2 + (i : Int))).length ≤ 20 := by unfold netText; rw [Str.length_append]; show 1 + _ ≤ _; allgen_close_more
    refine .inr ⟨_, rfl, hz, _, rfl, ?_, ?_⟩
    · show (netText (2 + (i : Int))).length ≤ _; allgen_close_more
    refine JW.nil ?_ ?_
    · show (netText (2 + (i : Int))).length ≤ _; allgen_close_more
    repeat tb_rel
    have hbl : (baseNames i).length = 2 + i := by simp [baseNames]; allgen_close_more
    refine Put.di (kvs := (baseNames i).v) (by exact at0) (by exact hro) (by simp [Names.v]; allgen_close_more) ?_
    repeat tb_rel
    refine ⟨?_, by tb_start, by tb_start⟩
    show (S.sto ++ [O.di (baseNames i).v]).set S.sto.length _ = _
    rw [set0, putK_new]
    · rw [baseNames_succ]; simp [Names.v, netText]; rfl
    · intro q hq e
      obtain ⟨r, hr, rfl⟩ := List.mem_map.mp hq
      have := baseNames_lt r hr
      have e' : r.1 = 2 + (i : Int) := e
      allgen_close_more
  intro loc' sto' hJ0
  refine (?_ : let G0 := _; G0); intro G0
  obtain ⟨g1, g2, g3⟩ := hJ0
  obtain rfl : sto' = _ := g1
  unfold G0; clear G0
  have hcnt : (List.map (fun k => V.int (2 + ((k : Nat) : Int))) (List.range ((N.count : Int) - 2).toNat)).length = N.count - 2 := by rw [List.length_map, List.length_range]; exact Int.toNat_sub N.count 2
  rw [hcnt]
  have hbl : (baseNames (N.count - 2)).length = N.count := by simp [baseNames]; allgen_close_more
  generalize hB : baseNames (N.count - 2) = B at hm hbl ⊢
  repeat tb_rel
  refine EW.callDef (f := 150) ok.W ⟨rfl, rfl, rfl⟩ (by kernel_rfl) (by kernel_rfl) ?_
  repeat tb_rel
  refine EW.attr ok.W ?_
  repeat tb_rel
  refine ⟨j, 139, _, .ref ji, rfl, at_old hN.obj, by rfl, by kernel_rfl, ?_⟩
  repeat tb_rel
  refine f_bit_names (k := k + 10) (by first | exact ok.into.less' | exact ok.into.less (by allgen_close_more)) (by exact .inr ⟨ji, rfl, at_old hN.i⟩) hk2 ?_ (by exact hp.more (by simp; exact bel_names))
  repeat tb_rel
  refine EW.dict0 false ok.W ?_
  repeat tb_rel
  refine TW.st (S.sto ++ [.di B.v, .ds []]) ?e0 ?_
  case e0 => exact new1
  refine SW.for ?_
  refine IW.of ?_
  repeat tb_rel
  refine EW.callDef (f := 150) ok.W ⟨rfl, rfl, rfl⟩ (by kernel_rfl) (by kernel_rfl) ?_
  repeat tb_rel
  refine EW.attr ok.W ?_
  repeat tb_rel
  refine ⟨j, 139, _, .ref jo, rfl, at_old hN.obj, by rfl, by kernel_rfl, ?_⟩
  repeat tb_rel
  refine f_bit_names (k := k + 10) (by first | exact ok.into.less' | exact ok.into.less (by allgen_close_more)) (by exact .inr ⟨jo, rfl, at_old hN.o⟩) hk3 ?_ (by exact hp.more (by simp; exact ⟨bel_names, trivial⟩))
  have blen : ∀ ports : List Port, portsOk ports → (bitNames ports).length ≤ 400 := fun ports h => by
    rw [bitNames_len]
    have : ∀ l : List Port, (∀ q ∈ l, q.2.length ≤ 20) → (l.flatMap (·.2)).length ≤ 20 * l.length := by
      intro l
      induction l with
      | nil => intro _; simp
      | cons q l ih =>
        intro h
        have h1 := h q (.head _)
        have h2 := ih fun y hy => h y (.tail _ hy)
        rw [List.flatMap_cons, List.length_append, List.length_cons]; allgen_close_more
    have h1 := this ports fun q hq => (h.2 q hq).2
    have h2 := h.1
    allgen_close_more
  have bl1 := blen _ hk2
  have bl2 := blen _ hk3
  refine Op.addL .l .l (by simp; allgen_close_more) ?_
  rw [← List.map_append]
  generalize hT : bitNames N.ins = T1 at hm hk4 bl1 ⊢
  generalize hT2 : bitNames N.outs = T2 at hm hk4 bl2 ⊢
  refine ⟨_, _, ItW.lst ok.h .name, ?_⟩
  refine ⟨fun i S' => ∃ sn, A6 (foldE seenStep [] ((T1 ++ T2).take i) = .ok sn) (S'.sto = S.sto ++ [.di B.v, .ds (sn.map fun x => (x, .bool true))]) (S'.has "netlist" (.ref j)) (S'.has "names" (.ref S.sto.length)) (S'.has "texts" (.lst (T1.map .str))) (S'.has "seen" (.ref (S.sto.length + 1))), ⟨[], rfl, rfl, by tb_start, by tb_start, by tb_start, ?_⟩, fun _ _ _ => trivial, ?_, ?_⟩
  · have e : (S.sto ++ [O.di B.v]).length = S.sto.length + 1 := by simp
    rw [← e]; tb_start
  · intro i v loc' sto' hv hJ0
    refine (?_ : let G0 := _; G0); intro G0
    obtain ⟨sn, g0, g1, g2, g3, g4, g5⟩ := hJ0
    obtain rfl : sto' = _ := g1
    unfold G0; clear G0
    intro Q0 hT0
    rw [List.getElem?_map] at hv
    obtain ⟨t, ht, rfl⟩ := Option.map_eq_some_iff.mp hv
    have hsn := foldE_seen g0
    rw [List.nil_append] at hsn
    have hsl2 : sn.length ≤ 800 := by rw [hsn, List.length_take, List.length_append]; allgen_close_more
    refine AsW.name ?_ (by exact ⟨rfl, .inl rfl⟩)
    repeat tb_rel
    refine In.ds (by exact at1) ?_
    rw [getK_marks]
    refine ⟨_, rfl, ?_⟩
    by_cases hin : t ∈ sn
    · refine brT (by first | exact decide_eq_true hin | simp [hin]) ?_
      repeat tb_rel
      refine SW.raiseFE (ok.into (k := k + 19)).W ⟨rfl, rfl, rfl⟩ ok.h (by have := ok.d; show c.A.depth + 1 + 1 < _; allgen_close_more) ?_
      repeat tb_rel
      refine ⟨_, rfl, ?_⟩
      repeat tb_rel
      refine ⟨_, _, rfl, fun ex s' h => ?_⟩
      rw [split_at ht] at hm
      refine XE.bind (r := foldE seenStep [] _) (XE.error h ?_) hm
      refine (foldE_err g0 ?_).symm
      unfold seenStep; rw [if_pos hin]
    · refine brF (by first | exact decide_eq_false hin | simp [hin]) ?_
      have hst : seenStep sn t = (checkedName t >>= fun y => .ok (sn ++ [y])) := by unfold seenStep; rw [if_neg hin]
      repeat tb_rel
      refine EW.callDef (f := 178) ok.W ⟨rfl, rfl, rfl⟩ (by kernel_rfl) (by kernel_rfl) ?_
      repeat tb_rel
      refine f_checked_name (k := k + 9) (by first | exact ok.into.less' | exact ok.into.less (by allgen_close_more)) (hk4 t (List.mem_of_getElem? ht)) (by exact fun e s' h => by rw [split_at ht] at hm; exact XE.fold g0 hst hm h) ?_ (by exact hp.more (by simp; exact ⟨bel_names, bel_marksS⟩))
      intro y hy
      obtain rfl := checkedName_eq hy
      refine Put.ds (by exact at1) (by exact Nat.le_succ_of_le hro) (by simp; allgen_close_more) ?_
      repeat tb_rel
      refine ⟨sn ++ [y], ?_, ?_, by tb_start, by tb_start, by tb_start, by tb_start⟩
      · rw [take_snoc ht]
        exact foldE_snoc g0 (by rw [hst, hy]; rfl)
      · show (S.sto ++ [O.di B.v, O.ds _]).set (S.sto.length + 1) _ = _
        rw [set1, putK_mark hin]
  intro loc' sto' hJ0
  refine (?_ : let G0 := _; G0); intro G0
  obtain ⟨sn, g0, g1, g2, g3, g4, g5⟩ := hJ0
  obtain rfl : sto' = _ := g1
  unfold G0; clear G0
  rw [List.length_map, List.take_length] at g0
  have hsl2 : sn.length ≤ 800 := by rw [foldE_seen g0]; simp; allgen_close_more
  rw [g0, okBind] at hm
  clear g0
  repeat tb_rel
  refine EW.dict0 true ok.W ?_
  repeat tb_rel
  refine TW.st (S.sto ++ [.di B.v, .ds (sn.map fun x => (x, .bool true)), .di []]) ?e0 ?_
  case e0 => exact new1
  refine SW.for ?_
  refine IW.of ?_
  refine EW.attr ok.W ?_
  repeat tb_rel
  refine ⟨j, 139, _, .ref ji, rfl, at_old hN.obj, by rfl, by kernel_rfl, ?_⟩
  refine ⟨_, _, ItW.ref ok.h .tup (at_old hN.i), ?_⟩
  have hlen2 : (S.sto ++ [O.di B.v, O.ds (sn.map fun x => (x, V.bool true))]).length = S.sto.length + 2 := by simp
  have hTl : T1.length = (N.ins.flatMap (·.2)).length := by rw [← hT, bitNames_len]
  generalize hSN : O.ds (sn.map fun x => (x, V.bool true)) = SN at hlen2 ⊢
  have hSNb : ∀ n, SN.bel n := fun n => by rw [← hSN]; exact bel_marksS
  refine ⟨fun i S' => ∃ st, A6 (foldE (netStep T1) ([], B) ((N.ins.take i).flatMap (·.2)) = .ok st) (S'.sto = S.sto ++ [.di st.2.v, SN, .di (st.1.map fun x => (x, .bool true))]) (S'.has "names" (.ref S.sto.length)) (S'.has "texts" (.lst (T1.map .str))) (S'.has "taken" (.ref (S.sto.length + 2))) (S'.has "place" (.int st.1.length)), ⟨([], B), rfl, rfl, by tb_start, by tb_start, ?_, by tb_start⟩, fun i S' h => ?_, ?_, ?_⟩
  · rw [← hlen2]; tb_start
  · obtain ⟨st, _, e, _⟩ := h
    rw [e]; exact at_old hN.i
  · intro i v loc' sto' hv hJ0
    refine (?_ : let G0 := _; G0); intro G0
    obtain ⟨st, g0, g1, g2, g3, g4, g5⟩ := hJ0
    obtain rfl : sto' = _ := g1
    unfold G0; clear G0
    intro Q0 hT0
    rw [List.getElem?_map] at hv
    obtain ⟨⟨n, bs⟩, hq, rfl⟩ := Option.map_eq_some_iff.mp hv
    have hbk := hk5 _ (List.mem_append_left _ (List.mem_of_getElem? hq))
    dsimp only at hbk
    refine AsW.unpack (.inl rfl) ?_ ok.h (by rfl)
    refine AsL.cons (AsW.name ?_ (by exact ⟨rfl, .inl rfl⟩))
    refine AsL.cons (AsW.name ?_ (by exact ⟨rfl, .inl rfl⟩))
    refine AsL.nil ?_
    repeat tb_rel
    refine SW.for ?_
    refine IW.of ?_
    repeat tb_rel
    refine ⟨_, _, ItW.lst ok.h .name, ?_⟩
    have hfl : N.ins.flatMap (·.2) = (N.ins.take i).flatMap (·.2) ++ (bs ++ (N.ins.drop (i + 1)).flatMap (·.2)) := by
      conv => lhs; rw [split_at hq]
      rw [List.flatMap_append, List.flatMap_cons]
    refine ⟨fun q S2 => ∃ st, A6 (foldE (netStep T1) ([], B) ((N.ins.take i).flatMap (·.2) ++ bs.take q) = .ok st) (S2.sto = S.sto ++ [.di st.2.v, SN, .di (st.1.map fun x => (x, .bool true))]) (S2.has "names" (.ref S.sto.length)) (S2.has "texts" (.lst (T1.map .str))) (S2.has "taken" (.ref (S.sto.length + 2))) (S2.has "place" (.int st.1.length)), ⟨st, by simpa using g0, rfl, by tb_start, by tb_start, by tb_start, by tb_start⟩, fun _ _ _ => trivial, ?_, ?_⟩
    · clear g0 g2 g3 g4 g5 st
      intro q v loc2 sto2 hv2 hJ0
      refine (?_ : let G0 := _; G0); intro G0
      obtain ⟨st, g0, g1, g2, g3, g4, g5⟩ := hJ0
      obtain rfl : sto2 = _ := g1
      unfold G0; clear G0
      intro Q0 hT0
      rw [List.getElem?_map] at hv2
      obtain ⟨net, hnet, rfl⟩ := Option.map_eq_some_iff.mp hv2
      have hnet : bs[q]? = some net := hnet
      have hall : N.ins.flatMap (·.2) = ((N.ins.take i).flatMap (·.2) ++ bs.take q) ++ net :: (bs.drop (q + 1) ++ (N.ins.drop (i + 1)).flatMap (·.2)) := by
        rw [hfl]
        conv => lhs; rw [split_at hnet]
        simp
      have htk := foldE_taken g0
      rw [List.nil_append] at htk
      have hlt : st.1.length < T1.length := by rw [hTl, hall, htk]; simp only [List.length_append, List.length_cons]; allgen_close_more
      have hnl := foldE_nlen g0
      have hsto : StoOk (S.sto ++ [.di st.2.v, SN, .di (st.1.map fun x => (x, .bool true))]) := hp.more (by simp; exact ⟨bel_names, hSNb _, bel_marksI⟩)
      refine AsW.name ?_ (by exact ⟨rfl, .inl rfl⟩)
      have hraise : net < 2 ∨ net ∈ st.1 ∨ st.2.get net = none → Except.error (("bad_net" : Str), istr net) = res := fun hh => by
        rw [← hm, hall, foldE_err g0 (e := (("bad_net" : Str), istr net)) (by unfold netStep; rw [if_pos hh])]; rfl
      repeat tb_rel
      refine ⟨_, rfl, fun hc => ?_, fun hc => ?_⟩
      · refine brT rfl ?_
        repeat tb_rel
        refine SW.raiseFE (ok.into (k := k + 19)).W ⟨rfl, rfl, rfl⟩ ok.h (by have := ok.d; show c.A.depth + 1 + 1 < _; allgen_close_more) ?_
        repeat tb_rel
        refine ⟨_, rfl, ?_⟩
        repeat tb_rel
        refine EW.callType (T := "str") ok.W ⟨rfl, rfl, rfl⟩ (by kernel_rfl) (by kernel_rfl) ?_
        repeat tb_rel
        refine StrOf.int (hbk net (List.mem_of_getElem? hnet)) ?_
        repeat tb_rel
        exact ⟨_, _, rfl, fun ex s' h => XE.error h (hraise (.inl (by simpa using hc)))⟩
      repeat tb_rel
      refine In.di (by exact at2) ?_
      rw [getK_marks]
      refine ⟨_, rfl, fun hc2 => ?_, fun hc2 => ?_⟩
      · refine brT rfl ?_
        repeat tb_rel
        refine SW.raiseFE (ok.into (k := k + 19)).W ⟨rfl, rfl, rfl⟩ ok.h (by have := ok.d; show c.A.depth + 1 + 1 < _; allgen_close_more) ?_
        repeat tb_rel
        refine ⟨_, rfl, ?_⟩
        repeat tb_rel
        refine EW.callType (T := "str") ok.W ⟨rfl, rfl, rfl⟩ (by kernel_rfl) (by kernel_rfl) ?_
        repeat tb_rel
        refine StrOf.int (hbk net (List.mem_of_getElem? hnet)) ?_
        repeat tb_rel
        exact ⟨_, _, rfl, fun ex s' h => XE.error h (hraise (.inr (.inl (by simpa using hc2))))⟩
      repeat tb_rel
      refine NotIn.of (In.di (by exact at0) ?_)
      rw [Names.getK]
      refine ⟨_, rfl, _, rfl, fun hc3 => ?_, fun hc3 => ?_⟩
      · refine brT rfl ?_
        repeat tb_rel
        refine SW.raiseFE (ok.into (k := k + 19)).W ⟨rfl, rfl, rfl⟩ ok.h (by have := ok.d; show c.A.depth + 1 + 1 < _; allgen_close_more) ?_
        repeat tb_rel
        refine ⟨_, rfl, ?_⟩
        repeat tb_rel
        refine EW.callType (T := "str") ok.W ⟨rfl, rfl, rfl⟩ (by kernel_rfl) (by kernel_rfl) ?_
        repeat tb_rel
        refine StrOf.int (hbk net (List.mem_of_getElem? hnet)) ?_
        repeat tb_rel
        exact ⟨_, _, rfl, fun ex s' h => XE.error h (hraise (.inr (.inr (by simpa using hc3))))⟩
      have hno : ¬ (net < 2 ∨ net ∈ st.1 ∨ st.2.get net = none) := by
        simp at hc hc2
        rintro (h | h | h)
        · allgen_close_more
        · exact hc2 h
        · rw [h] at hc3; cases hc3
      have hstep : netStep T1 st net = .ok (st.1 ++ [net], putN st.2 net (T1.getD st.1.length "")) := by unfold netStep; rw [if_neg hno]
      repeat tb_rel
      refine brF rfl ?_
      repeat tb_rel
      refine Put.di (by exact at2) (by exact Nat.le_add_right_of_le hro) (by simp; allgen_close_more) ?_
      refine seqN ?_
      refine TW.st (S.sto ++ [.di st.2.v, SN, .di ((st.1 ++ [net]).map fun x => (x, .bool true))]) ?e0 ?_
      case e0 =>
        show (S.sto ++ [O.di st.2.v, SN, O.di _]).set (S.sto.length + 2) _ = _
        rw [set2, putK_mark fun h => hno (.inr (.inl h))]
      repeat tb_rel
      refine Item.lst (v := .str (T1.getD st.1.length "")) (by allgen_close_more) (by allgen_close_more) (by simp [hlt, List.getD]) ?_
      repeat tb_rel
      refine Put.di (kvs := st.2.v) (by exact at0) (by exact hro) (by simp [Names.v]; allgen_close_more) ?_
      repeat tb_rel
      refine ⟨(st.1 ++ [net], putN st.2 net (T1.getD st.1.length "")), ?_, ?_, by tb_start, by tb_start, by tb_start, ?_⟩
      · rw [take_snoc hnet, ← List.append_assoc]
        exact foldE_snoc g0 hstep
      · show (S.sto ++ [O.di st.2.v, SN, O.di _]).set S.sto.length _ = _
        rw [set0, putN_v fun h => hno (.inr (.inr h))]
      · have e : (((st.1 ++ [net]).length : Nat) : Int) = st.1.length + 1 := by simp
        show St.has _ _ (.int (((st.1 ++ [net]).length : Nat) : Int))
        rw [e]; tb_start
    · intro loc2 sto2 hJ0
      refine (?_ : let G0 := _; G0); intro G0
      obtain ⟨st, g0, g1, g2, g3, g4, g5⟩ := hJ0
      unfold G0; clear G0
      refine seqN (XW.nil (turnN hT0 ⟨st, ?_, g1, g2, g3, g4, g5⟩))
      rw [List.length_map, List.take_length] at g0
      rw [take_snoc hq, List.flatMap_append]
      simpa using g0
  intro loc' sto' hJ0
  refine (?_ : let G0 := _; G0); intro G0
  obtain ⟨st, g0, g1, g2, g3, g4, g5⟩ := hJ0
  obtain rfl : sto' = _ := g1
  unfold G0; clear G0
  rw [List.length_map, List.take_length] at g0
  rw [g0, okBind] at hm
  repeat tb_rel
  refine Back.keepDi (kvs := st.2.v) (σ' := S.sto) (ex := [.di st.2.v, SN, _]) rfl (Nat.le_refl _) at0 ?_ hp (p _ hm.symm)
  rw [show st.2.v.map (·.2) = (st.2.map (·.2)).map V.str from by simp [Names.v]]
  exact belL_strs _
end

section
open PySem PySem.W PyProof.Rows PySem.Calls
noncomputable def lens (l : List Str) : Nat := (l.map fun x => x.length + 1).sum
theorem lens_append (a b : List Str) : lens (a ++ b) = lens a + lens b := by simp [lens]
theorem lens_cons (a : Str) (b : List Str) : lens (a :: b) = a.length + 1 + lens b := by simp [lens]
theorem lens_nil : lens [] = 0 := rfl
theorem lens_le {b : Nat} : ∀ {l : List Str}, (∀ x ∈ l, x.length ≤ b) → lens l ≤ l.length * (b + 1)
  | [], _ => by simp [lens]
  | x :: l, h => by
    have h1 := h x (.head _)
    have h2 := lens_le (l := l) fun y hy => h y (.tail _ hy)
    rw [lens_cons, List.length_cons, Nat.succ_mul]; allgen_close_more
theorem lens_join (sep : Str) (hs : sep.length ≤ 1) (l : List Str) : (Txt.join sep l).length ≤ lens l := by
  show (Builtin.Str.glued sep l).length ≤ _
  rw [StrLaws.glued_eq_join]
  refine Nat.le_trans (StrLaws.join_length_le _ _) ?_
  have : (l.map (·.length)).sum + l.length * 1 = lens l := by
    induction l with
    | nil => rfl
    | cons x l ih => rw [lens_cons, List.map_cons, List.sum_cons, List.length_cons]; allgen_close_more
  have h2 : l.length * sep.length ≤ l.length * 1 := Nat.mul_le_mul_left _ hs
  allgen_close_more
theorem joinOk' {sep : Str} (hs : sep.length ≤ 1) {xs : List Str} (hz : lens xs ≤ 1000000) : JoinOk sep xs = true := by
  have hf : ∀ (l : List Str) (a : Nat), l.foldl (fun acc x => acc + x.length + sep.length) a ≤ a + lens l := by
    intro l
    induction l with
    | nil => intro a; simp [lens]
    | cons x l ih => intro a; rw [List.foldl_cons, lens_cons]; have := ih (a + x.length + sep.length); allgen_close_more
  unfold JoinOk
  have := hf xs 0
  have e : xs.toArray.foldl (fun acc x => acc + x.length + sep.length) 0 = xs.foldl (fun acc x => acc + x.length + sep.length) 0 := by simp
  rw [e]
  unfold Builtin.Str.tooLong
  simp [sizeLine_eq]; allgen_close_more

noncomputable def cellStep (nm : Names) (acc : List Str) (cell : Cell) : Ex (List Str) := cellRows nm cell >>= fun r => .ok (acc ++ r)
noncomputable def outText (x o : Str) : Str := ((("" ++ ".names ") ++ x) ++ " ") ++ o
noncomputable def outStep (nm : Names) (outs : List Str) (st : Nat × List Str) (net : Int) : Ex (Nat × List Str) := netName nm net >>= fun x => .ok (st.1 + 1, st.2 ++ [outText x (outs.getD st.1 ""), ("1 1" : Str)])
noncomputable def headRows (nn : Str) (N : Net) : List Str := [".model " ++ nn, Txt.join " " (".inputs" :: bitNames N.ins), Txt.join " " (".outputs" :: bitNames N.outs), ".names $false", ".names $true", "1"]
noncomputable def writeBlif (N : Net) : Ex Str :=
  signalNames N >>= fun nm => checkedName N.name >>= fun nn => foldE (cellStep nm) (headRows nn N) N.cells >>= fun rows =>
  foldE (outStep nm (bitNames N.outs)) (0, rows) (N.outs.flatMap (·.2)) >>= fun st => .ok (Txt.join "\n" (st.2 ++ [(".end" : Str)]) ++ "\n")

theorem bitName_len {n : Str} {i : Nat} (hi : i < 200) : (bitName n i).length ≤ n.length + 12 := by
  unfold bitName
  have := istr_len hi
  simp only [Str.length_append]
  show 0 + n.length + 1 + _ + 1 ≤ _
  allgen_close_more
theorem bitNames_short {ports : List Port} (h : portsOk ports) : ∀ t ∈ bitNames ports, t.length ≤ 112 := by
  intro t ht
  unfold bitNames at ht
  obtain ⟨p, hp, ht⟩ := List.mem_flatMap.mp ht
  obtain ⟨i, hi, rfl⟩ := List.mem_map.mp ht
  have := h.2 p hp
  have hi := List.mem_range.mp hi
  have := bitName_len (n := p.1) (i := i) (by allgen_close_more)
  allgen_close_more
theorem putN_ok {nm : Names} {net : Int} {x : Str} (h : namesOk nm) (hx : x.length ≤ 200) : namesOk (putN nm net x) := by
  intro p hp
  unfold putN at hp
  obtain ⟨q, hq, rfl⟩ := List.mem_map.mp hp
  split
  · exact hx
  · exact h q hq
theorem foldE_namesOk {texts : List Str} (ht : ∀ t ∈ texts, t.length ≤ 200) {l : List Int} {t : List Int} {nm : Names} {st : List Int × Names} (hn : namesOk nm) (h : foldE (netStep texts) (t, nm) l = .ok st) : namesOk st.2 :=
  foldE_pre (M := fun _ st => namesOk st.2) (fun p b a b' m e => by
    rw [netStep_inv e]
    refine putN_ok m ?_
    rw [List.getD_eq_getElem?_getD]
    cases hq : texts[b.1.length]? with
    | none => exact Nat.zero_le _
    | some x => exact ht x (List.mem_of_getElem? hq)) (p := []) hn h
theorem signal_namesOk {N : Net} (hk : NetOk N) {nm : Names} (h : signalNames N = .ok nm) : namesOk nm := by
  unfold signalNames at h
  cases h1 : foldE portStep () (N.ins ++ N.outs) with
  | error e => rw [h1] at h; cases h
  | ok u =>
    rw [h1, okBind] at h
    cases h2 : foldE seenStep [] (bitNames N.ins ++ bitNames N.outs) with
    | error e => rw [h2] at h; cases h
    | ok u =>
      rw [h2, okBind] at h
      cases h3 : foldE (netStep (bitNames N.ins)) ([], baseNames (N.count - 2)) (N.ins.flatMap (·.2)) with
      | error e => rw [h3] at h; cases h
      | ok st =>
        rw [h3, okBind] at h
        cases h
        refine foldE_namesOk (fun t ht => Nat.le_trans (bitNames_short hk.ins t ht) (by decide)) ?_ h3
        intro p hp
        unfold baseNames at hp
        simp only [List.mem_append, List.mem_cons, List.not_mem_nil, or_false, List.mem_map, List.mem_range] at hp
        rcases hp with (rfl | rfl) | ⟨i, hi, rfl⟩
        · show 6 ≤ 200; decide
        · show 5 ≤ 200; decide
        · have := istr_len' (z := 2 + (i : Int)) (by allgen_close_more) (by have := hk.count.2; allgen_close_more)
          show (netText _).length ≤ 200
          unfold netText; rw [Str.length_append]; show 1 + _ ≤ _; allgen_close_more

theorem strip_len (x : Str) : (Txt.strip x).length ≤ x.length := fact_strip x
theorem rowText_len {n row : Nat} : (rowText n row).length ≤ n + 2 := by
  unfold rowText
  refine Nat.le_trans (strip_len _) ?_
  rw [Str.length_append]
  have h1l : ∀ x ∈ (bitsOf n row).map istr, x.length = 1 := fun x hx => by
    obtain ⟨b, hb, rfl⟩ := List.mem_map.mp hx
    rcases bitsOf01 b hb with rfl | rfl <;> decide +kernel
  have : (Txt.join "" ((bitsOf n row).map istr)).length ≤ n := by
    show (Builtin.Str.glued "" _).length ≤ _
    rw [StrLaws.glued_eq_join]
    refine Nat.le_trans (StrLaws.join_length_le _ _) ?_
    have hs : ∀ l : List Str, (∀ x ∈ l, x.length = 1) → (l.map (·.length)).sum = l.length := by
      intro l h
      induction l with
      | nil => rfl
      | cons x l ih => simp [h x (.head _), ih fun y hy => h y (.tail _ hy)]; allgen_close_more
    rw [hs _ h1l]
    show _ + _ * 0 ≤ _
    simp [bitsOf]
  show _ + 2 ≤ _
  allgen_close_more
theorem cellRows_len {nm : Names} (hn : namesOk nm) {cell : Cell} (hk : cellOk cell) {r : List Str} (h : cellRows nm cell = .ok r) : r.length ≤ 300 ∧ lens r ≤ 10000 := by
  obtain ⟨_, _, _, hk4⟩ := hk
  unfold cellRows at h
  by_cases h1 : cell.kind = "flop"
  · rw [if_pos h1] at h hk4
    obtain ⟨clk, data, s, r', e, name, init, e1, e2, n1, n2, n3⟩ := hk4
    rw [e1, e2] at h
    dsimp only at h
    unfold flopRows at h
    split at h
    · cases h
    cases ha : netName nm data with
    | error e => rw [ha] at h; cases h
    | ok a =>
      rw [ha, okBind] at h
      cases hb : netName nm cell.out with
      | error e => rw [hb] at h; cases h
      | ok b =>
        rw [hb, okBind] at h
        cases hc : netName nm clk with
        | error e => rw [hc] at h; cases h
        | ok d =>
          rw [hc, okBind] at h
          cases hd : checkedName name with
          | error e => rw [hd] at h; cases h
          | ok y =>
            rw [hd, okBind] at h
            cases h
            obtain rfl := checkedName_eq hd
            have l1 := netName_len hn ha
            have l2 := netName_len hn hb
            have l3 := netName_len hn hc
            have l4 : y.length ≤ 1000 := by
              simp only [nameOk, Bool.and_eq_true, decide_eq_true_eq] at n1
              exact n1.1.1.2
            refine ⟨by simp, ?_⟩
            rw [lens_cons, lens_cons, lens_nil, Str.length_append]
            have := lens_join " " (by decide) [".latch", a, b, if e = 1 then "re" else "fe", d, istr init]
            simp only [lens_cons, lens_nil] at this
            have h6 : ((if e = 1 then ("re" : Str) else ("fe" : Str)) : Str).length = 2 := by split <;> rfl
            have h7 : (".latch" : Str).length = 6 := rfl
            have h8 : (".cname " : Str).length = 7 := rfl
            allgen_close_more
  rw [if_neg h1] at h hk4
  by_cases h2 : cell.kind = "latch"
  · rw [if_pos h2] at h hk4
    obtain ⟨name, n, e⟩ := hk4
    rw [e] at h; cases h
  rw [if_neg h2] at h hk4
  split at h
  · cases h
  rename_i h3
  cases ha : mapE (netName nm) cell.ins with
  | error e => rw [ha] at h; cases h
  | ok ws =>
    rw [ha, okBind] at h
    cases hb : netName nm cell.out with
    | error e => rw [hb] at h; cases h
    | ok o =>
      rw [hb, okBind] at h
      cases h
      have l1 := netName_len hn hb
      have l2 := mapE_all (fun a b h => netName_len hn h) ha
      have l3 := mapE_len ha
      have htl : (tableRows cell.kind cell.par cell.ins.length).length ≤ 256 := Nat.le_trans (rowsUpTo_len _ _ _ _) (Nat.le_trans (Nat.pow_le_pow_right (by decide) (show cell.ins.length ≤ 8 by allgen_close_more)) (by decide))
      refine ⟨by simp; allgen_close_more, ?_⟩
      rw [lens_cons]
      have h4 := lens_join " " (by decide) (".names" :: (ws ++ [o]))
      rw [lens_cons, lens_append, lens_cons, lens_nil] at h4
      have h5 := lens_le l2
      have h6 : (".names" : Str).length = 6 := rfl
      have h7 : lens (tableRows cell.kind cell.par cell.ins.length) ≤ (tableRows cell.kind cell.par cell.ins.length).length * 11 := lens_le (b := 10) fun x hx => by
        unfold tableRows rowsUpTo at hx
        obtain ⟨row, _, rfl⟩ := List.mem_map.mp hx
        exact Nat.le_trans rowText_len (by allgen_close_more)
      have h8 : ws.length * 201 ≤ 8 * 201 := Nat.mul_le_mul_right _ (by allgen_close_more)
      have h9 : (tableRows cell.kind cell.par cell.ins.length).length * 11 ≤ 256 * 11 := Nat.mul_le_mul_right _ htl
      allgen_close_more
theorem cells_len {nm : Names} (hn : namesOk nm) : ∀ {l : List Cell} {a r : List Str}, (∀ cell ∈ l, cellOk cell) → foldE (cellStep nm) a l = .ok r → r.length ≤ a.length + 300 * l.length ∧ lens r ≤ lens a + 10000 * l.length
  | [], a, r, _, h => by cases h; simp
  | x :: l, a, r, hk, h => by
    rw [foldE_cons] at h
    unfold cellStep at h
    cases ha : cellRows nm x with
    | error e => rw [ha] at h; cases h
    | ok y =>
      rw [ha, okBind, okBind] at h
      have h1 := cellRows_len hn (hk x (.head _)) ha
      have h2 := cells_len hn (fun c hc => hk c (.tail _ hc)) h
      rw [List.length_append, lens_append] at h2
      rw [List.length_cons]; allgen_close_more
theorem outs_len {nm : Names} (hn : namesOk nm) {outs : List Str} (ho : ∀ t ∈ outs, t.length ≤ 112) : ∀ {l : List Int} {a r : Nat × List Str}, foldE (outStep nm outs) a l = .ok r → r.1 = a.1 + l.length ∧ r.2.length = a.2.length + 2 * l.length ∧ lens r.2 ≤ lens a.2 + 1000 * l.length
  | [], a, r, h => by cases h; simp
  | x :: l, a, r, h => by
    rw [foldE_cons] at h
    unfold outStep at h
    cases ha : netName nm x with
    | error e => rw [ha] at h; cases h
    | ok y =>
      rw [ha, okBind, okBind] at h
      have h1 := netName_len hn ha
      have h2 := outs_len hn ho h
      have h3 : (outs.getD a.1 "").length ≤ 112 := by
        rw [List.getD_eq_getElem?_getD]
        cases hq : outs[a.1]? with
        | none => simp; decide
        | some x => simpa using ho x (List.mem_of_getElem? hq)
      have h4 : (outText y (outs.getD a.1 "")).length ≤ 400 := by
        unfold outText
        simp only [Str.length_append]
        show 0 + 7 + _ + 1 + _ ≤ _
        allgen_close_more
      have h5 : ("1 1" : Str).length = 3 := rfl
      rw [List.length_append, lens_append, lens_cons, lens_cons, lens_nil] at h2
      simp only [List.length_cons, List.length_nil] at h2 ⊢
      allgen_close_more
end

section
open PySem PySem.W PyProof.Rows PySem.Calls
structure NetOkW (N : Net) : Prop extends NetOk N where
  name : nameOk N.name = true
  cells : ∀ cell ∈ N.cells, cellOk cell
  many : N.cells.length ≤ 20
  few : (N.outs.flatMap (·.2)).length ≤ 100

theorem wb_fn {c : Cx} {S : St} {k : Nat} (ok : Ok c (k + 50)) {N : Net} {j ji jo jc : Nat} (hN : NetAt S.sto j ji jo jc N) (hk : NetOkW N) {P : V → St → Prop}
    (p : ∀ t, writeBlif N = .ok t → P (.str t) S) (hp : StoOk S.sto) (hro : c.g.ro ≤ S.sto.length) : ∃ fd body, FnAt (KF c.w.params) 218 ["netlist"] fd body ∧
      ∀ L, XW (c.into fd 218 L (XE { c.g with stack := callEnvC fd L 218 :: c.g.stack } (writeBlif N))) ⟨[(("netlist" : Str), V.ref j)], S.sto⟩ body (Done S P) := by
  have hsl : (1000000 : Nat) ≤ sizeLine := by rw [sizeLine_eq]; decide
  obtain ⟨hk0, hk1, hk2, hk3, hk4⟩ := hk
  generalize hm : writeBlif N = res at p ⊢
  refine ⟨_, _, ⟨⟨_, _, _, by rfl⟩, by rfl, by rfl, by rfl, by decide, fun s us hu => ?_, by decide +kernel, by decide +kernel, by with_unfolding_all rfl, by with_unfolding_all rfl, by with_unfolding_all rfl⟩, fun L => ?_⟩
  · obtain ⟨a, rfl⟩ := len1 hu
    exact .of_eq (by rfl)
  unfold writeBlif at hm
  repeat tb_rel
  refine EW.callDef (f := 185) ok.W ⟨rfl, rfl, rfl⟩ (by kernel_rfl) (by kernel_rfl) ?_
  repeat tb_rel
  refine f_signal_names (k := k + 10) (by first | exact ok.into.less' | exact ok.into.less (by allgen_close_more)) (by exact hN) hk0 (by exact fun e s' h => h.bind hm) ?_ (by exact hp)
  intro nm hnm
  rw [hnm, okBind] at hm
  have hno := signal_namesOk hk0 hnm
  iterate 1 tb_rel
  refine XW.mid (fun S1 => ∃ nn, A5 (checkedName N.name = .ok nn) (S1.sto = S.sto ++ [.di nm.v, .lst ([(".model " : Str) ++ nn].map .str)]) (S1.has "netlist" (.ref j)) (S1.has "names" (.ref S.sto.length)) (S1.has "rows" (.ref (S.sto.length + 1)))) ?_ ?_
  · top_caught0
    repeat tb_rel
    refine EW.listM ?_
    repeat tb_rel
    refine EW.callDef (f := 178) ok.W ⟨rfl, rfl, rfl⟩ (by kernel_rfl) (by kernel_rfl) ?_
    repeat tb_rel
    refine EW.attr ok.W ?_
    repeat tb_rel
    refine ⟨j, 139, _, .str N.name, rfl, at_old hN.obj, by rfl, by kernel_rfl, ?_⟩
    repeat tb_rel
    refine f_checked_name (k := k + 9) (by first | exact ok.into.less' | exact ok.into.less (by allgen_close_more)) hk1 (by exact fun e s' h => h.bind hm) ?_ (by exact hp.more (by simp; exact bel_names))
    intro nn hnn
    have hnnl : nn.length ≤ 1000 := by
      obtain rfl := checkedName_eq hnn
      simp only [nameOk, Bool.and_eq_true, decide_eq_true_eq] at hk1
      exact hk1.1.1.2
    refine Op.addS (by rw [Str.length_append]; show 7 + _ ≤ _; allgen_close_more) ?_
    repeat tb_rel
    refine ⟨?_, by simp; allgen_close_more⟩
    refine ⟨rfl, nn, hnn, new1, by tb_start, by tb_start, ?_⟩
    have hn1 : (S.sto ++ [O.di nm.v]).length = S.sto.length + 1 := by simp
    rw [← hn1]; tb_start
  intro loc sto hJ0
  refine (?_ : let G0 := _; G0); intro G0
  obtain ⟨nn, hnn, g1, g2, g3, g4⟩ := hJ0
  obtain rfl : sto = _ := g1
  unfold G0; clear G0
  rw [hnn, okBind] at hm
  have hnnl : nn.length ≤ 1000 := by
    obtain rfl := checkedName_eq hnn
    simp only [nameOk, Bool.and_eq_true, decide_eq_true_eq] at hk1
    exact hk1.1.1.2
  have bs1 := bitNames_short hk0.ins
  have bs2 := bitNames_short hk0.outs
  have blen : ∀ ports : List Port, portsOk ports → (bitNames ports).length ≤ 400 := fun ports h => by
    rw [bitNames_len]
    have : ∀ l : List Port, (∀ q ∈ l, q.2.length ≤ 20) → (l.flatMap (·.2)).length ≤ 20 * l.length := by
      intro l
      induction l with
      | nil => intro _; simp
      | cons q l ih =>
        intro h
        have h1 := h q (.head _)
        have h2 := ih fun y hy => h y (.tail _ hy)
        rw [List.flatMap_cons, List.length_append, List.length_cons]; allgen_close_more
    have h1 := this ports fun q hq => (h.2 q hq).2
    have h2 := h.1
    allgen_close_more
  have bl1 := blen _ hk0.ins
  have bl2 := blen _ hk0.outs
  have ll1 : lens ((".inputs" : Str) :: bitNames N.ins) ≤ 100000 := by
    rw [lens_cons]
    have := lens_le bs1
    have h2 : (".inputs" : Str).length = 7 := rfl
    have h3 : (bitNames N.ins).length * 113 ≤ 400 * 113 := Nat.mul_le_mul_right _ bl1
    allgen_close_more
  have ll2 : lens ((".outputs" : Str) :: bitNames N.outs) ≤ 100000 := by
    rw [lens_cons]
    have := lens_le bs2
    have h2 : (".outputs" : Str).length = 8 := rfl
    have h3 : (bitNames N.outs).length * 113 ≤ 400 * 113 := Nat.mul_le_mul_right _ bl2
    allgen_close_more
  have hst : ∀ rows : List Str, StoOk (S.sto ++ [.di nm.v, .lst (rows.map .str)]) := fun rows => hp.more (by simp; exact ⟨bel_names, belL_strs _⟩)
  repeat tb_rel
  refine EW.listMeth1 (id := "list.append") ?sa ?sb ?_ ?sd ?se ?sf
  case sa => exact slot_list_append
  case sb => kernel_rfl
  case sd => exact attributeBase_plain rfl _ _
  case se => exact starEach_plain rfl _ _
  case sf => with_unfolding_all rfl
  repeat tb_rel
  refine ⟨S.sto.length + 1, _, rfl, at1, ?_⟩
  refine EW.strMeth1 (id := "str.join") ?sa ?sb ?_ ?sd ?se ?sf
  case sa => exact PySem.F.slot_str_join
  case sb => kernel_rfl
  case sd => exact attributeBase_plain rfl _ _
  case se => exact starEach_plain rfl _ _
  case sf => with_unfolding_all rfl
  repeat tb_rel
  refine ⟨_, rfl, ?_⟩
  repeat tb_rel
  refine EW.list ?_
  repeat tb_rel
  refine ⟨?_, by simp; allgen_close_more⟩
  refine EW.callDef (f := 150) ok.W ⟨rfl, rfl, rfl⟩ (by kernel_rfl) (by kernel_rfl) ?_
  repeat tb_rel
  refine EW.attr ok.W ?_
  repeat tb_rel
  refine ⟨j, 139, _, .ref ji, rfl, at_old hN.obj, by rfl, by kernel_rfl, ?_⟩
  repeat tb_rel
  refine f_bit_names (k := k + 10) (by first | exact ok.into.less' | exact ok.into.less (by allgen_close_more)) (by exact .inr ⟨ji, rfl, at_old hN.i⟩) hk0.ins ?_ (by exact hst _)
  refine Op.addL .l .l (by simp; allgen_close_more) ?_
  refine StrM.join (xs := (".inputs" : Str) :: bitNames N.ins) (joinOk' (by decide) (by allgen_close_more)) ?_
  refine Meth.append (by exact at1) (by exact Nat.le_succ_of_le hro) (by simp; allgen_close_more) ?_
  refine seqN ?_
  refine TW.st (S.sto ++ [.di nm.v, .lst ([(".model " : Str) ++ nn, Txt.join " " ((".inputs" : Str) :: bitNames N.ins)].map .str)]) ?e0 ?_
  case e0 => exact set1
  repeat tb_rel
  refine EW.callDef (f := 150) ok.W ⟨rfl, rfl, rfl⟩ (by kernel_rfl) (by kernel_rfl) ?_
  repeat tb_rel
  refine EW.attr ok.W ?_
  repeat tb_rel
  refine ⟨j, 139, _, .ref jo, rfl, at_old hN.obj, by rfl, by kernel_rfl, ?_⟩
  repeat tb_rel
  refine f_bit_names (k := k + 10) (by first | exact ok.into.less' | exact ok.into.less (by allgen_close_more)) (by exact .inr ⟨jo, rfl, at_old hN.o⟩) hk0.outs ?_ (by exact hst _)
  repeat tb_rel
  refine EW.listMeth1 (id := "list.append") ?sa ?sb ?_ ?sd ?se ?sf
  case sa => exact slot_list_append
  case sb => kernel_rfl
  case sd => exact attributeBase_plain rfl _ _
  case se => exact starEach_plain rfl _ _
  case sf => with_unfolding_all rfl
  repeat tb_rel
  refine ⟨S.sto.length + 1, _, rfl, at1, ?_⟩
  refine EW.strMeth1 (id := "str.join") ?sa ?sb ?_ ?sd ?se ?sf
  case sa => exact PySem.F.slot_str_join
  case sb => kernel_rfl
  case sd => exact attributeBase_plain rfl _ _
  case se => exact starEach_plain rfl _ _
  case sf => with_unfolding_all rfl
  repeat tb_rel
  refine ⟨_, rfl, ?_⟩
  repeat tb_rel
  refine EW.list ?_
  repeat tb_rel
  refine ⟨?_, by simp; allgen_close_more⟩
  repeat tb_rel
  refine Op.addL .l .l (by simp; allgen_close_more) ?_
  refine StrM.join (xs := (".outputs" : Str) :: bitNames N.outs) (joinOk' (by decide) (by allgen_close_more)) ?_
  refine Meth.append (by exact at1) (by exact Nat.le_succ_of_le hro) (by simp; allgen_close_more) ?_
  refine seqN ?_
  refine TW.st (S.sto ++ [.di nm.v, .lst ([(".model " : Str) ++ nn, Txt.join " " ((".inputs" : Str) :: bitNames N.ins), Txt.join " " ((".outputs" : Str) :: bitNames N.outs)].map .str)]) ?e0 ?_
  case e0 => exact set1
  repeat tb_rel
  refine EW.listMeth1 (id := "list.extend") ?sa ?sb ?_ ?sd ?se ?sf
  case sa => exact PySem.F.slot_list_extend
  case sb => kernel_rfl
  case sd => exact attributeBase_plain rfl _ _
  case se => exact starEach_plain rfl _ _
  case sf => with_unfolding_all rfl
  repeat tb_rel
  refine ⟨S.sto.length + 1, _, rfl, at1, ?_⟩
  refine EW.list ?_
  repeat tb_rel
  refine ⟨?_, by simp; allgen_close_more⟩
  refine Meth.extend (by exact at1) (by exact Nat.le_succ_of_le hro) (by simp; allgen_close_more) ?_
  refine seqN ?_
  refine TW.st (S.sto ++ [.di nm.v, .lst ((headRows nn N).map .str)]) ?e0 ?_
  case e0 => exact set1
  repeat tb_rel
  refine SW.for ?_
  refine IW.of ?_
  refine EW.attr ok.W ?_
  repeat tb_rel
  refine ⟨j, 139, _, .ref jc, rfl, at_old hN.obj, by rfl, by kernel_rfl, ?_⟩
  refine ⟨_, _, ItW.ref ok.h .name (at_old hN.c), ?_⟩
  have hh1 : (headRows nn N).length = 6 := rfl
  have hh2 : lens (headRows nn N) ≤ 210000 := by
    unfold headRows
    have e1 := lens_join " " (by decide) ((".inputs" : Str) :: bitNames N.ins)
    have e2 := lens_join " " (by decide) ((".outputs" : Str) :: bitNames N.outs)
    have e3 : ((".model " : Str) ++ nn).length = 7 + nn.length := by rw [Str.length_append]; rfl
    have e4 : (".names $false" : Str).length = 13 := rfl
    have e5 : (".names $true" : Str).length = 12 := rfl
    have e6 : ("1" : Str).length = 1 := rfl
    simp only [lens_cons, lens_nil] at e1 e2 ll1 ll2 ⊢
    allgen_close_more
  refine ⟨fun i S' => ∃ rows, A6 (foldE (cellStep nm) (headRows nn N) (N.cells.take i) = .ok rows) (S'.sto = S.sto ++ [.di nm.v, .lst (rows.map .str)]) (S'.has "netlist" (.ref j)) (S'.has "names" (.ref S.sto.length)) (S'.has "rows" (.ref (S.sto.length + 1))) (S'.has "outs" (.lst ((bitNames N.outs).map .str))), ⟨_, rfl, rfl, by tb_start, by tb_start, by tb_start, by tb_start⟩, fun i S' h => ?_, ?_, ?_⟩
  · obtain ⟨rows, _, e, _⟩ := h
    rw [e]; exact at_old hN.c
  · clear g2 g3 g4 loc
    intro i v loc sto hv hJ0
    refine (?_ : let G0 := _; G0); intro G0
    obtain ⟨rows, g0, g1, g2, g3, g4, g5⟩ := hJ0
    obtain rfl : sto = _ := g1
    unfold G0; clear G0
    intro Q0 hT0
    rw [List.getElem?_map] at hv
    obtain ⟨cell, hq, rfl⟩ := Option.map_eq_some_iff.mp hv
    have hcl := cells_len hno (fun c hc => hk2 c (List.mem_of_mem_take hc)) g0
    rw [List.length_take] at hcl
    have hco := hk2 cell (List.mem_of_getElem? hq)
    refine AsW.name ?_ (by exact ⟨rfl, .inl rfl⟩)
    repeat tb_rel
    refine EW.listMeth1 (id := "list.extend") ?sa ?sb ?_ ?sd ?se ?sf
    case sa => exact PySem.F.slot_list_extend
    case sb => kernel_rfl
    case sd => exact attributeBase_plain rfl _ _
    case se => exact starEach_plain rfl _ _
    case sf => with_unfolding_all rfl
    repeat tb_rel
    refine ⟨S.sto.length + 1, _, rfl, at1, ?_⟩
    refine EW.callDef (f := 211) ok.W ⟨rfl, rfl, rfl⟩ (by kernel_rfl) (by kernel_rfl) ?_
    repeat tb_rel
    have hstep : cellStep nm rows cell = (cellRows nm cell >>= fun r => .ok (rows ++ r)) := rfl
    refine f_cell_rows (k := k + 10) (nm := nm) (by first | exact ok.into.less' | exact ok.into.less (by allgen_close_more)) (by exact at0) hno hco (by exact fun e s' h => by rw [split_at hq] at hm; exact XE.fold g0 hstep hm h) ?_ (by exact hst _)
    intro r hr
    have hrl := cellRows_len hno hco hr
    refine Meth.extend (by exact at1) (by exact Nat.le_succ_of_le hro) (by simp; allgen_close_more) ?_
    repeat tb_rel
    refine ⟨rows ++ r, ?_, ?_, by tb_start, by tb_start, by tb_start, by tb_start⟩
    · rw [take_snoc hq]
      exact foldE_snoc g0 (by rw [hstep, hr]; rfl)
    · show (S.sto ++ [O.di nm.v, O.lst _]).set (S.sto.length + 1) _ = _
      rw [set1, List.map_append]
  clear g2 g3 g4 loc
  intro loc sto hJ0
  refine (?_ : let G0 := _; G0); intro G0
  obtain ⟨rows, g0, g1, g2, g3, g4, g5⟩ := hJ0
  obtain rfl : sto = _ := g1
  unfold G0; clear G0
  rw [List.length_map, List.take_length] at g0
  have hcl := cells_len hno hk2 g0
  rw [g0, okBind] at hm
  clear g0
  repeat tb_rel
  refine SW.for ?_
  refine IW.of ?_
  refine EW.attr ok.W ?_
  repeat tb_rel
  refine ⟨j, 139, _, .ref jo, rfl, at_old hN.obj, by rfl, by kernel_rfl, ?_⟩
  refine ⟨_, _, ItW.ref ok.h .tup (at_old hN.o), ?_⟩
  refine ⟨fun i S' => ∃ st, A6 (foldE (outStep nm (bitNames N.outs)) (0, rows) ((N.outs.take i).flatMap (·.2)) = .ok st) (S'.sto = S.sto ++ [.di nm.v, .lst (st.2.map .str)]) (S'.has "names" (.ref S.sto.length)) (S'.has "rows" (.ref (S.sto.length + 1))) (S'.has "outs" (.lst ((bitNames N.outs).map .str))) (S'.has "place" (.int st.1)), ⟨(0, rows), rfl, rfl, by tb_start, by tb_start, by tb_start, by tb_start⟩, fun i S' h => ?_, ?_, ?_⟩
  · obtain ⟨st, _, e, _⟩ := h
    rw [e]; exact at_old hN.o
  · clear g2 g3 g4 g5 loc
    intro i v loc sto hv hJ0
    refine (?_ : let G0 := _; G0); intro G0
    obtain ⟨st, g0, g1, g2, g3, g4, g5⟩ := hJ0
    obtain rfl : sto = _ := g1
    unfold G0; clear G0
    intro Q0 hT0
    rw [List.getElem?_map] at hv
    obtain ⟨⟨n, bs⟩, hq, rfl⟩ := Option.map_eq_some_iff.mp hv
    have hbk := hk0.nets _ (List.mem_append_right _ (List.mem_of_getElem? hq))
    dsimp only at hbk
    refine AsW.unpack (.inl rfl) ?_ ok.h (by rfl)
    refine AsL.cons (AsW.name ?_ (by exact ⟨rfl, .inl rfl⟩))
    refine AsL.cons (AsW.name ?_ (by exact ⟨rfl, .inl rfl⟩))
    refine AsL.nil ?_
    repeat tb_rel
    refine SW.for ?_
    refine IW.of ?_
    repeat tb_rel
    refine ⟨_, _, ItW.lst ok.h .name, ?_⟩
    have hfl : N.outs.flatMap (·.2) = (N.outs.take i).flatMap (·.2) ++ (bs ++ (N.outs.drop (i + 1)).flatMap (·.2)) := by
      conv => lhs; rw [split_at hq]
      rw [List.flatMap_append, List.flatMap_cons]
    refine ⟨fun q S2 => ∃ st, A6 (foldE (outStep nm (bitNames N.outs)) (0, rows) ((N.outs.take i).flatMap (·.2) ++ bs.take q) = .ok st) (S2.sto = S.sto ++ [.di nm.v, .lst (st.2.map .str)]) (S2.has "names" (.ref S.sto.length)) (S2.has "rows" (.ref (S.sto.length + 1))) (S2.has "outs" (.lst ((bitNames N.outs).map .str))) (S2.has "place" (.int st.1)), ⟨st, by simpa using g0, rfl, by tb_start, by tb_start, by tb_start, by tb_start⟩, fun _ _ _ => trivial, ?_, ?_⟩
    · clear g0 g2 g3 g4 g5 st
      intro q v loc2 sto2 hv2 hJ0
      refine (?_ : let G0 := _; G0); intro G0
      obtain ⟨st, g0, g1, g2, g3, g4, g5⟩ := hJ0
      obtain rfl : sto2 = _ := g1
      unfold G0; clear G0
      intro Q0 hT0
      rw [List.getElem?_map] at hv2
      obtain ⟨net, hnet, rfl⟩ := Option.map_eq_some_iff.mp hv2
      have hnet : bs[q]? = some net := hnet
      have hall : N.outs.flatMap (·.2) = ((N.outs.take i).flatMap (·.2) ++ bs.take q) ++ net :: (bs.drop (q + 1) ++ (N.outs.drop (i + 1)).flatMap (·.2)) := by
        rw [hfl]
        conv => lhs; rw [split_at hnet]
        simp
      have hol := outs_len hno bs2 g0
      dsimp only at hol
      rw [Nat.zero_add] at hol
      have hlt : st.1 < (bitNames N.outs).length := by rw [bitNames_len, hall, hol.1]; simp only [List.length_append, List.length_cons]; allgen_close_more
      have hfew : ((N.outs.take i).flatMap (·.2) ++ bs.take q).length ≤ 100 := by
        rw [hall] at hk4; simp only [List.length_append, List.length_cons] at hk4 ⊢; allgen_close_more
      have hol2 : ((bitNames N.outs).getD st.1 "").length ≤ 112 := by
        rw [List.getD_eq_getElem?_getD]
        cases hq : (bitNames N.outs)[st.1]? with
        | none => simp; decide
        | some x => simpa using bs2 x (List.mem_of_getElem? hq)
      have hstep : outStep nm (bitNames N.outs) st net = (netName nm net >>= fun x => .ok (st.1 + 1, st.2 ++ [outText x ((bitNames N.outs).getD st.1 ""), ("1 1" : Str)])) := rfl
      refine AsW.name ?_ (by exact ⟨rfl, .inl rfl⟩)
      repeat tb_rel
      refine EW.listMeth1 (id := "list.append") ?sa ?sb ?_ ?sd ?se ?sf
      case sa => exact slot_list_append
      case sb => kernel_rfl
      case sd => exact attributeBase_plain rfl _ _
      case se => exact starEach_plain rfl _ _
      case sf => with_unfolding_all rfl
      repeat tb_rel
      refine ⟨S.sto.length + 1, _, rfl, at1, ?_⟩
      refine EW.fstr ?_
      refine JW.cons ?_
      repeat tb_rel
      refine ⟨_, rfl, ?_, ?_⟩
      · show 7 ≤ _; allgen_close_more
      refine JW.cons (EW.fmt ?_)
      refine EW.callDef (f := 192) ok.W ⟨rfl, rfl, rfl⟩ (by kernel_rfl) (by kernel_rfl) ?_
      repeat tb_rel
      refine f_net_name (k := k + 10) (nm := nm) (by first | exact ok.into.less' | exact ok.into.less (by allgen_close_more)) (by exact at0) (hbk net (List.mem_of_getElem? hnet)) (by exact fun e s' h => by rw [hall] at hm; exact XE.fold g0 hstep hm h) ?_ (by exact hst _)
      intro x hx
      have hxl := netName_len hno hx
      have l1 : ((("" : Str) ++ ".names ") ++ x).length = 7 + x.length := by simp only [Str.length_append]; rfl
      have l2 : (((("" : Str) ++ ".names ") ++ x) ++ " ").length = 8 + x.length := by rw [Str.length_append, l1]; show 7 + x.length + 1 = _; allgen_close_more
      have l3 : (outText x ((bitNames N.outs).getD st.1 "")).length ≤ 400 := by unfold outText; rw [Str.length_append, l2]; allgen_close_more
      refine .inl ⟨_, rfl, by allgen_close_more, _, rfl, ?_, ?_⟩
      · show ((("" : Str) ++ ".names ") ++ x).length ≤ _; allgen_close_more
      refine JW.cons ?_
      repeat tb_rel
      refine ⟨_, rfl, ?_, ?_⟩
      · show (((("" : Str) ++ ".names ") ++ x) ++ " ").length ≤ _; allgen_close_more
      refine JW.cons (EW.fmt ?_)
      repeat tb_rel
      refine Item.lst (v := .str ((bitNames N.outs).getD st.1 "")) (by allgen_close_more) (by have := blen _ hk0.outs; allgen_close_more) (by simp [hlt, List.getD]) ?_
      refine .inl ⟨_, rfl, by allgen_close_more, _, rfl, ?_, ?_⟩
      · show (outText x ((bitNames N.outs).getD st.1 "")).length ≤ _; allgen_close_more
      refine JW.nil ?_ ?_
      · show (outText x ((bitNames N.outs).getD st.1 "")).length ≤ _; allgen_close_more
      refine Meth.append (by exact at1) (by exact Nat.le_succ_of_le hro) (by simp; allgen_close_more) ?_
      refine seqN ?_
      refine TW.st (S.sto ++ [.di nm.v, .lst ((st.2 ++ [outText x ((bitNames N.outs).getD st.1 "")]).map .str)]) ?e0 ?_
      case e0 =>
        show (S.sto ++ [O.di nm.v, O.lst _]).set (S.sto.length + 1) _ = _
        rw [set1, List.map_append]; rfl
      repeat tb_rel
      refine EW.listMeth1 (id := "list.append") ?sa ?sb ?_ ?sd ?se ?sf
      case sa => exact slot_list_append
      case sb => kernel_rfl
      case sd => exact attributeBase_plain rfl _ _
      case se => exact starEach_plain rfl _ _
      case sf => with_unfolding_all rfl
      repeat tb_rel
      refine ⟨S.sto.length + 1, _, rfl, at1, ?_⟩
      repeat tb_rel
      refine Meth.append (by exact at1) (by exact Nat.le_succ_of_le hro) (by simp; allgen_close_more) ?_
      repeat tb_rel
      refine ⟨(st.1 + 1, st.2 ++ [outText x ((bitNames N.outs).getD st.1 ""), ("1 1" : Str)]), ?_, ?_, by tb_start, by tb_start, by tb_start, ?_⟩
      · rw [take_snoc hnet, ← List.append_assoc]
        exact foldE_snoc g0 (by rw [hstep, hx]; rfl)
      · show (S.sto ++ [O.di nm.v, O.lst _]).set (S.sto.length + 1) _ = _
        rw [set1]; simp
      · show St.has _ _ (.int ((st.1 + 1 : Nat) : Int))
        rw [Int.natCast_add]; tb_start
    · intro loc2 sto2 hJ0
      refine (?_ : let G0 := _; G0); intro G0
      obtain ⟨st, g0, g1, g2, g3, g4, g5⟩ := hJ0
      unfold G0; clear G0
      refine seqN (XW.nil (turnN hT0 ⟨st, ?_, g1, g2, g3, g4, g5⟩))
      rw [List.length_map, List.take_length] at g0
      rw [take_snoc hq, List.flatMap_append]
      simpa using g0
  clear g2 g3 g4 g5 loc
  intro loc sto hJ0
  refine (?_ : let G0 := _; G0); intro G0
  obtain ⟨st, g0, g1, g2, g3, g4, g5⟩ := hJ0
  obtain rfl : sto = _ := g1
  unfold G0; clear G0
  rw [List.length_map, List.take_length] at g0
  have hol := outs_len hno bs2 g0
  rw [g0, okBind] at hm
  dsimp only at hol
  repeat tb_rel
  refine EW.listMeth1 (id := "list.append") ?sa ?sb ?_ ?sd ?se ?sf
  case sa => exact slot_list_append
  case sb => kernel_rfl
  case sd => exact attributeBase_plain rfl _ _
  case se => exact starEach_plain rfl _ _
  case sf => with_unfolding_all rfl
  repeat tb_rel
  refine ⟨S.sto.length + 1, _, rfl, at1, ?_⟩
  repeat tb_rel
  refine Meth.append (by exact at1) (by exact Nat.le_succ_of_le hro) (by simp; allgen_close_more) ?_
  refine seqN ?_
  refine TW.st (S.sto ++ [.di nm.v, .lst ((st.2 ++ [(".end" : Str)]).map .str)]) ?e0 ?_
  case e0 =>
    show (S.sto ++ [O.di nm.v, O.lst _]).set (S.sto.length + 1) _ = _
    rw [set1, List.map_append]; rfl
  have hle : lens (st.2 ++ [(".end" : Str)]) ≤ 600000 := by
    rw [lens_append, lens_cons, lens_nil]
    have : (".end" : Str).length = 4 := rfl
    allgen_close_more
  repeat tb_rel
  refine EW.strMeth1 (id := "str.join") ?sa ?sb ?_ ?sd ?se ?sf
  case sa => exact PySem.F.slot_str_join
  case sb => kernel_rfl
  case sd => exact attributeBase_plain rfl _ _
  case se => exact starEach_plain rfl _ _
  case sf => with_unfolding_all rfl
  repeat tb_rel
  refine ⟨_, rfl, ?_⟩
  repeat tb_rel
  refine StrM.joinRef (by exact at1) (joinOk' (by decide) (by allgen_close_more)) ?_
  repeat tb_rel
  have hjl := lens_join "\n" (by decide) (st.2 ++ [(".end" : Str)])
  refine Op.addS (by rw [Str.length_append]; show _ + 1 ≤ _; allgen_close_more) ?_
  repeat tb_rel
  refine Back.pl (S2 := ⟨_, _⟩) (σ' := S.sto) (ex := [_, _]) rfl rfl trivial hp (p _ hm.symm)

theorem f_write_blif {c : Cx} {S : St} {k : Nat} (ok : Ok c (k + 50)) {N : Net} {j ji jo jc : Nat} (hN : NetAt S.sto j ji jo jc N) (hk : NetOkW N) {P : V → St → Prop}
    (hX : ∀ ex s', XE c.g (writeBlif N) ex s' → c.X ex s')
    (p : ∀ t, writeBlif N = .ok t → P (.str t) S) (hp : StoOk S.sto) : CW c S (.ref 218) [.ref j] P := by
  refine OWs.ro fun hro => ?_
  obtain ⟨fd, body, F, hB⟩ := wb_fn ok hN hk p hp hro
  obtain ⟨oc, od, sl, ho⟩ := F.ho
  exact CW.def (names := ["netlist"]) (ds := []) (dvs := []) (XEg c.g (writeBlif N)) ok.W ho F.hcd F.hbody F.hclo ok.room rfl (fun _ _ => .nil) F.hnd (fun s us _ hu => by rw [List.append_nil]; exact F.hb s us hu) F.hkinds F.hcn (XE.leave ok hX) hB F.hco F.hgen F.hk
end

section
open PySem PySem.W PyProof.Rows PySem.Calls
noncomputable abbrev Net.bump (N : Net) (w : Nat) : Net := { N with count := N.count + w }
noncomputable abbrev Net.addIn (N : Net) (name : Str) (w : Nat) : Net := { N with count := N.count + w, ins := N.ins ++ [(name, (List.range w).map fun (i : Nat) => (N.count : Int) + (i : Int))] }
noncomputable abbrev Net.addOut (N : Net) (name : Str) (bits : List Int) : Net := { N with outs := N.outs ++ [(name, bits)] }
noncomputable abbrev Net.addCell (N : Net) (cell : Cell) : Net := { N with cells := N.cells ++ [cell] }

theorem NetO.bel {N : Net} {ji jo jc n : Nat} (h1 : ji < n) (h2 : jo < n) (h3 : jc < n) : (NetO N ji jo jc).bel n := ⟨trivial, trivial, h1, h2, h3, trivial⟩
theorem NetAt.lts {σ : Sto} {j ji jo jc : Nat} {N : Net} (h : NetAt σ j ji jo jc N) : ji < σ.length ∧ jo < σ.length ∧ jc < σ.length :=
  ⟨(List.getElem?_eq_some_iff.mp h.i).1, (List.getElem?_eq_some_iff.mp h.o).1, (List.getElem?_eq_some_iff.mp h.c).1⟩
theorem StoOk.set {σ : Sto} {j : Nat} {o : O} (h : StoOk σ) (ho : o.bel σ.length) : StoOk (σ.set j o) := by
  intro o' h'
  rw [List.length_set]
  rcases List.mem_or_eq_of_mem_set h' with h' | rfl
  · exact h _ h'
  · exact ho

theorem netO_count {N : Net} {ji jo jc : Nat} : O.inst 139 (putV [("name", .str N.name), ("count", .int N.count), ("inputs", .ref ji), ("outputs", .ref jo), ("cells", .ref jc)] "count" (.int ((N.count : Int) + 1))) = NetO (N.bump 1) ji jo jc := by
  simp only [putV]
  rw [if_neg (by decide +kernel), if_pos trivial]
  rfl
theorem f_new_net {c : Cx} {S : St} {k : Nat} (ok : Ok c (k + 1)) {N : Net} {j ji jo jc : Nat} (hN : NetAt S.sto j ji jo jc N) (hroj : c.g.ro ≤ j) {P : V → St → Prop}
    (p : P (.int N.count) ⟨S.loc, S.sto.set j (NetO (N.bump 1) ji jo jc)⟩) (hp : StoOk S.sto) : CW c S (.ref 87) [.ref j] P := by
  refine CW.def (names := ["self"]) (ds := []) (dvs := []) noX ok.W (by rfl) (by rfl) (by rfl) (by rfl) ok.room (by rfl) (fun _ _ => .nil) (by decide +kernel) (fun s us _ hu => ?_) (by decide +kernel) (by decide +kernel) (fun _ _ _ h => h.elim) fun L => ?_
  · obtain ⟨a, rfl⟩ := len1 hu
    exact .of_eq (by rfl)
  repeat tb_rel
  refine EW.attr ok.W ?_
  repeat tb_rel
  refine ⟨j, 139, _, .int N.count, rfl, by exact hN.obj, by rfl, by kernel_rfl, ?_⟩
  repeat tb_rel
  refine SW.augAttr ok.W ?_
  repeat tb_rel
  refine ⟨j, 139, _, .int N.count, rfl, by exact hN.obj, by rfl, by kernel_rfl, ?_⟩
  repeat tb_rel
  refine ⟨by exact hN.obj, hroj, by simp, ?_⟩
  repeat tb_rel
  have := hN.lts
  refine Back.pl (S2 := ⟨_, _⟩) (σ' := S.sto.set j (NetO (N.bump 1) ji jo jc)) (ex := []) ?_ (by simp) trivial (hp.set (NetO.bel this.1 this.2.1 this.2.2)) p
  show S.sto.set j (O.inst 139 _) = _
  rw [netO_count, List.append_nil]

theorem NetAt.bump {σ : Sto} {j ji jo jc : Nat} {N : Net} (h : NetAt σ j ji jo jc N) {N' : Net} (hi : N'.ins = N.ins) (ho : N'.outs = N.outs) (hc : N'.cells = N.cells) (hd : j ≠ ji ∧ j ≠ jo ∧ j ≠ jc) : NetAt (σ.set j (NetO N' ji jo jc)) j ji jo jc N' where
  obj := by rw [List.getElem?_set_self (List.getElem?_eq_some_iff.mp h.obj).1]
  i := by rw [List.getElem?_set_ne hd.1, hi]; exact h.i
  o := by rw [List.getElem?_set_ne hd.2.1, ho]; exact h.o
  c := by rw [List.getElem?_set_ne hd.2.2, hc]; exact h.c
theorem set_old {σ r : Sto} {j : Nat} {o : O} (h : j < σ.length) : (σ ++ r).set j o = σ.set j o ++ r := List.set_append_left _ _ h
theorem Ok.lim {c : Cx} {k : Nat} (h : Ok c k) : k < 20000 := by
  have := h.d
  have h2 : recursionLimit ≤ 20000 := by decide
  allgen_close_more

theorem f_new_nets {c : Cx} {S : St} {k : Nat} (ok : Ok c (k + 10)) {N : Net} {j ji jo jc w : Nat} (hN : NetAt S.sto j ji jo jc N) (hd : j ≠ ji ∧ j ≠ jo ∧ j ≠ jc) (hroj : c.g.ro ≤ j) (hw : w ≤ 100) {P : V → St → Prop}
    (p : P (.lst (((List.range w).map fun (i : Nat) => (N.count : Int) + (i : Int)).map .int)) ⟨S.loc, S.sto.set j (NetO (N.bump w) ji jo jc)⟩) (hp : StoOk S.sto) : CW c S (.ref 92) [.ref j, .int w] P := by
  have hsl : (1000000 : Nat) ≤ sizeLine := by rw [sizeLine_eq]; decide
  have hlt := hN.lts
  have hjlt := (List.getElem?_eq_some_iff.mp hN.obj).1
  have hset0 : S.sto.set j (NetO (N.bump 0) ji jo jc) = S.sto := by
    obtain ⟨h1, h2⟩ := List.getElem?_eq_some_iff.mp hN.obj
    rw [show NetO (N.bump 0) ji jo jc = S.sto[j] from h2.symm]; exact List.set_getElem_self h1
  have hson : ∀ i, StoOk (S.sto.set j (NetO (N.bump i) ji jo jc)) := fun i => hp.set (NetO.bel hlt.1 hlt.2.1 hlt.2.2)
  refine CW.def (names := ["self", "width"]) (ds := []) (dvs := []) noX ok.W (by rfl) (by rfl) (by rfl) (by rfl) ok.room (by rfl) (fun _ _ => .nil) (by decide +kernel) (fun s us _ hu => ?_) (by decide +kernel) (by decide +kernel) (fun _ _ _ h => h.elim) fun L => ?_
  · obtain ⟨a, b, rfl⟩ := len2 hu
    exact .of_eq (by rfl)
  repeat tb_rel
  refine EW.comp (cl := [("self", L + 1)]) ?_ (ClOk.one (by rfl) (by rfl) fun C => .inl (by rfl))
  refine IW.range1 ok.W ⟨rfl, rfl, rfl⟩ ok.h .name (by kernel_rfl) ?_
  repeat tb_rel
  refine ⟨_, rfl, by allgen_close_more, by allgen_close_more, ?_⟩
  refine ⟨fun C i S2 => S2.sto = S.sto.set j (NetO (N.bump i) ji jo jc) ++ [.lst (((List.range i).map fun (i : Nat) => (N.count : Int) + (i : Int)).map .int)] ∧ S2.has "self" (.ref j), fun C => ⟨by rw [hset0]; rfl, (freeLoc_some (by rfl)).trans (by rfl)⟩, fun _ _ _ _ => trivial, ?_, ?_⟩
  · intro C i v loc2 sto2 hv hJ0
    refine (?_ : let G0 := _; G0); intro G0
    obtain ⟨g1, g2⟩ := hJ0
    obtain ⟨hi, rfl⟩ := rng1 hv
    obtain rfl : sto2 = _ := g1
    unfold G0; clear G0
    intro Q0 hT0
    refine AsW.name ?_ ⟨rfl, .inl rfl⟩
    refine TsW.nil (compY hT0 ?_)
    intro R0 hR0
    refine EW.method 87 ok.W ?ma ?pl ?mb ?mc
    case mb => with_unfolding_all rfl
    case mc => exact .inl rfl
    repeat tb_rel
    refine ⟨j, 139, _, rfl, (by show (S.sto.set j _ ++ _)[j]? = _; exact at_old (List.getElem?_set_self hjlt)), by rfl, by kernel_rfl, ?_⟩
    repeat tb_rel
    have hNi := (hN.bump (N' := N.bump i) rfl rfl rfl hd)
    refine f_new_net (k := k + 1) (N := N.bump i) (by exact ok.into.comp.less (by allgen_close_more)) (by exact hNi.grow) (by exact hroj) ?_ (by exact (hson i).push (belL_ints _))
    refine hR0 _ _ ?_
    refine ⟨((List.range i).map fun (i : Nat) => (N.count : Int) + (i : Int)).map .int, ?_, by simp; allgen_close_more, ?_, by tb_start⟩
    · show ((S.sto.set j _ ++ [O.lst _]).set j _)[_]? = _
      rw [set_old (by simpa using hjlt), List.set_set]
      simp
    · show ((S.sto.set j _ ++ [O.lst _]).set j _).set _ _ = _
      rw [set_old (by simpa using hjlt), List.set_set]
      simp [List.range_succ]
      rfl
  · intro C loc2 sto2 hJ0
    refine (?_ : let G0 := _; G0); intro G0
    obtain ⟨g1, g2⟩ := hJ0
    unfold G0; clear G0
    simp only [List.length_map, List.length_range, Int.toNat_natCast] at g1
    refine Back.frz (S2 := ⟨loc2, sto2⟩) (σ' := S.sto.set j (NetO (N.bump w) ji jo jc)) g1 (by simp) (belL_ints _) (hson w) ?_
    repeat tb_rel
    refine Back.pl (S2 := ⟨_, _⟩) (σ' := S.sto.set j (NetO (N.bump w) ji jo jc)) (ex := []) (by simp) (by simp) (by exact belL_ints _) (hson w) p
end

section
open PySem PySem.W PyProof.Rows PySem.Calls
theorem belL_ports {n : Nat} (l : List Port) : belL n (l.map Port.v) := by
  rw [belL_iff]
  intro v hv
  obtain ⟨p, _, rfl⟩ := List.mem_map.mp hv
  exact ⟨trivial, belL_ints _, trivial⟩
theorem bel_cell {n : Nat} (x : Cell) : x.v.bel n := by
  refine ⟨trivial, trivial, belL_ints _, ?_, trivial⟩
  obtain ⟨kind, out, ins, par⟩ := x
  cases par
  · trivial
  · trivial
  · exact ⟨trivial, trivial, trivial⟩
  · exact ⟨trivial, trivial, trivial, trivial⟩
theorem belL_cells {n : Nat} (l : List Cell) : belL n (l.map Cell.v) := by
  rw [belL_iff]
  intro v hv
  obtain ⟨p, _, rfl⟩ := List.mem_map.mp hv
  exact bel_cell p

theorem f_add_input {c : Cx} {S : St} {k : Nat} (ok : Ok c (k + 20)) {N : Net} {j ji jo jc w : Nat} {name : Str} (hN : NetAt S.sto j ji jo jc N) (hd : j ≠ ji ∧ j ≠ jo ∧ j ≠ jc) (hroj : c.g.ro ≤ j) (hroi : c.g.ro ≤ ji) (hw : w ≤ 100) (hz : N.ins.length ≤ 100) {P : V → St → Prop}
    (p : P (.lst (((List.range w).map fun (i : Nat) => (N.count : Int) + (i : Int)).map .int)) ⟨S.loc, (S.sto.set j (NetO (N.addIn name w) ji jo jc)).set ji (.lst ((N.addIn name w).ins.map Port.v))⟩) (hp : StoOk S.sto) : CW c S (.ref 99) [.ref j, .str name, .int w] P := by
  have hsl : (1000000 : Nat) ≤ sizeLine := by rw [sizeLine_eq]; decide
  have hlt := hN.lts
  have hjlt := (List.getElem?_eq_some_iff.mp hN.obj).1
  have hson : StoOk (S.sto.set j (NetO (N.bump w) ji jo jc)) := hp.set (NetO.bel hlt.1 hlt.2.1 hlt.2.2)
  have hNi := (hN.bump (N' := N.bump w) rfl rfl rfl hd)
  refine CW.def (names := ["self", "name", "width"]) (ds := []) (dvs := []) noX ok.W (by rfl) (by rfl) (by rfl) (by rfl) ok.room (by rfl) (fun _ _ => .nil) (by decide +kernel) (fun s us _ hu => ?_) (by decide +kernel) (by decide +kernel) (fun _ _ _ h => h.elim) fun L => ?_
  · obtain ⟨a, b, d, rfl⟩ := len3 hu
    exact .of_eq (by rfl)
  repeat tb_rel
  refine EW.method 92 ok.W ?ma ?pl ?mb ?mc
  case mb => with_unfolding_all rfl
  case mc => exact .inr ⟨_, _, rfl, by exact starEach_plain rfl _ _, by with_unfolding_all rfl⟩
  repeat tb_rel
  refine ⟨j, 139, _, rfl, by exact hN.obj, by rfl, by kernel_rfl, ?_⟩
  repeat tb_rel
  refine f_new_nets (k := k + 1) (by first | exact ok.into.less' | exact ok.into.less (by allgen_close_more)) (by exact hN) hd (by exact hroj) hw ?_ (by exact hp)
  repeat tb_rel
  refine EW.listMeth1 (id := "list.append") ?sa ?sb ?_ ?sd ?se ?sf
  case sa => exact slot_list_append
  case sb => kernel_rfl
  case sd => exact attributeBase_plain rfl _ _
  case se => exact starEach_plain rfl _ _
  case sf => with_unfolding_all rfl
  refine EW.attr ok.W ?_
  repeat tb_rel
  refine ⟨j, 139, _, .ref ji, rfl, by exact hNi.obj, by rfl, by kernel_rfl, ?_⟩
  refine ⟨ji, _, rfl, by exact hNi.i, ?_⟩
  refine EW.tuple ?_
  repeat tb_rel
  refine EW.callType (T := "list") ok.W ⟨rfl, rfl, rfl⟩ (by kernel_rfl) (by kernel_rfl) ?_
  repeat tb_rel
  refine ListC.seq .l (by simp; allgen_close_more) ?_
  repeat tb_rel
  refine ⟨?_, by simp; allgen_close_more⟩
  refine Meth.append (by exact hNi.i) (by exact hroi) (by simp; allgen_close_more) ?_
  repeat tb_rel
  refine Back.pl (S2 := ⟨_, _⟩) (σ' := (S.sto.set j (NetO (N.addIn name w) ji jo jc)).set ji (.lst ((N.addIn name w).ins.map Port.v))) (ex := []) ?_ (by simp) (by exact belL_ints _) (hson.set (by exact belL_ports _)) p
  refine Eq.trans ?_ (List.append_nil _).symm
  show (S.sto.set j _).set ji (.lst _) = _
  rw [List.map_append]
  rfl

theorem f_add_output {c : Cx} {S : St} {k : Nat} (ok : Ok c (k + 20)) {N : Net} {j ji jo jc : Nat} {name : Str} {bits : List Int} {a : V} (hN : NetAt S.sto j ji jo jc N) (ha : S.seq a (bits.map .int)) (hroo : c.g.ro ≤ jo) (hw : bits.length ≤ 100) (hz : N.outs.length ≤ 100) {P : V → St → Prop}
    (p : P .none ⟨S.loc, S.sto.set jo (.lst ((N.addOut name bits).outs.map Port.v))⟩) (hp : StoOk S.sto) : CW c S (.ref 106) [.ref j, .str name, a] P := by
  have hsl : (1000000 : Nat) ≤ sizeLine := by rw [sizeLine_eq]; decide
  refine CW.def (names := ["self", "name", "nets"]) (ds := []) (dvs := []) noX ok.W (by rfl) (by rfl) (by rfl) (by rfl) ok.room (by rfl) (fun _ _ => .nil) (by decide +kernel) (fun s us _ hu => ?_) (by decide +kernel) (by decide +kernel) (fun _ _ _ h => h.elim) fun L => ?_
  · obtain ⟨a, b, d, rfl⟩ := len3 hu
    exact .of_eq (by rfl)
  repeat tb_rel
  refine EW.listMeth1 (id := "list.append") ?sa ?sb ?_ ?sd ?se ?sf
  case sa => exact slot_list_append
  case sb => kernel_rfl
  case sd => exact attributeBase_plain rfl _ _
  case se => exact starEach_plain rfl _ _
  case sf => with_unfolding_all rfl
  refine EW.attr ok.W ?_
  repeat tb_rel
  refine ⟨j, 139, _, .ref jo, rfl, by exact hN.obj, by rfl, by kernel_rfl, ?_⟩
  refine ⟨jo, _, rfl, by exact hN.o, ?_⟩
  refine EW.tuple ?_
  repeat tb_rel
  refine EW.callType (T := "list") ok.W ⟨rfl, rfl, rfl⟩ (by kernel_rfl) (by kernel_rfl) ?_
  repeat tb_rel
  refine ListC.seq (by exact ha) (by simp; allgen_close_more) ?_
  repeat tb_rel
  refine ⟨?_, by simp; allgen_close_more⟩
  refine Meth.append (by exact hN.o) (by exact hroo) (by simp; allgen_close_more) ?_
  repeat tb_rel
  refine Back.pl (S2 := ⟨_, _⟩) (σ' := S.sto.set jo (.lst ((N.addOut name bits).outs.map Port.v))) (ex := []) ?_ (by simp) trivial (hp.set (by exact belL_ports _)) p
  refine Eq.trans ?_ (List.append_nil _).symm
  show S.sto.set jo (.lst _) = _
  rw [List.map_append]
  rfl

noncomputable def InsAt (S : St) (a : V) (ins : List Int) : Prop := S.seq a (ins.map .int) ∨ a = .tup (ins.map .int)
theorem f_drive {c : Cx} {S : St} {k : Nat} (ok : Ok c (k + 20)) {N : Net} {j ji jo jc : Nat} {a : V} {kind : Str} {out : Int} {ins : List Int} {par : Par} (hN : NetAt S.sto j ji jo jc N) (ha : InsAt S a ins) (hroc : c.g.ro ≤ jc) (hw : ins.length ≤ 100) (hz : N.cells.length ≤ 100) {P : V → St → Prop}
    (p : P .none ⟨S.loc, S.sto.set jc (.lst ((N.addCell ⟨kind, out, ins, par⟩).cells.map Cell.v))⟩) (hp : StoOk S.sto) (args : List V) (hargs : args = [.ref j, .int out, .str kind, a, par.v] ∨ par = .none ∧ args = [.ref j, .int out, .str kind, a]) : CW c S (.ref 122) args P := by
  have hsl : (1000000 : Nat) ≤ sizeLine := by rw [sizeLine_eq]; decide
  rcases hargs with rfl | ⟨rfl, rfl⟩
  refine CW.def (names := ["self", "out", "kind", "ins", "param"]) (ds := []) (dvs := []) noX ok.W (by rfl) (by rfl) (by rfl) (by rfl) ok.room (by rfl) (fun _ _ => .nil) (by decide +kernel) (fun s us hk hu => by
    obtain ⟨a, b, d, e, f, rfl⟩ := len5 hu
    exact .of_defaults (T := 115) rfl (ok.W.X.keeps hk 115 _ (by with_unfolding_all rfl)) rfl (by rfl) (by rfl)) (by decide +kernel) (by decide +kernel) (fun _ _ _ h => h.elim) fun L => ?_
  rotate_left
  refine CW.def (names := ["self", "out", "kind", "ins", "param"]) (ds := [.none]) (dvs := [.none]) noX ok.W (by rfl) (by rfl) (by rfl) (by rfl) ok.room (by rfl) (fun _ _ => .cons .none .nil) (by decide +kernel) (fun s us hk hu => by
    obtain ⟨a, b, d, e, rfl⟩ := len4 hu
    exact .of_defaults (T := 115) rfl (ok.W.X.keeps hk 115 _ (by with_unfolding_all rfl)) rfl (by rfl) (by rfl)) (by decide +kernel) (by decide +kernel) (fun _ _ _ h => h.elim) fun L => ?_
  all_goals
    repeat tb_rel
    refine EW.listMeth1 (id := "list.append") ?sa ?sb ?_ ?sd ?se ?sf
    case sa => exact slot_list_append
    case sb => kernel_rfl
    case sd => exact attributeBase_plain rfl _ _
    case se => exact starEach_plain rfl _ _
    case sf => with_unfolding_all rfl
    refine EW.attr ok.W ?_
    repeat tb_rel
    refine ⟨j, 139, _, .ref jc, rfl, by exact hN.obj, by rfl, by kernel_rfl, ?_⟩
    refine ⟨jc, _, rfl, by exact hN.c, ?_⟩
    refine EW.tuple ?_
    repeat tb_rel
    refine EW.callType (T := "tuple") ok.W ⟨rfl, rfl, rfl⟩ (by kernel_rfl) (by kernel_rfl) ?_
    repeat tb_rel
    rcases ha with ha | rfl
    refine TupC.seq (by exact ha) (by simp; allgen_close_more) ?_
    rotate_left
    refine TupC.tup ?_
    all_goals
      repeat tb_rel
      refine ⟨?_, by simp; allgen_close_more⟩
      refine Meth.append (by exact hN.c) (by exact hroc) (by simp; allgen_close_more) ?_
      repeat tb_rel
      refine Back.pl (S2 := ⟨_, _⟩) (σ' := S.sto.set jc (.lst ((N.addCell ⟨kind, out, ins, _⟩).cells.map Cell.v))) (ex := []) ?_ (by simp) trivial (hp.set (by exact belL_cells _)) p
      refine Eq.trans ?_ (List.append_nil _).symm
      show S.sto.set jc (.lst _) = _
      rw [List.map_append]
      rfl

theorem f_add_cell {c : Cx} {S : St} {k : Nat} (ok : Ok c (k + 40)) {N : Net} {j ji jo jc : Nat} {a : V} {kind : Str} {ins : List Int} {par : Par} (hN : NetAt S.sto j ji jo jc N) (ha : a = .lst (ins.map .int) ∨ a = .tup (ins.map .int)) (hd : j ≠ ji ∧ j ≠ jo ∧ j ≠ jc) (hroj : c.g.ro ≤ j) (hroc : c.g.ro ≤ jc) (hw : ins.length ≤ 100) (hz : N.cells.length ≤ 100) {P : V → St → Prop}
    (p : P (.int N.count) ⟨S.loc, (S.sto.set j (NetO (N.bump 1) ji jo jc)).set jc (.lst ((N.addCell ⟨kind, N.count, ins, par⟩).cells.map Cell.v))⟩) (hp : StoOk S.sto) (args : List V) (hargs : args = [.ref j, .str kind, a, par.v] ∨ par = .none ∧ args = [.ref j, .str kind, a]) : CW c S (.ref 114) args P := by
  have hlt := hN.lts
  have hjlt := (List.getElem?_eq_some_iff.mp hN.obj).1
  have hson : StoOk (S.sto.set j (NetO (N.bump 1) ji jo jc)) := hp.set (NetO.bel hlt.1 hlt.2.1 hlt.2.2)
  have hNi := (hN.bump (N' := N.bump 1) rfl rfl rfl hd)
  rcases hargs with rfl | ⟨hpar, rfl⟩
  refine CW.def (names := ["self", "kind", "ins", "param"]) (ds := []) (dvs := []) noX ok.W (by rfl) (by rfl) (by rfl) (by rfl) ok.room (by rfl) (fun _ _ => .nil) (by decide +kernel) (fun s us hk hu => by
    obtain ⟨a, b, d, e, rfl⟩ := len4 hu
    exact .of_defaults (T := 107) rfl (ok.W.X.keeps hk 107 _ (by with_unfolding_all rfl)) rfl (by rfl) (by rfl)) (by decide +kernel) (by decide +kernel) (fun _ _ _ h => h.elim) fun L => ?_
  rotate_left
  refine CW.def (names := ["self", "kind", "ins", "param"]) (ds := [.none]) (dvs := [.none]) noX ok.W (by rfl) (by rfl) (by rfl) (by rfl) ok.room (by rfl) (fun _ _ => .cons .none .nil) (by decide +kernel) (fun s us hk hu => by
    obtain ⟨a, b, d, rfl⟩ := len3 hu
    exact .of_defaults (T := 107) rfl (ok.W.X.keeps hk 107 _ (by with_unfolding_all rfl)) rfl (by rfl) (by rfl)) (by decide +kernel) (by decide +kernel) (fun _ _ _ h => h.elim) fun L => ?_
  all_goals
    repeat tb_rel
    refine EW.method 87 ok.W ?_ _ (by with_unfolding_all rfl) (by exact .inl rfl)
    repeat tb_rel
    refine ⟨j, 139, _, rfl, by exact hN.obj, by rfl, by kernel_rfl, ?_⟩
    repeat tb_rel
    refine f_new_net (k := k + 1) (by first | exact ok.into.less' | exact ok.into.less (by allgen_close_more)) (by exact hN) (by exact hroj) ?_ (by exact hp)
    repeat tb_rel
    refine EW.method 122 ok.W ?_ _ (by with_unfolding_all rfl) (by exact .inr ⟨_, _, rfl, by exact starEach_plain rfl _ _, by with_unfolding_all rfl⟩)
    repeat tb_rel
    refine ⟨j, 139, _, rfl, by exact hNi.obj, by rfl, by kernel_rfl, ?_⟩
    repeat tb_rel
    refine f_drive (k := k + 1) (N := N.bump 1) (ins := ins) (par := par) (out := (N.count : Int)) (kind := kind) (a := a) (by first | exact ok.into.less' | exact ok.into.less (by allgen_close_more)) (by exact hNi) (by rcases ha with rfl | rfl; exact .inl .l; exact .inr rfl) (by exact hroc) hw hz ?_ (by exact hson) _ (.inl (by first | rfl | (rw [hpar]; rfl)))
    repeat tb_rel
    refine Back.pl (S2 := ⟨_, _⟩) (σ' := (S.sto.set j (NetO (N.bump 1) ji jo jc)).set jc (.lst ((N.addCell ⟨kind, N.count, ins, par⟩).cells.map Cell.v))) (ex := []) ?_ (by simp) trivial (hson.set (by exact belL_cells _)) p
    exact (List.append_nil _).symm
end

section
open PySem PySem.W PyProof.Rows PySem.Calls
theorem Ok.as {c : Cx} {k : Nat} {A' : Around} (h : Ok c (k + 1)) (h1 : A'.handled = c.A.handled) (h2 : A'.depth = c.A.depth + 1) (h3 : A'.frames = c.A.frames) (h4 : A'.units ≤ c.A.units + 1) : Ok { c with A := A' } k :=
  ⟨h.W, h1.trans h.h, by have := h.d; show A'.depth + k < _; allgen_close_more, by have := h.u; show A'.units + 10 * k < _; allgen_close_more, h3.trans h.st⟩
theorem f_netlist {c : Cx} {S : St} {k : Nat} (ok : Ok c (k + 5)) {name : Str} {P : V → St → Prop}
    (p : P (.ref S.sto.length) ⟨S.loc, S.sto ++ [NetO ⟨name, 2, [], [], []⟩ (S.sto.length + 1) (S.sto.length + 2) (S.sto.length + 3), .lst [], .lst [], .lst []]⟩) : CW c S (.ref 139) [.str name] P := by
  have hsl : (1000000 : Nat) ≤ sizeLine := by rw [sizeLine_eq]; decide
  refine OWs.ro fun hro => ?_
  refine CW.make (fI := 80) ok.W (by kernel_rfl) (by kernel_rfl) (by kernel_rfl) fun A' a1 a2 a3 a4 => ?_
  have ok' := ok.as (k := k + 4) a1 a2 a3 a4
  refine CC.def (names := ["self", "name"]) (ds := []) (dvs := []) noX ok'.W (by rfl) (by rfl) (by rfl) (by rfl) ok'.room (by rfl) (fun _ _ => .nil) (by decide +kernel) (fun s us _ hu => ?_) (by decide +kernel) (by decide +kernel) (fun _ _ _ h => h.elim) fun L => ?_
  · obtain ⟨a, b, rfl⟩ := len2 hu
    exact .of_eq (by rfl)
  repeat tb_rel
  refine SW.setAttr ok'.W ?_
  repeat tb_rel
  refine ⟨_, 139, _, rfl, at_end, hro, by simp, by kernel_rfl, ?_⟩
  refine seqN ?_
  refine TW.st (S.sto ++ [.inst 139 [("name", .str name)]]) ?e0 ?_
  case e0 => exact set0 (r := [])
  repeat tb_rel
  refine SW.setAttr ok'.W ?_
  repeat tb_rel
  refine ⟨_, 139, _, rfl, at_end, hro, by simp, by kernel_rfl, ?_⟩
  refine seqN ?_
  refine TW.st (S.sto ++ [.inst 139 [("name", .str name), ("count", .int 2)]]) ?e0 ?_
  case e0 => exact set0 (r := [])
  repeat tb_rel
  refine SW.setAttr ok'.W ?_
  refine EW.listM ?_
  repeat tb_rel
  refine ⟨?_, by simp⟩
  repeat tb_rel
  refine ⟨S.sto.length, 139, _, rfl, at_old at_end, hro, by simp, by kernel_rfl, ?_⟩
  refine seqN ?_
  refine TW.st (S.sto ++ [.inst 139 [("name", .str name), ("count", .int 2), ("inputs", .ref (S.sto.length + 1))], .lst []]) ?e0 ?_
  case e0 =>
    show ((S.sto ++ [O.inst 139 _]) ++ [_]).set S.sto.length (O.inst 139 _) = _
    rw [new1, List.length_append]
    exact set0
  repeat tb_rel
  refine SW.setAttr ok'.W ?_
  refine EW.listM ?_
  repeat tb_rel
  refine ⟨?_, by simp⟩
  repeat tb_rel
  refine ⟨S.sto.length, 139, _, rfl, at_old at0, hro, by simp, by kernel_rfl, ?_⟩
  refine seqN ?_
  refine TW.st (S.sto ++ [.inst 139 [("name", .str name), ("count", .int 2), ("inputs", .ref (S.sto.length + 1)), ("outputs", .ref (S.sto.length + 2))], .lst [], .lst []]) ?e0 ?_
  case e0 =>
    show ((S.sto ++ [O.inst 139 _, _]) ++ [_]).set S.sto.length (O.inst 139 _) = _
    rw [new1, List.length_append]
    exact set0
  repeat tb_rel
  refine SW.setAttr ok'.W ?_
  refine EW.listM ?_
  repeat tb_rel
  refine ⟨?_, by simp⟩
  repeat tb_rel
  refine ⟨S.sto.length, 139, _, rfl, at_old at0, hro, by simp, by kernel_rfl, ?_⟩
  repeat tb_rel
  refine Back.all ⟨rfl, ?_⟩
  have e : ((S.sto ++ [O.inst 139 [("name", .str name), ("count", .int 2), ("inputs", .ref (S.sto.length + 1)), ("outputs", .ref (S.sto.length + 2))], O.lst [], O.lst []]) ++ [O.lst []]).set S.sto.length (.inst 139 [("name", .str name), ("count", .int 2), ("inputs", .ref (S.sto.length + 1)), ("outputs", .ref (S.sto.length + 2)), ("cells", .ref (S.sto.length + 3))]) = S.sto ++ [NetO ⟨name, 2, [], [], []⟩ (S.sto.length + 1) (S.sto.length + 2) (S.sto.length + 3), .lst [], .lst [], .lst []] := by
    rw [new1]; exact set0
  rw [← e] at p
  have e2 : (S.sto ++ [O.inst 139 [("name", .str name), ("count", .int 2), ("inputs", .ref (S.sto.length + 1)), ("outputs", .ref (S.sto.length + 2))], .lst [], .lst []]).length = S.sto.length + 3 := by simp
  show P (.ref S.sto.length) ⟨S.loc, (_ ++ [O.lst []]).set S.sto.length (.inst 139 (putV _ _ (.ref (S.sto ++ _).length)))⟩
  rw [e2]
  exact p
end

section
open PySem PySem.W PyProof.Rows PySem.Calls
section
variable {c : Cx} {S : St}
theorem Op.addM {a b : V} {vs ws : List V} {P : V → St → Prop} (ha : S.seq a vs) (hb : S.seq b ws) (hz : vs.length + ws.length ≤ sizeLine) (p : P (.ref S.sto.length) (S.new (.lst (vs ++ ws)))) : OW2 c VR S a b (binaryOp .Add) P := by
  intro ρ s x y Q E r hx hy q _
  obtain ⟨l, us, rfl, ⟨n, hl⟩, hv⟩ := r.seq ha hx
  obtain ⟨l2, us2, rfl, ⟨n2, hl2⟩, hv2⟩ := r.seq hb hy
  have e : us.toArray ++ us2.toArray = (us ++ us2).toArray := by simp
  refine concat_meets ⟨_, hl, rfl⟩ ⟨_, hl2, rfl⟩ noFill_list_add seq_list_add PySem.F.slot_list_add PySem.F.entry_list_add (PySem.F.args_list_add_2 _ _) (list_addW l l2 us.toArray us2.toArray n n2 _ _ _ _ (by simpa [hv.length, hv2.length] using hz)) ⟨hl, hl2, ?_⟩
  rw [e]
  have kk : ∀ b o, s.heap.get? b = some o → (s.heap.push { cls := .type "list", data := .seq (us ++ us2).toArray }).get? b = some o := fun b o e => Heap.get?_push_of_some _ e
  have z := r.new (p := (s.heap.objs.size, s.heap.objs.size)) (o := .lst (vs ++ ws)) s.toks kk fresh_none fresh_none fun st => ⟨rfl, us ++ us2, ⟨0, Heap.get?_push_size _ rfl⟩, (VRs.append hv2 hv).step r.frame st⟩
  refine q _ _ _ _ _ s.toks p z.1 (.ref (p := (s.heap.objs.size, s.heap.objs.size)) ?_) z.2
  rw [← r.len]; simp
theorem Subscript_SliceT {prog : Program} {w : World} {A : Around} {E : Value → Shared → Prop} {s : Shared} {env : Env} {pos : Pos} {value : Expr} {lower upper : Option Expr} {p : Pos} {Q : Value → Shared → Prop}
    (h : wpAny (model prog w) A (eval value env) (fun o s₁ => wpAny (model prog w) A (eval (.Slice lower upper Option.none p) env) (fun i s₂ => ItemOn (model prog w) A E o i Q s₂) E s₁) E s) :
    wpAny (model prog w) A (eval (.Subscript value (.Slice lower upper Option.none p) pos) env) Q E s := by
  rw [eval_Subscript]
  refine wpAny_bind (wpAny_mono h (fun o s₁ h₁ => wpAny_bind (wpAny_holding (wpAny_mono h₁ (fun i s₂ h₂ => wpAny_bind (wpAny_standAt ?_)) fun _ _ x => x)))
    fun _ _ x => x)
  obtain ⟨T, id, hl, hT, hg⟩ := h₂
  refine wpAny_bind ?_
  rw [getitemInPython_of_ne hT.not_modules]
  refine wpAny_bind (wpAny_specialOf hT hl ?_)
  have fin : wpAny (model prog w) A (operate [i, o] (getItem o i)) (fun r s₃ => wpAny (model prog w) A (letTemporaryGo value o r >>= fun _ => pure r) Q E s₃) E s₂ :=
    wpAny_operating (wpAny_mono hg (fun r s₃ h₃ => wpAny_bind (wpAny_letTemporaryGo (wpAny_pure h₃))) fun _ _ x => x)
  first
    | exact wpAny_pure (wpAny_bind fin)
    | exact wpAny_bind (wpAny_pure (wpAny_bind fin))
    | exact wpAny_bind fin
theorem EW.sliceHiT {value up : Expr} {pp pos : Pos} {P : V → St → Prop} (h : EW c S value fun a S₁ => EW c S₁ up fun b S₂ => ∃ i, b = .int i ∧ SlR S₂ a Option.none (some i) P) : EW c S (.Subscript value (.Slice Option.none (some up) Option.none pp) pos) P := by
  intro ρ s Q E r q x
  refine Subscript_SliceT (h ρ s _ E r (fun a S₁ ρ₁ u₁ h₁ tk₁ p₁ r₁ v₁ st₁ => ?_) x)
  refine wpAny_Slice (evalPart_none_step (evalPart_some_step ?_))
  refine p₁ ρ₁ _ _ E r₁ (fun b S₂ ρ₂ u₂ h₂ tk₂ p₂ r₂ v₂ st₂ => ?_) x
  refine evalPart_none_step ?_
  obtain ⟨i, rfl, p₂⟩ := p₂
  cases v₂ with
  | int _ t => exact slice_go p₂ r₂ (v₁.step r₁.frame st₂) Option.none (some (i, t)) rfl rfl rfl rfl fun v u h' tk pv k hv => q v S₂ ρ₂ u h' tk pv (r₂.keep tk k) hv (st₁.trans (st₂.trans (Step.ofKeep k)))
end
theorem pickL_map {α β : Type} (f : α → β) (l : List α) (lo hi : Option Int) : pickL (l.map f) lo hi = (pickL l lo hi).map f := by
  unfold pickL
  rw [List.length_map, List.map_filterMap]
  congr 1
  funext i
  rw [List.getElem?_map]

noncomputable def PoolOk (xs : List Int) : Prop := ∃ h t, xs = h :: t ∧ 0 ≤ h ∧ h < 65537 ∧ t.length ≤ 100

theorem pick_len {α : Type} (l : List α) (hl : l.length ≤ 63) : (pickL l none (some 40)).length ≤ 63 := by
  have h1 : (sliceRange (sliceBounds none (some 40) none l.length).1 (sliceBounds none (some 40) none l.length).2.1 (sliceBounds none (some 40) none l.length).2.2).length ≤ 63 := by
    have : ∀ n : Fin 64, (sliceRange (sliceBounds none (some 40) none n.val).1 (sliceBounds none (some 40) none n.val).2.1 (sliceBounds none (some 40) none n.val).2.2).length ≤ 63 := by decide +kernel
    exact this ⟨l.length, by allgen_close_more⟩
  unfold pickL
  exact Nat.le_trans (List.length_filterMap_le _ _) h1

theorem f_law_pool {c : Cx} {S : St} {k : Nat} (ok : Ok c (k + 5)) {xs : List Int} (hx : xs.length ≤ 63) {P : V → St → Prop}
    (p : ∀ (zs ys : List Int), PoolOk ys → P (.ref (S.sto.length + 1)) ⟨S.loc, S.sto ++ [.lst (zs.map .int), .lst (ys.map .int)]⟩) : CW c S (.ref 223) [.lst (xs.map .int)] P := by
  have hsl : (1000000 : Nat) ≤ sizeLine := by rw [sizeLine_eq]; decide
  refine OWs.ro fun hro => ?_
  refine CW.def (names := ["script"]) (ds := []) (dvs := []) noX ok.W (by rfl) (by rfl) (by rfl) (by rfl) ok.room (by rfl) (fun _ _ => .nil) (by decide +kernel) (fun s us _ hu => ?_) (by decide +kernel) (by decide +kernel) (fun _ _ _ h => h.elim) fun L => ?_
  · obtain ⟨a, rfl⟩ := len1 hu
    exact .of_eq (by rfl)
  have hpl := pick_len xs hx
  generalize hys : pickL xs none (some 40) = ys at hpl
  refine XW.cons ?_
  refine SW.assignComp (cl := []) ?_ ClOk.nil (by exact ⟨rfl, .inl rfl⟩)
  refine IW.of ?_
  refine EW.sliceHiT ?_
  refine EW.callType (T := "list") ok.W ⟨rfl, rfl, rfl⟩ (by kernel_rfl) (by kernel_rfl) ?_
  repeat tb_rel
  refine ListC.seq .l (by simp; allgen_close_more) ?_
  repeat tb_rel
  refine ⟨40, rfl, .inl ⟨_, .l, by simp; allgen_close_more, ?_⟩⟩
  rw [pickL_map, hys]
  refine ⟨_, _, ItW.lst ok.h .name, ?_⟩
  refine ⟨fun C i S2 => S2.sto = S.sto ++ [.lst ((ys.take i).map .int)], fun C => by rfl, fun _ _ _ _ => trivial, ?_, ?_⟩
  · rintro C i v loc2 sto2 hv g1 Q0 hT0
    obtain rfl : sto2 = _ := g1
    rw [List.getElem?_map] at hv
    obtain ⟨b, hb, rfl⟩ := Option.map_eq_some_iff.mp hv
    refine AsW.name ?_ ⟨rfl, .inl rfl⟩
    refine TsW.nil (compY hT0 ?_)
    intro R0 hR0
    refine EW.callType (T := "int") ok.W ⟨rfl, rfl, rfl⟩ (by kernel_rfl) (by kernel_rfl) ?_
    repeat tb_rel
    refine IntC.int ?_
    refine hR0 _ _ ?_
    refine ⟨(ys.take i).map .int, by simp [St.set], by simp; allgen_close_more, ?_⟩
    simp [St.set, St.put, List.take_add_one, hb]
  · rintro C loc2 sto2 g1
    obtain rfl : sto2 = _ := g1
    rw [List.length_map, List.take_length]
    refine Back.all ?_
    refine seqN ?_
    repeat tb_rel
    refine EW.listMeth (id := "list.reverse") PySem.F.slot_list_reverse (by kernel_rfl) ?_
    repeat tb_rel
    refine ⟨S.sto.length, _, rfl, by exact at_end, ?_⟩
    repeat tb_rel
    refine Meth.reverse (by exact at_end) (by exact hro) (by simp; allgen_close_more) ?_
    refine seqN ?_
    refine TW.st (S.sto ++ [.lst (ys.reverse.map .int)]) ?e0 ?_
    case e0 =>
      refine (set0 (r := [])).trans ?_
      rw [List.map_reverse]
    repeat tb_rel
    refine EW.list ?_
    repeat tb_rel
    refine ⟨?_, by simp; allgen_close_more⟩
    repeat tb_rel
    refine Op.addM (ws := ys.reverse.map .int) .l (.r (by exact at_end)) (by simp; allgen_close_more) ?_
    repeat tb_rel
    refine Back.all ?_
    have := p ys.reverse (5 :: ys.reverse) ⟨5, ys.reverse, rfl, by decide, by decide, by simp; allgen_close_more⟩
    have e1 : (S.sto ++ [O.lst (ys.reverse.map .int)]).length = S.sto.length + 1 := by simp
    have e2 : (S.sto ++ [O.lst (ys.reverse.map .int)]) ++ [O.lst ([V.int 5] ++ ys.reverse.map .int)] = S.sto ++ [O.lst (ys.reverse.map .int), O.lst ((5 :: ys.reverse).map .int)] := by rw [new1]; rfl
    show P (.ref (S.sto ++ [O.lst (ys.reverse.map .int)]).length) ⟨S.loc, (S.sto ++ [O.lst (ys.reverse.map .int)]) ++ [O.lst ([V.int 5] ++ ys.reverse.map .int)]⟩
    rw [e1, e2]
    exact this
end

section
open PySem PySem.W PyProof.Rows PySem.Calls
theorem bel_ints {n : Nat} (l : List Int) : (O.lst (l.map .int)).bel n := belL_ints l
theorem f_law_drawn {c : Cx} {S : St} {k : Nat} (ok : Ok c (k + 5)) {j : Nat} {limit : Int} (h1 : 1 ≤ limit) (h2 : limit < 1000000000) {xs : List Int} (hx : PoolOk xs) (hj : S.sto[j]? = some (.lst (xs.map .int))) (hro : c.g.ro ≤ j) {P : V → St → Prop}
    (p : ∀ r ys, 0 ≤ r → r < limit → PoolOk ys → P (.int r) ⟨S.loc, S.sto.set j (.lst (ys.map .int))⟩) (hp : StoOk S.sto) : CW c S (.ref 230) [.ref j, .int limit] P := by
  have hsl : (1000000 : Nat) ≤ sizeLine := by rw [sizeLine_eq]; decide
  obtain ⟨a, t, rfl, ha, ha2, ht⟩ := hx
  have hjl := (List.getElem?_eq_some_iff.mp hj).1
  refine CW.def (names := ["pool", "limit"]) (ds := []) (dvs := []) noX ok.W (by rfl) (by rfl) (by rfl) (by rfl) ok.room (by rfl) (fun _ _ => .nil) (by decide +kernel) (fun s us _ hu => ?_) (by decide +kernel) (by decide +kernel) (fun _ _ _ h => h.elim) fun L => ?_
  · obtain ⟨a, b, rfl⟩ := len2 hu
    exact .of_eq (by rfl)
  repeat tb_rel
  refine EW.callBuiltin (id := "len") ok.W ⟨rfl, rfl, rfl⟩ (by kernel_rfl) (by kernel_rfl) ?_
  repeat tb_rel
  refine Len.ref (by exact hj) (by simp; allgen_close_more) ?_
  repeat tb_rel
  refine ⟨_, rfl, ?_⟩
  by_cases h0 : t = []
  · subst h0
    refine brT (by simp) ?_
    repeat tb_rel
    refine Item.ref (v := .int a) (by exact hj) (by decide) (by decide) (by rfl) ?_
    refine EW.int ?_
    refine Op.mul (IntMulOk.of_right (by decide)) ?_
    repeat tb_rel
    refine Op.mod (by decide) ?_
    repeat tb_rel
    refine Put.lst (vs := [.int a]) (by exact hj) (by exact hro) (by decide) (by decide) (by simp) ?_
    refine seqN ?_
    refine TW.st (S.sto.set j (.lst ([(a * 75 + 74) % 65537].map .int))) ?e0 ?_
    case e0 => rfl
    repeat tb_rel
    refine Item.ref (v := .int ((a * 75 + 74) % 65537)) (by exact List.getElem?_set_self hjl) (by decide) (by decide) (by rfl) ?_
    repeat tb_rel
    refine Op.fdiv (by decide) (by decide) ?_
    repeat tb_rel
    refine Op.mod (by allgen_close_more) ?_
    repeat tb_rel
    refine Back.pl (S2 := ⟨_, _⟩) (σ' := S.sto.set j (.lst ([(a * 75 + 74) % 65537].map .int))) (ex := []) (List.append_nil _).symm (by simp) trivial (hp.set (bel_ints _)) (p _ [(a * 75 + 74) % 65537] (Int.emod_nonneg _ (by allgen_close_more)) (Int.emod_lt_of_pos _ (by allgen_close_more)) ⟨_, [], rfl, Int.emod_nonneg _ (by allgen_close_more), Int.emod_lt_of_pos _ (by allgen_close_more), by simp⟩)
  · obtain ⟨u, z, rfl⟩ : ∃ u z, t = u ++ [z] := ⟨t.dropLast, t.getLast h0, (List.dropLast_concat_getLast h0).symm⟩
    rw [List.length_append] at ht
    simp only [List.length_cons, List.length_nil] at ht
    refine brF (by simp; allgen_close_more) ?_
    repeat tb_rel
    refine EW.listMeth (id := "list.pop") PySem.F.slot_list_pop (by kernel_rfl) ?_
    repeat tb_rel
    refine ⟨j, _, rfl, by exact hj, ?_⟩
    repeat tb_rel
    refine Meth.pop (vs := (a :: u).map .int) (v := .int z) (by rw [show S.sto[j]? = _ from hj]; simp) (by exact hro) (by simp; allgen_close_more) ?_
    refine seqN ?_
    refine TW.st (S.sto.set j (.lst ((a :: u).map .int))) ?e0 ?_
    case e0 => rfl
    refine XW.mid (fun S1 => ∃ (w : List Int), A5 (S1.sto = S.sto.set j (.lst ((a :: w).map .int))) (w.length ≤ 100) (S1.has "pool" (.ref j)) (S1.has "limit" (.int limit)) (S1.has "cell" (.int z))) ?_ ?_
    · top_caught0
      repeat tb_rel
      refine Op.fdiv (by allgen_close_more) (by allgen_close_more) ?_
      repeat tb_rel
      refine ⟨_, rfl, fun hc => ?_, fun hc => ?_⟩
      · repeat tb_rel
        refine EW.listMeth1 (id := "list.append") ?sa ?sb ?_ ?sd ?se ?sf
        case sa => exact slot_list_append
        case sb => kernel_rfl
        case sd => exact attributeBase_plain rfl _ _
        case se => exact starEach_plain rfl _ _
        case sf => with_unfolding_all rfl
        repeat tb_rel
        refine ⟨j, _, rfl, by exact List.getElem?_set_self hjl, ?_⟩
        repeat tb_rel
        refine Op.fdiv (by allgen_close_more) (by allgen_close_more) ?_
        refine Meth.append (by exact List.getElem?_set_self hjl) (by exact hro) (by simp; allgen_close_more) ?_
        repeat tb_rel
        refine ⟨rfl, u ++ [z / limit], ?_, by simp; allgen_close_more, by tb_start, by tb_start, by tb_start⟩
        show (S.sto.set j _).set j (O.lst _) = _
        rw [List.set_set]; simp
      · repeat tb_rel
        exact ⟨rfl, u, rfl, by allgen_close_more, by tb_start, by tb_start, by tb_start⟩
    intro loc sto hJ0
    refine (?_ : let G0 := _; G0); intro G0
    obtain ⟨w, g1, g2, g3, g4, g5⟩ := hJ0
    obtain rfl : sto = _ := g1
    unfold G0; clear G0
    repeat tb_rel
    refine Item.ref (v := .int a) (by exact List.getElem?_set_self hjl) (by decide) (by decide) (by rfl) ?_
    refine EW.int ?_
    refine Op.mul (IntMulOk.of_right (by decide)) ?_
    repeat tb_rel
    refine Op.mod (by decide) ?_
    repeat tb_rel
    refine Op.mod (by decide) ?_
    repeat tb_rel
    refine Put.lst (vs := (a :: w).map .int) (by exact List.getElem?_set_self hjl) (by exact hro) (by decide) (by decide) (by simp) ?_
    repeat tb_rel
    refine Op.mod (by allgen_close_more) ?_
    repeat tb_rel
    refine Back.pl (S2 := ⟨_, _⟩) (σ' := S.sto.set j (.lst ((((a * 75 + 74 + z % 1009) % 65537) :: w).map .int))) (ex := []) ?_ (by simp) trivial (hp.set (bel_ints _)) (p _ (((a * 75 + 74 + z % 1009) % 65537) :: w) (Int.emod_nonneg _ (by allgen_close_more)) (Int.emod_lt_of_pos _ (by allgen_close_more)) ⟨_, w, rfl, Int.emod_nonneg _ (by allgen_close_more), Int.emod_lt_of_pos _ (by allgen_close_more), g2⟩)
    show (S.sto.set j _).set j _ = _ ++ []
    rw [List.set_set, List.append_nil]; rfl
end

section
open PySem PySem.W PyProof.Rows PySem.Calls
noncomputable def onesTab : List (Str × List Int) := [("buf", [1]), ("not", [0]), ("and", [3]), ("or", [1, 2, 3]), ("xor", [1, 2]), ("nand", [0, 1, 2]), ("nor", [0]), ("xnor", [0, 3]), ("mux", [2, 5, 6, 7])]
noncomputable def onesOf (w : Int) (n : Nat) : List Int := ((List.range n).filter fun k => w / 2 ^ k % 2 = 1).map fun (k : Nat) => (k : Int)
noncomputable def ones (kind : Str) (w : Int) (many : Nat) : List Int := match (onesTab.find? fun p => p.1 = kind) with
  | some p => p.2
  | none => onesOf w (2 ^ many)
theorem onesOf_succ (w : Int) (n : Nat) : onesOf w (n + 1) = onesOf w n ++ if w / 2 ^ n % 2 = 1 then [(n : Int)] else [] := by
  unfold onesOf
  rw [List.range_succ, List.filter_append, List.map_append]
  congr 1
  by_cases h : w / 2 ^ n % 2 = 1 <;> simp [h]
theorem onesOf_len (w : Int) (n : Nat) : (onesOf w n).length ≤ n := by
  unfold onesOf
  rw [List.length_map]
  exact Nat.le_trans (List.length_filter_le _ _) (by simp)
noncomputable def tabNum (kind : Str) (par : Par) (w : Int) : Prop := onesTab.find? (fun p => p.1 = kind) = none → (kind = "lut" ∧ par = .num w) ∨ (kind ≠ "lut" ∧ ∃ nm, par = .own nm w)
theorem tab_getK (kind : Str) : getK (onesTab.map fun p => (p.1, V.lst (p.2.map .int))) kind = (onesTab.find? fun p => p.1 = kind).map fun p => V.lst (p.2.map .int) := by
  unfold getK
  rw [List.find?_map]
  cases h : List.find? ((fun y : Str × V => decide (y.1 = kind)) ∘ fun p : Str × List Int => (p.1, V.lst (p.2.map .int))) onesTab with
  | none =>
    have : onesTab.find? (fun p => p.1 = kind) = none := h
    rw [this]; rfl
  | some p =>
    have : onesTab.find? (fun p => p.1 = kind) = some p := h
    rw [this]; rfl

theorem mergeK_nodup {K : Type} [DecidableEq K] : ∀ (l d : List (K × V)), ((d ++ l).map (·.1)).Nodup → mergeK d l = d ++ l
  | [], d, _ => by simp [mergeK]
  | p :: l, d, h => by
    have h1 : putK d p.1 p.2 = d ++ [p] := putK_new fun q hq e => by
      rw [List.map_append, List.nodup_append] at h
      exact h.2.2 q.1 (List.mem_map.mpr ⟨q, hq, rfl⟩) p.1 (by simp) e
    show mergeK (putK d p.1 p.2) l = _
    rw [h1, mergeK_nodup l (d ++ [p]) (by simpa using h)]
    simp
theorem f_law_ones {c : Cx} {S : St} {k : Nat} (ok : Ok c (k + 5)) {kind : Str} {par : Par} {w : Int} {many : Nat} (hm : many ≤ 3) (hk : tabNum kind par w) {P : V → St → Prop} (p : P (.lst ((ones kind w many).map .int)) S) (hp : StoOk S.sto) : CW c S (.ref 235) [.str kind, par.v, .int many] P := by
  have hsl : (1000000 : Nat) ≤ sizeLine := by rw [sizeLine_eq]; decide
  refine OWs.ro fun hro => ?_
  refine CW.def (names := ["kind", "param", "many"]) (ds := []) (dvs := []) noX ok.W (by rfl) (by rfl) (by rfl) (by rfl) ok.room (by rfl) (fun _ _ => .nil) (by decide +kernel) (fun s us _ hu => ?_) (by decide +kernel) (by decide +kernel) (fun _ _ _ h => h.elim) fun L => ?_
  · obtain ⟨a, b, d, rfl⟩ := len3 hu
    exact .of_eq (by rfl)
  repeat tb_rel
  with_reducible refine EW.dictS (K := KF c.w.params) ?dz ?da ?db ?dc ?dd ?_
  case dz => exact ok.W
  case da => rfl
  case db => rfl
  case dc => exact List.cons_ne_nil _ _
  case dd => exact Nat.le_of_ble_eq_true rfl
  repeat (with_reducible refine PW.cons ?_; with_reducible refine EW.str ?_; with_reducible refine EW.list ?_; (repeat tb_rel); refine ⟨?_, by simp; allgen_close_more⟩)
  with_reducible refine PW.nil ?_
  refine ⟨[("buf", .lst [.int 1]), ("not", .lst [.int 0]), ("and", .lst [.int 3]), ("or", .lst [.int 1, .int 2, .int 3]), ("xor", .lst [.int 1, .int 2]), ("nand", .lst [.int 0, .int 1, .int 2]), ("nor", .lst [.int 0])], rfl, at_end, ?_⟩
  refine seqN ?_
  refine TW.st (S.sto ++ [.ds ((onesTab.take 7).map fun p => (p.1, .lst (p.2.map .int)))]) ?e0 ?_
  case e0 =>
    refine (set0 (r := [])).trans ?_
    have : mergeK [] [(("buf" : Str), V.lst [.int 1]), ("not", .lst [.int 0]), ("and", .lst [.int 3]), ("or", .lst [.int 1, .int 2, .int 3]), ("xor", .lst [.int 1, .int 2]), ("nand", .lst [.int 0, .int 1, .int 2]), ("nor", .lst [.int 0])] = ((onesTab.take 7).map fun p => (p.1, V.lst (p.2.map .int))) := by
      rw [mergeK_nodup]
      · rfl
      · decide +kernel
    rw [this]
  repeat tb_rel
  with_reducible refine EW.list ?_
  repeat tb_rel
  refine ⟨?_, by simp; allgen_close_more⟩
  repeat tb_rel
  refine Put.ds (by exact at0) (by exact hro) (by simp [onesTab]; allgen_close_more) ?_
  refine seqN ?_
  refine TW.st (S.sto ++ [.ds (((onesTab.take 8).map fun p => (p.1, .lst (p.2.map .int))))]) ?e1 ?_
  case e1 =>
    refine (set0 (r := [])).trans ?_
    rw [putK_new (by decide +kernel)]
    rfl
  repeat tb_rel
  with_reducible refine EW.list ?_
  repeat tb_rel
  refine ⟨?_, by simp; allgen_close_more⟩
  repeat tb_rel
  refine Put.ds (by exact at0) (by exact hro) (by simp [onesTab]; allgen_close_more) ?_
  refine seqN ?_
  refine TW.st (S.sto ++ [.ds ((onesTab.map fun p => (p.1, .lst (p.2.map .int))))]) ?e2 ?_
  case e2 =>
    refine (set0 (r := [])).trans ?_
    rw [putK_new (by decide +kernel)]
    rfl
  have hb : StoOk (S.sto ++ [.ds ((onesTab.map fun p => (p.1, .lst (p.2.map .int))))]) := hp.more (by
    simp only [List.mem_singleton]
    rintro o rfl
    show belL _ _
    rw [belL_iff]
    intro v hv
    simp only [List.map_map, List.mem_map, Function.comp] at hv
    obtain ⟨_, _, rfl⟩ := hv
    exact belL_ints _)
  repeat tb_rel
  refine In.ds (by exact at0) ?_
  rw [tab_getK]
  refine ⟨_, rfl, ?_⟩
  cases hf : onesTab.find? fun p => p.1 = kind with
  | some q =>
    refine brT rfl ?_
    repeat tb_rel
    refine Item.ds (v := .lst (q.2.map .int)) (by exact at0) (by rw [tab_getK, hf]; rfl) ?_
    repeat tb_rel
    have e : ones kind w many = q.2 := by unfold ones; rw [hf]
    rw [e] at p
    refine Back.pl (S2 := ⟨_, _⟩) (σ' := S.sto) (ex := [_]) rfl rfl (by exact belL_ints _) hp p
  | none =>
    refine brF rfl ?_
    have e : ones kind w many = onesOf w (2 ^ many) := by unfold ones; rw [hf]
    rw [e] at p
    iterate 2 tb_rel
    refine XW.mid (fun S1 => A3 (S1.sto = S.sto ++ [.ds ((onesTab.map fun p => (p.1, .lst (p.2.map .int))))]) (S1.has "many" (.int many)) (S1.has "wanted" (.int w))) ?_ ?_
    · top_caught0
      repeat tb_rel
      refine Op.eqS ?_
      refine ⟨_, rfl, ?_⟩
      rcases hk hf with ⟨h1, rfl⟩ | ⟨h1, nm, rfl⟩
      · refine brT (by first | exact decide_eq_true h1 | simp [h1]) ?_
        repeat tb_rel
        exact ⟨rfl, rfl, by tb_start, by tb_start⟩
      · refine brF (by first | exact decide_eq_false h1 | simp [h1]) ?_
        repeat tb_rel
        refine Item.tup (v := .int w) (by decide) (by decide) (by rfl) ?_
        repeat tb_rel
        exact ⟨rfl, rfl, by tb_start, by tb_start⟩
    intro loc sto hJ0
    refine (?_ : let G0 := _; G0); intro G0
    obtain ⟨g1, g2, g3⟩ := hJ0
    obtain rfl : sto = _ := g1
    unfold G0; clear G0
    refine XW.cons ?_
    refine SW.ret ?_
    refine EW.comp (cl := [("wanted", L + 1)]) ?_ (ClOk.one (by rfl) (by rfl) fun C => .inl (by rfl))
    refine IW.range1 ok.W ⟨rfl, rfl, rfl⟩ ok.h .name (by kernel_rfl) ?_
    repeat tb_rel
    have hib : Builtin.Int.intBits 2 = 2 := by decide
    refine Op.pow (by allgen_close_more) (by rw [hib]; allgen_close_more) ?_
    obtain ⟨m, hm2⟩ : ∃ m : Nat, m = 2 ^ many := ⟨_, rfl⟩
    have hnum : (2 : Int) ^ ((many : Nat) : Int).toNat = (m : Int) := by rw [hm2]; simp
    have hm8 : m ≤ 8 := by rw [hm2]; exact Nat.le_trans (Nat.pow_le_pow_right (by decide) hm) (by decide)
    rw [hnum]
    rw [← hm2] at p
    refine ⟨_, rfl, by allgen_close_more, by allgen_close_more, ?_⟩
    refine ⟨fun C j S2 => S2.sto = (S.sto ++ [.ds ((onesTab.map fun p => (p.1, .lst (p.2.map .int))))]) ++ [.lst ((onesOf w j).map .int)] ∧ S2.has "wanted" (.int w), fun C => ⟨rfl, (freeLoc_some (by rfl)).trans g3⟩, fun _ _ _ _ => trivial, ?_, ?_⟩
    · intro C j v loc2 sto2 hv hJ0
      refine (?_ : let G0 := _; G0); intro G0
      obtain ⟨k1, k2⟩ := hJ0
      obtain ⟨hj, rfl⟩ := rng1 hv
      unfold G0; clear G0
      intro Q0 hT0
      simp at hj
      obtain rfl : sto2 = _ := k1
      have hj7 : (2 : Int) ^ ((j : Nat) : Int).toNat = 2 ^ j := by simp
      have hjp : (0 : Int) < 2 ^ j := Int.pow_pos (by decide)
      have hjn : (2 : Int) ^ j ≤ 256 := by
        have : (2 : Nat) ^ j ≤ 2 ^ 8 := Nat.pow_le_pow_right (by decide) (by allgen_close_more)
        have h2 : ((2 ^ j : Nat) : Int) = (2 : Int) ^ j := by simp
        rw [← h2]; allgen_close_more
      have hol := onesOf_len w j
      refine AsW.name ?_ ⟨rfl, .inl rfl⟩
      refine TsW.one ?_
      repeat tb_rel
      refine Op.pow (by allgen_close_more) (by rw [hib]; allgen_close_more) ?_
      rw [hj7]
      refine Op.fdiv hjp (by allgen_close_more) ?_
      repeat tb_rel
      refine Op.mod (by decide) ?_
      repeat tb_rel
      refine ⟨_, rfl, compB hT0 (fun hc => ?_) fun hc => ?_⟩
      · refine ⟨?_, by tb_start⟩
        rw [onesOf_succ, if_neg (by simpa using hc), List.append_nil]; rfl
      · intro R0 hR0
        repeat tb_rel
        refine hR0 _ _ ?_
        refine ⟨(onesOf w j).map .int, by simp [St.set], by simp; allgen_close_more, ?_, by tb_start⟩
        rw [onesOf_succ, if_pos (by simpa using hc)]
        simp [St.set, St.put]
    · intro C loc2 sto2 hJ0
      refine (?_ : let G0 := _; G0); intro G0
      obtain ⟨k1, k2⟩ := hJ0
      unfold G0; clear G0
      simp only [List.length_map, List.length_range, Int.toNat_natCast] at k1
      refine Back.frz (S2 := ⟨loc2, sto2⟩) k1 rfl (belL_ints _) hb ?_
      repeat tb_rel
      refine Back.pl (S2 := ⟨_, _⟩) (σ' := S.sto) (ex := [_]) rfl rfl (by exact belL_ints _) hp p
end

section
open PySem PySem.W PyProof.Rows PySem.Calls
noncomputable def digitOf (number : Int) (spot : Nat) : Str := Txt.item "01" (number / 2 ^ spot % 2)
noncomputable def coverRow (many : Nat) (number : Int) : List Str := if many = 0 then [("1" : Str)] else [Txt.join "" ((List.range many).map (digitOf number)), ("1" : Str)]
noncomputable def coverRows (kind : Str) (w : Int) (many : Nat) : List (List Str) := (ones kind w many).map (coverRow many)
noncomputable def cover (kind : Str) (w : Int) (many : Nat) : List (List Str) := srt (coverRows kind w many)
theorem ones_len {kind : Str} {w : Int} {many : Nat} (hm : many ≤ 3) : (ones kind w many).length ≤ 8 := by
  unfold ones
  cases hf : onesTab.find? fun p => p.1 = kind with
  | some q =>
    have hq := List.mem_of_find?_eq_some hf
    have : ∀ q ∈ onesTab, q.2.length ≤ 8 := by decide +kernel
    exact this q hq
  | none => exact Nat.le_trans (onesOf_len _ _) (Nat.le_trans (Nat.pow_le_pow_right (by decide) hm) (by decide))
theorem digitOf_len (number : Int) (spot : Nat) : (digitOf number spot).length = 1 := by
  unfold digitOf
  have : number / 2 ^ spot % 2 = 0 ∨ number / 2 ^ spot % 2 = 1 := by allgen_close_more
  rcases this with h | h <;> rw [h] <;> decide +kernel
theorem belL_rows {n : Nat} (rows : List (List Str)) : belL n (rows.map rowV) := by
  rw [belL_iff]
  intro v hv
  obtain ⟨r, _, rfl⟩ := List.mem_map.mp hv
  exact belL_strs r

theorem f_law_cover {c : Cx} {S : St} {k : Nat} (ok : Ok c (k + 10)) {kind : Str} {par : Par} {w : Int} {many : Nat} (hm : many ≤ 3) (hk : tabNum kind par w) {P : V → St → Prop} (p : P (.lst ((cover kind w many).map rowV)) S) (hp : StoOk S.sto) : CW c S (.ref 240) [.str kind, par.v, .int many] P := by
  have hsl : (1000000 : Nat) ≤ sizeLine := by rw [sizeLine_eq]; decide
  have hib : Builtin.Int.intBits 2 = 2 := by decide
  refine OWs.ro fun hro => ?_
  refine CW.def (names := ["kind", "param", "many"]) (ds := []) (dvs := []) noX ok.W (by rfl) (by rfl) (by rfl) (by rfl) ok.room (by rfl) (fun _ _ => .nil) (by decide +kernel) (fun s us _ hu => ?_) (by decide +kernel) (by decide +kernel) (fun _ _ _ h => h.elim) fun L => ?_
  · obtain ⟨a, b, d, rfl⟩ := len3 hu
    exact .of_eq (by rfl)
  repeat tb_rel
  refine EW.listM ?_
  repeat tb_rel
  refine ⟨?_, by simp⟩
  repeat tb_rel
  refine SW.for ?_
  refine IW.of ?_
  refine EW.callDef (f := 235) ok.W ⟨rfl, rfl, rfl⟩ (by kernel_rfl) (by kernel_rfl) ?_
  repeat tb_rel
  refine f_law_ones (k := k + 1) (w := w) (by first | exact ok.into.less' | exact ok.into.less (by allgen_close_more)) hm hk ?_ (by exact hp.more (by simp; exact trivial))
  have hol := ones_len (kind := kind) (w := w) hm
  refine ⟨_, _, ItW.lst ok.h .name, ?_⟩
  refine ⟨fun i S' => A3 (S'.sto = S.sto ++ [.lst ((((ones kind w many).take i).map (coverRow many)).map rowV)]) (S'.has "found" (.ref S.sto.length)) (S'.has "many" (.int many)), ⟨rfl, by tb_start, by tb_start⟩, fun _ _ _ => trivial, ?_, ?_⟩
  · intro i v loc sto hv hJ0
    refine (?_ : let G0 := _; G0); intro G0
    obtain ⟨g1, g2, g3⟩ := hJ0
    obtain rfl : sto = _ := g1
    unfold G0; clear G0
    intro Q0 hT0
    rw [List.getElem?_map] at hv
    obtain ⟨number, hn, rfl⟩ := Option.map_eq_some_iff.mp hv
    have hso : StoOk (S.sto ++ [.lst ((((ones kind w many).take i).map (coverRow many)).map rowV)]) := hp.more (by simp only [List.mem_singleton]; rintro o rfl; exact belL_rows _)
    refine AsW.name ?_ ⟨rfl, .inr ⟨rfl, rfl, rfl⟩⟩
    refine XW.cons ?_
    refine SW.assign ?_ ?bb ?cc
    case bb => exact ⟨rfl, .inl rfl⟩
    case cc => exact swaps_plain rfl _ _ _
    refine EW.strMeth1 (id := "str.join") ?a ?b ?_ ?d ?e ?f
    case a => exact PySem.F.slot_str_join
    case b => kernel_rfl
    case d => exact attributeBase_plain rfl _ _
    case e => exact starEach_plain rfl _ _
    case f => with_unfolding_all rfl
    repeat tb_rel
    refine ⟨_, rfl, ?_⟩
    refine EW.comp (cl := [("number", L + 1)]) ?_ (ClOk.one (by rfl) (by rfl) fun C => .inl (by rfl))
    refine IW.range1 ok.W ⟨rfl, rfl, rfl⟩ ok.h .name (by kernel_rfl) ?_
    repeat tb_rel
    refine ⟨_, rfl, by allgen_close_more, by allgen_close_more, ?_⟩
    refine ⟨fun C j S2 => S2.sto = (S.sto ++ [.lst ((((ones kind w many).take i).map (coverRow many)).map rowV)]) ++ [.lst (((List.range j).map (digitOf number)).map .str)] ∧ S2.has "number" (.int number), fun C => ⟨rfl, (freeLoc_some (by rfl)).trans look_here⟩, fun _ _ _ _ => trivial, ?_, ?_⟩
    · intro C j v loc2 sto2 hv2 hJ0
      refine (?_ : let G0 := _; G0); intro G0
      obtain ⟨k1, k2⟩ := hJ0
      obtain ⟨hj, rfl⟩ := rng1 hv2
      unfold G0; clear G0
      intro Q0 hT0
      simp at hj
      obtain rfl : sto2 = _ := k1
      have hj7 : (2 : Int) ^ ((j : Nat) : Int).toNat = 2 ^ j := by simp
      have hjp : (0 : Int) < 2 ^ j := Int.pow_pos (by decide)
      have hjn : (2 : Int) ^ j ≤ 256 := by
        have : (2 : Nat) ^ j ≤ 2 ^ 8 := Nat.pow_le_pow_right (by decide) (by allgen_close_more)
        have h2 : ((2 ^ j : Nat) : Int) = (2 : Int) ^ j := by simp
        rw [← h2]; allgen_close_more
      refine AsW.name ?_ ⟨rfl, .inl rfl⟩
      refine TsW.nil (compY hT0 ?_)
      intro R0 hR0
      repeat tb_rel
      refine Op.pow (by allgen_close_more) (by rw [hib]; allgen_close_more) ?_
      rw [hj7]
      refine Op.fdiv hjp (by allgen_close_more) ?_
      repeat tb_rel
      refine Op.mod (by decide) ?_
      have h01 : number / 2 ^ j % 2 = 0 ∨ number / 2 ^ j % 2 = 1 := by allgen_close_more
      have hl01 : ("01" : Str).length = 2 := rfl
      refine Item.str (by allgen_close_more) (by allgen_close_more) (by rcases h01 with h | h <;> rw [h] <;> decide) ?_
      refine hR0 _ _ ?_
      refine ⟨((List.range j).map (digitOf number)).map .str, by simp [St.set], by simp; allgen_close_more, ?_, by tb_start⟩
      simp [St.set, St.put, List.range_succ, digitOf]
    · intro C loc2 sto2 hJ0
      refine (?_ : let G0 := _; G0); intro G0
      obtain ⟨k1, k2⟩ := hJ0
      unfold G0; clear G0
      simp only [List.length_map, List.length_range, Int.toNat_natCast] at k1
      refine Back.frz (S2 := ⟨loc2, sto2⟩) k1 rfl (belL_strs _) hso ?_
      have h1l : ∀ x ∈ (List.range many).map (digitOf number), x.length = 1 := fun x hx => by
        obtain ⟨b, hb, rfl⟩ := List.mem_map.mp hx
        exact digitOf_len _ _
      refine StrM.join (joinOk 1 (fun x hx => by rw [h1l x hx]; decide +kernel) (by simp; allgen_close_more)) ?_
      repeat tb_rel
      refine EW.listMeth1 (id := "list.append") ?sa ?sb ?_ ?sd ?se ?sf
      case sa => exact slot_list_append
      case sb => kernel_rfl
      case sd => exact attributeBase_plain rfl _ _
      case se => exact starEach_plain rfl _ _
      case sf => with_unfolding_all rfl
      repeat tb_rel
      refine ⟨S.sto.length, _, rfl, at_end, ?_⟩
      repeat tb_rel
      refine ⟨_, rfl, ?_⟩
      have hrow : (ones kind w many).take (i + 1) = (ones kind w many).take i ++ [number] := take_snoc hn
      by_cases h0 : many = 0
      · refine brT (by first | exact decide_eq_true h0 | simp [h0]) ?_
        refine EW.list ?_
        repeat tb_rel
        refine ⟨?_, by simp; allgen_close_more⟩
        refine Meth.append at_end hro (by simp; allgen_close_more) ?_
        repeat tb_rel
        refine ⟨?_, by tb_start, by tb_start⟩
        refine (set0 (r := [])).trans ?_
        rw [hrow]
        simp [coverRow, h0, rowV]
      · refine brF (by first | exact decide_eq_false h0 | simp [h0]) ?_
        refine EW.list ?_
        repeat tb_rel
        refine ⟨?_, by simp; allgen_close_more⟩
        refine Meth.append at_end hro (by simp; allgen_close_more) ?_
        repeat tb_rel
        refine ⟨?_, by tb_start, by tb_start⟩
        refine (set0 (r := [])).trans ?_
        rw [hrow]
        simp [coverRow, h0, rowV]
  · intro loc sto hJ0
    refine (?_ : let G0 := _; G0); intro G0
    obtain ⟨g1, g2, g3⟩ := hJ0
    obtain rfl : sto = _ := g1
    unfold G0; clear G0
    rw [List.length_map, List.take_length]
    repeat tb_rel
    refine EW.callBuiltin (id := "sorted") ok.W ⟨rfl, rfl, rfl⟩ (by kernel_rfl) (by kernel_rfl) ?_
    repeat tb_rel
    refine Sorted.seq (rows := coverRows kind w many) (.r at_end) (by unfold coverRows; simp; allgen_close_more) (by have := ok.u; show c.A.units + 3 + 64 < _; allgen_close_more) ?_
    repeat tb_rel
    refine Back.pl (S2 := ⟨_, _⟩) (σ' := S.sto) (ex := [_]) rfl rfl (by exact belL_rows _) hp p
end

section
open PySem PySem.W PyProof.Rows PySem.Calls
noncomputable abbrev Blk := List Str × List (List Str)
noncomputable def dotted (ws : List Str) : Prop := Txt.slice (ws.getD 0 "") none (some 1) = ("." : Str)
noncomputable instance (ws : List Str) : Decidable (dotted ws) := by unfold dotted; exact inferInstance
noncomputable def addRow (ws : List Str) : List Blk → List Blk
  | [] => []
  | [b] => [(b.1, b.2 ++ [ws])]
  | b :: r => b :: addRow ws r
noncomputable def blkStep (bs : List Blk) (x : Str) : List Blk := if dotted (Txt.split x " ") then bs ++ [(Txt.split x " ", [])] else addRow (Txt.split x " ") bs
noncomputable def rawBlocks (lines : List Str) : List Blk := lines.foldl blkStep []
theorem addRow_last (ws : List Str) : ∀ (bs : List Blk) (b : Blk), addRow ws (bs ++ [b]) = bs ++ [(b.1, b.2 ++ [ws])]
  | [], b => rfl
  | [a], b => rfl
  | a :: a' :: r, b => by
    show a :: addRow ws ((a' :: r) ++ [b]) = _
    rw [addRow_last ws (a' :: r) b]; rfl
noncomputable def linesOf (text : Str) : List Str := pickL (Txt.split text "\n") none (some (-1))
noncomputable def blocks (text : Str) : List Blk := (rawBlocks (linesOf text)).map fun b => (b.1, srt b.2)
noncomputable def blkV (b : Blk) : V := .lst [rowV b.1, .lst (b.2.map rowV)]

noncomputable def ents (n : Nat) : Nat → List Blk → List V
  | _, [] => []
  | k, b :: r => .lst [rowV b.1, .ref (n + 1 + k)] :: ents n (k + 1) r
theorem ents_append (n : Nat) : ∀ (k : Nat) (a b : List Blk), ents n k (a ++ b) = ents n k a ++ ents n (k + a.length) b
  | k, [], b => rfl
  | k, x :: a, b => by
    show _ :: ents n (k + 1) (a ++ b) = _ :: (ents n (k + 1) a ++ _)
    rw [ents_append n (k + 1) a b, List.length_cons, show k + 1 + a.length = k + (a.length + 1) from by allgen_close_more]
theorem ents_len (n : Nat) : ∀ (k : Nat) (a : List Blk), (ents n k a).length = a.length
  | _, [] => rfl
  | k, x :: a => by show (ents n (k + 1) a).length + 1 = _; rw [ents_len]; rfl
theorem ents_get (n : Nat) : ∀ (k : Nat) (a : List Blk) (i : Nat), (ents n k a)[i]? = (a[i]?).map fun b => V.lst [rowV b.1, .ref (n + 1 + (k + i))]
  | _, [], i => rfl
  | k, x :: a, 0 => rfl
  | k, x :: a, i + 1 => by
    show (ents n (k + 1) a)[i]? = (a[i]?).map _
    rw [ents_get, show k + 1 + i = k + (i + 1) from by allgen_close_more]
noncomputable def rowsSto (bs : List Blk) : Sto := bs.map fun b => .lst (b.2.map rowV)
noncomputable def blkSto (σ : Sto) (bs : List Blk) : Sto := σ ++ .lst (ents σ.length 0 bs) :: rowsSto bs
theorem blkSto_row {σ : Sto} {bs : List Blk} {i : Nat} {b : Blk} (h : bs[i]? = some b) : (blkSto σ bs)[σ.length + 1 + i]? = some (.lst (b.2.map rowV)) := by
  unfold blkSto rowsSto
  rw [List.getElem?_append_right (by allgen_close_more), show σ.length + 1 + i - σ.length = i + 1 from by allgen_close_more, List.getElem?_cons_succ, List.getElem?_map, h]; rfl
theorem blkSto_found {σ : Sto} {bs : List Blk} : (blkSto σ bs)[σ.length]? = some (.lst (ents σ.length 0 bs)) := by
  unfold blkSto; simp

theorem belL_ents {n m : Nat} : ∀ (k : Nat) (bs : List Blk), n + 1 + k + bs.length ≤ m → belL m (ents n k bs)
  | _, [], _ => trivial
  | k, b :: r, h => by
    rw [List.length_cons] at h
    exact ⟨⟨belL_strs _, by show n + 1 + k < m; allgen_close_more, trivial⟩, belL_ents (k + 1) r (by allgen_close_more)⟩
theorem raw_ne {lines : List Str} (hf : ∀ x, lines[0]? = some x → dotted (Txt.split x " ")) : ∀ i, 0 < i → i ≤ lines.length → rawBlocks (lines.take i) ≠ [] := by
  have step : ∀ bs x, bs ≠ [] → blkStep bs x ≠ [] := by
    intro bs x h
    unfold blkStep
    split
    · simp
    · obtain ⟨u, z, rfl⟩ : ∃ u z, bs = u ++ [z] := ⟨bs.dropLast, bs.getLast h, (List.dropLast_concat_getLast h).symm⟩
      rw [addRow_last]; simp
  intro i
  induction i with
  | zero => intro h; allgen_close_more
  | succ i ih =>
    intro _ hi
    obtain ⟨x, hx⟩ : ∃ x, lines[i]? = some x := ⟨_, List.getElem?_eq_getElem (by allgen_close_more)⟩
    unfold rawBlocks at ih ⊢
    rw [take_snoc hx, List.foldl_append]
    show blkStep _ x ≠ []
    rcases Nat.eq_zero_or_pos i with rfl | h0
    · simp only [List.take_zero, List.foldl_nil]
      unfold blkStep
      rw [if_pos (hf x hx)]; simp
    · exact step _ _ (ih h0 (by allgen_close_more))
theorem raw_succ {lines : List Str} {i : Nat} {x : Str} (h : lines[i]? = some x) : rawBlocks (lines.take (i + 1)) = blkStep (rawBlocks (lines.take i)) x := by
  unfold rawBlocks
  rw [take_snoc h, List.foldl_append]; rfl
theorem addRow_len (ws : List Str) : ∀ bs, (addRow ws bs).length = bs.length
  | [] => rfl
  | [_] => rfl
  | a :: b :: r => by
    show (addRow ws (b :: r)).length + 1 = _
    rw [addRow_len ws (b :: r)]; rfl
theorem raw_len {lines : List Str} : ∀ i, i ≤ lines.length → (rawBlocks (lines.take i)).length ≤ i := by
  intro i
  induction i with
  | zero => intro _; simp [rawBlocks]
  | succ i ih =>
    intro hi
    obtain ⟨x, hx⟩ : ∃ x, lines[i]? = some x := ⟨_, List.getElem?_eq_getElem (by allgen_close_more)⟩
    rw [raw_succ hx]
    have := ih (by allgen_close_more)
    unfold blkStep
    split
    · simp; allgen_close_more
    · rw [addRow_len]; allgen_close_more
theorem addRow_rows (ws : List Str) : ∀ bs : List Blk, ∀ b ∈ addRow ws bs, ∃ b' ∈ bs, b.2.length ≤ b'.2.length + 1
  | [], b, h => by cases h
  | [a], b, h => by
    simp [addRow] at h
    exact ⟨a, by simp, by rw [h]; simp⟩
  | a :: a' :: r, b, h => by
    have h' : b ∈ a :: addRow ws (a' :: r) := h
    rcases List.mem_cons.mp h' with rfl | h'
    · exact ⟨b, by simp, by allgen_close_more⟩
    · obtain ⟨b', hb', e⟩ := addRow_rows ws (a' :: r) b h'
      exact ⟨b', .tail _ hb', e⟩
theorem raw_rows {lines : List Str} : ∀ i, i ≤ lines.length → ∀ b ∈ rawBlocks (lines.take i), b.2.length ≤ i := by
  intro i
  induction i with
  | zero => intro _ b h; simp [rawBlocks] at h
  | succ i ih =>
    intro hi b hb
    obtain ⟨x, hx⟩ : ∃ x, lines[i]? = some x := ⟨_, List.getElem?_eq_getElem (by allgen_close_more)⟩
    rw [raw_succ hx] at hb
    have := ih (by allgen_close_more)
    unfold blkStep at hb
    split at hb
    · rcases List.mem_append.mp hb with hb | hb
      · have := this b hb; allgen_close_more
      · simp at hb; subst hb; simp
    · obtain ⟨b', hb', e⟩ := addRow_rows _ _ b hb
      have := this b' hb'; allgen_close_more
theorem bel_blkSto {σ : Sto} (h : StoOk σ) (bs : List Blk) : StoOk (blkSto σ bs) := by
  unfold blkSto
  refine h.more fun o ho => ?_
  rcases List.mem_cons.mp ho with rfl | ho
  · exact belL_ents 0 bs (by simp [rowsSto]; allgen_close_more)
  · obtain ⟨b, _, rfl⟩ := List.mem_map.mp ho
    exact belL_rows _
end

section
open PySem PySem.W PyProof.Rows PySem.Calls
theorem pickL_mem {α : Type} {l : List α} {lo hi : Option Int} {x : α} (h : x ∈ pickL l lo hi) : x ∈ l := by
  unfold pickL at h
  obtain ⟨i, _, hi⟩ := List.mem_filterMap.mp h
  exact List.mem_of_getElem? hi

theorem f_law_blocks {c : Cx} {S : St} {k : Nat} (ok : Ok c (k + 10)) {text : Str} (hl : text.length ≤ 700000) (hf : ∀ x, (linesOf text)[0]? = some x → dotted (Txt.split x " ")) (hll : (linesOf text).length ≤ 800000) (h64 : ∀ b ∈ rawBlocks (linesOf text), b.2.length < 64) {P : V → St → Prop} (p : P (.lst ((blocks text).map blkV)) S) (hp : StoOk S.sto) : CW c S (.ref 245) [.str text] P := by
  have hsl : (1000000 : Nat) ≤ sizeLine := by rw [sizeLine_eq]; decide
  refine OWs.ro fun hro => ?_
  refine CW.def (names := ["text"]) (ds := []) (dvs := []) noX ok.W (by rfl) (by rfl) (by rfl) (by rfl) ok.room (by rfl) (fun _ _ => .nil) (by decide +kernel) (fun s us _ hu => ?_) (by decide +kernel) (by decide +kernel) (fun _ _ _ h => h.elim) fun L => ?_
  · obtain ⟨a, rfl⟩ := len1 hu
    exact .of_eq (by rfl)
  have hmem : ∀ x ∈ linesOf text, x.length ≤ 700000 := fun x hx => Nat.le_trans (part_short (pickL_mem hx)) hl
  repeat tb_rel
  refine EW.listM ?_
  repeat tb_rel
  refine ⟨?_, by simp⟩
  repeat tb_rel
  refine SW.for ?_
  refine IW.of ?_
  refine EW.sliceHiT ?_
  refine EW.strMeth1 (id := "str.split") ?sa ?sb ?_ ?sd ?se ?sf
  case sa => exact PySem.F.slot_str_split
  case sb => kernel_rfl
  case sd => exact attributeBase_plain rfl _ _
  case se => exact starEach_plain rfl _ _
  case sf => with_unfolding_all rfl
  repeat tb_rel
  refine ⟨_, rfl, ?_⟩
  repeat tb_rel
  refine StrM.split1 (by decide +kernel) (by allgen_close_more) (by rw [len_partsBetween]; have := StrLaws.occ_length_le text "\n" 0 text.length (text.length + 1); allgen_close_more) ?_
  repeat tb_rel
  refine ⟨_, rfl, ?_⟩
  refine ⟨_, rfl, .inl ⟨_, .l, by have := split_le text "\n"; simp; allgen_close_more, ?_⟩⟩
  rw [pickL_map]
  show E2 fun vs G => ItW _ _ _ (V.lst ((linesOf text).map .str)) vs G ∧ _
  generalize hlin : linesOf text = lines at hf hll h64 hmem
  have hbl : blocks text = (rawBlocks lines).map fun b => (b.1, srt b.2) := by unfold blocks; rw [hlin]
  refine ⟨_, _, ItW.lst ok.h .name, ?_⟩
  refine ⟨fun i S' => S'.sto = blkSto S.sto (rawBlocks (lines.take i)) ∧ S'.has "found" (.ref S.sto.length), ⟨rfl, by tb_start⟩, fun _ _ _ => trivial, ?_, ?_⟩
  · intro i v loc sto hv hJ0
    refine (?_ : let G0 := _; G0); intro G0
    obtain ⟨g1, g2⟩ := hJ0
    obtain rfl : sto = _ := g1
    unfold G0; clear G0
    intro Q0 hT0
    rw [List.getElem?_map] at hv
    obtain ⟨x, hx, rfl⟩ := Option.map_eq_some_iff.mp hv
    have hil := (List.getElem?_eq_some_iff.mp hx).1
    have hxl := hmem x (List.mem_of_getElem? hx)
    have hrl := raw_len i (Nat.le_of_lt hil)
    have hrr := raw_rows i (Nat.le_of_lt hil)
    have hxw := raw_succ hx
    have hne : 0 < i → rawBlocks (lines.take i) ≠ [] := fun h => raw_ne hf i h (Nat.le_of_lt hil)
    have hdot : i = 0 → dotted (Txt.split x " ") := fun h => hf x (by rw [← h]; exact hx)
    generalize rawBlocks (lines.take i) = bs at hrl hrr hxw hne ⊢
    have hw0 := split_pos x " "
    have hws := split_le x " "
    refine AsW.name ?_ (by exact ⟨rfl, .inl rfl⟩)
    repeat tb_rel
    refine EW.strMeth1 (id := "str.split") ?sa ?sb ?_ ?sd ?se ?sf
    case sa => exact PySem.F.slot_str_split
    case sb => kernel_rfl
    case sd => exact attributeBase_plain rfl _ _
    case se => exact starEach_plain rfl _ _
    case sf => with_unfolding_all rfl
    repeat tb_rel
    refine ⟨_, rfl, ?_⟩
    repeat tb_rel
    refine StrM.split1 (by decide +kernel) (by allgen_close_more) (by rw [len_partsBetween]; have := StrLaws.occ_length_le x " " 0 x.length (x.length + 1); allgen_close_more) ?_
    have hwl : ∀ y ∈ Txt.split x " ", y.length ≤ 700000 := fun y hy => Nat.le_trans (part_short hy) hxl
    unfold blkStep at hxw
    generalize Txt.split x " " = ws at hw0 hws hxw hdot hwl ⊢
    obtain ⟨w0, wr, rfl⟩ : ∃ w0 wr, ws = w0 :: wr := by
      cases ws with
      | nil => simp at hw0
      | cons a b => exact ⟨a, b, rfl⟩
    have hw0l := hwl w0 (.head _)
    iterate 4 tb_rel
    refine EW.sliceHiT ?_
    repeat tb_rel
    refine Item.lst (v := .str w0) (by decide) (by decide) (by rfl) ?_
    repeat tb_rel
    refine ⟨_, rfl, .inr ⟨w0, rfl, by allgen_close_more, ?_⟩⟩
    repeat tb_rel
    refine Op.eqS ?_
    refine ⟨_, rfl, ?_⟩
    by_cases hd : dotted (w0 :: wr)
    · rw [if_pos hd] at hxw
      have hd' : Txt.slice w0 none (some 1) = ("." : Str) := hd
      refine brT (by first | exact decide_eq_true hd' | simp [hd']) ?_
      repeat tb_rel
      refine EW.listMeth1 (id := "list.append") ?sa ?sb ?_ ?sd ?se ?sf
      case sa => exact slot_list_append
      case sb => kernel_rfl
      case sd => exact attributeBase_plain rfl _ _
      case se => exact starEach_plain rfl _ _
      case sf => with_unfolding_all rfl
      repeat tb_rel
      refine ⟨S.sto.length, _, rfl, by exact blkSto_found, ?_⟩
      refine EW.list ?_
      repeat tb_rel
      refine EW.listM ?_
      repeat tb_rel
      refine ⟨?_, by simp⟩
      repeat tb_rel
      refine ⟨?_, by simp; allgen_close_more⟩
      refine Meth.append (vs := ents S.sto.length 0 bs) (by show (blkSto S.sto bs ++ [_])[_]? = _; exact at_old blkSto_found) (by exact hro) (by rw [ents_len]; allgen_close_more) ?_
      repeat tb_rel
      refine ⟨?_, by tb_start⟩
      show (blkSto S.sto bs ++ [O.lst []]).set S.sto.length (.lst (ents S.sto.length 0 bs ++ [.lst [rowV (w0 :: wr), .ref (blkSto S.sto bs).length]])) = _
      have hbl2 : (blkSto S.sto bs).length = S.sto.length + 1 + bs.length := by unfold blkSto rowsSto; simp; allgen_close_more
      rw [hxw, hbl2]
      unfold blkSto
      rw [new1, List.cons_append, set0, ents_append]
      unfold rowsSto
      rw [List.map_append, Nat.zero_add]
      rfl
    · rw [if_neg hd] at hxw
      have hd' : ¬ Txt.slice w0 none (some 1) = ("." : Str) := hd
      refine brF (by first | exact decide_eq_false hd' | simp [hd']) ?_
      have hi0 : 0 < i := Nat.pos_of_ne_zero fun h => hd (hdot h)
      have hbn := hne hi0
      obtain ⟨u, z, rfl⟩ : ∃ u z, bs = u ++ [z] := ⟨bs.dropLast, bs.getLast hbn, (List.dropLast_concat_getLast hbn).symm⟩
      rw [addRow_last] at hxw
      rw [List.length_append] at hrl
      have hzr := hrr z (by simp)
      have hent : ents S.sto.length 0 (u ++ [z]) = ents S.sto.length 0 u ++ [V.lst [rowV z.1, .ref (S.sto.length + 1 + u.length)]] := by rw [ents_append, Nat.zero_add]; rfl
      repeat tb_rel
      refine EW.listMeth1 (id := "list.append") ?sa ?sb ?_ ?sd ?se ?sf
      case sa => exact slot_list_append
      case sb => kernel_rfl
      case sd => exact attributeBase_plain rfl _ _
      case se => exact starEach_plain rfl _ _
      case sf => with_unfolding_all rfl
      repeat tb_rel
      refine ⟨_, rfl, ?_⟩
      refine Item.last (vs := ents S.sto.length 0 u) (v := V.lst [rowV z.1, .ref (S.sto.length + 1 + u.length)]) (by rw [← hent]; exact blkSto_found) (by rw [ents_len]; allgen_close_more) ?_
      repeat tb_rel
      refine Item.lst (v := .ref (S.sto.length + 1 + u.length)) (by decide) (by decide) (by rfl) ?_
      have hrow : (blkSto S.sto (u ++ [z]))[S.sto.length + 1 + u.length]? = some (.lst (z.2.map rowV)) := blkSto_row (by simp)
      refine ⟨_, _, rfl, by exact hrow, ?_⟩
      repeat tb_rel
      refine Meth.append (by exact hrow) (by exact Nat.le_trans hro (by allgen_close_more)) (by simp; allgen_close_more) ?_
      repeat tb_rel
      refine ⟨?_, by tb_start⟩
      show (blkSto S.sto (u ++ [z])).set (S.sto.length + 1 + u.length) _ = _
      rw [hxw]
      unfold blkSto rowsSto
      rw [List.set_append_right _ _ (by allgen_close_more), show S.sto.length + 1 + u.length - S.sto.length = u.length + 1 from by rw [Nat.add_assoc, Nat.add_sub_cancel_left, Nat.add_comm], List.set_cons_succ, hent]
      have he2 : ents S.sto.length 0 (u ++ [(z.1, z.2 ++ [w0 :: wr])]) = ents S.sto.length 0 u ++ [V.lst [rowV z.1, .ref (S.sto.length + 1 + u.length)]] := by rw [ents_append, Nat.zero_add]; rfl
      rw [he2]
      congr 2
      rw [List.map_append, List.map_append, List.set_append_right _ _ (by simp)]
      simp [rowV]
  · intro loc sto hJ0
    refine (?_ : let G0 := _; G0); intro G0
    obtain ⟨g1, g2⟩ := hJ0
    obtain rfl : sto = _ := g1
    unfold G0; clear G0
    rw [List.length_map, List.take_length]
    have hrl := raw_len (lines := lines) lines.length (Nat.le_refl _)
    rw [List.take_length] at hrl
    generalize hbs : rawBlocks lines = bs at h64 hbl hrl ⊢
    repeat tb_rel
    refine EW.comp (cl := []) ?_ ClOk.nil
    refine IW.of ?_
    repeat tb_rel
    refine ⟨_, _, ItW.ref ok.h .tup (by exact blkSto_found), ?_⟩
    refine ⟨fun C j S2 => S2.sto = blkSto S.sto bs ++ [.lst (((bs.take j).map fun b => (b.1, srt b.2)).map blkV)], fun C => by rfl, fun C j S2 h => by rw [h]; exact at_old blkSto_found, ?_, ?_⟩
    · rintro C j v loc2 sto2 hv k1 Q0 hT0
      obtain rfl : sto2 = _ := k1
      rw [ents_get, Nat.zero_add] at hv
      obtain ⟨b, hb, rfl⟩ := Option.map_eq_some_iff.mp hv
      refine AsW.unpack (.inr .l) ?_ ok.h (by rfl)
      refine AsL.cons (AsW.name ?_ (by exact ⟨rfl, .inl rfl⟩))
      refine AsL.cons (AsW.name ?_ (by exact ⟨rfl, .inl rfl⟩))
      refine AsL.nil ?_
      refine TsW.nil (compY hT0 ?_)
      intro R0 hR0
      refine EW.list ?_
      repeat tb_rel
      refine EW.callBuiltin (id := "sorted") ok.W ⟨rfl, rfl, rfl⟩ (by kernel_rfl) (by kernel_rfl) ?_
      repeat tb_rel
      refine Sorted.seq (rows := b.2) (.r (by exact at_old (blkSto_row hb))) (h64 b (List.mem_of_getElem? hb)) (by have := ok.u; show c.A.units + 3 + 64 < _; allgen_close_more) ?_
      repeat tb_rel
      refine ⟨?_, by simp; allgen_close_more⟩
      refine hR0 _ _ ?_
      refine ⟨((bs.take j).map fun b => (b.1, srt b.2)).map blkV, by simp [St.set], by simp; allgen_close_more, ?_⟩
      show (blkSto S.sto bs ++ [O.lst _]).set (blkSto S.sto bs).length _ = _
      rw [take_snoc hb, set0 (r := [])]
      simp [blkV]
    · rintro C loc2 sto2 k1
      rw [ents_len, List.take_length] at k1
      rw [hbl] at p
      refine Back.frz (S2 := ⟨loc2, sto2⟩) (σ' := blkSto S.sto bs) k1 rfl ?_ (bel_blkSto hp bs) ?_
      · rw [belL_iff]
        intro v hv
        obtain ⟨b, _, rfl⟩ := List.mem_map.mp hv
        exact ⟨belL_strs _, belL_rows _, trivial⟩
      repeat tb_rel
      refine Back.pl (S2 := ⟨_, _⟩) (σ' := S.sto) (ex := .lst (ents S.sto.length 0 bs) :: rowsSto bs) rfl rfl ?_ hp p
      show belL _ _
      rw [belL_iff]
      intro v hv
      obtain ⟨b, _, rfl⟩ := List.mem_map.mp hv
      exact ⟨belL_strs _, belL_rows _, trivial⟩
end

section
open PySem PySem.W PyProof.Rows PySem.Calls
theorem Wd.keeps {K : Frag} {g g' : Heap} (W : Wd K g) (k : ∀ b o, g.get? b = some o → g'.get? b = some o) : Wd K g' := by
  obtain ⟨X, ⟨mg, mb, h1, h2, h3⟩, lim, mc, h4, h5⟩ := W
  exact ⟨X.keeps k, ⟨mg, mb, h1.keeps k, h2.keeps k, h3⟩, lim.keeps k, mc, h4.keeps k, h5⟩

theorem Back.elim {S : St} {v : V} {σ : Sto} (h : Back S (fun _ _ => False) v σ) : False := by
  cases h <;> assumption

inductive Came (g : Gd) (as : List Addr) (k d : Str) (s : Shared) (e : Value) (s' : Shared) : Prop
  | mk (x : Addr) (t1 t2 t3 : Tok) (h' : Heap) (tk' : Nat) (e1 : e = .ref x) (e2 : s' = (shT s h' tk')) (fl : Fly (hideAll s.heap as) g.stack x 64 [("kind", .str k t1), ("at", .int (-1) t2), ("detail", .str d t3)] h')
    (keep : ∀ a ∈ as, ∀ o, s.heap.get? a = some o → ∃ o', h'.get? a = some o' ∧ o'.data = o.data)

theorem wb_refused {c : Cx} {S : St} {k : Nat} (ok : Ok c (k + 50)) {N : Net} {j ji jo jc : Nat} (hN : NetAt S.sto j ji jo jc N) (hk : NetOkW N) (hp : StoOk S.sto) {kd d : Str} (herr : writeBlif N = .error (kd, d)) {as : List Addr}
    (has : ∀ env ∈ c.g.stack, ∀ a, env.frame = some a → a ∈ as) {ρ : Rho} {s : Shared} {us : List Value} (r : c.Rel ρ S s) (hus : VRs s.heap ρ [.ref j] us) (ha1 : ∀ a ∈ as, c.g.h.get? a = none) (ha2 : ∀ a ∈ as, ∃ o es n, s.heap.get? a = some o ∧ o.data = .dict es n) (ha3 : ∀ a ∈ as, ∀ q ∈ ρ, q.2 ≠ a)
    {E : Value → Shared → Prop} (hE : ∀ e s', Came c.g as kd d s e s' → E e s') :
    wpAny (model c.prog c.w) c.A (call (.ref 218) us) (fun _ _ => False) E s := by
  obtain ⟨ds, hds⟩ : ∃ ds : List Data, ds = as.filterMap fun a => (s.heap.get? a).map (·.data) := ⟨_, rfl⟩
  have hg : ∀ b o, c.g.h.get? b = some o → (hideAll s.heap as).get? b = some o := fun b o e => hideAll_get _ (r.base b o e) fun hm => by rw [ha1 b hm] at e; cases e
  let g₂ : Gd := { s₀ := { s with heap := hideAll s.heap as }, ro := S.sto.length, stack := c.g.stack, held := as.filterMap fun a => (s.heap.get? a).map fun o => (a, o.data) }
  let c₂ : Cx := { c with g := g₂ }
  have ok₂ : Ok c₂ (k + 50) := ⟨ok.W.keeps hg, ok.h, ok.d, ok.u, ok.st⟩
  obtain ⟨fd, body, F, hB⟩ := wb_fn (c := c₂) (P := fun _ _ => False) ok₂ hN hk (fun t ht => by rw [herr] at ht; cases ht) hp (Nat.le_refl _)
  refine wpAny_call (F.enter (K := KF c.w.params) ok.W ok.room r hus (by rfl) fun h₁ tk₁ hk₁ hCn r₁ => ?_)
  have hfree : ∀ b o, (hideAll s.heap as).get? b = some o → s.heap.get? b = some o := fun b o e => of_hideAll _ e
  have inHeld : ∀ p ∈ g₂.held, p.1 ∈ as ∧ ∃ o, s.heap.get? p.1 = some o ∧ o.data = p.2 := fun p hp => by
    obtain ⟨a, ha, e⟩ := List.mem_filterMap.mp hp
    obtain ⟨o, ho, rfl⟩ := Option.map_eq_some_iff.mp e
    exact ⟨ha, o, ho, rfl⟩
  have hLn : s.heap.get? (callEnvC fd s.heap.objs.size 218).locals = none := fresh_none
  have r₂ := r₁.regd s.toks (stk := callEnvC fd s.heap.objs.size 218 :: c.g.stack) (H := hideAll s.heap as) (hl := g₂.held) (fun b o e => hk₁ b o (hfree b o e)) ?_ ?_ ?_ ?_
  · refine hB s.heap.objs.size ρ _ _ _ r₂ (fun fl S' ρ' u h' tk' p₂ r₂ o₂ st₂ => p₂.elim.elim) ⟨fun e s' hXe => ?_, PassesOwn.leaving⟩
    obtain ⟨kk, dd, hkd, x, t1, t2, t3, rfl, hs, Fl, Hd⟩ := hXe
    rw [herr] at hkd
    cases hkd
    refine wpAny_mono (Q := fun _ s'' => E (.ref x) s'') (E := fun _ _ => False) ?_ (fun _ s'' z => z) fun _ _ z => z.elim
    refine fly_leave (Around.frames_deeper ok.st) rfl Fl fun h' F' sd => hE _ _ ⟨x, t1, t2, t3, h', s'.toks, rfl, ?_, F', fun a ha o ho => ?_⟩
    · have e1 := congrArg (fun z : Shared => ((shT z h' s'.toks) : Shared)) hs
      exact e1
    · have hm : (a, o.data) ∈ g₂.held := List.mem_filterMap.mpr ⟨a, ha, by rw [ho]; rfl⟩
      obtain ⟨⟨o1, e1, d1⟩, nf⟩ := Hd _ hm
      obtain ⟨o2, e2, d2⟩ := sd _ o1 e1 fun vs z => nf vs (d1 ▸ z)
      exact ⟨o2, e2, d2.trans d1⟩
  · cases q : (hideAll s.heap as).get? (callEnvC fd s.heap.objs.size 218).locals with
    | none => rfl
    | some o => rw [hfree _ _ q] at hLn; cases hLn
  · intro y hy
    cases q : (hideAll s.heap as).get? y.2 with
    | none => rfl
    | some o => have := hfree _ _ q; rw [hCn y hy] at this; cases this
  · refine funFrames_rebase r₁.frs fun env he a ha => ?_
    rcases List.mem_cons.mp he with rfl | he
    · obtain rfl : (callEnvC fd s.heap.objs.size 218).locals = a := Option.some.inj ha
      cases q : (hideAll s.heap as).get? (callEnvC fd s.heap.objs.size 218).locals with
      | none => rfl
      | some o => rw [hfree _ _ q] at hLn; cases hLn
    · exact hideAll_none _ (has env he a ha)
  · intro p hp
    obtain ⟨ha, o, ho, hd⟩ := inHeld p hp
    obtain ⟨o', es, n, ho', hd'⟩ := ha2 _ ha
    rw [ho] at ho'
    cases ho'
    refine ⟨⟨o, hk₁ _ _ ho, hd⟩, (fun vs z => by rw [← hd, hd'] at z; cases z), (fun z => by rw [z, hLn] at ho; cases ho), fun y hy z => ?_, ha3 _ ha⟩
    have := hCn y hy
    rw [z, ho] at this; cases this
end

section
open PySem PySem.W PyProof.Rows PySem.Calls
inductive RefFn (prog : Program) (w : World) : Prop
  | mk (fd : FuncData) (b0 : List Stmt) (np : Pos) (st₀ : Stmt) (hpos tpos : Pos) (rest : List Stmt)
    (F : FnAt (KF w.params) 252 ["net", "due"] fd (.Try b0 [.ExceptHandler (some (.Name "FormatError" np)) (some "error") [st₀] hpos] [] [] tpos :: rest))
    (hTry : (∀ (g : Gd) (A : Around) (L : Addr) (X : Value → Shared → Prop) (S : St) (j : Nat), Wd (KF w.params) g.h → S.has "net" (.ref j) → CW ⟨prog, w, g, A, callEnvC fd L 252, X⟩ S (.ref 218) [.ref j] (fun _ _ => False) → XW ⟨prog, w, g, A, callEnvC fd L 252, X⟩ S b0 fun _ _ => False))
    (hSuite : (∀ (g : Gd) (A : Around) (L : Addr) (X : Value → Shared → Prop) (S : St) (x : Addr) (kd d : Str) (t1 t2 t3 : Tok), Wd (KF w.params) g.h → A.units + 64 < cLine → PyData.strOk kd = true → PyData.strOk d = true → S.has "error" (.obj x) → S.has "due" (.tup [.str kd, .str d]) →
      ExcIn g.h x 64 [("kind", .str kd t1), ("at", .int (-1) t2), ("detail", .str d t3)] → XW ⟨prog, w, g, A, callEnvC fd L 252, X⟩ S [st₀] fun fl S' => fl = .ret (.bool true) ∧ S' = S))
    (hEnv : (∀ L, (callEnvC fd L 252).kindOf "FormatError" = some .globalImplicit ∧ (callEnvC fd L 252).kindOf "error" = some .local ∧ (callEnvC fd L 252).cells = [] ∧ (callEnvC fd L 252).scope.kind = .function ∧ EnvOk (callEnvC fd L 252)))
theorem refused_fn (prog : Program) (w : World) : RefFn prog w := by
  have hsl : (1000000 : Nat) ≤ sizeLine := by rw [sizeLine_eq]; decide
  refine ⟨_, _, _, _, _, _, _, ⟨⟨_, _, _, by rfl⟩, by rfl, by rfl, by rfl, by decide, fun s us hu => (by
    obtain ⟨a, b, rfl⟩ := len2 hu
    exact .of_eq (by rfl)), by decide +kernel, by decide +kernel, by with_unfolding_all rfl, by with_unfolding_all rfl, by with_unfolding_all rfl⟩, ?_, ?_, fun L => ⟨by rfl, by rfl, by rfl, by rfl, ⟨rfl, rfl, rfl⟩⟩⟩
  · intro g A L X S j hW hj hc
    repeat tb_rel
    refine EW.callDef (f := 218) (K := KF w.params) hW ⟨rfl, rfl, rfl⟩ (by kernel_rfl) (by kernel_rfl) ?_
    repeat tb_rel
    exact fun ρ s xs Q E r hx q x => hc ρ s xs Q E r hx (fun _ _ _ _ _ _ z => z.elim) x
  · intro g A L X S x kd d t1 t2 t3 hW hu hk hd he hdue hI
    repeat tb_rel
    with_reducible refine EW.tuple ?_
    with_reducible refine AW.cons ?_
    refine EW.excAttr (K := KF w.params) hW ?_
    repeat tb_rel
    refine ⟨x, 64, _, _, .str kd, rfl, hI, by rfl, fun h ρ => .str _ _, by kernel_rfl, ?_⟩
    with_reducible refine AW.cons ?_
    refine EW.excAttr (K := KF w.params) hW ?_
    repeat tb_rel
    refine ⟨x, 64, _, _, .int (-1), rfl, hI, by rfl, fun h ρ => .int _ _, by kernel_rfl, ?_⟩
    with_reducible refine AW.cons ?_
    refine EW.excAttr (K := KF w.params) hW ?_
    repeat tb_rel
    refine ⟨x, 64, _, _, .str d, rfl, hI, by rfl, fun h ρ => .str _ _, by kernel_rfl, ?_⟩
    repeat tb_rel
    refine ⟨?_, by simp; allgen_close_more⟩
    with_reducible refine EW.tuple ?_
    repeat tb_rel
    refine Item.tup (v := .str kd) (by decide) (by decide) (by rfl) ?_
    repeat tb_rel
    refine ⟨_, rfl, ?_⟩
    repeat tb_rel
    refine Item.tup (v := .str d) (by decide) (by decide) (by rfl) ?_
    repeat tb_rel
    refine ⟨?_, by simp; allgen_close_more⟩
    refine Op.eqD (d := .tuple [.str kd, .int (-1), .str d]) (e := .tuple [.str kd, .int (-1), .str d]) (.tup (.cons (.str _) (.cons (.int _) (.cons (.str _) .nil)))) (.tup (.cons (.str _) (.cons (.int _) (.cons (.str _) .nil)))) ?_ ?_ hu ?_
    · simp [kqdOk, hk, hd]
    · simp [kqdOk, hk, hd]
    repeat tb_rel
    exact ⟨by simp, rfl⟩
end

section
open PySem PySem.W PyProof.Rows PySem.Calls
theorem came_elim {prog : Program} {w : World} {g : Gd} {env : Env} {S : St} {as : List Addr} {kd d : Str} {E : Value → Shared → Prop} (h : ∀ ρ₂ s₂ x t1 t2 t3 h₃ tk₃, Rel prog w g env ρ₂ S s₂ → Fly (hideAll s₂.heap as) g.stack x 64 [("kind", .str kd t1), ("at", .int (-1) t2), ("detail", .str d t3)] h₃ →
    (∀ a ∈ as, ∀ o, s₂.heap.get? a = some o → ∃ o', h₃.get? a = some o' ∧ o'.data = o.data) → E (.ref x) (shT s₂ h₃ tk₃)) : ∀ e s', (∃ ρ₂ s₂, Rel prog w g env ρ₂ S s₂ ∧ Came g as kd d s₂ e s') → E e s' := by
  rintro e s' ⟨ρ₂, s₂, r₂, x, t1, t2, t3, h₃, tk₃, rfl, rfl, Fl, keep⟩
  exact h ρ₂ s₂ x t1 t2 t3 h₃ tk₃ r₂ Fl keep
theorem f_law_refused {c : Cx} {S : St} {k : Nat} (ok : Ok c (k + 80)) (hst : c.g.stack = [c.env]) (hfrm : c.env.frame = some c.env.locals) {N : Net} {j ji jo jc : Nat} (hN : NetAt S.sto j ji jo jc N) (hk : NetOkW N) (hp : StoOk S.sto) {kd d : Str} (herr : writeBlif N = .error (kd, d)) (h1 : PyData.strOk kd = true) (h2 : PyData.strOk d = true) {P : V → St → Prop}
    (p : P (.bool true) S) : CW c S (.ref 252) [.ref j, .tup [.str kd, .str d]] P := by
  obtain ⟨fd, b0, np, st₀, hpos, tpos, rest, F, hTry, hSuite, hEnv⟩ := refused_fn c.prog c.w
  refine CW.ofCC ?_
  intro ρ s us R r hus q x
  refine F.enter (K := KF c.w.params) ok.W ok.room r hus (by rfl) fun h₁ tk₁ hk₁ hCn r₁ => ?_
  have hLn : s.heap.get? s.heap.objs.size = none := fresh_none
  generalize hL' : s.heap.objs.size = L' at hCn r₁ hLn ⊢
  refine (?_ : let QA : Flow → Shared → Prop := _; let EA : Value → Shared → Prop := _; wpAny _ _ _ QA EA _)
  intro QA EA
  obtain ⟨k1, k2, k3, k4, k5⟩ := hEnv L'
  obtain ⟨m, hm⟩ := r.ns
  obtain ⟨oL, esL, nL, eL, dL, rL⟩ := id hm
  have hne : c.env.locals ≠ L' := fun z => by rw [z, hLn] at eL; cases eL
  have hloc : (callEnvC fd L' 252).locals = L' := rfl
  have hfr' : (callEnvC fd L' 252).frame = some L' := rfl
  let as : List Addr := [L', c.env.locals]
  let H₁ : Heap := hideAll s.heap [c.env.locals]
  let hl : List (Addr × Data) := [(c.env.locals, oL.data)]
  have hH₁ : ∀ b o, H₁.get? b = some o → s.heap.get? b = some o := fun b o e => of_hideAll _ e
  have hH₁n : ∀ b, s.heap.get? b = none → H₁.get? b = none := fun b e => by
    cases q : H₁.get? b with
    | none => rfl
    | some o => rw [hH₁ _ _ q] at e; cases e
  have nf : ∀ vs, oL.data ≠ .fields vs := fun vs z => by rw [dL] at z; cases z
  -- the frame of the callee, all else in the base
  have rg := r₁.regd (H := H₁) s.toks (hl := hl) (fun b o e => hk₁ b o (hH₁ b o e)) (hH₁n _ hLn) (fun y hy => hH₁n _ (hCn y hy)) (funFrames_rebase r₁.frs fun env he a ha => by
      rw [hst] at he
      rcases List.mem_cons.mp he with rfl | he
      · obtain rfl : L' = a := Option.some.inj ha
        exact hH₁n _ hLn
      · simp at he; subst he
        rw [hfrm] at ha; cases ha
        exact hideAll_none _ (.head _)) (fun p hp => by
      simp only [hl, List.mem_singleton] at hp
      subst hp
      refine ⟨⟨oL, hk₁ _ _ eL, rfl⟩, nf, hne, fun y hy => ?_, fun q hq => r.mL q hq⟩
      rw [k3] at hy; cases hy)
  let g₁ : Gd := { s₀ := { s with heap := H₁ }, ro := S.sto.length, stack := callEnvC fd L' 252 :: c.g.stack, held := hl }
  let S₁ : St := ⟨(["net", "due"] : List Str).zip [.ref j, .tup [.str kd, .str d]], S.sto⟩
  let A₁ : Around := c.A.deeper (callEnvC fd L' 252)
  let X₁ : Value → Shared → Prop := fun e s' => ∃ ρ₂ s₂, Rel c.prog c.w g₁ (callEnvC fd L' 252) ρ₂ S₁ s₂ ∧ Came g₁ as kd d s₂ e s'
  let c₁ : Cx := ⟨c.prog, c.w, g₁, A₁, callEnvC fd L' 252, X₁⟩
  have hg₁ : ∀ b o, c.g.h.get? b = some o → g₁.h.get? b = some o := fun b o e => hideAll_get _ (r.base b o e) (by simp; rintro rfl; rw [r.gL] at e; cases e)
  have ok₁ : Ok c₁ (k + 50) := ⟨ok.W.keeps hg₁, ok.h, by have := ok.d; show c.A.depth + 1 + (k + 50) < _; allgen_close_more, by have := ok.u; show c.A.units + 3 + 10 * (k + 50) < _; allgen_close_more, Around.frames_deeper ok.st⟩
  have rr₁ : c₁.Rel ρ S₁ (shT s h₁ tk₁) := rg
  have hstk : g₁.stack = [callEnvC fd L' 252, c.env] := by show callEnvC fd L' 252 :: c.g.stack = _; rw [hst]
  have hcall : CW c₁ S₁ (.ref 218) [.ref j] (fun _ _ => False) := by
    intro ρ₂ s₂ us₂ Q₂ E₂ r₂ hus₂ q₂ x₂
    refine wpAny_mono (wb_refused (c := c₁) (S := S₁) ok₁ hN hk hp herr (as := as) (fun env he a ha => ?_) r₂ hus₂ (fun a ha => ?_) (fun a ha => ?_) (fun a ha q hq => ?_) (E := E₂) fun e s' hc => x₂.1 e s' ⟨ρ₂, s₂, r₂, hc⟩) (fun _ _ z => z.elim) fun _ _ e => e
    · have he' : env ∈ [callEnvC fd L' 252, c.env] := hstk ▸ he
      simp at he'
      rcases he' with rfl | rfl
      · obtain rfl : L' = a := Option.some.inj ha
        exact .head _
      · rw [hfrm] at ha; cases ha
        exact .tail _ (.head _)
    · simp only [as, List.mem_cons, List.not_mem_nil, or_false] at ha
      rcases ha with rfl | rfl
      · exact r₂.gL
      · exact hideAll_none _ (.head _)
    · simp only [as, List.mem_cons, List.not_mem_nil, or_false] at ha
      rcases ha with rfl | rfl
      · obtain ⟨m', o, es, n, e, dd, _⟩ := r₂.ns
        exact ⟨o, es, n, e, dd⟩
      · obtain ⟨⟨o, e, dd⟩, _⟩ := r₂.held (c.env.locals, oL.data) (.head _)
        exact ⟨o, esL, nL, e, dd.trans dL⟩
    · simp only [as, List.mem_cons, List.not_mem_nil, or_false] at ha
      rcases ha with rfl | rfl
      · exact r₂.mL q hq
      · exact (r₂.held (c.env.locals, oL.data) (.head _)).2.2.2.2 q hq
  have hbody : XW c₁ S₁ b0 fun _ _ => False := hTry g₁ A₁ L' X₁ S₁ j ok₁.W (by with_unfolding_all rfl) hcall
  refine wpAny_execs_cons ?_
  refine (?_ : let QB : Flow → Shared → Prop := _; wpAny _ _ _ QB _ _)
  intro QB
  refine wpAny_Try_except ?_
  refine hbody ρ _ _ _ rr₁ (fun _ _ _ _ _ _ z => z.elim) ⟨came_elim fun ρ₂ s₂ x t1 t2 t3 h₃ tk₃ r₂ Fl keep => ?_, PassesOwn.looking⟩
  top_raiseB0
  have hs₂ : ∀ (h : Heap) (t : Nat), ((shT s₂ h t) : Shared) = (shT s h t) := fun h t => by
    have e := congrArg (fun z : Shared => ((shT z h t) : Shared)) r₂.gens.2
    exact e
  have hfrs : A₁.frames = some (callEnvC fd L' 252 :: [c.env]) := by have := Around.frames_deeper (env := callEnvC fd L' 252) ok.st; rw [hst] at this; exact this
  rw [hstk] at Fl
  refine fly_note hfrs rfl Fl fun h₄ F₄ sd₄ => ?_
  top_raiseB0
  have kb : ∀ b o, c.g.h.get? b = some o → (hideAll s₂.heap as).get? b = some o := fun b o e => hideAll_get _ (r₂.base b o (hg₁ b o e)) (by
    simp only [as, List.mem_cons, List.not_mem_nil, or_false, not_or]
    refine ⟨?_, ?_⟩
    · rintro rfl; rw [r.base _ _ e] at hLn; cases hLn
    · rintro rfl; rw [r.gL] at e; cases e)
  have kb₄ : ∀ b o, c.g.h.get? b = some o → h₄.get? b = some o := fun b o e => F₄.stays b o (kb b o e)
  obtain ⟨mg, mb, hg, hb, _⟩ := ok.W.T
  refine wpAny_handleBy_cons (codeAny_handlers_test (Name_function_global k4 k1 (loadGlobal_global (by rw [k5.globals]; exact hg.keeps kb₄) (mg_of ok.W.X hg (by kernel_rfl : nsIn (KF c.w.params) mainGlobals "FormatError" = some (some (.ref 64)))) ?_) (by decide +kernel))) (by intro q; cases q)
  obtain ⟨vs4, dx4, es4, n4, he4, _⟩ := F₄.obj
  have LT : Looks (model c.prog c.w) h₄ (typeOf (.ref x)) (.ref 64) := (Looks.ld he4).andThen .now
  refine exm_one (M := model c.prog c.w) (b := true) (ok.W.X.keeps kb₄) LT (by kernel_rfl) _ _ _ _ (fun _ _ e => e) ?_
  refine codeAny_handlers_suite_as ?_
  refine fly_flight (s := (shT s₂ h₄ tk₃)) F₄ fun h₅ F₅ sd₅ => ?_
  top_raiseB0
  have sd : ∀ a ∈ as, ∀ o, s₂.heap.get? a = some o → (∀ vs, o.data ≠ .fields vs) → ∃ o', h₅.get? a = some o' ∧ o'.data = o.data := fun a ha o e hn => by
    obtain ⟨o1, e1, d1⟩ := keep a ha o e
    obtain ⟨o2, e2, d2⟩ := sd₄ a o1 e1 fun vs z => hn vs (d1 ▸ z)
    obtain ⟨o3, e3, d3⟩ := sd₅ a o2 e2 fun vs z => hn vs (d1 ▸ d2 ▸ z)
    exact ⟨o3, e3, d3.trans (d2.trans d1)⟩
  have hin1 : L' ∈ as := .head _
  have hin2 : c.env.locals ∈ as := .tail _ (.head _)
  obtain ⟨m₂, o₂, es₂, n₂, e₂, d₂, rest₂⟩ := r₂.ns
  obtain ⟨⟨oc, ec, dc⟩, _, nc1, _, nc3⟩ := r₂.held (c.env.locals, oL.data) (.head _)
  obtain ⟨o₂', e₂', d₂'⟩ := sd L' hin1 o₂ e₂ fun vs z => by rw [d₂] at z; cases z
  obtain ⟨oc', ec', dc'⟩ := sd _ hin2 oc ec fun vs z => nf vs (dc.symm.trans z)
  -- the same store, the frames hidden
  obtain ⟨hX, hX1, hX2⟩ := heapWith s₂.heap h₅ c.env.locals ⟨oc, ec⟩
  have ra := r₂.regd (H := hideAll s₂.heap as) s₂.toks (stk := []) (hl := []) (fun b o e => of_hideAll _ e) (hideAll_none _ hin1) (fun y hy => by rw [k3] at hy; cases hy) trivial (fun p hp => by cases hp)
  have rb := (ra.otherDict (I := c.env.locals) (h' := hX) s₂.toks ec (dc.trans dL) (hideAll_none _ hin2) nc3 (Ne.symm hne) (fun b hb => by cases hb) (fun b hb => by cases hb) fun b o hb e => (hX2 b hb).trans e).1
  have kX : ∀ b o, b ≠ L' → hX.get? b = some o → h₅.get? b = some o := fun b o hb e => by
    by_cases hc : b = c.env.locals
    · rw [hc] at e ⊢; rw [← hX1]; exact e
    · rw [hX2 b hc] at e
      exact F₅.stays b o (hideAll_get _ e (by simp [as]; exact ⟨hb, hc⟩))
  have rc := (rb.relocal (m := m₂) (h' := h₅) tk₃ ⟨o₂, es₂, n₂, (hX2 L' (Ne.symm hne)).trans e₂, d₂, rest₂⟩ ⟨o₂', es₂, n₂, e₂', d₂'.trans d₂, rest₂⟩ kX).1
  have r₅ := rc.regd (H := hideAll h₅ as) tk₃ (stk := [callEnvC fd L' 252, c.env]) (hl := hl) (fun b o e => of_hideAll _ e) (hideAll_none _ hin1) (fun y hy => by rw [k3] at hy; cases hy) (funFrames_rebase F₅.frames fun env he a ha => by
      simp at he
      rcases he with rfl | rfl
      · obtain rfl : L' = a := Option.some.inj ha
        exact hideAll_none _ hin1
      · rw [hfrm] at ha; cases ha
        exact hideAll_none _ hin2) (fun p hp => by
      simp only [hl, List.mem_singleton] at hp
      subst hp
      exact ⟨⟨oc', ec', dc'.trans dc⟩, nf, hne, fun y hy => (by rw [k3] at hy; cases hy), nc3⟩)
  have hex : ExcIn (hideAll h₅ as) x 64 [("kind", .str kd t1), ("at", .int (-1) t2), ("detail", .str d t3)] := by
    obtain ⟨vs5, dx5, es5, n5, q1, q2, q3, q4, q5, _⟩ := F₅.obj
    have nx : x ∉ as := by
      simp only [as, List.mem_cons, List.not_mem_nil, or_false, not_or]
      refine ⟨?_, ?_⟩
      · rintro rfl; rw [e₂'] at q1; cases q1; rw [d₂] at d₂'; cases d₂'
      · rintro rfl; rw [ec'] at q1; cases q1; exact nf _ (dc.symm.trans dc'.symm)
    have nd : dx5 ∉ as := by
      simp only [as, List.mem_cons, List.not_mem_nil, or_false, not_or]
      refine ⟨fun z => q5 L' ?_ z.symm, fun z => q5 c.env.locals ?_ z.symm⟩
      · simp [List.filterMap_cons, hfr']
      · simp [List.filterMap_cons, hfr', hfrm]
    exact ⟨_, dx5, es5, n5, ⟨hideAll_get _ q1 nx, rfl, rfl, hideAll_get _ q3 nd⟩, rfl, q4⟩
  refine wp_storeVar r₅ (v := .obj x) (.obj x) ⟨k4, .inl k2⟩ fun h₆ tk₆ r₆ st₆ => ?_
  have hnas : ∀ b o, s.heap.get? b = some o → b ≠ c.env.locals → b ∉ as := fun b o e hb => by
    simp only [as, List.mem_cons, List.not_mem_nil, or_false, not_or]
    exact ⟨(fun z => by rw [z, hLn] at e; cases e), hb⟩
  have hW₅ : Wd (KF c.w.params) (hideAll h₅ as) := ok.W.keeps fun b o e => hideAll_get _ (F₅.stays b o (kb b o e)) (hnas b o (r.base b o e) fun z => by rw [z, r.gL] at e; cases e)
  refine wpAny_mono (hSuite _ (A₁.mark (some (.ref x))) L' (fun _ _ => False) (S₁.set "error" (.obj x)) x kd d t1 t2 t3 hW₅ (by have := ok.u; show c.A.units + 3 + 64 < _; allgen_close_more) h1 h2 look_here (look_there (by kernel_rfl) (by with_unfolding_all rfl)) hex ρ₂ _ _ (fun _ _ => False) r₆ (fun fl S' ρ' u h' tk' pp rr oo ss => ?fin) ⟨fun _ _ z => z, PassesOwn.never⟩) (fun _ _ z => z) fun _ _ z => z.elim
  top_raiseB0
  obtain ⟨rfl, rfl⟩ := pp
  cases oo with
  | ret hv =>
    cases hv
    obtain ⟨m₆, hm₆⟩ := rr.ns
    top_raiseB0
    refine wpAny_nameGoes k2 hm₆ (by rw [k4]; rfl) fun h₇ m₇ hn₇ sb₇ => ?_
    have e0 := hs₂ h₇ (tk' + 1)
    obtain ⟨⟨od, ed, dd⟩, _⟩ := rr.held (c.env.locals, oL.data) (.head _)
    have hm' : h₇.Ns c.env.locals m := ⟨od, esL, nL, (sb₇.2 _ hne).trans ed, dd.trans dL, rL⟩
    have kf : ∀ b o, b ≠ c.env.locals → s.heap.get? b = some o → h₇.get? b = some o := fun b o hb e => by
      have hbL : b ≠ L' := fun z => by rw [z, hLn] at e; cases e
      have q1 : H₁.get? b = some o := hideAll_get _ e (by simp; exact hb)
      have q2 := r₂.base b o q1
      have q3 := F₅.stays b o (hideAll_get _ q2 (hnas b o e hb))
      have q4 := rr.base b o (hideAll_get _ q3 (hnas b o e hb))
      exact (sb₇.2 b hbL).trans q4
    obtain ⟨rF, sF⟩ := r.relocal (tk' + 1) hm hm' kf
    have fin := q (.bool true) S ρ (.bool true) h₇ (tk' + 1) p rF (.bool true) sF
    rw [← e0] at fin
    exact fin
end

section
open PySem PySem.W PyProof.Rows PySem.Calls
noncomputable def IsLaw (p : Params) (fd : FuncData) (sts : List Stmt) : Prop := ∃ oc od sl, (KF p).lookup 257 = some ⟨oc, od, .func fd, sl⟩ ∧ fd.body = .stmts sts

theorem Str.append_assoc (a b c : Str) : a ++ b ++ c = a ++ (b ++ c) := Str.ext' (by show (a.cps ++ b.cps) ++ c.cps = a.cps ++ (b.cps ++ c.cps); exact Array.append_assoc ..)
theorem Str.nil_append (a : Str) : ("" : Str) ++ a = a := Str.ext' (by show #[] ++ a.cps = a.cps; exact Array.empty_append ..)
theorem bitName_eq (n : Str) (i : Nat) : n ++ ((("" ++ "[") ++ istr i) ++ "]") = bitName n i := by
  unfold bitName
  simp only [Str.append_assoc, Str.nil_append]

noncomputable def nameOf (T : List Str) (i : Nat) : Str := if i = 0 then "$false" else if i = 1 then "$true" else if i < 2 + T.length then T.getD (i - 2) "" else netText i
noncomputable def nmT (T : List Str) (n : Nat) : Names := (List.range n).map fun (i : Nat) => ((i : Int), nameOf T i)
theorem nmT_succ (T : List Str) (n : Nat) : nmT T (n + 1) = nmT T n ++ [((n : Int), nameOf T n)] := by
  unfold nmT; rw [List.range_succ, List.map_append]; rfl
theorem nameOf_app (T : List Str) (t : Str) {i : Nat} (h : i < 2 + T.length) : nameOf (T ++ [t]) i = nameOf T i := by
  unfold nameOf
  by_cases h0 : i = 0
  · rw [if_pos h0, if_pos h0]
  · by_cases h1 : i = 1
    · rw [if_neg h0, if_pos h1, if_neg h0, if_pos h1]
    · rw [if_neg h0, if_neg h1, if_neg h0, if_neg h1, if_pos h, if_pos (by simp; allgen_close_more)]
      rw [List.getD_eq_getElem?_getD, List.getD_eq_getElem?_getD, List.getElem?_append_left (by allgen_close_more)]
theorem nmT_snoc (T : List Str) (t : Str) : nmT (T ++ [t]) (2 + T.length + 1) = nmT T (2 + T.length) ++ [(((2 + T.length : Nat) : Int), t)] := by
  rw [nmT_succ]
  congr 1
  · unfold nmT
    refine List.map_congr_left fun i hi => ?_
    rw [nameOf_app T t (List.mem_range.mp hi)]
  · congr 2
    unfold nameOf
    rw [if_neg (by allgen_close_more), if_neg (by allgen_close_more), if_pos (by simp), List.getD_eq_getElem?_getD]
    rw [show 2 + T.length - 2 = T.length from by allgen_close_more]
    simp
theorem nmT_put {T : List Str} {n : Nat} {v : V} : putK (nmT T n).v (n : Int) v = (nmT T n).v ++ [((n : Int), v)] := putK_new fun p hp e => by
  unfold Names.v nmT at hp
  simp only [List.map_map, List.mem_map, List.mem_range, Function.comp] at hp
  obtain ⟨i, hi, rfl⟩ := hp
  have : (i : Int) = (n : Int) := e
  allgen_close_more
theorem nmT_get {T : List Str} {n i : Nat} (h : i < n) : (nmT T n).get (i : Int) = some (nameOf T i) := by
  unfold nmT Names.get
  rw [List.find?_map]
  have : List.find? ((fun p : Int × Str => decide (p.1 = (i : Int))) ∘ fun (k : Nat) => ((k : Int), nameOf T k)) (List.range n) = some i := by
    rw [List.find?_eq_some_iff_append]
    refine ⟨by simp, List.range i, (List.range (n - i - 1)).map (· + (i + 1)), ?_, fun k hk => ?_⟩
    · have e : n = i + (1 + (n - i - 1)) := by rw [Nat.sub_sub, ← Nat.add_assoc]; exact (Nat.add_sub_of_le h).symm
      conv => lhs; rw [e, List.range_add, List.range_add]
      simp only [List.range_one, List.map_append, List.map_map, List.map_cons, List.map_nil, Nat.add_zero]
      congr 1
      simp only [List.singleton_append]
      congr 1
      refine List.map_congr_left fun k _ => ?_
      show i + (1 + k) = k + (i + 1)
      allgen_close_more
    · simp only [Function.comp]
      have := List.mem_range.mp hk
      simp; allgen_close_more
  rw [this]; rfl

noncomputable def insOf (ws : List Nat) : List Port := (List.range ws.length).map fun (i : Nat) => (Txt.item "ab" (i : Int), (List.range (ws.getD i 0)).map fun (k : Nat) => (((2 + (ws.take i).sum : Nat) : Int) + (k : Int)))
noncomputable def WsOk (ws : List Nat) : Prop := ws.length ≤ 2 ∧ ∀ w ∈ ws, 1 ≤ w ∧ w ≤ 2
theorem insOf_snoc (ws : List Nat) (w : Nat) : insOf (ws ++ [w]) = insOf ws ++ [(Txt.item "ab" (ws.length : Int), (List.range w).map fun (k : Nat) => (((2 + ws.sum : Nat) : Int) + (k : Int)))] := by
  unfold insOf
  rw [List.length_append, List.length_singleton, List.range_succ, List.map_append]
  congr 1
  · refine List.map_congr_left fun i hi => ?_
    have := List.mem_range.mp hi
    rw [List.getD_eq_getElem?_getD, List.getD_eq_getElem?_getD, List.getElem?_append_left this, List.take_append_of_le_length (by allgen_close_more)]
  · simp
theorem bitNames_append (a b : List Port) : bitNames (a ++ b) = bitNames a ++ bitNames b := by unfold bitNames; rw [List.flatMap_append]
theorem bitNames_one (n : Str) (l : List Int) : bitNames [(n, l)] = (List.range l.length).map (bitName n) := by unfold bitNames; simp
theorem insOf_len : ∀ (ws : List Nat), (bitNames (insOf ws)).length = ws.sum := by
  intro ws
  rw [bitNames_len]
  unfold insOf
  have : ∀ n, n ≤ ws.length → (((List.range n).map fun (i : Nat) => ((Txt.item "ab" (i : Int), (List.range (ws.getD i 0)).map fun (k : Nat) => (((2 + (ws.take i).sum : Nat) : Int) + (k : Int))) : Port)).flatMap (·.2)).length = (ws.take n).sum := by
    intro n
    induction n with
    | zero => intro _; simp
    | succ n ih =>
      intro hn
      rw [List.range_succ, List.map_append, List.flatMap_append, List.length_append, ih (by allgen_close_more)]
      have hx : ws[n]? = some ws[n] := List.getElem?_eq_getElem (by allgen_close_more)
      rw [take_snoc hx, List.sum_append]
      simp [List.getD, hx]
  have h := this ws.length (Nat.le_refl _)
  rw [List.take_length] at h
  exact h
theorem WsOk.sum {ws : List Nat} (h : WsOk ws) : ws.sum ≤ 2 * ws.length ∧ ws.length ≤ ws.sum := by
  obtain ⟨h0, h⟩ := h
  clear h0
  induction ws with
  | nil => simp
  | cons w r ih =>
    have h1 := h w (.head _)
    have h2 := ih fun x hx => h x (.tail _ hx)
    rw [List.sum_cons, List.length_cons]; allgen_close_more

noncomputable def stoA (zs pool : List Int) (N : Net) (nm : Names) (inn : List Str) : Sto := [.lst (zs.map .int), .lst (pool.map .int), NetO N 3 4 5, .lst (N.ins.map Port.v), .lst (N.outs.map Port.v), .lst (N.cells.map Cell.v), .di nm.v, .lst (inn.map .str)]
theorem stoA_net {zs pool : List Int} {N : Net} {nm : Names} {inn : List Str} {r : Sto} : NetAt (stoA zs pool N nm inn ++ r) 2 3 4 5 N := ⟨rfl, rfl, rfl, rfl⟩
theorem stoA_ok {zs pool : List Int} {N : Net} {nm : Names} {inn : List Str} {r : Sto} (h : ∀ o ∈ r, o.bel (8 + r.length)) : StoOk (stoA zs pool N nm inn ++ r) := by
  intro o ho
  have e : (stoA zs pool N nm inn ++ r).length = 8 + r.length := by simp [stoA]; allgen_close_more
  rw [e]
  rcases List.mem_append.mp ho with ho | ho
  · simp only [stoA, List.mem_cons, List.not_mem_nil, or_false] at ho
    rcases ho with rfl | rfl | rfl | rfl | rfl | rfl | rfl | rfl
    · exact belL_ints _
    · exact belL_ints _
    · exact NetO.bel (by allgen_close_more) (by allgen_close_more) (by allgen_close_more)
    · exact belL_ports _
    · exact belL_ports _
    · exact belL_cells _
    · exact bel_names
    · exact belL_strs _
  · exact h o ho
noncomputable def lawC (fd : FuncData) (c : Cx) (L : Addr) : Cx := { c with env := callEnvC fd L 257 }
theorem lawC_of {c : Cx} {fd : FuncData} {L : Addr} (hc : c.env = callEnvC fd L 257) : ∃ c0, c = lawC fd c0 L := ⟨c, by unfold lawC; rw [← hc]⟩
end

section
open PySem PySem.W PyProof.Rows PySem.Calls
noncomputable def net0 (ws : List Nat) : Net := ⟨"top", 2 + ws.sum, insOf ws, [], []⟩
noncomputable abbrev texts (ws : List Nat) : List Str := bitNames (insOf ws)

theorem law_0 {c : Cx} {S : St} {k : Nat} (ok : Ok c (k + 100)) {fd : FuncData} {sts : List Stmt} (h : IsLaw c.w.params fd sts) {L : Addr} (hc : c.env = callEnvC fd L 257) {xs : List Int} (hx : xs.length ≤ 63) (hS : S.sto = []) (hv : S.has "script" (.lst (xs.map .int))) {P : Fl → St → Prop}
    (p : ∀ (zs pool : List Int) (loc : List (Str × V)), PoolOk pool → (let S' : St := ⟨loc, stoA zs pool (net0 []) (nmT [] 2) []⟩; S'.has "pool" (.ref 1) → S'.has "net" (.ref 2) → S'.has "names" (.ref 6) → S'.has "in_names" (.ref 7) → XW c S' (sts.drop 4) P)) : XW c S sts P := by
  have hsl : (1000000 : Nat) ≤ sizeLine := by rw [sizeLine_eq]; decide
  obtain ⟨oc, od, sl, e1, e2⟩ := h
  have e : (KF c.w.params).lookup 257 = some ⟨_, _, .func _, _⟩ := rfl
  rw [e] at e1
  cases e1
  cases e2
  obtain ⟨c0, hcc⟩ := lawC_of hc
  subst hcc
  obtain ⟨loc, sto⟩ := S
  obtain rfl : sto = [] := hS
  refine XW.mid (fun S1 => E2 (fun (zs : List Int) (pool : List Int) => A3 (PoolOk pool) (S1.sto = [.lst (zs.map .int), .lst (pool.map .int)]) (S1.has "pool" (.ref 1)))) ?_ ?_
  · top_caught0
    repeat tb_rel
    refine EW.callDef (f := 223) ok.W ⟨rfl, rfl, rfl⟩ (by kernel_rfl) (by kernel_rfl) ?_
    repeat tb_rel
    refine f_law_pool (k := k + 10) (by first | exact ok.less' | exact ok.less (by allgen_close_more)) hx ?_
    intro zs ys hy
    exact ⟨rfl, zs, ys, hy, rfl, by tb_start⟩
  intro loc1 sto1 hJ0
  refine (?_ : let G0 := _; G0); intro G0
  obtain ⟨zs, pool, hpool, g1, g2⟩ := hJ0
  obtain rfl : sto1 = _ := g1
  unfold G0; clear G0
  refine XW.mid (fun S1 => A3 (S1.sto = [.lst (zs.map .int), .lst (pool.map .int), NetO (net0 []) 3 4 5, .lst [], .lst [], .lst []]) (S1.has "pool" (.ref 1)) (S1.has "net" (.ref 2))) ?_ ?_
  · top_caught0
    repeat tb_rel
    refine EW.callCls (C := 139) ok.W ⟨rfl, rfl, rfl⟩ (by kernel_rfl) (by kernel_rfl) ?_
    repeat tb_rel
    refine f_netlist (k := k + 10) (by first | exact ok.less' | exact ok.less (by allgen_close_more)) ?_
    exact ⟨rfl, rfl, by tb_start, by tb_start⟩
  intro loc2 sto2 hJ0
  refine (?_ : let G0 := _; G0); intro G0
  obtain ⟨g1, g2, g3⟩ := hJ0
  obtain rfl : sto2 = _ := g1
  unfold G0; clear G0
  refine XW.mid (fun S1 => A4 (S1.sto = [.lst (zs.map .int), .lst (pool.map .int), NetO (net0 []) 3 4 5, .lst [], .lst [], .lst [], .di (nmT [] 2).v]) (S1.has "pool" (.ref 1)) (S1.has "net" (.ref 2)) (S1.has "names" (.ref 6))) ?_ ?_
  · top_caught0
    repeat tb_rel
    with_reducible refine EW.dictI (K := KF c0.w.params) ?dz ?da ?db ?dc ?dd ?_
    case dz => exact ok.W
    case da => rfl
    case db => rfl
    case dc => exact List.cons_ne_nil _ _
    case dd => exact Nat.le_of_ble_eq_true rfl
    with_reducible refine PW.cons ?_
    repeat tb_rel
    with_reducible refine PW.cons ?_
    repeat tb_rel
    with_reducible refine PW.nil ?_
    refine ⟨[(0, .str "$false"), (1, .str "$true")], rfl, at_end, ?_⟩
    exact ⟨rfl, rfl, by tb_start, by tb_start, by tb_start⟩
  intro loc3 sto3 hJ0
  refine (?_ : let G0 := _; G0); intro G0
  obtain ⟨g1, g2, g3, g4⟩ := hJ0
  obtain rfl : sto3 = _ := g1
  unfold G0; clear G0
  refine XW.mid (fun S1 => A5 (S1.sto = stoA zs pool (net0 []) (nmT [] 2) []) (S1.has "pool" (.ref 1)) (S1.has "net" (.ref 2)) (S1.has "names" (.ref 6)) (S1.has "in_names" (.ref 7))) ?_ ?_
  · top_caught0
    repeat tb_rel
    refine EW.listM ?_
    repeat tb_rel
    refine ⟨?_, by simp⟩
    exact ⟨rfl, rfl, by tb_start, by tb_start, by tb_start, by tb_start⟩
  intro loc4 sto4 hJ0
  refine (?_ : let G0 := _; G0); intro G0
  obtain ⟨g1, g2, g3, g4, g5⟩ := hJ0
  obtain rfl : sto4 = _ := g1
  unfold G0; clear G0
  exact p zs pool loc4 hpool g2 g3 g4 g5
end

section
open PySem PySem.W PyProof.Rows PySem.Calls
theorem texts_snoc (ws : List Nat) (w : Nat) : texts (ws ++ [w]) = texts ws ++ (List.range w).map (bitName (Txt.item "ab" (ws.length : Int))) := by
  unfold texts
  rw [insOf_snoc, bitNames_append, bitNames_one, List.length_map, List.length_range]
theorem net0_snoc (ws : List Nat) (w : Nat) : (net0 ws).addIn (Txt.item "ab" (ws.length : Int)) w = net0 (ws ++ [w]) := by
  unfold net0 Net.addIn
  rw [insOf_snoc]
  simp [Nat.add_assoc]
theorem abLen (i : Nat) (h : i < 2) : (Txt.item "ab" (i : Int)).length = 1 := by
  have : ∀ i : Fin 2, (Txt.item "ab" ((i.val : Nat) : Int)).length = 1 := by decide +kernel
  exact this ⟨i, h⟩

theorem law_1 {c : Cx} {k : Nat} (ok : Ok c (k + 100)) {fd : FuncData} {sts : List Stmt} (h : IsLaw c.w.params fd sts) {L : Addr} (hc : c.env = callEnvC fd L 257) {zs pool : List Int} (hpool : PoolOk pool) {loc : List (Str × V)} (hro : c.g.ro = 0) {P : Fl → St → Prop}
    (v1 : (⟨loc, stoA zs pool (net0 []) (nmT [] 2) []⟩ : St).has "pool" (.ref 1)) (v2 : (⟨loc, stoA zs pool (net0 []) (nmT [] 2) []⟩ : St).has "net" (.ref 2)) (v3 : (⟨loc, stoA zs pool (net0 []) (nmT [] 2) []⟩ : St).has "names" (.ref 6)) (v4 : (⟨loc, stoA zs pool (net0 []) (nmT [] 2) []⟩ : St).has "in_names" (.ref 7))
    (p : ∀ (pool : List Int) (ws : List Nat) (loc : List (Str × V)), PoolOk pool → WsOk ws → 1 ≤ ws.length → (let S' : St := ⟨loc, stoA zs pool (net0 ws) (nmT (texts ws) (2 + ws.sum)) (texts ws)⟩; S'.has "pool" (.ref 1) → S'.has "net" (.ref 2) → S'.has "names" (.ref 6) → S'.has "in_names" (.ref 7) → XW c S' (sts.drop 5) P)) : XW c ⟨loc, stoA zs pool (net0 []) (nmT [] 2) []⟩ (sts.drop 4) P := by
  have hsl : (1000000 : Nat) ≤ sizeLine := by rw [sizeLine_eq]; decide
  obtain ⟨oc, od, sl, e1, e2⟩ := h
  have e : (KF c.w.params).lookup 257 = some ⟨_, _, .func _, _⟩ := rfl
  rw [e] at e1
  cases e1
  cases e2
  obtain ⟨c0, hcc⟩ := lawC_of hc
  subst hcc
  have hrz : ∀ n, c0.g.ro ≤ n := fun n => by rw [show c0.g.ro = 0 from hro]; exact Nat.zero_le n
  refine XW.mid (fun S1 => E2 (fun (pool : List Int) (ws : List Nat) => A8 (PoolOk pool) (WsOk ws) (1 ≤ ws.length) (S1.sto = stoA zs pool (net0 ws) (nmT (texts ws) (2 + ws.sum)) (texts ws)) (S1.has "pool" (.ref 1)) (S1.has "net" (.ref 2)) (S1.has "names" (.ref 6)) (S1.has "in_names" (.ref 7)))) ?_ ?_
  rotate_left
  · intro loc1 sto1 hJ0
    refine (?_ : let G0 := _; G0); intro G0
    obtain ⟨pool, ws, a1, a2, a3, g1, g2, g3, g4, g5⟩ := hJ0
    obtain rfl : sto1 = _ := g1
    unfold G0; clear G0
    exact p pool ws loc1 a1 a2 a3 g2 g3 g4 g5
  refine SW.for ?_
  refine IW.range1 ok.W ⟨rfl, rfl, rfl⟩ ok.h .name (by kernel_rfl) ?_
  repeat tb_rel
  refine EW.callDef (f := 230) ok.W ⟨rfl, rfl, rfl⟩ (by kernel_rfl) (by kernel_rfl) ?_
  repeat tb_rel
  refine f_law_drawn (k := k + 10) (by first | exact ok.less' | exact ok.less (by allgen_close_more)) (by decide) (by decide) hpool (by rfl) (by exact hrz _) ?_ (by exact stoA_ok (r := []) (by simp))
  intro r ys hr0 hr hys
  repeat tb_rel
  refine ⟨_, rfl, by allgen_close_more, by allgen_close_more, ?_⟩
  refine ⟨fun i S1 => E2 (fun (pool : List Int) (ws : List Nat) => A8 (PoolOk pool) (WsOk ws) (ws.length = i) (S1.sto = stoA zs pool (net0 ws) (nmT (texts ws) (2 + ws.sum)) (texts ws)) (S1.has "pool" (.ref 1)) (S1.has "net" (.ref 2)) (S1.has "names" (.ref 6)) (S1.has "in_names" (.ref 7))), ⟨ys, [], hys, ⟨by simp, by simp⟩, rfl, rfl, by tb_start, by tb_start, by tb_start, by tb_start⟩, fun _ _ _ => trivial, ?_, ?_⟩
  · clear v1 v2 v3 v4 hpool hys loc
    intro i v loc sto hv hJ0
    refine (?_ : let G0 := _; G0); intro G0
    obtain ⟨pool, ws, hpool, hws, rfl, g1, v1, v2, v3, v4⟩ := hJ0
    obtain rfl : sto = _ := g1
    obtain ⟨hi, rfl⟩ := rng1 hv
    unfold G0; clear G0
    intro Q0 hT0
    have hi2 : ws.length < 2 := by allgen_close_more
    have hsum := hws.sum
    have hal := abLen _ hi2
    have hab2 : ("ab" : Str).length = 2 := rfl
    refine AsW.name ?_ (by exact ⟨rfl, .inl rfl⟩)
    refine XW.mid (fun S1 => E2 (fun (pool : List Int) (wd : Nat) => A10 (PoolOk pool) (1 ≤ wd) (wd ≤ 2) (S1.sto = stoA zs pool (net0 (ws ++ [wd])) (nmT (texts ws) (2 + ws.sum)) (texts ws)) (S1.has "pool" (.ref 1)) (S1.has "net" (.ref 2)) (S1.has "names" (.ref 6)) (S1.has "in_names" (.ref 7)) (S1.has "turn" (.int ws.length)) (S1.has "bits" (.lst (((List.range wd).map fun (i : Nat) => ((2 + ws.sum : Nat) : Int) + (i : Int)).map .int))))) ?_ ?_
    · top_caught0
      repeat tb_rel
      refine EW.method 99 ok.W ?_ _ (by with_unfolding_all rfl) (by exact .inr ⟨_, _, rfl, by exact starEach_plain rfl _ _, by with_unfolding_all rfl⟩)
      repeat tb_rel
      refine ⟨2, 139, _, rfl, by rfl, by rfl, by kernel_rfl, ?_⟩
      repeat tb_rel
      refine Item.str (by allgen_close_more) (by allgen_close_more) (by unfold fitsSsize; simp; allgen_close_more) ?_
      repeat tb_rel
      refine EW.callDef (f := 230) ok.W ⟨rfl, rfl, rfl⟩ (by kernel_rfl) (by kernel_rfl) ?_
      repeat tb_rel
      refine f_law_drawn (k := k + 10) (by first | exact ok.less' | exact ok.less (by allgen_close_more)) (by decide) (by decide) hpool (by rfl) (by exact hrz _) ?_ (by exact stoA_ok (r := []) (by simp))
      intro r2 ys2 hr20 hr2 hys2
      repeat tb_rel
      obtain ⟨wd, hwd⟩ : ∃ wd : Nat, 1 + r2 = (wd : Int) := ⟨(1 + r2).toNat, by allgen_close_more⟩
      rw [hwd]
      refine f_add_input (k := k + 10) (N := net0 ws) (ji := 3) (jo := 4) (jc := 5) (by first | exact ok.less' | exact ok.less (by allgen_close_more)) (by exact stoA_net (r := []) (pool := ys2)) (by decide) (by exact hrz _) (by exact hrz _) (by allgen_close_more) (by show (insOf ws).length ≤ 100; simp [insOf]; allgen_close_more) ?_ (by exact stoA_ok (r := []) (pool := ys2) (by simp))
      rw [net0_snoc]
      exact ⟨rfl, ys2, wd, hys2, by allgen_close_more, by allgen_close_more, rfl, by tb_start, by tb_start, by tb_start, by tb_start, by tb_start, by tb_start⟩
    clear hpool v1 v2 v3 v4 loc pool
    intro loc sto hJ0
    refine (?_ : let G0 := _; G0); intro G0
    obtain ⟨pool, wd, hpool, hwd1, hwd2, g1, v1, v2, v3, v4, v5, v6⟩ := hJ0
    obtain rfl : sto = _ := g1
    unfold G0; clear G0
    have hTl : (texts ws).length = ws.sum := insOf_len ws
    have hsn := texts_snoc ws wd
    generalize hnx : Txt.item "ab" (ws.length : Int) = nx at hal hsn
    generalize hT : texts ws = T at hTl hsn
    have hcnt : 2 + (ws ++ [wd]).sum = 2 + T.length + wd := by rw [List.sum_append, hTl]; simp; allgen_close_more
    refine XW.cons ?_
    refine SW.for ?_
    refine IW.range1 ok.W ⟨rfl, rfl, rfl⟩ ok.h .name (by kernel_rfl) ?_
    refine EW.callBuiltin (id := "len") ok.W ⟨rfl, rfl, rfl⟩ (by kernel_rfl) (by kernel_rfl) ?_
    repeat tb_rel
    refine Len.lst (by simp; allgen_close_more) ⟨_, rfl, by simp; allgen_close_more, by simp; allgen_close_more, ?_⟩
    refine ⟨fun q S1 => A7 (S1.sto = stoA zs pool (net0 (ws ++ [wd])) (nmT (T ++ (List.range q).map (bitName nx)) (2 + T.length + q)) (T ++ (List.range q).map (bitName nx))) (S1.has "pool" (.ref 1)) (S1.has "net" (.ref 2)) (S1.has "names" (.ref 6)) (S1.has "in_names" (.ref 7)) (S1.has "turn" (.int ws.length)) (S1.has "bits" (.lst (((List.range wd).map fun (i : Nat) => ((2 + ws.sum : Nat) : Int) + (i : Int)).map .int))), ⟨by simp [hTl], by tb_start, by tb_start, by tb_start, by tb_start, by tb_start, by tb_start⟩, fun _ _ _ => trivial, ?_, ?_⟩
    · clear v1 v2 v3 v4 v5 v6 loc
      intro q v loc sto hv2 hJ0
      refine (?_ : let G0 := _; G0); intro G0
      obtain ⟨g1, v1, v2, v3, v4, v5, v6⟩ := hJ0
      obtain rfl : sto = _ := g1
      obtain ⟨hq, rfl⟩ := rng1 hv2
      unfold G0; clear G0
      intro Q0 hT0
      simp at hq
      have hql : (T ++ (List.range q).map (bitName nx)).length = T.length + q := by simp
      have hbl := istr_len (i := q) (by allgen_close_more)
      have l1 : ((("" : Str) ++ "[") ++ istr q).length ≤ 11 := by simp only [Str.length_append]; show 0 + 1 + _ ≤ _; allgen_close_more
      have l2 : (((("" : Str) ++ "[") ++ istr q) ++ "]").length ≤ 12 := by rw [Str.length_append]; show _ + 1 ≤ _; allgen_close_more
      have l3 : (nx ++ (((("" : Str) ++ "[") ++ istr q) ++ "]")).length ≤ 100 := by rw [Str.length_append]; allgen_close_more
      refine AsW.name ?_ (by exact ⟨rfl, .inl rfl⟩)
      repeat tb_rel
      refine Item.str (by allgen_close_more) (by allgen_close_more) (by unfold fitsSsize; simp; allgen_close_more) ?_
      rw [hnx]
      refine EW.fstr ?_
      refine JW.cons ?_
      repeat tb_rel
      refine ⟨_, rfl, by show 1 ≤ _; allgen_close_more, ?_⟩
      refine JW.cons (EW.fmt ?_)
      repeat tb_rel
      refine .inr ⟨_, rfl, log2_nat (Nat.lt_of_lt_of_le (by allgen_close_more : q < 64) (by decide)), _, rfl, Nat.le_trans l1 (by allgen_close_more), ?_⟩
      refine JW.cons ?_
      repeat tb_rel
      refine ⟨_, rfl, Nat.le_trans l2 (by allgen_close_more), ?_⟩
      refine JW.nil (Nat.le_trans l2 (by allgen_close_more)) ?_
      refine Op.addS (Nat.le_trans l3 (by allgen_close_more)) ?_
      rw [show nx ++ (((Str.empty ++ "[") ++ istr q) ++ "]") = bitName nx q from bitName_eq nx q]
      repeat tb_rel
      refine Item.lst (v := .int (((2 + T.length + q : Nat) : Nat) : Int)) (by allgen_close_more) (by allgen_close_more) (by simp [hq]; allgen_close_more) ?_
      refine Put.di (kvs := (nmT (T ++ (List.range q).map (bitName nx)) (2 + T.length + q)).v) (by rfl) (by exact hrz _) (by simp [Names.v, nmT]; allgen_close_more) ?_
      refine seqN ?_
      refine TW.st (stoA zs pool (net0 (ws ++ [wd])) (nmT (T ++ (List.range (q + 1)).map (bitName nx)) (2 + T.length + (q + 1))) (T ++ (List.range q).map (bitName nx))) ?e0 ?_
      case e0 =>
        have e1 : (nmT (T ++ (List.range (q + 1)).map (bitName nx)) (2 + T.length + (q + 1))).v = putK (nmT (T ++ (List.range q).map (bitName nx)) (2 + T.length + q)).v ((2 + T.length + q : Nat) : Int) (.str (bitName nx q)) := by
          rw [nmT_put, List.range_succ, List.map_append, ← List.append_assoc]
          have := nmT_snoc (T ++ (List.range q).map (bitName nx)) (bitName nx q)
          rw [hql, show 2 + (T.length + q) + 1 = 2 + T.length + (q + 1) from by allgen_close_more, show 2 + (T.length + q) = 2 + T.length + q from by allgen_close_more] at this
          simp only [List.map_cons, List.map_nil]
          rw [this]
          simp [Names.v]
        unfold stoA
        rw [e1]; rfl
      repeat tb_rel
      refine EW.listMeth1 (id := "list.append") ?sa ?sb ?_ ?sd ?se ?sf
      case sa => exact slot_list_append
      case sb => kernel_rfl
      case sd => exact attributeBase_plain rfl _ _
      case se => exact starEach_plain rfl _ _
      case sf => with_unfolding_all rfl
      repeat tb_rel
      refine ⟨7, _, rfl, by rfl, ?_⟩
      repeat tb_rel
      refine Item.str (by allgen_close_more) (by allgen_close_more) (by unfold fitsSsize; simp; allgen_close_more) ?_
      rw [hnx]
      refine EW.fstr ?_
      refine JW.cons ?_
      repeat tb_rel
      refine ⟨_, rfl, by show 1 ≤ _; allgen_close_more, ?_⟩
      refine JW.cons (EW.fmt ?_)
      repeat tb_rel
      refine .inr ⟨_, rfl, log2_nat (Nat.lt_of_lt_of_le (by allgen_close_more : q < 64) (by decide)), _, rfl, Nat.le_trans l1 (by allgen_close_more), ?_⟩
      refine JW.cons ?_
      repeat tb_rel
      refine ⟨_, rfl, Nat.le_trans l2 (by allgen_close_more), ?_⟩
      refine JW.nil (Nat.le_trans l2 (by allgen_close_more)) ?_
      refine Op.addS (Nat.le_trans l3 (by allgen_close_more)) ?_
      rw [show nx ++ (((Str.empty ++ "[") ++ istr q) ++ "]") = bitName nx q from bitName_eq nx q]
      refine Meth.append (by rfl) (by exact hrz _) (by simp; allgen_close_more) ?_
      repeat tb_rel
      refine ⟨?_, by tb_start, by tb_start, by tb_start, by tb_start, by tb_start, by tb_start⟩
      show (stoA _ _ _ _ _).set 7 _ = _
      unfold stoA
      rw [List.range_succ, List.map_append, ← List.append_assoc, List.map_append (l₁ := T ++ _)]
      rfl
    · intro loc sto hJ0
      refine (?_ : let G0 := _; G0); intro G0
      obtain ⟨g1, v1, v2, v3, v4, v5, v6⟩ := hJ0
      unfold G0; clear G0
      refine seqN (XW.nil (turnN hT0 ⟨pool, ws ++ [wd], hpool, ⟨by simp; allgen_close_more, fun x hx => ?_⟩, by simp, ?_, v1, v2, v3, v4⟩))
      · rcases List.mem_append.mp hx with hx | hx
        · exact hws.2 x hx
        · simp at hx; allgen_close_more
      · show sto = _
        rw [show sto = _ from g1]
        simp only [List.length_map, List.length_range, Int.toNat_natCast]
        rw [hsn, hcnt]
  · intro l9 s9
    generalize (St.mk l9 s9) = S1
    rintro ⟨pool, ws, a1, a2, a3, e1, e2, e3, e4, e5⟩
    exact ⟨rfl, pool, ws, a1, a2, by simp at a3; allgen_close_more, e1, e2, e3, e4, e5⟩
end

section
open PySem PySem.W PyProof.Rows PySem.Calls
noncomputable def netW (ws : List Nat) (M : Nat) (cells : List Cell) (outs : List Port) : Net := ⟨"top", 2 + ws.sum + M, insOf ws, outs, cells⟩
noncomputable def outNets (ws : List Nat) (M : Nat) : List Int := (List.range M).map fun (i : Nat) => ((2 + ws.sum : Nat) : Int) + (i : Int)
theorem nmT_out (T : List Str) (q : Nat) : nmT T (2 + T.length + (q + 1)) = nmT T (2 + T.length + q) ++ [(((2 + T.length + q : Nat) : Int), netText ((2 + T.length + q : Nat) : Int))] := by
  show nmT T (2 + T.length + q + 1) = _
  rw [nmT_succ]
  congr 2
  unfold nameOf
  rw [if_neg (by allgen_close_more), if_neg (by allgen_close_more), if_neg (by allgen_close_more)]

structure Loc1 (loc : List (Str × V)) (ws : List Nat) (M : Nat) : Prop where
  pool : loc.lookup ("pool" : Str) = some (.ref 1)
  net : loc.lookup ("net" : Str) = some (.ref 2)
  names : loc.lookup ("names" : Str) = some (.ref 6)
  inn : loc.lookup ("in_names" : Str) = some (.ref 7)
  first : loc.lookup ("first" : Str) = some (.int ((2 + ws.sum : Nat) : Int))
  outs : loc.lookup ("outs" : Str) = some (.lst ((outNets ws M).map .int))
  spare : loc.lookup ("spare" : Str) = some (.int (if M = 1 then 0 else 1))
  dues : loc.lookup ("dues" : Str) = some (.ref 8)
theorem Loc1.set {loc : List (Str × V)} {ws : List Nat} {M : Nat} {x : Str} {v : V} (h : Loc1 loc ws M) (hx : x ∉ (["pool", "net", "names", "in_names", "first", "outs", "spare", "dues"] : List Str)) : Loc1 ((x, v) :: loc) ws M := by
  simp only [List.mem_cons, List.not_mem_nil, or_false, not_or] at hx
  obtain ⟨h1, h2, h3, h4, h5, h6, h7, h8⟩ := hx
  have tb_start : ∀ {y : Str} {r : Option V}, y ≠ x → loc.lookup y = r → ((x, v) :: loc).lookup y = r := fun hne e => by rw [List.lookup_cons, beq_eq_false_iff_ne.mpr hne]; exact e
  exact ⟨tb_start (Ne.symm h1) h.pool, tb_start (Ne.symm h2) h.net, tb_start (Ne.symm h3) h.names, tb_start (Ne.symm h4) h.inn, tb_start (Ne.symm h5) h.first, tb_start (Ne.symm h6) h.outs, tb_start (Ne.symm h7) h.spare, tb_start (Ne.symm h8) h.dues⟩

theorem law_2 {c : Cx} {k : Nat} (ok : Ok c (k + 100)) {fd : FuncData} {sts : List Stmt} (h : IsLaw c.w.params fd sts) {L : Addr} (hc : c.env = callEnvC fd L 257) {zs pool : List Int} (hpool : PoolOk pool) {ws : List Nat} (hws : WsOk ws) {loc : List (Str × V)} (hro : c.g.ro = 0) {P : Fl → St → Prop} {sto : Sto} (hsto : sto = stoA zs pool (net0 ws) (nmT (texts ws) (2 + ws.sum)) (texts ws))
    (v1 : (⟨loc, sto⟩ : St).has "pool" (.ref 1)) (v2 : (⟨loc, sto⟩ : St).has "net" (.ref 2)) (v3 : (⟨loc, sto⟩ : St).has "names" (.ref 6)) (v4 : (⟨loc, sto⟩ : St).has "in_names" (.ref 7))
    (p : ∀ (pool : List Int) (M : Nat) (loc : List (Str × V)) (sto : Sto), PoolOk pool → 1 ≤ M → M ≤ 7 → sto = stoA zs pool (netW ws M [] []) (nmT (texts ws) (2 + ws.sum + M)) (texts ws) ++ [.lst []] → Loc1 loc ws M → XW c ⟨loc, sto⟩ (sts.drop 10) P) : XW c ⟨loc, sto⟩ (sts.drop 5) P := by
  have hsl : (1000000 : Nat) ≤ sizeLine := by rw [sizeLine_eq]; decide
  obtain ⟨oc, od, sl, e1, e2⟩ := h
  have e : (KF c.w.params).lookup 257 = some ⟨_, _, .func _, _⟩ := rfl
  rw [e] at e1
  cases e1
  cases e2
  obtain ⟨c0, hcc⟩ := lawC_of hc
  subst hcc
  have hrz : ∀ n, c0.g.ro ≤ n := fun n => by rw [show c0.g.ro = 0 from hro]; exact Nat.zero_le n
  subst hsto
  have hsum := hws.sum
  have hwl := hws.1
  refine XW.mid (fun S1 => A6 (S1.sto = stoA zs pool (net0 ws) (nmT (texts ws) (2 + ws.sum)) (texts ws)) (S1.has "pool" (.ref 1)) (S1.has "net" (.ref 2)) (S1.has "names" (.ref 6)) (S1.has "in_names" (.ref 7)) (S1.has "first" (.int ((2 + ws.sum : Nat) : Int)))) ?_ ?_
  · top_caught0
    repeat tb_rel
    refine EW.attr ok.W ?_
    repeat tb_rel
    refine ⟨2, 139, _, .int ((2 + ws.sum : Nat) : Int), rfl, by rfl, by rfl, by kernel_rfl, ?_⟩
    exact ⟨rfl, rfl, by tb_start, by tb_start, by tb_start, by tb_start, by tb_start⟩
  clear v1 v2 v3 v4 loc
  intro loc sto hJ0
  refine (?_ : let G0 := _; G0); intro G0
  obtain ⟨g1, v1, v2, v3, v4, v5⟩ := hJ0
  obtain rfl : sto = _ := g1
  unfold G0; clear G0
  refine XW.mid (fun S1 => E2 (fun (pool : List Int) (M : Nat) => A10 (PoolOk pool) (1 ≤ M) (M ≤ 7) (S1.sto = stoA zs pool (netW ws M [] []) (nmT (texts ws) (2 + ws.sum)) (texts ws)) (S1.has "pool" (.ref 1)) (S1.has "net" (.ref 2)) (S1.has "names" (.ref 6)) (S1.has "in_names" (.ref 7)) (S1.has "first" (.int ((2 + ws.sum : Nat) : Int))) (S1.has "outs" (.lst ((outNets ws M).map .int))))) ?_ ?_
  · top_caught0
    repeat tb_rel
    refine EW.method 92 ok.W ?_ _ (by with_unfolding_all rfl) (by exact .inr ⟨_, _, rfl, by exact starEach_plain rfl _ _, by with_unfolding_all rfl⟩)
    repeat tb_rel
    refine ⟨2, 139, _, rfl, by rfl, by rfl, by kernel_rfl, ?_⟩
    repeat tb_rel
    refine EW.callDef (f := 230) ok.W ⟨rfl, rfl, rfl⟩ (by kernel_rfl) (by kernel_rfl) ?_
    repeat tb_rel
    refine f_law_drawn (k := k + 10) (by first | exact ok.less' | exact ok.less (by allgen_close_more)) (by decide) (by decide) hpool (by rfl) (by exact hrz _) ?_ (by exact stoA_ok (r := []) (by simp))
    intro r1 ys1 hr10 hr1 hys1
    repeat tb_rel
    refine EW.callDef (f := 230) ok.W ⟨rfl, rfl, rfl⟩ (by kernel_rfl) (by kernel_rfl) ?_
    repeat tb_rel
    refine f_law_drawn (k := k + 10) (by first | exact ok.less' | exact ok.less (by allgen_close_more)) (by decide) (by decide) hys1 (by rfl) (by exact hrz _) ?_ (by exact stoA_ok (r := []) (pool := ys1) (by simp))
    intro r2 ys2 hr20 hr2 hys2
    repeat tb_rel
    obtain ⟨M, hM⟩ : ∃ M : Nat, 1 + r1 + r2 = (M : Int) := ⟨(1 + r1 + r2).toNat, by allgen_close_more⟩
    rw [hM]
    refine f_new_nets (k := k + 10) (N := net0 ws) (ji := 3) (jo := 4) (jc := 5) (by first | exact ok.less' | exact ok.less (by allgen_close_more)) (by exact stoA_net (r := []) (pool := ys2)) (by decide) (by exact hrz _) (by allgen_close_more) ?_ (by exact stoA_ok (r := []) (pool := ys2) (by simp))
    exact ⟨rfl, ys2, M, hys2, by allgen_close_more, by allgen_close_more, rfl, by tb_start, by tb_start, by tb_start, by tb_start, by tb_start, by tb_start⟩
  clear v1 v2 v3 v4 v5 loc hpool pool
  intro loc sto hJ0
  refine (?_ : let G0 := _; G0); intro G0
  obtain ⟨pool, M, hpool, hM1, hM7, g1, v1, v2, v3, v4, v5, v6⟩ := hJ0
  obtain rfl : sto = _ := g1
  unfold G0; clear G0
  have hTl : (texts ws).length = ws.sum := insOf_len ws
  refine XW.mid (fun S1 => A7 (S1.sto = stoA zs pool (netW ws M [] []) (nmT (texts ws) (2 + ws.sum + M)) (texts ws)) (S1.has "pool" (.ref 1)) (S1.has "net" (.ref 2)) (S1.has "names" (.ref 6)) (S1.has "in_names" (.ref 7)) (S1.has "first" (.int ((2 + ws.sum : Nat) : Int))) (S1.has "outs" (.lst ((outNets ws M).map .int)))) ?_ ?_
  · top_caught0
    refine SW.for ?_
    refine IW.of ?_
    repeat tb_rel
    refine ⟨_, _, ItW.lst ok.h .name, ?_⟩
    refine ⟨fun q S1 => A7 (S1.sto = stoA zs pool (netW ws M [] []) (nmT (texts ws) (2 + ws.sum + q)) (texts ws)) (S1.has "pool" (.ref 1)) (S1.has "net" (.ref 2)) (S1.has "names" (.ref 6)) (S1.has "in_names" (.ref 7)) (S1.has "first" (.int ((2 + ws.sum : Nat) : Int))) (S1.has "outs" (.lst ((outNets ws M).map .int))), ⟨rfl, by tb_start, by tb_start, by tb_start, by tb_start, by tb_start, by tb_start⟩, fun _ _ _ => trivial, ?_, ?_⟩
    · clear v1 v2 v3 v4 v5 v6 loc
      intro q v loc sto hv hJ0
      refine (?_ : let G0 := _; G0); intro G0
      obtain ⟨g1, v1, v2, v3, v4, v5, v6⟩ := hJ0
      obtain rfl : sto = _ := g1
      unfold G0; clear G0
      intro Q0 hT0
      unfold outNets at hv
      rw [List.map_map, List.getElem?_map] at hv
      obtain ⟨q', hq', rfl⟩ := Option.map_eq_some_iff.mp hv
      obtain ⟨hq, rfl⟩ := List.getElem?_eq_some_iff.mp hq'
      simp only [List.length_range] at hq
      simp only [List.getElem_range, Function.comp]
      rw [show ((2 + ws.sum : Nat) : Int) + (q : Int) = ((2 + ws.sum + q : Nat) : Int) from by allgen_close_more]
      have hzl := istr_len' (z := ((2 + ws.sum + q : Nat) : Int)) (by allgen_close_more) (by allgen_close_more)
      have hnl : (netText ((2 + ws.sum + q : Nat) : Int)).length ≤ 20 := by unfold netText; rw [Str.length_append]; show 1 + _ ≤ _; allgen_close_more
      refine AsW.name ?_ (by exact ⟨rfl, .inl rfl⟩)
      repeat tb_rel
      refine EW.fstr ?_
      refine JW.cons ?_
      repeat tb_rel
      refine ⟨_, rfl, by show 1 ≤ _; allgen_close_more, ?_⟩
      refine JW.cons (EW.fmt ?_)
      repeat tb_rel
      refine .inr ⟨_, rfl, netOk_small (by allgen_close_more) (by allgen_close_more), _, rfl, Nat.le_trans hnl (by allgen_close_more), ?_⟩
      refine JW.nil (Nat.le_trans hnl (by allgen_close_more)) ?_
      repeat tb_rel
      refine Put.di (kvs := (nmT (texts ws) (2 + ws.sum + q)).v) (by rfl) (by exact hrz _) (by simp [Names.v, nmT]; allgen_close_more) ?_
      repeat tb_rel
      refine ⟨?_, by tb_start, by tb_start, by tb_start, by tb_start, by tb_start, by tb_start⟩
      have e1 := nmT_out (texts ws) q
      rw [hTl] at e1
      rw [e1]
      show (stoA _ _ _ _ _).set 6 _ = _
      rw [nmT_put]
      unfold stoA
      simp [Names.v, netText]
      rfl
    · intro l9 s9
      generalize (St.mk l9 s9) = S1
      rintro ⟨g1, e2, e3, e4, e5, e6, e7⟩
      refine ⟨rfl, ?_, e2, e3, e4, e5, e6, e7⟩
      rw [g1]
      simp [outNets]
  clear v1 v2 v3 v4 v5 v6 loc
  intro loc sto hJ0
  refine (?_ : let G0 := _; G0); intro G0
  obtain ⟨g1, v1, v2, v3, v4, v5, v6⟩ := hJ0
  obtain rfl : sto = _ := g1
  unfold G0; clear G0
  have hol : (outNets ws M).length = M := by simp [outNets]
  refine XW.mid (fun S1 => A8 (S1.sto = stoA zs pool (netW ws M [] []) (nmT (texts ws) (2 + ws.sum + M)) (texts ws)) (S1.has "pool" (.ref 1)) (S1.has "net" (.ref 2)) (S1.has "names" (.ref 6)) (S1.has "in_names" (.ref 7)) (S1.has "first" (.int ((2 + ws.sum : Nat) : Int))) (S1.has "outs" (.lst ((outNets ws M).map .int))) (S1.has "spare" (.int (if M = 1 then 0 else 1)))) ?_ ?_
  · repeat tb_rel
    refine EW.callBuiltin (id := "len") ok.W ⟨rfl, rfl, rfl⟩ (by kernel_rfl) (by kernel_rfl) ?_
    repeat tb_rel
    refine Len.lst (by simp; allgen_close_more) ?_
    repeat tb_rel
    refine ⟨_, rfl, ?_⟩
    by_cases h1 : M = 1
    · refine brT (by simp [outNets, h1]) ?_
      repeat tb_rel
      rw [if_pos h1]
      exact ⟨rfl, rfl, by tb_start, by tb_start, by tb_start, by tb_start, by tb_start, by tb_start, by tb_start⟩
    · refine brF (by simp [outNets]; allgen_close_more) ?_
      repeat tb_rel
      rw [if_neg h1]
      exact ⟨rfl, rfl, by tb_start, by tb_start, by tb_start, by tb_start, by tb_start, by tb_start, by tb_start⟩
  clear v1 v2 v3 v4 v5 v6 loc
  intro loc sto hJ0
  refine (?_ : let G0 := _; G0); intro G0
  obtain ⟨g1, v1, v2, v3, v4, v5, v6, v7⟩ := hJ0
  obtain rfl : sto = _ := g1
  unfold G0; clear G0
  refine XW.mid (fun S1 => S1.sto = stoA zs pool (netW ws M [] []) (nmT (texts ws) (2 + ws.sum + M)) (texts ws) ++ [.lst []] ∧ Loc1 S1.loc ws M) ?_ ?_
  · top_caught0
    repeat tb_rel
    refine EW.listM ?_
    repeat tb_rel
    refine ⟨?_, by simp⟩
    exact ⟨rfl, rfl, ⟨by tb_start, by tb_start, by tb_start, by tb_start, by tb_start, by tb_start, by tb_start, by tb_start⟩⟩
  intro loc sto hJ0
  refine (?_ : let G0 := _; G0); intro G0
  obtain ⟨g1, hl⟩ := hJ0
  unfold G0; clear G0
  exact p pool M loc sto hpool hM1 hM7 g1 hl
end

section
open PySem PySem.W PyProof.Rows PySem.Calls
noncomputable def nm (T : List Str) (n : Int) : Str := nameOf T n.toNat
noncomputable def parNum : Par → Int
  | .num n => n
  | .own _ n => n
  | _ => 0
noncomputable def qText (turn : Nat) : Str := ("" ++ "q") ++ istr turn
noncomputable def dueOf (T : List Str) (cell : Cell) : List Blk :=
  if cell.kind = "flop" then match cell.ins, cell.par with
    | [clk, data, _, _], .flop e name init => [([".latch", nm T data, nm T cell.out, if e = 1 then ("re" : Str) else ("fe" : Str), nm T clk, istr init], []), ([".cname", name], [])]
    | _, _ => []
  else [(".names" :: (cell.ins.map (nm T) ++ [nm T cell.out]), cover cell.kind (parNum cell.par) cell.ins.length)]
noncomputable def kinds13 : List Str := ["buf", "not", "and", "or", "xor", "nand", "nor", "xnor", "mux", "lut", "lut", "cell", "flop"]
noncomputable def ShapeOk (turn : Nat) (kind : Str) (many : Nat) (par : Par) : Prop :=
  (kind ∈ gateKinds ∧ many = arity kind ∧ par = .none) ∨
  (kind = "lut" ∧ many ≤ 3 ∧ ∃ w : Int, par = .num w ∧ 0 ≤ w ∧ w < 2 ^ 2 ^ many) ∨
  (kind = "cell" ∧ 1 ≤ many ∧ many ≤ 2 ∧ ∃ w : Int, par = .own "OWN" w ∧ 0 ≤ w ∧ w < 2 ^ 2 ^ many) ∨
  (kind = "flop" ∧ many = 2 ∧ ∃ e init : Int, par = .flop e (qText turn) init ∧ (e = 0 ∨ e = 1) ∧ (init = 0 ∨ init = 1))
noncomputable def CellLaw (lo cnt : Nat) (turn : Nat) (cell : Cell) : Prop :=
  ((lo : Int) + turn = cell.out ∧ lo + turn < cnt) ∧ ∃ many, ShapeOk turn cell.kind many cell.par ∧ ∃ ins : List Int, ins.length = many ∧ (∀ n ∈ ins, 0 ≤ n ∧ n < cnt) ∧ cell.ins = if cell.kind = "flop" then ins ++ [0, 0] else ins

theorem ClOk.two {c : Cx} {scope : Scope} {x y : Str} {a b : Addr} (hxy : x ≠ y) (hab : a ≠ b) (e : c.env.cells.lookup x = some a) (e' : c.env.cells.lookup y = some b) (hk : c.env.kindOf x = some .cell) (hk' : c.env.kindOf y = some .cell)
    (hk2 : ∀ C, ((compEnvC scope [(x, a), (y, b)] C c.env).kindOf x = some .cell ∨ (compEnvC scope [(x, a), (y, b)] C c.env).kindOf x = some .free)) (hk3 : ∀ C, ((compEnvC scope [(x, a), (y, b)] C c.env).kindOf y = some .cell ∨ (compEnvC scope [(x, a), (y, b)] C c.env).kindOf y = some .free)) : ClOk c scope [(x, a), (y, b)] := by
  refine ⟨fun z hz => ?_, ?_, fun z d h => ?_⟩
  · simp only [List.mem_cons, List.not_mem_nil, or_false] at hz
    rcases hz with rfl | rfl
    · exact cells_mem e
    · exact cells_mem e'
  · refine List.pairwise_cons.mpr ⟨fun z hz => ?_, List.pairwise_singleton _ _⟩
    simp at hz; subst hz; exact hab
  · rw [List.lookup_cons] at h
    by_cases hz : z = x
    · subst hz; simp at h; subst h; exact ⟨e, by rw [hk]; exact (fun q => by cases q), hk2⟩
    · rw [beq_eq_false_iff_ne.mpr hz, List.lookup_cons] at h
      by_cases hz2 : z = y
      · subst hz2; simp at h; subst h; exact ⟨e', by rw [hk']; exact (fun q => by cases q), hk3⟩
      · rw [beq_eq_false_iff_ne.mpr hz2] at h; cases h
end

open PySem PySem.W PyProof.Rows PySem.Calls in
local macro_rules | `(tactic| allgen_close2_more) => `(tactic| repeat' first | assumption | refine Loc1.set ?_ (by decide +kernel))

section
open PySem PySem.W PyProof.Rows PySem.Calls
noncomputable def stoB (zs pool : List Int) (ws : List Nat) (M : Nat) (cells : List Cell) (outs : List Port) (dues : List Blk) : Sto := stoA zs pool (netW ws M cells outs) (nmT (texts ws) (2 + ws.sum + M)) (texts ws) ++ [.lst (dues.map blkV)]
theorem belL_blks {n : Nat} (l : List Blk) : belL n (l.map blkV) := by
  rw [belL_iff]
  intro v hv
  obtain ⟨b, _, rfl⟩ := List.mem_map.mp hv
  exact ⟨belL_strs _, belL_rows _, trivial⟩
theorem stoB_ok {zs pool : List Int} {ws : List Nat} {M : Nat} {cells : List Cell} {outs : List Port} {dues : List Blk} {r : Sto} (h : ∀ o ∈ r, o.bel (9 + r.length)) : StoOk (stoB zs pool ws M cells outs dues ++ r) := by
  unfold stoB
  rw [List.append_assoc]
  refine stoA_ok fun o ho => ?_
  rw [List.length_append]
  rcases List.mem_append.mp ho with ho | ho
  · simp at ho; subst ho; exact belL_blks _
  · have := h o ho
    rw [show 8 + (([O.lst (dues.map blkV)] : Sto).length + r.length) = 9 + r.length from by simp; allgen_close_more]
    exact this
theorem stoB_net {zs pool : List Int} {ws : List Nat} {M : Nat} {cells : List Cell} {outs : List Port} {dues : List Blk} {r : Sto} : NetAt (stoB zs pool ws M cells outs dues ++ r) 2 3 4 5 (netW ws M cells outs) := ⟨rfl, rfl, rfl, rfl⟩

theorem ShapeOk.many {turn : Nat} {kind : Str} {many : Nat} {par : Par} (h : ShapeOk turn kind many par) : many ≤ 3 := by
  rcases h with ⟨_, rfl, _⟩ | ⟨_, h, _⟩ | ⟨_, _, h, _⟩ | ⟨_, rfl, _⟩
  · unfold arity; split <;> (try split) <;> allgen_close_more
  · exact h
  · allgen_close_more
  · allgen_close_more
theorem ShapeOk.tab {turn : Nat} {kind : Str} {many : Nat} {par : Par} (h : ShapeOk turn kind many par) (hf : kind ≠ "flop") : tabNum kind par (parNum par) := by
  intro hn
  rcases h with ⟨hk, _, _⟩ | ⟨h1, _, w, rfl, _⟩ | ⟨h1, _, _, w, rfl, _⟩ | ⟨h1, _⟩
  · have : ∀ x ∈ gateKinds, onesTab.find? (fun p => p.1 = x) ≠ none := by
      have : ∀ x ∈ gateKinds, (onesTab.find? (fun p => p.1 = x)).isSome = true := by decide +kernel
      intro x hx e
      have := this x hx
      rw [e] at this; cases this
    exact absurd hn (this kind hk)
  · exact .inl ⟨h1, rfl⟩
  · exact .inr ⟨by rw [h1]; decide +kernel, _, rfl⟩
  · exact absurd h1 hf
theorem nm_get {T : List Str} {cnt : Nat} {n : Int} (h0 : 0 ≤ n) (h : n < cnt) : Mine.getK (nmT T cnt).v n = some (.str (nm T n)) := by
  obtain ⟨i, rfl⟩ := Int.eq_ofNat_of_zero_le h0
  rw [Names.getK, nmT_get (by allgen_close_more)]; rfl
theorem law_3 {c : Cx} {k : Nat} (ok : Ok c (k + 100)) {fd : FuncData} {sts : List Stmt} (h : IsLaw c.w.params fd sts) {L : Addr} (hc : c.env = callEnvC fd L 257) {zs pool : List Int} (hpool : PoolOk pool) {ws : List Nat} (hws : WsOk ws) {M : Nat} (hM1 : 1 ≤ M) (hM7 : M ≤ 7) {loc : List (Str × V)} (hro : c.g.ro = 0) {P : Fl → St → Prop} {sto : Sto} (hsto : sto = stoB zs pool ws M [] [] []) (hl : Loc1 loc ws M)
    (p : ∀ (pool : List Int) (cells : List Cell) (loc : List (Str × V)) (sto : Sto), PoolOk pool → cells.length = M - (if M = 1 then 0 else 1) → (∀ i cell, cells[i]? = some cell → CellLaw (2 + ws.sum) (2 + ws.sum + M) i cell) → sto = stoB zs pool ws M cells [] (cells.flatMap (dueOf (texts ws))) → Loc1 loc ws M → XW c ⟨loc, sto⟩ (sts.drop 11) P) : XW c ⟨loc, sto⟩ (sts.drop 10) P := by
  have hsl : (1000000 : Nat) ≤ sizeLine := by rw [sizeLine_eq]; decide
  have hib : Builtin.Int.intBits 2 = 2 := by decide
  obtain ⟨oc, od, sl, e1, e2⟩ := h
  have e : (KF c.w.params).lookup 257 = some ⟨_, _, .func _, _⟩ := rfl
  rw [e] at e1
  cases e1
  cases e2
  obtain ⟨c0, hcc⟩ := lawC_of hc
  subst hcc
  have hrz : ∀ n, c0.g.ro ≤ n := fun n => by rw [show c0.g.ro = 0 from hro]; exact Nat.zero_le n
  subst hsto
  have hsum := hws.sum
  have hwl := hws.1
  have hol : ((outNets ws M).map V.int).length = M := by simp [outNets]
  refine XW.mid (fun S1 => E2 (fun (pool : List Int) (cells : List Cell) => A5 (PoolOk pool) (cells.length = M - (if M = 1 then 0 else 1)) ((∀ i cell, cells[i]? = some cell → CellLaw (2 + ws.sum) (2 + ws.sum + M) i cell)) (S1.sto = stoB zs pool ws M cells [] (cells.flatMap (dueOf (texts ws)))) (Loc1 S1.loc ws M))) ?_ ?_
  rotate_left
  · intro loc1 sto1 hJ0
    refine (?_ : let G0 := _; G0); intro G0
    obtain ⟨pool, cells, a1, a2, a3, g1, g2⟩ := hJ0
    unfold G0; clear G0
    exact p pool cells loc1 sto1 a1 a2 a3 g1 g2
  have hv1 := hl.pool
  have hv2 := hl.outs
  have hv3 := hl.spare
  refine SW.for ?_
  refine IW.range1 ok.W ⟨rfl, rfl, rfl⟩ ok.h .name (by kernel_rfl) ?_
  repeat tb_rel
  refine EW.callBuiltin (id := "len") ok.W ⟨rfl, rfl, rfl⟩ (by kernel_rfl) (by kernel_rfl) ?_
  repeat tb_rel
  refine Len.lst (by rw [hol]; allgen_close_more) ?_
  repeat tb_rel
  rw [hol]
  refine ⟨_, rfl, by split <;> allgen_close_more, by split <;> allgen_close_more, ?_⟩
  refine ⟨fun i S1 => E2 (fun (pool : List Int) (cells : List Cell) => A5 (PoolOk pool) (cells.length = i) ((∀ i cell, cells[i]? = some cell → CellLaw (2 + ws.sum) (2 + ws.sum + M) i cell)) (S1.sto = stoB zs pool ws M cells [] (cells.flatMap (dueOf (texts ws)))) (Loc1 S1.loc ws M)), ⟨pool, [], hpool, rfl, by simp, rfl, hl⟩, fun _ _ _ => trivial, ?_, ?_⟩
  · clear hl hv1 hv2 hv3 loc hpool
    intro i v loc sto hv hJ0
    refine (?_ : let G0 := _; G0); intro G0
    obtain ⟨pool, cells, hpool, hci, hcl, g1, hl⟩ := hJ0
    obtain rfl : sto = _ := g1
    obtain ⟨hi, rfl⟩ := rng1 hv
    unfold G0; clear G0
    intro Q0 hT0
    have hiM : i < M := by split at hi <;> allgen_close_more
    refine AsW.name ?_ (by exact ⟨rfl, .inl rfl⟩)
    iterate 4 tb_rel
    refine XW.mid (fun S1 => E2 (fun (pool : List Int) (kind : Str) => A6 (PoolOk pool) (kind ∈ kinds13) (S1.sto = stoB zs pool ws M cells [] (cells.flatMap (dueOf (texts ws)))) (Loc1 S1.loc ws M) (S1.has "turn" (.int i)) (S1.has "kind" (.str kind)))) ?_ ?_
    · top_caught0
      have hv1 := hl.pool
      repeat tb_rel
      refine ⟨_, rfl, ?_⟩
      by_cases h0 : 0 < (i : Int)
      · refine brT (by simpa using h0) ?_
        repeat tb_rel
        refine EW.callDef (f := 230) ok.W ⟨rfl, rfl, rfl⟩ (by kernel_rfl) (by kernel_rfl) ?_
        repeat tb_rel
        refine f_law_drawn (k := k + 10) (by first | exact ok.less' | exact ok.less (by allgen_close_more)) (by decide) (by decide) hpool (by rfl) (by exact hrz _) ?_ (by exact stoB_ok (r := []) (by simp))
        intro r ys hr0 hr hys
        repeat tb_rel
        refine EW.list ?_
        repeat tb_rel
        refine ⟨?_, by simp; allgen_close_more⟩
        repeat tb_rel
        obtain ⟨q, rfl⟩ := Int.eq_ofNat_of_zero_le hr0
        have hq : q < 13 := by allgen_close_more
        obtain ⟨kind, hkd⟩ : ∃ kind, kinds13[q]? = some kind := ⟨_, List.getElem?_eq_getElem (by simp [kinds13]; allgen_close_more)⟩
        refine Item.lst (v := .str kind) (by allgen_close_more) (by allgen_close_more) ?_ ?_
        · have : (kinds13.map V.str)[q]? = some (.str kind) := by rw [List.getElem?_map, hkd]; rfl
          exact this
        repeat tb_rel
        exact ⟨rfl, ys, kind, hys, List.mem_of_getElem? hkd, rfl, by allgen_close2_more, by tb_start, by tb_start⟩
      · refine brF (by simpa using h0) ?_
        repeat tb_rel
        exact ⟨rfl, pool, "mux", hpool, by decide +kernel, rfl, by allgen_close2_more, by tb_start, by tb_start⟩
    clear hl loc hpool pool
    intro loc sto hJ0
    refine (?_ : let G0 := _; G0); intro G0
    obtain ⟨pool, kind, hpool, hkind, g1, hl, v1, v2⟩ := hJ0
    obtain rfl : sto = _ := g1
    unfold G0; clear G0
    iterate 8 tb_rel
    have hkok : PyData.strOk kind = true := by
      have : ∀ x ∈ kinds13, PyData.strOk x = true := by decide +kernel
      exact this kind hkind
    have hgk : kind ≠ "lut" → kind ≠ "cell" → kind ≠ "flop" → kind ∈ gateKinds := by
      have : ∀ x ∈ kinds13, x ≠ "lut" → x ≠ "cell" → x ≠ "flop" → x ∈ gateKinds := by decide +kernel
      exact this kind hkind
    refine XW.mid (fun S1 => E3 (fun (pool : List Int) (many : Nat) (par : Par) => A8 (PoolOk pool) (ShapeOk i kind many par) (S1.sto = stoB zs pool ws M cells [] (cells.flatMap (dueOf (texts ws)))) (Loc1 S1.loc ws M) (S1.has "turn" (.int i)) (S1.has "kind" (.str kind)) (S1.has "many" (.int many)) (S1.has "param" par.v))) ?_ ?_
    · top_caught0
      have hv1 := hl.pool
      repeat tb_rel
      refine EW.tuple ?_
      repeat tb_rel
      refine ⟨?_, by simp; allgen_close_more⟩
      refine Op.inT (xs := ["buf", "not"]) hkok (by decide +kernel) (by have : c0.A.units + 10 * (k + 100) < cLine := ok.u; show c0.A.units + 64 < _; allgen_close_more) ?_
      refine ⟨_, rfl, ?_⟩
      by_cases h1 : kind = "buf" ∨ kind = "not"
      · refine brT (by simpa using h1) ?_
        repeat tb_rel
        refine ⟨rfl, pool, 1, .none, hpool, .inl ⟨?_, ?_, rfl⟩, rfl, by allgen_close2_more, by tb_start, by tb_start, by tb_start, by tb_start⟩
        · rcases h1 with rfl | rfl <;> decide +kernel
        · unfold arity; rw [if_pos h1]
      refine brF (by simpa using h1) ?_
      repeat tb_rel
      refine Op.eqS ?_
      refine ⟨_, rfl, ?_⟩
      by_cases h2 : kind = "mux"
      · refine brT (by simpa using h2) ?_
        repeat tb_rel
        refine ⟨rfl, pool, 3, .none, hpool, .inl ⟨?_, ?_, rfl⟩, rfl, by allgen_close2_more, by tb_start, by tb_start, by tb_start, by tb_start⟩
        · subst h2; decide +kernel
        · unfold arity; rw [if_neg h1, if_pos h2]
      refine brF (by simpa using h2) ?_
      repeat tb_rel
      refine Op.eqS ?_
      refine ⟨_, rfl, ?_⟩
      by_cases h3 : kind = "lut"
      · refine brT (by simpa using h3) ?_
        repeat tb_rel
        refine EW.callDef (f := 230) ok.W ⟨rfl, rfl, rfl⟩ (by kernel_rfl) (by kernel_rfl) ?_
        repeat tb_rel
        refine f_law_drawn (k := k + 10) (by first | exact ok.less' | exact ok.less (by allgen_close_more)) (by decide) (by decide) hpool (by rfl) (by exact hrz _) ?_ (by exact stoB_ok (r := []) (by simp))
        intro r ys hr0 hr hys
        repeat tb_rel
        refine EW.callDef (f := 230) ok.W ⟨rfl, rfl, rfl⟩ (by kernel_rfl) (by kernel_rfl) ?_
        obtain ⟨many, rfl⟩ := Int.eq_ofNat_of_zero_le hr0
        have hm3 : many ≤ 3 := by allgen_close_more
        obtain ⟨p1, hp1⟩ : ∃ p1 : Nat, p1 = 2 ^ many := ⟨_, rfl⟩
        obtain ⟨p2, hp2⟩ : ∃ p2 : Nat, p2 = 2 ^ p1 := ⟨_, rfl⟩
        have b1 : p1 ≤ 8 := by rw [hp1]; exact Nat.le_trans (Nat.pow_le_pow_right (by decide) hm3) (by decide)
        have b2 : p2 ≤ 256 := by rw [hp2]; exact Nat.le_trans (Nat.pow_le_pow_right (by decide) b1) (by decide)
        have b3 : 1 ≤ p2 := by rw [hp2]; exact Nat.one_le_two_pow
        repeat tb_rel
        refine Op.pow (by allgen_close_more) (by rw [hib]; allgen_close_more) ?_
        rw [show (2 : Int) ^ ((many : Nat) : Int).toNat = (p1 : Int) from by rw [hp1]; simp]
        refine Op.pow (by allgen_close_more) (by rw [hib]; allgen_close_more) ?_
        repeat tb_rel
        rw [show (2 : Int) ^ ((p1 : Nat) : Int).toNat = (p2 : Int) from by rw [hp2]; simp]
        refine f_law_drawn (k := k + 10) (by first | exact ok.less' | exact ok.less (by allgen_close_more)) (by allgen_close_more) (by allgen_close_more) hys (by rfl) (by exact hrz _) ?_ (by exact stoB_ok (r := []) (pool := ys) (by simp))
        intro r2 ys2 hr20 hr2 hys2
        repeat tb_rel
        exact ⟨rfl, ys2, many, .num r2, hys2, .inr (.inl ⟨h3, hm3, r2, rfl, hr20, by rw [hp2, hp1] at hr2; simpa using hr2⟩), rfl, by allgen_close2_more, by tb_start, by tb_start, by tb_start, by tb_start⟩
      refine brF (by simpa using h3) ?_
      repeat tb_rel
      refine Op.eqS ?_
      refine ⟨_, rfl, ?_⟩
      by_cases h4 : kind = "cell"
      · refine brT (by simpa using h4) ?_
        repeat tb_rel
        refine EW.callDef (f := 230) ok.W ⟨rfl, rfl, rfl⟩ (by kernel_rfl) (by kernel_rfl) ?_
        repeat tb_rel
        refine f_law_drawn (k := k + 10) (by first | exact ok.less' | exact ok.less (by allgen_close_more)) (by decide) (by decide) hpool (by rfl) (by exact hrz _) ?_ (by exact stoB_ok (r := []) (by simp))
        intro r ys hr0 hr hys
        repeat tb_rel
        refine EW.tuple ?_
        repeat tb_rel
        refine EW.callDef (f := 230) ok.W ⟨rfl, rfl, rfl⟩ (by kernel_rfl) (by kernel_rfl) ?_
        obtain ⟨many, hmn⟩ : ∃ many : Nat, 1 + r = (many : Int) := ⟨(1 + r).toNat, by allgen_close_more⟩
        rw [hmn]
        have hm3 : many ≤ 2 := by allgen_close_more
        obtain ⟨p1, hp1⟩ : ∃ p1 : Nat, p1 = 2 ^ many := ⟨_, rfl⟩
        obtain ⟨p2, hp2⟩ : ∃ p2 : Nat, p2 = 2 ^ p1 := ⟨_, rfl⟩
        have b1 : p1 ≤ 4 := by rw [hp1]; exact Nat.le_trans (Nat.pow_le_pow_right (by decide) hm3) (by decide)
        have b2 : p2 ≤ 16 := by rw [hp2]; exact Nat.le_trans (Nat.pow_le_pow_right (by decide) b1) (by decide)
        have b3 : 1 ≤ p2 := by rw [hp2]; exact Nat.one_le_two_pow
        repeat tb_rel
        refine Op.pow (by allgen_close_more) (by rw [hib]; allgen_close_more) ?_
        rw [show (2 : Int) ^ ((many : Nat) : Int).toNat = (p1 : Int) from by rw [hp1]; simp]
        refine Op.pow (by allgen_close_more) (by rw [hib]; allgen_close_more) ?_
        repeat tb_rel
        rw [show (2 : Int) ^ ((p1 : Nat) : Int).toNat = (p2 : Int) from by rw [hp2]; simp]
        refine f_law_drawn (k := k + 10) (by first | exact ok.less' | exact ok.less (by allgen_close_more)) (by allgen_close_more) (by allgen_close_more) hys (by rfl) (by exact hrz _) ?_ (by exact stoB_ok (r := []) (pool := ys) (by simp))
        intro r2 ys2 hr20 hr2 hys2
        repeat tb_rel
        refine ⟨?_, by simp; allgen_close_more⟩
        repeat tb_rel
        exact ⟨rfl, ys2, many, .own "OWN" r2, hys2, .inr (.inr (.inl ⟨h4, by allgen_close_more, hm3, r2, rfl, hr20, by rw [hp2, hp1] at hr2; simpa using hr2⟩)), rfl, by allgen_close2_more, by tb_start, by tb_start, by tb_start, by tb_start⟩
      refine brF (by simpa using h4) ?_
      repeat tb_rel
      refine Op.eqS ?_
      refine ⟨_, rfl, ?_⟩
      by_cases h5 : kind = "flop"
      · refine brT (by simpa using h5) ?_
        repeat tb_rel
        refine EW.tuple ?_
        repeat tb_rel
        refine EW.callDef (f := 230) ok.W ⟨rfl, rfl, rfl⟩ (by kernel_rfl) (by kernel_rfl) ?_
        repeat tb_rel
        refine f_law_drawn (k := k + 10) (by first | exact ok.less' | exact ok.less (by allgen_close_more)) (by decide) (by decide) hpool (by rfl) (by exact hrz _) ?_ (by exact stoB_ok (r := []) (by simp))
        intro r ys hr0 hr hys
        have hbl := istr_len (i := i) (by allgen_close_more)
        have l1 : (qText i).length ≤ 20 := by unfold qText; rw [Str.length_append]; show 1 + _ ≤ _; allgen_close_more
        repeat tb_rel
        refine EW.fstr ?_
        refine JW.cons ?_
        repeat tb_rel
        refine ⟨_, rfl, by show 1 ≤ _; allgen_close_more, ?_⟩
        refine JW.cons (EW.fmt ?_)
        repeat tb_rel
        refine .inr ⟨_, rfl, netOk_small (by allgen_close_more) (by allgen_close_more), _, rfl, Nat.le_trans l1 (by allgen_close_more), ?_⟩
        refine JW.nil (Nat.le_trans l1 (by allgen_close_more)) ?_
        repeat tb_rel
        refine EW.callDef (f := 230) ok.W ⟨rfl, rfl, rfl⟩ (by kernel_rfl) (by kernel_rfl) ?_
        repeat tb_rel
        refine f_law_drawn (k := k + 10) (by first | exact ok.less' | exact ok.less (by allgen_close_more)) (by decide) (by decide) hys (by rfl) (by exact hrz _) ?_ (by exact stoB_ok (r := []) (pool := ys) (by simp))
        intro r2 ys2 hr20 hr2 hys2
        repeat tb_rel
        refine ⟨?_, by simp; allgen_close_more⟩
        repeat tb_rel
        exact ⟨rfl, ys2, 2, .flop r (qText i) r2, hys2, .inr (.inr (.inr ⟨h5, rfl, r, r2, rfl, by allgen_close_more, by allgen_close_more⟩)), rfl, by allgen_close2_more, by tb_start, by tb_start, by tb_start, by tb_start⟩
      refine brF (by simpa using h5) ?_
      repeat tb_rel
      exact ⟨rfl, pool, 2, .none, hpool, .inl ⟨hgk h3 h4 h5, by unfold arity; rw [if_neg h1, if_neg h2], rfl⟩, rfl, by allgen_close2_more, by tb_start, by tb_start, by tb_start, by tb_start⟩
    clear hl loc hpool pool v1 v2
    intro loc sto hJ0
    refine (?_ : let G0 := _; G0); intro G0
    obtain ⟨pool, many, par, hpool, hsh, g1, hl, v1, v2, v3, v4⟩ := hJ0
    obtain rfl : sto = _ := g1
    unfold G0; clear G0
    have hm3 := hsh.many
    -- the ins
    refine XW.mid (fun S1 => E2 (fun (pool : List Int) (ins : List Int) => A10 (PoolOk pool) (ins.length = many) ((∀ n ∈ ins, 0 ≤ n ∧ n < ((2 + ws.sum + M : Nat) : Int))) (S1.sto = stoB zs pool ws M cells [] (cells.flatMap (dueOf (texts ws)))) (Loc1 S1.loc ws M) (S1.has "turn" (.int i)) (S1.has "kind" (.str kind)) (S1.has "many" (.int many)) (S1.has "param" par.v) (S1.has "ins" (.lst (ins.map .int))))) ?_ ?_
    · top_caught0
      have hv1 := hl.pool
      have hv2 := hl.net
      refine SW.assignComp (cl := [("pool", L + 1), ("net", L + 2)]) ?_ (ClOk.two (by decide +kernel) (by simp) (by rfl) (by rfl) (by rfl) (by rfl) (fun C => .inl (by rfl)) fun C => .inl (by rfl)) (by exact ⟨rfl, .inl rfl⟩)
      refine IW.range1 ok.W ⟨rfl, rfl, rfl⟩ ok.h .name (by kernel_rfl) ?_
      repeat tb_rel
      refine ⟨_, rfl, by allgen_close_more, by allgen_close_more, ?_⟩
      refine ⟨fun C j S2 => E2 (fun (pool : List Int) (ins : List Int) => A6 (PoolOk pool) (ins.length = j) ((∀ n ∈ ins, 0 ≤ n ∧ n < ((2 + ws.sum + M : Nat) : Int))) (S2.sto = stoB zs pool ws M cells [] (cells.flatMap (dueOf (texts ws))) ++ [.lst (ins.map .int)]) (S2.has "pool" (.ref 1)) (S2.has "net" (.ref 2))), fun C => ⟨pool, [], hpool, rfl, by simp, rfl, (freeLoc_some (by rfl)).trans hv1, (freeLoc_some (by rfl)).trans hv2⟩, fun _ _ _ _ => trivial, ?_, ?_⟩
      · intro C j v loc2 sto2 hv2 hJ0
        refine (?_ : let G0 := _; G0); intro G0
        obtain ⟨pool2, ins, hpool2, hlen, hins, k1, k2, k3⟩ := hJ0
        obtain rfl : sto2 = _ := k1
        obtain ⟨hj, rfl⟩ := rng1 hv2
        unfold G0; clear G0
        intro Q0 hT0
        refine AsW.name ?_ (by exact ⟨rfl, .inl rfl⟩)
        refine TsW.nil (compY hT0 ?_)
        intro R0 hR0
        refine EW.callDef (f := 230) ok.W ⟨rfl, rfl, rfl⟩ (by kernel_rfl) (by kernel_rfl) ?_
        repeat tb_rel
        refine EW.attr ok.W ?_
        repeat tb_rel
        refine ⟨2, 139, _, .int ((2 + ws.sum + M : Nat) : Int), rfl, by rfl, by rfl, by kernel_rfl, ?_⟩
        repeat tb_rel
        refine f_law_drawn (k := k + 10) (by exact ok.comp.less (by allgen_close_more)) (by allgen_close_more) (by allgen_close_more) hpool2 (by rfl) (by exact hrz _) ?_ (by exact stoB_ok (by simp only [List.mem_singleton]; rintro o rfl; exact belL_ints _))
        intro r ys hr0 hr hys
        refine hR0 _ _ ?_
        refine ⟨ins.map .int, by rfl, by simp at hj; simp; allgen_close_more, ys, ins ++ [r], hys, by simp [hlen], fun n hn => ?_, ?_, by tb_start, by tb_start⟩
        · rcases List.mem_append.mp hn with hn | hn
          · exact hins n hn
          · simp at hn; subst hn; exact ⟨hr0, hr⟩
        · show (stoB zs ys ws M cells [] _ ++ [O.lst _]).set 9 _ = _
          rw [List.map_append]; rfl
      · intro C loc2 sto2 hJ0
        refine (?_ : let G0 := _; G0); intro G0
        obtain ⟨pool2, ins, hpool2, hlen, hins, k1, k2, k3⟩ := hJ0
        unfold G0; clear G0
        refine Back.frz (S2 := ⟨loc2, sto2⟩) (σ' := stoB zs pool2 ws M cells [] (cells.flatMap (dueOf (texts ws)))) k1 rfl (belL_ints _) (by exact stoB_ok (r := []) (by simp)) ?_
        exact ⟨rfl, pool2, ins, hpool2, by simpa using hlen, hins, rfl, by allgen_close2_more, by tb_start, by tb_start, by tb_start, by tb_start, by tb_start⟩
    clear hl loc hpool pool v1 v2 v3 v4
    intro loc sto hJ0
    refine (?_ : let G0 := _; G0); intro G0
    obtain ⟨pool, ins, hpool, hlen, hins, g1, hl, v1, v2, v3, v4, v5⟩ := hJ0
    obtain rfl : sto = _ := g1
    unfold G0; clear G0
    have hso : ∀ (cells : List Cell) (dues : List Blk), StoOk (stoB zs pool ws M cells [] dues) := fun cells dues => stoB_ok (r := []) (by simp)
    -- their names
    refine XW.mid (fun S1 => A8 (S1.sto = stoB zs pool ws M cells [] (cells.flatMap (dueOf (texts ws)))) (Loc1 S1.loc ws M) (S1.has "turn" (.int i)) (S1.has "kind" (.str kind)) (S1.has "many" (.int many)) (S1.has "param" par.v) (S1.has "ins" (.lst (ins.map .int))) (S1.has "told" (.lst ((ins.map (nm (texts ws))).map .str)))) ?_ ?_
    · top_caught0
      have hv1 := hl.names
      refine SW.assignComp (cl := [("names", L + 3)]) ?_ (ClOk.one (by rfl) (by rfl) fun C => .inl (by rfl)) (by exact ⟨rfl, .inl rfl⟩)
      refine IW.of ?_
      repeat tb_rel
      refine ⟨_, _, ItW.lst ok.h .name, ?_⟩
      refine ⟨fun C j S2 => S2.sto = stoB zs pool ws M cells [] (cells.flatMap (dueOf (texts ws))) ++ [.lst (((ins.take j).map (nm (texts ws))).map .str)] ∧ S2.has "names" (.ref 6), fun C => ⟨rfl, (freeLoc_some (by rfl)).trans hv1⟩, fun _ _ _ _ => trivial, ?_, ?_⟩
      · intro C j v loc2 sto2 hv2 hJ0
        refine (?_ : let G0 := _; G0); intro G0
        obtain ⟨k1, k2⟩ := hJ0
        obtain rfl : sto2 = _ := k1
        unfold G0; clear G0
        intro Q0 hT0
        rw [List.getElem?_map] at hv2
        obtain ⟨n, hn, rfl⟩ := Option.map_eq_some_iff.mp hv2
        have hnb := hins n (List.mem_of_getElem? hn)
        refine AsW.name ?_ (by exact ⟨rfl, .inl rfl⟩)
        refine TsW.nil (compY hT0 ?_)
        intro R0 hR0
        repeat tb_rel
        refine Item.di (kvs := (nmT (texts ws) (2 + ws.sum + M)).v) (v := .str (nm (texts ws) n)) (by rfl) (nm_get hnb.1 hnb.2) ?_
        refine hR0 _ _ ?_
        refine ⟨((ins.take j).map (nm (texts ws))).map .str, by rfl, by simp; allgen_close_more, ?_, by tb_start⟩
        show (stoB zs pool ws M cells [] _ ++ [O.lst _]).set 9 _ = _
        rw [take_snoc hn, List.map_append, List.map_append]
        rfl
      · intro C loc2 sto2 hJ0
        refine (?_ : let G0 := _; G0); intro G0
        obtain ⟨k1, k2⟩ := hJ0
        unfold G0; clear G0
        rw [List.length_map, List.take_length] at k1
        refine Back.frz (S2 := ⟨loc2, sto2⟩) k1 rfl (belL_strs _) (hso _ _) ?_
        exact ⟨rfl, rfl, by allgen_close2_more, by tb_start, by tb_start, by tb_start, by tb_start, by tb_start, by tb_start⟩
    clear hl loc v1 v2 v3 v4 v5
    intro loc sto hJ0
    refine (?_ : let G0 := _; G0); intro G0
    obtain ⟨g1, hl, v1, v2, v3, v4, v5, v6⟩ := hJ0
    obtain rfl : sto = _ := g1
    unfold G0; clear G0
    have hv0 := hl.outs
    have hv7 := hl.net
    have hv8 := hl.names
    have hv9 := hl.dues
    have hcl7 : cells.length ≤ 7 := by allgen_close_more
    have hnmo : (outNets ws M)[i]? = some ((2 + ws.sum + i : Nat) : Int) := by
      unfold outNets
      rw [List.getElem?_map, List.getElem?_eq_getElem (by simpa using hiM)]
      simp
    have hnmo' : ((outNets ws M).map V.int)[((i : Nat) : Int).toNat]? = some (.int ((2 + ws.sum + i : Nat) : Int)) := by
      rw [Int.toNat_natCast, List.getElem?_map, hnmo]; rfl
    have hdl : (cells.flatMap (dueOf (texts ws))).length ≤ 2 * cells.length := by
      have : ∀ l : List Cell, (l.flatMap (dueOf (texts ws))).length ≤ 2 * l.length := by
        intro l
        induction l with
        | nil => simp
        | cons x l ih =>
          have : (dueOf (texts ws) x).length ≤ 2 := by
            unfold dueOf
            split
            · split <;> simp
            · simp
          rw [List.flatMap_cons, List.length_append, List.length_cons]; allgen_close_more
      exact this cells
    have hsnoc : ∀ cell : Cell, CellLaw (2 + ws.sum) (2 + ws.sum + M) i cell → ∀ i' cell', (cells ++ [cell])[i']? = some cell' → CellLaw (2 + ws.sum) (2 + ws.sum + M) i' cell' := fun cell hc i' cell' h' => by
      by_cases hlt : i' < cells.length
      · rw [List.getElem?_append_left hlt] at h'; exact hcl i' cell' h'
      · rw [List.getElem?_append_right (by allgen_close_more)] at h'
        obtain rfl : i' = cells.length := by
          have := (List.getElem?_eq_some_iff.mp h').1; simp at this; allgen_close_more
        simp at h'; subst h'; rw [hci]; exact hc
    repeat tb_rel
    refine Op.eqS ?_
    refine ⟨_, rfl, ?_⟩
    by_cases hf : kind = "flop"
    · refine brT (by simpa using hf) ?_
      rcases hsh with ⟨hk, _⟩ | ⟨hk, _⟩ | ⟨hk, _⟩ | ⟨_, hmany, fe, init, rfl, hfe, hinit⟩
      · subst hf; exact absurd hk (by decide +kernel)
      · rw [hf] at hk; exact absurd hk (by decide +kernel)
      · rw [hf] at hk; exact absurd hk (by decide +kernel)
      subst hmany
      obtain ⟨clk, data, rfl⟩ : ∃ a b, ins = [a, b] := by
        match ins, hlen with
        | [a, b], _ => exact ⟨a, b, rfl⟩
      repeat tb_rel
      refine EW.method 122 ok.W ?_ _ (by with_unfolding_all rfl) (by exact .inr ⟨_, _, rfl, by exact starEach_plain rfl _ _, by with_unfolding_all rfl⟩)
      repeat tb_rel
      refine ⟨2, 139, _, rfl, by rfl, by rfl, by kernel_rfl, ?_⟩
      repeat tb_rel
      refine Item.lst (v := .int ((2 + ws.sum + i : Nat) : Int)) (by allgen_close_more) (by allgen_close_more) hnmo' ?_
      repeat tb_rel
      refine EW.list ?_
      repeat tb_rel
      refine ⟨?_, by simp; allgen_close_more⟩
      refine Op.addL .l .l (by simp; allgen_close_more) ?_
      repeat tb_rel
      refine f_drive (k := k + 10) (N := netW ws M cells []) (ji := 3) (jo := 4) (jc := 5) (a := .lst (([clk, data, 0, 0] : List Int).map .int)) (kind := kind) (out := ((2 + ws.sum + i : Nat) : Int)) (ins := [clk, data, 0, 0]) (par := .flop fe (qText i) init) (by first | exact ok.less' | exact ok.less (by allgen_close_more)) (by exact stoB_net (r := [])) (.inl .l) (by exact hrz _) (by simp) (by show cells.length ≤ 100; allgen_close_more) ?_ (by exact hso cells _) _ (.inl rfl)
      refine seqN ?_
      refine TW.st (stoB zs pool ws M (cells ++ [⟨kind, ((2 + ws.sum + i : Nat) : Int), [clk, data, 0, 0], .flop fe (qText i) init⟩]) [] (cells.flatMap (dueOf (texts ws)))) ?e0 ?_
      case e0 => rfl
      obtain ⟨cell, hcell⟩ : ∃ cell : Cell, cell = ⟨kind, ((2 + ws.sum + i : Nat) : Int), [clk, data, 0, 0], .flop fe (qText i) init⟩ := ⟨_, rfl⟩
      rw [← hcell]
      have hCL : CellLaw (2 + ws.sum) (2 + ws.sum + M) i cell := by
        rw [hcell]
        exact ⟨⟨by simp, by allgen_close_more⟩, 2, .inr (.inr (.inr ⟨hf, rfl, fe, init, rfl, hfe, hinit⟩)), [clk, data], rfl, hins, by rw [if_pos hf]; rfl⟩
      obtain ⟨edge, hedge⟩ : ∃ edge : Str, edge = if fe = 1 then ("re" : Str) else ("fe" : Str) := ⟨_, rfl⟩
      refine XW.mid (fun S1 => A6 (S1.sto = stoB zs pool ws M (cells ++ [cell]) [] (cells.flatMap (dueOf (texts ws)))) (Loc1 S1.loc ws M) (S1.has "turn" (.int i)) (S1.has "param" (Par.v (.flop fe (qText i) init))) (S1.has "told" (.lst (([clk, data].map (nm (texts ws))).map .str))) (S1.has "edge" (.str edge))) ?_ ?_
      · repeat tb_rel
        refine Item.tup (v := .int fe) (by decide) (by decide) (by rfl) ?_
        repeat tb_rel
        refine ⟨_, rfl, ?_⟩
        by_cases he : fe = 1
        · refine brT (by first | exact decide_eq_true he | simp [he]) ?_
          repeat tb_rel
          rw [hedge, if_pos he]
          exact ⟨rfl, rfl, by allgen_close2_more, by tb_start, by tb_start, by tb_start, by tb_start⟩
        · refine brF (by first | exact decide_eq_false he | simp [he]) ?_
          repeat tb_rel
          rw [hedge, if_neg he]
          exact ⟨rfl, rfl, by allgen_close2_more, by tb_start, by tb_start, by tb_start, by tb_start⟩
      clear hl loc v1 v2 v3 v4 v5 v6 hv0 hv7 hv8 hv9
      intro loc sto hJ0
      refine (?_ : let G0 := _; G0); intro G0
      obtain ⟨g1, hl, v1, v2, v3, v4⟩ := hJ0
      obtain rfl : sto = _ := g1
      unfold G0; clear G0
      have hv0 := hl.outs
      have hv8 := hl.names
      have hv9 := hl.dues
      have hbl := istr_len (i := i) (by allgen_close_more)
      have hql : (qText i).length ≤ 20 := by unfold qText; rw [Str.length_append]; show 1 + _ ≤ _; allgen_close_more
      repeat tb_rel
      refine EW.listMeth1 (id := "list.append") ?sa ?sb ?_ ?sd ?se ?sf
      case sa => exact slot_list_append
      case sb => kernel_rfl
      case sd => exact attributeBase_plain rfl _ _
      case se => exact starEach_plain rfl _ _
      case sf => with_unfolding_all rfl
      repeat tb_rel
      refine ⟨8, _, rfl, by rfl, ?_⟩
      refine EW.list ?_
      refine AW.cons ?_
      refine EW.list ?_
      repeat tb_rel
      refine Item.lst (v := .str (nm (texts ws) data)) (by decide) (by decide) (by rfl) ?_
      repeat tb_rel
      refine Item.lst (v := .int ((2 + ws.sum + i : Nat) : Int)) (by allgen_close_more) (by allgen_close_more) hnmo' ?_
      refine Item.di (kvs := (nmT (texts ws) (2 + ws.sum + M)).v) (v := .str (nm (texts ws) ((2 + ws.sum + i : Nat) : Int))) (by rfl) (nm_get (by allgen_close_more) (by allgen_close_more)) ?_
      repeat tb_rel
      refine Item.lst (v := .str (nm (texts ws) clk)) (by decide) (by decide) (by rfl) ?_
      refine AW.cons ?_
      refine EW.fstr1 (EW.fmt ?_)
      repeat tb_rel
      refine Item.tup (v := .int init) (by decide) (by decide) (by rfl) ?_
      refine .inr ⟨_, rfl, netOk_small (by allgen_close_more) (by allgen_close_more), ?_⟩
      repeat tb_rel
      refine ⟨?_, by simp; allgen_close_more⟩
      repeat tb_rel
      refine EW.list ?_
      repeat tb_rel
      refine ⟨?_, by simp⟩
      repeat tb_rel
      refine ⟨?_, by simp; allgen_close_more⟩
      refine Meth.append (by rfl) (by exact hrz _) (by rw [List.length_map]; allgen_close_more) ?_
      refine seqN ?_
      refine TW.st (stoB zs pool ws M (cells ++ [cell]) [] (cells.flatMap (dueOf (texts ws)) ++ [([(".latch" : Str), nm (texts ws) data, nm (texts ws) cell.out, edge, nm (texts ws) clk, istr init], [])])) ?e1 ?_
      case e1 =>
        unfold stoB
        rw [List.map_append, hcell]; rfl
      repeat tb_rel
      refine EW.listMeth1 (id := "list.append") ?sa ?sb ?_ ?sd ?se ?sf
      case sa => exact slot_list_append
      case sb => kernel_rfl
      case sd => exact attributeBase_plain rfl _ _
      case se => exact starEach_plain rfl _ _
      case sf => with_unfolding_all rfl
      repeat tb_rel
      refine ⟨8, _, rfl, by rfl, ?_⟩
      refine EW.list ?_
      refine AW.cons ?_
      refine EW.list ?_
      repeat tb_rel
      refine EW.fstr ?_
      refine JW.cons ?_
      repeat tb_rel
      refine ⟨_, rfl, by show 1 ≤ _; allgen_close_more, ?_⟩
      refine JW.cons (EW.fmt ?_)
      repeat tb_rel
      refine .inr ⟨_, rfl, netOk_small (by allgen_close_more) (by allgen_close_more), _, rfl, Nat.le_trans hql (by allgen_close_more), ?_⟩
      refine JW.nil (Nat.le_trans hql (by allgen_close_more)) ?_
      repeat tb_rel
      refine ⟨?_, by simp; allgen_close_more⟩
      repeat tb_rel
      refine EW.list ?_
      repeat tb_rel
      refine ⟨?_, by simp⟩
      repeat tb_rel
      refine ⟨?_, by simp; allgen_close_more⟩
      refine Meth.append (by rfl) (by exact hrz _) (by rw [List.length_map, List.length_append, List.length_singleton]; allgen_close_more) ?_
      repeat tb_rel
      refine ⟨pool, cells ++ [cell], hpool, by simp [hci], hsnoc cell hCL, ?_, hl⟩
      have hd : dueOf (texts ws) cell = [([(".latch" : Str), nm (texts ws) data, nm (texts ws) cell.out, edge, nm (texts ws) clk, istr init], []), ([(".cname" : Str), qText i], [])] := by
        unfold dueOf
        rw [hcell, hedge]
        simp only [hf, if_true]
      rw [List.flatMap_append, List.flatMap_cons, List.flatMap_nil, List.append_nil, hd]
      unfold stoB
      simp only [List.map_append, List.map_cons, List.map_nil]
      show (stoA _ _ _ _ _ ++ [O.lst _]).set 8 _ = _
      simp [stoA, blkV, rowV, qText]
      rfl
    · refine brF (by simpa using hf) ?_
      repeat tb_rel
      refine EW.method 122 ok.W ?_ _ (by with_unfolding_all rfl) (by exact .inr ⟨_, _, rfl, by exact starEach_plain rfl _ _, by with_unfolding_all rfl⟩)
      repeat tb_rel
      refine ⟨2, 139, _, rfl, by rfl, by rfl, by kernel_rfl, ?_⟩
      repeat tb_rel
      refine Item.lst (v := .int ((2 + ws.sum + i : Nat) : Int)) (by allgen_close_more) (by allgen_close_more) hnmo' ?_
      repeat tb_rel
      refine f_drive (k := k + 10) (N := netW ws M cells []) (ji := 3) (jo := 4) (jc := 5) (a := .lst (ins.map .int)) (kind := kind) (out := ((2 + ws.sum + i : Nat) : Int)) (ins := ins) (par := par) (by first | exact ok.less' | exact ok.less (by allgen_close_more)) (by exact stoB_net (r := [])) (.inl .l) (by exact hrz _) (by allgen_close_more) (by show cells.length ≤ 100; allgen_close_more) ?_ (by exact hso cells _) _ (.inl rfl)
      refine seqN ?_
      obtain ⟨cell, hcell⟩ : ∃ cell : Cell, cell = ⟨kind, ((2 + ws.sum + i : Nat) : Int), ins, par⟩ := ⟨_, rfl⟩
      have hCL : CellLaw (2 + ws.sum) (2 + ws.sum + M) i cell := by
        rw [hcell]
        exact ⟨⟨by simp, by allgen_close_more⟩, many, hsh, ins, hlen, hins, by rw [if_neg hf]⟩
      refine TW.st (stoB zs pool ws M (cells ++ [cell]) [] (cells.flatMap (dueOf (texts ws)))) ?e0 ?_
      case e0 => rw [hcell]; rfl
      repeat tb_rel
      refine EW.listMeth1 (id := "list.append") ?sa ?sb ?_ ?sd ?se ?sf
      case sa => exact slot_list_append
      case sb => kernel_rfl
      case sd => exact attributeBase_plain rfl _ _
      case se => exact starEach_plain rfl _ _
      case sf => with_unfolding_all rfl
      repeat tb_rel
      refine ⟨8, _, rfl, by rfl, ?_⟩
      refine EW.list ?_
      refine AW.cons ?_
      repeat tb_rel
      refine EW.list ?_
      repeat tb_rel
      refine ⟨?_, by simp; allgen_close_more⟩
      repeat tb_rel
      refine Op.addL .l .l (by simp; allgen_close_more) ?_
      refine EW.list ?_
      repeat tb_rel
      refine Item.lst (v := .int ((2 + ws.sum + i : Nat) : Int)) (by allgen_close_more) (by allgen_close_more) hnmo' ?_
      refine Item.di (kvs := (nmT (texts ws) (2 + ws.sum + M)).v) (v := .str (nm (texts ws) ((2 + ws.sum + i : Nat) : Int))) (by rfl) (nm_get (by allgen_close_more) (by allgen_close_more)) ?_
      repeat tb_rel
      refine ⟨?_, by simp; allgen_close_more⟩
      refine Op.addL .l .l (by simp; allgen_close_more) ?_
      refine AW.cons ?_
      refine EW.callDef (f := 240) ok.W ⟨rfl, rfl, rfl⟩ (by kernel_rfl) (by kernel_rfl) ?_
      repeat tb_rel
      refine f_law_cover (k := k + 10) (w := parNum par) (by first | exact ok.less' | exact ok.less (by allgen_close_more)) hm3 (hsh.tab hf) ?_ (by exact hso (cells ++ [cell]) _)
      repeat tb_rel
      refine ⟨?_, by simp; allgen_close_more⟩
      refine Meth.append (by rfl) (by exact hrz _) (by rw [List.length_map]; allgen_close_more) ?_
      repeat tb_rel
      refine ⟨pool, cells ++ [cell], hpool, by simp [hci], hsnoc cell hCL, ?_, by allgen_close2_more⟩
      have hd : dueOf (texts ws) cell = [((".names" : Str) :: (ins.map (nm (texts ws)) ++ [nm (texts ws) ((2 + ws.sum + i : Nat) : Int)]), cover kind (parNum par) many)] := by
        unfold dueOf
        rw [hcell]
        simp only [hf, if_false, hlen]
      rw [List.flatMap_append, List.flatMap_cons, List.flatMap_nil, List.append_nil, hd]
      unfold stoB
      simp only [List.map_append, List.map_cons, List.map_nil]
      show (stoA _ _ _ _ _ ++ [O.lst _]).set 8 _ = _
      simp [stoA, blkV, rowV]
  · intro l9 s9
    generalize (St.mk l9 s9) = S1
    rintro ⟨pool, cells, a1, a2, a3, g1, g2⟩
    refine ⟨rfl, pool, cells, a1, ?_, a3, g1, g2⟩
    rw [a2, List.length_map, List.length_range]
    split <;> allgen_close_more
end

section
open PySem PySem.W PyProof.Rows PySem.Calls
inductive A9 (p1 p2 p3 p4 p5 p6 p7 p8 p9 : Prop) : Prop
  | mk (a1 : p1) (a2 : p2) (a3 : p3) (a4 : p4) (a5 : p5) (a6 : p6) (a7 : p7) (a8 : p8) (a9 : p9)

noncomputable def outDue (T : List Str) (p : Port) : List Blk := (List.range p.2.length).map fun q => ([(".names" : Str), nm T (p.2.getD q 0), bitName p.1 q], [[("1" : Str), ("1" : Str)]])
noncomputable def OutLaw (cnt : Nat) (i : Nat) (p : Port) : Prop := p.1 = Txt.item "yz" (i : Int) ∧ 1 ≤ p.2.length ∧ p.2.length ≤ 2 ∧ ∀ n ∈ p.2, 0 ≤ n ∧ n < (cnt : Int)
noncomputable def stoC (zs pool : List Int) (ws : List Nat) (M : Nat) (cells : List Cell) (outs : List Port) (dues : List Blk) (ons : List Str) : Sto := stoB zs pool ws M cells outs dues ++ [.lst (ons.map .str)]
theorem stoC_ok {zs pool : List Int} {ws : List Nat} {M : Nat} {cells : List Cell} {outs : List Port} {dues : List Blk} {ons : List Str} {r : Sto} (h : ∀ o ∈ r, o.bel (10 + r.length)) : StoOk (stoC zs pool ws M cells outs dues ons ++ r) := by
  unfold stoC
  rw [List.append_assoc]
  refine stoB_ok fun o ho => ?_
  rw [List.length_append]
  rcases List.mem_append.mp ho with ho | ho
  · simp at ho; subst ho; exact belL_strs _
  · have := h o ho
    rw [show 9 + (([O.lst (ons.map .str)] : Sto).length + r.length) = 10 + r.length from by simp; allgen_close_more]
    exact this
theorem stoC_ok0 {zs pool : List Int} {ws : List Nat} {M : Nat} {cells : List Cell} {outs : List Port} {dues : List Blk} {ons : List Str} : StoOk (stoC zs pool ws M cells outs dues ons) := by
  have := stoC_ok (zs := zs) (pool := pool) (ws := ws) (M := M) (cells := cells) (outs := outs) (dues := dues) (ons := ons) (r := []) (by simp)
  rwa [List.append_nil] at this
theorem yzLen (i : Nat) (h : i < 2) : (Txt.item "yz" (i : Int)).length = 1 := by
  have : ∀ i : Fin 2, (Txt.item "yz" ((i.val : Nat) : Int)).length = 1 := by decide +kernel
  exact this ⟨i, h⟩

theorem law_4 {c : Cx} {k : Nat} (ok : Ok c (k + 100)) {fd : FuncData} {sts : List Stmt} (h : IsLaw c.w.params fd sts) {L : Addr} (hc : c.env = callEnvC fd L 257) {zs pool : List Int} (hpool : PoolOk pool) {ws : List Nat} (hws : WsOk ws) {M : Nat} (hM1 : 1 ≤ M) (hM7 : M ≤ 7) {cells : List Cell} (hcl : cells.length ≤ 7) {dues : List Blk} (hdl : dues.length ≤ 14) {loc : List (Str × V)} (hro : c.g.ro = 0) {P : Fl → St → Prop} {sto : Sto} (hsto : sto = stoB zs pool ws M cells [] dues) (hl : Loc1 loc ws M)
    (p : ∀ (pool : List Int) (outs : List Port) (loc : List (Str × V)) (sto : Sto), PoolOk pool → 1 ≤ outs.length → outs.length ≤ 2 → (∀ i q, outs[i]? = some q → OutLaw (2 + ws.sum + M) i q) → sto = stoC zs pool ws M cells outs (dues ++ outs.flatMap (outDue (texts ws))) (bitNames outs) → Loc1 loc ws M → loc.lookup ("out_names" : Str) = some (.ref 9) → XW c ⟨loc, sto⟩ (sts.drop 13) P) : XW c ⟨loc, sto⟩ (sts.drop 11) P := by
  have hsl : (1000000 : Nat) ≤ sizeLine := by rw [sizeLine_eq]; decide
  obtain ⟨oc, od, sl, e1, e2⟩ := h
  have e : (KF c.w.params).lookup 257 = some ⟨_, _, .func _, _⟩ := rfl
  rw [e] at e1
  cases e1
  cases e2
  obtain ⟨c0, hcc⟩ := lawC_of hc
  subst hcc
  simp only [List.drop_succ_cons, List.drop_zero] at p ⊢
  have hrz : ∀ n, c0.g.ro ≤ n := fun n => by rw [show c0.g.ro = 0 from hro]; exact Nat.zero_le n
  subst hsto
  have hsum := hws.sum
  have hwl := hws.1
  with_reducible refine XW.mid (fun S1 => A3 (S1.sto = stoC zs pool ws M cells [] dues []) (Loc1 S1.loc ws M) (S1.has "out_names" (.ref 9))) ?_ ?_
  · top_caught0
    repeat tb_rel
    refine EW.listM ?_
    repeat tb_rel
    refine ⟨?_, by simp⟩
    have hlen9 : (stoB zs pool ws M cells [] dues).length = 9 := by simp [stoB, stoA]
    refine ⟨rfl, rfl, by allgen_close2_more, ?_⟩
    rw [← hlen9]; tb_start
  clear hl loc
  intro loc sto hJ0
  refine (?_ : let G0 := _; G0); intro G0
  obtain ⟨g1, hl, v1⟩ := hJ0
  obtain rfl : sto = _ := g1
  unfold G0; clear G0
  with_reducible refine XW.mid (fun S1 => E2 (fun (pool : List Int) (outs : List Port) => A7 (PoolOk pool) (1 ≤ outs.length) (outs.length ≤ 2) ((∀ i q, outs[i]? = some q → OutLaw (2 + ws.sum + M) i q)) (S1.sto = stoC zs pool ws M cells outs (dues ++ outs.flatMap (outDue (texts ws))) (bitNames outs)) (Loc1 S1.loc ws M) (S1.has "out_names" (.ref 9)))) ?_ ?_
  rotate_left
  · intro loc1 sto1 hJ0
    refine (?_ : let G0 := _; G0); intro G0
    obtain ⟨pool, outs, a1, a2, a3, a4, g1, g2, g3⟩ := hJ0
    unfold G0; clear G0
    with_reducible exact p pool outs loc1 sto1 a1 a2 a3 a4 g1 g2 g3
  have hv1 := hl.pool
  refine SW.for ?_
  refine IW.range1 ok.W ⟨rfl, rfl, rfl⟩ ok.h .name (by kernel_rfl) ?_
  repeat tb_rel
  refine EW.callDef (f := 230) ok.W ⟨rfl, rfl, rfl⟩ (by kernel_rfl) (by kernel_rfl) ?_
  repeat tb_rel
  refine f_law_drawn (k := k + 10) (by first | exact ok.less' | exact ok.less (by allgen_close_more)) (by decide) (by decide) hpool (by rfl) (by exact hrz _) ?_ (by exact stoC_ok0)
  intro r ys hr0 hr hys
  repeat tb_rel
  refine ⟨_, rfl, by allgen_close_more, by allgen_close_more, ?_⟩
  refine ⟨fun i S1 => E2 (fun (pool : List Int) (outs : List Port) => A6 (PoolOk pool) (outs.length = i) ((∀ i q, outs[i]? = some q → OutLaw (2 + ws.sum + M) i q)) (S1.sto = stoC zs pool ws M cells outs (dues ++ outs.flatMap (outDue (texts ws))) (bitNames outs)) (Loc1 S1.loc ws M) (S1.has "out_names" (.ref 9))), ⟨ys, [], hys, rfl, by simp, by simp [bitNames]; rfl, hl, v1⟩, fun _ _ _ => trivial, ?_, ?_⟩
  · clear hl hv1 v1 loc hpool hys
    intro i v loc sto hv hJ0
    refine (?_ : let G0 := _; G0); intro G0
    obtain ⟨pool, outs, hpool, rfl, hol, g1, hl, v1⟩ := hJ0
    obtain rfl : sto = _ := g1
    obtain ⟨hi, rfl⟩ := rng1 hv
    unfold G0; clear G0
    intro Q0 hT0
    have hi2 : outs.length < 2 := by allgen_close_more
    have hyl := yzLen _ hi2
    have hyz2 : ("yz" : Str).length = 2 := rfl
    have hv2 := hl.pool
    have hv3 := hl.net
    refine AsW.name ?_ (by exact ⟨rfl, .inl rfl⟩)
    -- the row
    with_reducible refine XW.mid (fun S1 => E2 (fun (pool : List Int) (row : List Int) => A9 (PoolOk pool) (1 ≤ row.length) (row.length ≤ 2) ((∀ n ∈ row, 0 ≤ n ∧ n < ((2 + ws.sum + M : Nat) : Int))) (S1.sto = stoC zs pool ws M cells outs (dues ++ outs.flatMap (outDue (texts ws))) (bitNames outs)) (Loc1 S1.loc ws M) (S1.has "out_names" (.ref 9)) (S1.has "turn" (.int outs.length)) (S1.has "row" (.lst (row.map .int))))) ?_ ?_
    · top_caught0
      refine SW.assignComp (cl := [("pool", L + 1), ("net", L + 2)]) ?_ (ClOk.two (by decide +kernel) (by simp) (by rfl) (by rfl) (by rfl) (by rfl) (fun C => .inl (by rfl)) fun C => .inl (by rfl)) (by exact ⟨rfl, .inl rfl⟩)
      refine IW.range1 ok.W ⟨rfl, rfl, rfl⟩ ok.h .name (by kernel_rfl) ?_
      repeat tb_rel
      refine EW.callDef (f := 230) ok.W ⟨rfl, rfl, rfl⟩ (by kernel_rfl) (by kernel_rfl) ?_
      repeat tb_rel
      refine f_law_drawn (k := k + 10) (by first | exact ok.less' | exact ok.less (by allgen_close_more)) (by decide) (by decide) hpool (by rfl) (by exact hrz _) ?_ (by exact stoC_ok0)
      intro r2 ys2 hr20 hr2 hys2
      repeat tb_rel
      obtain ⟨wd, hwd⟩ : ∃ wd : Nat, 1 + r2 = (wd : Int) := ⟨(1 + r2).toNat, by allgen_close_more⟩
      rw [hwd]
      refine ⟨_, rfl, by allgen_close_more, by allgen_close_more, ?_⟩
      refine ⟨fun C j S2 => E2 (fun (pool : List Int) (row : List Int) => A6 (PoolOk pool) (row.length = j) ((∀ n ∈ row, 0 ≤ n ∧ n < ((2 + ws.sum + M : Nat) : Int))) (S2.sto = stoC zs pool ws M cells outs (dues ++ outs.flatMap (outDue (texts ws))) (bitNames outs) ++ [.lst (row.map .int)]) (S2.has "pool" (.ref 1)) (S2.has "net" (.ref 2))), fun C => ⟨ys2, [], hys2, rfl, by simp, rfl, (freeLoc_some (by rfl)).trans (look_there (by kernel_rfl) hv2), (freeLoc_some (by rfl)).trans (look_there (by kernel_rfl) hv3)⟩, fun _ _ _ _ => trivial, ?_, ?_⟩
      · intro C j v loc2 sto2 hv2 hJ0
        refine (?_ : let G0 := _; G0); intro G0
        obtain ⟨pool2, row, hpool2, hlen, hrow, k1, k2, k3⟩ := hJ0
        obtain rfl : sto2 = _ := k1
        obtain ⟨hj, rfl⟩ := rng1 hv2
        unfold G0; clear G0
        intro Q0 hT0
        refine AsW.name ?_ (by exact ⟨rfl, .inl rfl⟩)
        refine TsW.nil (compY hT0 ?_)
        intro R0 hR0
        refine EW.callDef (f := 230) ok.W ⟨rfl, rfl, rfl⟩ (by kernel_rfl) (by kernel_rfl) ?_
        repeat tb_rel
        refine EW.attr ok.W ?_
        repeat tb_rel
        refine ⟨2, 139, _, .int ((2 + ws.sum + M : Nat) : Int), rfl, by rfl, by rfl, by kernel_rfl, ?_⟩
        repeat tb_rel
        refine f_law_drawn (k := k + 10) (by exact ok.comp.less (by allgen_close_more)) (by allgen_close_more) (by allgen_close_more) hpool2 (by rfl) (by exact hrz _) ?_ (by exact stoC_ok (by simp only [List.mem_singleton]; rintro o rfl; exact belL_ints _))
        intro r ys hr0 hr hys
        refine hR0 _ _ ?_
        refine ⟨row.map .int, by rfl, by simp at hj; simp; allgen_close_more, ys, row ++ [r], hys, by simp [hlen], fun n hn => ?_, ?_, by tb_start, by tb_start⟩
        · rcases List.mem_append.mp hn with hn | hn
          · exact hrow n hn
          · simp at hn; subst hn; exact ⟨hr0, hr⟩
        · show (stoC zs ys ws M cells outs _ _ ++ [O.lst _]).set 10 _ = _
          rw [List.map_append]; rfl
      · intro C loc2 sto2 hJ0
        refine (?_ : let G0 := _; G0); intro G0
        obtain ⟨pool2, row, hpool2, hlen, hrow, k1, k2, k3⟩ := hJ0
        unfold G0; clear G0
        simp only [List.length_map, List.length_range, Int.toNat_natCast] at hlen
        refine Back.frz (S2 := ⟨loc2, sto2⟩) (σ' := stoC zs pool2 ws M cells outs (dues ++ outs.flatMap (outDue (texts ws))) (bitNames outs)) k1 rfl (belL_ints _) (by exact stoC_ok0) ?_
        exact ⟨rfl, pool2, row, hpool2, by allgen_close_more, by allgen_close_more, hrow, rfl, by allgen_close2_more, by tb_start, by tb_start, by tb_start⟩
    clear hl loc hpool pool v1 hv2 hv3
    intro loc sto hJ0
    refine (?_ : let G0 := _; G0); intro G0
    obtain ⟨pool, row, hpool, hr1, hr2, hrow, g1, hl, v1, v2, v3⟩ := hJ0
    obtain rfl : sto = _ := g1
    unfold G0; clear G0
    have hsum2 : 2 + ws.sum + M ≤ 13 := by allgen_close_more
    have hdl2 : (outs.flatMap (outDue (texts ws))).length ≤ 2 * outs.length := by
      have : ∀ l : List Port, (∀ (i : Nat) (q : Port), l[i]? = some q → q.2.length ≤ 2) → (l.flatMap (outDue (texts ws))).length ≤ 2 * l.length := by
        intro l
        induction l with
        | nil => intro _; simp
        | cons x l ih =>
          intro hh
          have h1 := hh 0 x rfl
          have h2 := ih fun i q hq => hh (i + 1) q (by simpa using hq)
          rw [List.flatMap_cons, List.length_append, List.length_cons]
          simp only [outDue, List.length_map, List.length_range]
          allgen_close_more
      exact this outs fun i q hq => (hol i q hq).2.2.1
    have hbn2 : (bitNames outs).length ≤ 2 * outs.length := by
      rw [bitNames_len]
      have : ∀ l : List Port, (∀ (i : Nat) (q : Port), l[i]? = some q → q.2.length ≤ 2) → (l.flatMap (·.2)).length ≤ 2 * l.length := by
        intro l
        induction l with
        | nil => intro _; simp
        | cons x l ih =>
          intro hh
          have h1 := hh 0 x rfl
          have h2 := ih fun i q hq => hh (i + 1) q (by simpa using hq)
          rw [List.flatMap_cons, List.length_append, List.length_cons]
          allgen_close_more
      exact this outs fun i q hq => (hol i q hq).2.2.1
    have hv2 := hl.net
    -- the port
    with_reducible refine XW.mid (fun S1 => A5 (S1.sto = stoC zs pool ws M cells (outs ++ [(Txt.item "yz" (outs.length : Int), row)]) (dues ++ outs.flatMap (outDue (texts ws))) (bitNames outs)) (Loc1 S1.loc ws M) (S1.has "out_names" (.ref 9)) (S1.has "turn" (.int outs.length)) (S1.has "row" (.lst (row.map .int)))) ?_ ?_
    · top_caught0
      repeat tb_rel
      refine EW.method 106 ok.W ?_ _ (by with_unfolding_all rfl) (by exact .inr ⟨_, _, rfl, by exact starEach_plain rfl _ _, by with_unfolding_all rfl⟩)
      repeat tb_rel
      refine ⟨2, 139, _, rfl, by rfl, by rfl, by kernel_rfl, ?_⟩
      repeat tb_rel
      refine Item.str (by allgen_close_more) (by allgen_close_more) (by unfold fitsSsize; simp; allgen_close_more) ?_
      repeat tb_rel
      refine f_add_output (k := k + 10) (N := netW ws M cells outs) (ji := 3) (jo := 4) (jc := 5) (bits := row) (by first | exact ok.less' | exact ok.less (by allgen_close_more)) (by exact stoB_net (r := [_])) .l (by exact hrz _) (by allgen_close_more) (by show outs.length ≤ 100; allgen_close_more) ?_ (by exact stoC_ok0)
      exact ⟨rfl, rfl, by allgen_close2_more, by tb_start, by tb_start, by tb_start⟩
    clear hl loc v1 v2 v3 hv2
    intro loc sto hJ0
    refine (?_ : let G0 := _; G0); intro G0
    obtain ⟨g1, hl, v1, v2, v3⟩ := hJ0
    obtain rfl : sto = _ := g1
    unfold G0; clear G0
    generalize hnx : Txt.item "yz" (outs.length : Int) = nx at hyl
    obtain ⟨outs', houts'⟩ : ∃ outs', outs' = outs ++ [(nx, row)] := ⟨_, rfl⟩
    rw [← houts']
    refine XW.cons ?_
    refine SW.for ?_
    refine IW.range1 ok.W ⟨rfl, rfl, rfl⟩ ok.h .name (by kernel_rfl) ?_
    refine EW.callBuiltin (id := "len") ok.W ⟨rfl, rfl, rfl⟩ (by kernel_rfl) (by kernel_rfl) ?_
    repeat tb_rel
    refine Len.lst (by simp; allgen_close_more) ⟨_, rfl, by simp; allgen_close_more, by simp; allgen_close_more, ?_⟩
    obtain ⟨D, hD⟩ : ∃ D : Nat → List Blk, D = fun q => dues ++ outs.flatMap (outDue (texts ws)) ++ (List.range q).map fun q => ([(".names" : Str), nm (texts ws) (row.getD q 0), bitName nx q], [[("1" : Str), ("1" : Str)]]) := ⟨_, rfl⟩
    have hD0 : D 0 = dues ++ outs.flatMap (outDue (texts ws)) := by rw [hD]; simp
    have hDs : ∀ q, D (q + 1) = D q ++ [([(".names" : Str), nm (texts ws) (row.getD q 0), bitName nx q], [[("1" : Str), ("1" : Str)]])] := fun q => by rw [hD]; simp [List.range_succ]
    have hDl : ∀ q, q ≤ 2 → (D q).length ≤ 30 := fun q hq => by rw [hD]; simp only [List.length_append, List.length_map, List.length_range]; allgen_close_more
    obtain ⟨B, hB⟩ : ∃ B : Nat → List Str, B = fun q => bitNames outs ++ (List.range q).map (bitName nx) := ⟨_, rfl⟩
    have hB0 : B 0 = bitNames outs := by rw [hB]; simp
    have hBs : ∀ q, B (q + 1) = B q ++ [bitName nx q] := fun q => by rw [hB]; simp [List.range_succ]
    have hBl : ∀ q, q ≤ 2 → (B q).length ≤ 30 := fun q hq => by rw [hB]; simp only [List.length_append, List.length_map, List.length_range]; allgen_close_more
    refine ⟨fun q S1 => A5 (S1.sto = stoC zs pool ws M cells outs' (D q) (B q)) (Loc1 S1.loc ws M) (S1.has "out_names" (.ref 9)) (S1.has "turn" (.int outs.length)) (S1.has "row" (.lst (row.map .int))), ⟨by rw [hD0, hB0], hl, v1, v2, v3⟩, fun _ _ _ => trivial, ?_, ?_⟩
    · clear hl loc v1 v2 v3
      intro q v loc sto hv2 hJ0
      refine (?_ : let G0 := _; G0); intro G0
      obtain ⟨g1, hl, v1, v2, v3⟩ := hJ0
      obtain rfl : sto = _ := g1
      obtain ⟨hq, rfl⟩ := rng1 hv2
      unfold G0; clear G0
      intro Q0 hT0
      simp at hq
      have hDq := hDl q (by allgen_close_more)
      have hBq := hBl q (by allgen_close_more)
      have hrn := hrow (row.getD q 0) (by rw [List.getD_eq_getElem?_getD, List.getElem?_eq_getElem hq]; exact List.getElem_mem hq)
      have hbl := istr_len (i := q) (by allgen_close_more)
      have l1 : ((("" : Str) ++ "[") ++ istr q).length ≤ 11 := by simp only [Str.length_append]; show 0 + 1 + _ ≤ _; allgen_close_more
      have l2 : (((("" : Str) ++ "[") ++ istr q) ++ "]").length ≤ 12 := by rw [Str.length_append]; show _ + 1 ≤ _; allgen_close_more
      have l3 : (nx ++ (((("" : Str) ++ "[") ++ istr q) ++ "]")).length ≤ 100 := by rw [Str.length_append]; allgen_close_more
      have hv3 := hl.dues
      have hv4 := hl.names
      refine AsW.name ?_ (by exact ⟨rfl, .inl rfl⟩)
      repeat tb_rel
      refine EW.listMeth1 (id := "list.append") ?sa ?sb ?_ ?sd ?se ?sf
      case sa => exact slot_list_append
      case sb => kernel_rfl
      case sd => exact attributeBase_plain rfl _ _
      case se => exact starEach_plain rfl _ _
      case sf => with_unfolding_all rfl
      repeat tb_rel
      refine ⟨9, _, rfl, by rfl, ?_⟩
      repeat tb_rel
      refine Item.str (by allgen_close_more) (by allgen_close_more) (by unfold fitsSsize; simp; allgen_close_more) ?_
      rw [hnx]
      refine EW.fstr ?_
      refine JW.cons ?_
      repeat tb_rel
      refine ⟨_, rfl, by show 1 ≤ _; allgen_close_more, ?_⟩
      refine JW.cons (EW.fmt ?_)
      repeat tb_rel
      refine .inr ⟨_, rfl, log2_nat (Nat.lt_of_lt_of_le (by allgen_close_more : q < 64) (by decide)), _, rfl, Nat.le_trans l1 (by allgen_close_more), ?_⟩
      refine JW.cons ?_
      repeat tb_rel
      refine ⟨_, rfl, Nat.le_trans l2 (by allgen_close_more), ?_⟩
      refine JW.nil (Nat.le_trans l2 (by allgen_close_more)) ?_
      refine Op.addS (Nat.le_trans l3 (by allgen_close_more)) ?_
      rw [show nx ++ (((Str.empty ++ "[") ++ istr q) ++ "]") = bitName nx q from bitName_eq nx q]
      refine Meth.append (vs := (B q).map .str) (by rfl) (by exact hrz _) (by simp; allgen_close_more) ?_
      refine seqN ?_
      refine TW.st (stoC zs pool ws M cells outs' (D q) (B (q + 1))) ?e0 ?_
      case e0 =>
        rw [hBs]
        unfold stoC
        rw [List.map_append]; rfl
      repeat tb_rel
      refine EW.listMeth1 (id := "list.append") ?sa ?sb ?_ ?sd ?se ?sf
      case sa => exact slot_list_append
      case sb => kernel_rfl
      case sd => exact attributeBase_plain rfl _ _
      case se => exact starEach_plain rfl _ _
      case sf => with_unfolding_all rfl
      repeat tb_rel
      refine ⟨8, _, rfl, by rfl, ?_⟩
      refine EW.list ?_
      refine AW.cons ?_
      refine EW.list ?_
      repeat tb_rel
      refine Item.lst (v := .int (row.getD q 0)) (by allgen_close_more) (by allgen_close_more) (by simp [hq, List.getD]) ?_
      refine Item.di (kvs := (nmT (texts ws) (2 + ws.sum + M)).v) (v := .str (nm (texts ws) (row.getD q 0))) (by rfl) (nm_get hrn.1 hrn.2) ?_
      repeat tb_rel
      refine ⟨_, rfl, ?_⟩
      refine Item.last (vs := (B q).map .str) (v := .str (bitName nx q)) (by
        show some (O.lst ((B (q + 1)).map .str)) = _
        rw [hBs, List.map_append]; rfl) (by simp; allgen_close_more) ?_
      repeat tb_rel
      refine ⟨?_, by simp; allgen_close_more⟩
      refine AW.cons ?_
      refine EW.list ?_
      refine AW.cons ?_
      refine EW.list ?_
      repeat tb_rel
      refine ⟨?_, by simp; allgen_close_more⟩
      repeat tb_rel
      refine ⟨?_, by simp; allgen_close_more⟩
      repeat tb_rel
      refine ⟨?_, by simp; allgen_close_more⟩
      refine Meth.append (vs := (D q).map blkV) (by rfl) (by exact hrz _) (by simp; allgen_close_more) ?_
      repeat tb_rel
      refine ⟨?_, by allgen_close2_more, by tb_start, by tb_start, by tb_start⟩
      rw [hDs]
      unfold stoC stoB
      rw [List.map_append]; rfl
    · intro loc sto hJ0
      refine (?_ : let G0 := _; G0); intro G0
      obtain ⟨g1, hl, v1, v2, v3⟩ := hJ0
      unfold G0; clear G0
      refine seqN (XW.nil (turnN hT0 ⟨pool, outs', hpool, by rw [houts']; simp, ?_, ?_, hl, v1⟩))
      · intro i' q' hq'
        rw [houts'] at hq'
        by_cases hlt : i' < outs.length
        · rw [List.getElem?_append_left hlt] at hq'; exact hol i' q' hq'
        · rw [List.getElem?_append_right (by allgen_close_more)] at hq'
          obtain rfl : i' = outs.length := by
            have := (List.getElem?_eq_some_iff.mp hq').1; simp at this; allgen_close_more
          simp at hq'; subst hq'
          exact ⟨hnx.symm, hr1, hr2, hrow⟩
      · show sto = _
        rw [show sto = _ from g1]
        simp only [List.length_map, List.length_range, Int.toNat_natCast]
        rw [hD, hB, houts', List.flatMap_append, bitNames_append, bitNames_one]
        simp [outDue]
  · intro l9 s9
    generalize (St.mk l9 s9) = S1
    rintro ⟨pool, outs, a1, a2, a3, e4, e5, e6⟩
    rw [List.length_map, List.length_range] at a2
    exact ⟨rfl, pool, outs, a1, by allgen_close_more, by allgen_close_more, a3, e4, e5, e6⟩
end

section
open PySem PySem.W PyProof.Rows PySem.Calls
noncomputable def headBlks (T ons : List Str) : List Blk := [([(".model" : Str), "top"], []), ((".inputs" : Str) :: T, []), ((".outputs" : Str) :: ons, []), ([(".names" : Str), "$false"], []), ([(".names" : Str), "$true"], [[("1" : Str)]])]
noncomputable def endBlk : Blk := ([(".end" : Str)], [])
noncomputable def blkOk (b : Blk) : Bool := b.1.all PyData.strOk && b.2.all fun r => r.all PyData.strOk
noncomputable def cellStr (c : Cell) : Bool := PyData.strOk c.kind && match c.par with
  | .own n _ => PyData.strOk n
  | .flop _ n _ => PyData.strOk n
  | _ => true
structure Good (N : Net) (T ons : List Str) (D : List Blk) : Prop where
  ok : NetOkW N
  blk : ∀ b ∈ headBlks T ons ++ D, blkOk b = true
  text : ∃ t, writeBlif N = .ok t ∧ t.length ≤ 700000 ∧ Txt.slice t (some (-6)) none = ("\n.end\n" : Str) ∧ (∀ x, (linesOf t)[0]? = some x → dotted (Txt.split x " ")) ∧ (linesOf t).length ≤ 800000 ∧ (∀ b ∈ rawBlocks (linesOf t), b.2.length < 64) ∧ blocks t = headBlks T ons ++ D ++ [endBlk]
  pin : ∀ p ∈ N.ins ++ N.outs, PyData.strOk p.1 = true
  pcl : ∀ c ∈ N.cells, cellStr c = true

noncomputable def blkD (b : Blk) : Dat := .list [.list (b.1.map .str), .list (b.2.map fun r => .list (r.map .str))]
theorem DatsOf.map {σ : Sto} {α : Type} {f : α → V} {g : α → Dat} (h : ∀ a, DatOf σ (f a) (g a)) : ∀ l : List α, DatsOf σ (l.map f) (l.map g)
  | [] => .nil
  | a :: l => .cons (h a) (DatsOf.map h l)
theorem DatOf.row {σ : Sto} (r : List Str) : DatOf σ (rowV r) (.list (r.map .str)) := .lst (DatsOf.strs r)
theorem DatOf.blk {σ : Sto} (b : Blk) : DatOf σ (blkV b) (blkD b) := .lst (.cons (.row b.1) (.cons (.lst (DatsOf.map DatOf.row b.2)) .nil))
theorem kqd_all {n : Nat} {l : List Dat} (h : ∀ d ∈ l, kqdOk n d = true) : kqdOk (n + 1) (.list l) = true := by
  show l.all (kqdOk n) = true
  exact List.all_eq_true.mpr h
theorem kqd_allT {n : Nat} {l : List Dat} (h : ∀ d ∈ l, kqdOk n d = true) : kqdOk (n + 1) (.tuple l) = true := by
  show l.all (kqdOk n) = true
  exact List.all_eq_true.mpr h
theorem kqd_row {n : Nat} {r : List Str} (h : r.all PyData.strOk = true) : kqdOk (n + 1) (.list (r.map .str)) = true := kqd_strs (List.all_eq_true.mp h)
theorem kqd_blk {n : Nat} {b : Blk} (h : blkOk b = true) : kqdOk (n + 3) (blkD b) = true := by
  simp only [blkOk, Bool.and_eq_true] at h
  refine kqd_all fun d hd => ?_
  simp only [List.mem_cons, List.not_mem_nil, or_false] at hd
  rcases hd with rfl | rfl
  · exact kqd_row (n := n + 1) h.1
  · refine kqd_all fun d hd => ?_
    obtain ⟨r, hr, rfl⟩ := List.mem_map.mp hd
    exact kqd_row (List.all_eq_true.mp h.2 r hr)
noncomputable def portD (p : Port) : Dat := .tuple [.str p.1, .list (p.2.map .int)]
theorem DatsOf.ints {σ : Sto} : ∀ l : List Int, DatsOf σ (l.map .int) (l.map .int)
  | [] => .nil
  | a :: l => .cons (.int a) (DatsOf.ints l)
theorem DatOf.port {σ : Sto} (p : Port) : DatOf σ p.v (portD p) := .tup (.cons (.str _) (.cons (.lst (DatsOf.ints _)) .nil))
noncomputable def parD : Par → Dat
  | .none => .none
  | .num n => .int n
  | .own nm n => .tuple [.str nm, .int n]
  | .flop e nm i => .tuple [.int e, .str nm, .int i]
theorem DatOf.par {σ : Sto} : ∀ p : Par, DatOf σ p.v (parD p)
  | .none => .none
  | .num n => .int n
  | .own nm n => .tup (.cons (.str _) (.cons (.int _) .nil))
  | .flop e nm i => .tup (.cons (.int _) (.cons (.str _) (.cons (.int _) .nil)))
noncomputable def cellD (c : Cell) : Dat := .tuple [.str c.kind, .int c.out, .tuple (c.ins.map .int), parD c.par]
theorem DatOf.cell {σ : Sto} (c : Cell) : DatOf σ c.v (cellD c) := .tup (.cons (.str _) (.cons (.int _) (.cons (.tup (DatsOf.ints _)) (.cons (.par _) .nil))))
theorem kqd_int {n : Nat} {i : Int} : kqdOk n (.int i) = true := by cases n <;> rfl
theorem kqd_none {n : Nat} : kqdOk n .none = true := by cases n <;> rfl
theorem kqd_port {n : Nat} {p : Port} (h : PyData.strOk p.1 = true) : kqdOk (n + 2) (portD p) = true := by
  refine kqd_allT fun d hd => ?_
  simp only [List.mem_cons, List.not_mem_nil, or_false] at hd
  rcases hd with rfl | rfl
  · rw [kqdOk_str]; exact h
  · refine kqd_all fun d hd => ?_
    obtain ⟨r, hr, rfl⟩ := List.mem_map.mp hd
    exact kqd_int
theorem kqd_cell {n : Nat} {c : Cell} (h : cellStr c = true) : kqdOk (n + 2) (cellD c) = true := by
  simp only [cellStr, Bool.and_eq_true] at h
  refine kqd_allT fun d hd => ?_
  simp only [List.mem_cons, List.not_mem_nil, or_false] at hd
  rcases hd with rfl | rfl | rfl | rfl
  · rw [kqdOk_str]; exact h.1
  · exact kqd_int
  · refine kqd_allT fun d hd => ?_
    obtain ⟨r, hr, rfl⟩ := List.mem_map.mp hd
    exact kqd_int
  · have h2 := h.2
    cases hp : c.par with
    | none => exact kqd_none
    | num n => exact kqd_int
    | own nm k =>
      rw [hp] at h2
      refine kqd_allT fun d hd => ?_
      simp only [List.mem_cons, List.not_mem_nil, or_false] at hd
      rcases hd with rfl | rfl
      · rw [kqdOk_str]; exact h2
      · exact kqd_int
    | flop e nm k =>
      rw [hp] at h2
      refine kqd_allT fun d hd => ?_
      simp only [List.mem_cons, List.not_mem_nil, or_false] at hd
      rcases hd with rfl | rfl | rfl
      · exact kqd_int
      · rw [kqdOk_str]; exact h2
      · exact kqd_int
end

section
open PySem PySem.W PyProof.Rows PySem.Calls
theorem law_5 {c : Cx} {k : Nat} (ok : Ok c (k + 100)) {fd : FuncData} {sts : List Stmt} (h : IsLaw c.w.params fd sts) {L : Addr} (hc : c.env = callEnvC fd L 257) {zs pool : List Int} {ws : List Nat} {M : Nat} {cells : List Cell} {outs : List Port} {D : List Blk} {ons : List Str} (hG : Good (netW ws M cells outs) (texts ws) ons D) (hdl : D.length ≤ 100) (hil : (texts ws).length ≤ 100) (honl : ons.length ≤ 100) {loc : List (Str × V)} {P : Fl → St → Prop} {sto : Sto} (hsto : sto = stoC zs pool ws M cells outs D ons) (hl : Loc1 loc ws M) (v1 : loc.lookup ("out_names" : Str) = some (.ref 9))
    (p : ∀ (loc : List (Str × V)), Loc1 loc ws M → XW c ⟨loc, sto⟩ (sts.drop 19) P) : XW c ⟨loc, sto⟩ (sts.drop 13) P := by
  have hsl : (1000000 : Nat) ≤ sizeLine := by rw [sizeLine_eq]; decide
  obtain ⟨oc, od, sl, e1, e2⟩ := h
  have e : (KF c.w.params).lookup 257 = some ⟨_, _, .func _, _⟩ := rfl
  rw [e] at e1
  cases e1
  cases e2
  obtain ⟨c0, hcc⟩ := lawC_of hc
  subst hcc
  simp only [List.drop_succ_cons, List.drop_zero] at p ⊢
  obtain ⟨hGok, hGb, ⟨text, t1, t2, t3, t4, t5, t6, t7⟩, hGp, hGc⟩ := hG
  have s7 : sto[7]? = some (.lst ((texts ws).map .str)) := by rw [hsto]; rfl
  have s9 : sto[9]? = some (.lst (ons.map .str)) := by rw [hsto]; rfl
  have s8 : sto[8]? = some (.lst (D.map blkV)) := by rw [hsto]; rfl
  have s2 : sto[2]? = some (NetO (netW ws M cells outs) 3 4 5) := by rw [hsto]; rfl
  have s3 : sto[3]? = some (.lst ((insOf ws).map Port.v)) := by rw [hsto]; rfl
  have s4 : sto[4]? = some (.lst (outs.map Port.v)) := by rw [hsto]; rfl
  have s5 : sto[5]? = some (.lst (cells.map Cell.v)) := by rw [hsto]; rfl
  have hN : NetAt sto 2 3 4 5 (netW ws M cells outs) := ⟨s2, s3, s4, s5⟩
  have hso : StoOk sto := by rw [hsto]; exact stoC_ok0
  clear hsto
  have hw1 := hl.inn
  have hins : (insOf ws).length ≤ 20 := hGok.ins.1
  have houts : outs.length ≤ 20 := hGok.outs.1
  have hcells : cells.length ≤ 20 := hGok.many
  with_reducible refine XW.mid (fun S1 => A3 (S1.sto = sto) (Loc1 S1.loc ws M) (S1.has "head" (.lst (((headBlks (texts ws) ons).take 3).map blkV)))) ?_ ?_
  · top_caught0
    repeat tb_rel
    refine EW.list ?_
    refine AW.cons ?_
    refine EW.list ?_
    refine AW.cons ?_
    refine EW.list ?_
    repeat tb_rel
    refine ⟨?_, by simp; allgen_close_more⟩
    repeat tb_rel
    refine EW.list ?_
    repeat tb_rel
    refine ⟨?_, by simp⟩
    repeat tb_rel
    refine ⟨?_, by simp; allgen_close_more⟩
    refine AW.cons ?_
    refine EW.list ?_
    repeat tb_rel
    refine EW.list ?_
    repeat tb_rel
    refine ⟨?_, by simp; allgen_close_more⟩
    repeat tb_rel
    refine Op.addL .l (.r (by exact s7)) (by simp; allgen_close_more) ?_
    repeat tb_rel
    refine EW.list ?_
    repeat tb_rel
    refine ⟨?_, by simp⟩
    repeat tb_rel
    refine ⟨?_, by simp; allgen_close_more⟩
    refine AW.cons ?_
    refine EW.list ?_
    repeat tb_rel
    refine EW.list ?_
    repeat tb_rel
    refine ⟨?_, by simp; allgen_close_more⟩
    repeat tb_rel
    refine Op.addL .l (.r (by exact s9)) (by simp; allgen_close_more) ?_
    repeat tb_rel
    refine EW.list ?_
    repeat tb_rel
    refine ⟨?_, by simp⟩
    repeat tb_rel
    refine ⟨?_, by simp; allgen_close_more⟩
    repeat tb_rel
    refine ⟨?_, by simp; allgen_close_more⟩
    exact ⟨rfl, rfl, by allgen_close2_more, look_here⟩
  clear hl hw1 v1 loc
  intro loc sto' hJ0
  refine (?_ : let G0 := _; G0); intro G0
  obtain ⟨g1, hl, v1⟩ := hJ0
  obtain rfl : sto' = sto := g1
  unfold G0; clear G0
  with_reducible refine XW.mid (fun S1 => A3 (S1.sto = sto') (Loc1 S1.loc ws M) (S1.has "head" (.lst ((headBlks (texts ws) ons).map blkV)))) ?_ ?_
  · top_caught0
    repeat tb_rel
    refine EW.list ?_
    refine AW.cons ?_
    refine EW.list ?_
    refine AW.cons ?_
    refine EW.list ?_
    repeat tb_rel
    refine ⟨?_, by simp; allgen_close_more⟩
    repeat tb_rel
    refine EW.list ?_
    repeat tb_rel
    refine ⟨?_, by simp⟩
    repeat tb_rel
    refine ⟨?_, by simp; allgen_close_more⟩
    refine AW.cons ?_
    refine EW.list ?_
    refine AW.cons ?_
    refine EW.list ?_
    repeat tb_rel
    refine ⟨?_, by simp; allgen_close_more⟩
    refine AW.cons ?_
    refine EW.list ?_
    refine AW.cons ?_
    refine EW.list ?_
    repeat tb_rel
    refine ⟨?_, by simp; allgen_close_more⟩
    repeat tb_rel
    refine ⟨?_, by simp; allgen_close_more⟩
    repeat tb_rel
    refine ⟨?_, by simp; allgen_close_more⟩
    repeat tb_rel
    refine ⟨?_, by simp; allgen_close_more⟩
    refine Op.addL .l .l (by simp [headBlks]; allgen_close_more) ?_
    exact ⟨rfl, rfl, by allgen_close2_more, look_here⟩
  clear hl v1 loc
  intro loc sto hJ0
  refine (?_ : let G0 := _; G0); intro G0
  obtain ⟨g1, hl, v1⟩ := hJ0
  obtain rfl : sto = sto' := g1
  unfold G0; clear G0
  have hw2 := hl.net
  have hw3 := hl.dues
  with_reducible refine XW.mid (fun S1 => A4 (S1.sto = sto) (Loc1 S1.loc ws M) (S1.has "head" (.lst ((headBlks (texts ws) ons).map blkV))) (S1.has "before" (.tup [.int ((2 + ws.sum + M : Nat) : Int), .lst ((insOf ws).map Port.v), .lst (outs.map Port.v), .lst (cells.map Cell.v)]))) ?_ ?_
  · top_caught0
    repeat tb_rel
    refine EW.tuple ?_
    refine AW.cons ?_
    refine EW.attr ok.W ?_
    repeat tb_rel
    refine ⟨2, 139, _, .int ((2 + ws.sum + M : Nat) : Int), rfl, by exact s2, by rfl, by kernel_rfl, ?_⟩
    repeat tb_rel
    refine EW.callType (T := "list") ok.W ⟨rfl, rfl, rfl⟩ (by kernel_rfl) (by kernel_rfl) ?_
    refine AW.cons ?_
    refine EW.attr ok.W ?_
    repeat tb_rel
    refine ⟨2, 139, _, .ref 3, rfl, by exact s2, by rfl, by kernel_rfl, ?_⟩
    repeat tb_rel
    refine ListC.seq (.r (by exact s3)) (by simp; allgen_close_more) ?_
    repeat tb_rel
    refine EW.callType (T := "list") ok.W ⟨rfl, rfl, rfl⟩ (by kernel_rfl) (by kernel_rfl) ?_
    refine AW.cons ?_
    refine EW.attr ok.W ?_
    repeat tb_rel
    refine ⟨2, 139, _, .ref 4, rfl, by exact s2, by rfl, by kernel_rfl, ?_⟩
    repeat tb_rel
    refine ListC.seq (.r (by exact s4)) (by simp; allgen_close_more) ?_
    repeat tb_rel
    refine EW.callType (T := "list") ok.W ⟨rfl, rfl, rfl⟩ (by kernel_rfl) (by kernel_rfl) ?_
    refine AW.cons ?_
    refine EW.attr ok.W ?_
    repeat tb_rel
    refine ⟨2, 139, _, .ref 5, rfl, by exact s2, by rfl, by kernel_rfl, ?_⟩
    repeat tb_rel
    refine ListC.seq (.r (by exact s5)) (by simp; allgen_close_more) ?_
    repeat tb_rel
    refine ⟨?_, by simp; allgen_close_more⟩
    exact ⟨rfl, rfl, by allgen_close2_more, by tb_start, look_here⟩
  clear hl v1 hw2 hw3 loc
  intro loc sto' hJ0
  refine (?_ : let G0 := _; G0); intro G0
  obtain ⟨g1, hl, v1, v2⟩ := hJ0
  obtain rfl : sto' = sto := g1
  unfold G0; clear G0
  have hw2 := hl.net
  with_reducible refine XW.mid (fun S1 => A5 (S1.sto = sto') (Loc1 S1.loc ws M) (S1.has "head" (.lst ((headBlks (texts ws) ons).map blkV))) (S1.has "before" (.tup [.int ((2 + ws.sum + M : Nat) : Int), .lst ((insOf ws).map Port.v), .lst (outs.map Port.v), .lst (cells.map Cell.v)])) (S1.has "text" (.str text))) ?_ ?_
  · top_caught0
    repeat tb_rel
    refine EW.callDef (f := 218) ok.W ⟨rfl, rfl, rfl⟩ (by kernel_rfl) (by kernel_rfl) ?_
    repeat tb_rel
    refine f_write_blif (k := k + 10) (N := netW ws M cells outs) (by first | exact ok.less' | exact ok.less (by allgen_close_more)) (by exact hN) hGok (by rintro e s' ⟨k, d, hh, _⟩; rw [t1] at hh; cases hh) ?_ (by exact hso)
    intro t ht
    rw [t1] at ht
    cases ht
    exact ⟨rfl, rfl, by allgen_close2_more, by tb_start, by tb_start, look_here⟩
  clear hl v1 v2 hw2 loc
  intro loc sto hJ0
  refine (?_ : let G0 := _; G0); intro G0
  obtain ⟨g1, hl, v1, v2, v3⟩ := hJ0
  obtain rfl : sto = sto' := g1
  unfold G0; clear G0
  have hw3 := hl.dues
  have hw2 := hl.net
  have hu : c0.A.units + 10 * (k + 100) < cLine := ok.u
  refine XW.cons ?_
  refine SW.if ?_
  refine BW.or ?_
  refine BW.cmp ?_
  refine EW.sliceLo ?_
  repeat tb_rel
  refine ⟨_, rfl, ?_⟩
  refine ⟨_, rfl, .inr ⟨text, rfl, by allgen_close_more, ?_⟩⟩
  repeat tb_rel
  refine Op.neS ?_
  refine ⟨_, rfl, fun hk => ?_, fun hk => ?_⟩
  · rw [t3] at hk; simp at hk
  repeat tb_rel
  refine EW.callDef (f := 245) ok.W ⟨rfl, rfl, rfl⟩ (by kernel_rfl) (by kernel_rfl) ?_
  repeat tb_rel
  refine f_law_blocks (k := k + 10) (by first | exact ok.less' | exact ok.less (by allgen_close_more)) t2 t4 t5 t6 ?_ (by exact hso)
  repeat tb_rel
  refine Op.addL .l (.r (by exact s8)) (by simp [headBlks]; allgen_close_more) ?_
  refine EW.list ?_
  refine AW.cons ?_
  refine EW.list ?_
  refine AW.cons ?_
  refine EW.list ?_
  repeat tb_rel
  refine ⟨?_, by simp; allgen_close_more⟩
  repeat tb_rel
  refine EW.list ?_
  repeat tb_rel
  refine ⟨?_, by simp⟩
  repeat tb_rel
  refine ⟨?_, by simp; allgen_close_more⟩
  repeat tb_rel
  refine ⟨?_, by simp; allgen_close_more⟩
  refine Op.addL .l .l (by simp [headBlks]; allgen_close_more) ?_
  have hdat : DatOf sto (.lst ((blocks text).map blkV)) (.list ((blocks text).map blkD)) := .lst (DatsOf.map DatOf.blk _)
  have hdat2 : DatOf sto (.lst ((headBlks (texts ws) ons).map blkV ++ D.map blkV ++ [.lst [.lst [.str ".end"], .lst []]])) (.list ((blocks text).map blkD)) := by
    rw [t7, show (headBlks (texts ws) ons).map blkV ++ D.map blkV ++ [V.lst [.lst [.str ".end"], .lst []]] = (headBlks (texts ws) ons ++ D ++ [endBlk]).map blkV from by rw [List.map_append, List.map_append]; rfl]
    exact .lst (DatsOf.map DatOf.blk _)
  have hkq : kqdOk 9 (.list ((blocks text).map blkD)) = true := by
    refine kqd_all fun d hd => ?_
    obtain ⟨b, hb, rfl⟩ := List.mem_map.mp hd
    refine kqd_blk (n := 5) ?_
    rw [t7] at hb
    rcases List.mem_append.mp hb with hb | hb
    · exact hGb b hb
    · simp at hb; subst hb; decide +kernel
  refine Op.neD (by exact hdat) (by exact hdat2) hkq hkq (by show c0.A.units + 64 < _; allgen_close_more) ?_
  refine ⟨_, rfl, fun hk => ?_, fun hk => ?_⟩
  · simp at hk
  repeat tb_rel
  refine brF rfl ?_
  repeat tb_rel
  refine EW.tuple ?_
  refine AW.cons ?_
  refine EW.attr ok.W ?_
  repeat tb_rel
  refine ⟨2, 139, _, .int ((2 + ws.sum + M : Nat) : Int), rfl, by exact s2, by rfl, by kernel_rfl, ?_⟩
  refine AW.cons ?_
  refine EW.attr ok.W ?_
  repeat tb_rel
  refine ⟨2, 139, _, .ref 3, rfl, by exact s2, by rfl, by kernel_rfl, ?_⟩
  refine AW.cons ?_
  refine EW.attr ok.W ?_
  repeat tb_rel
  refine ⟨2, 139, _, .ref 4, rfl, by exact s2, by rfl, by kernel_rfl, ?_⟩
  refine AW.cons ?_
  refine EW.attr ok.W ?_
  repeat tb_rel
  refine ⟨2, 139, _, .ref 5, rfl, by exact s2, by rfl, by kernel_rfl, ?_⟩
  repeat tb_rel
  refine ⟨?_, by simp; allgen_close_more⟩
  repeat tb_rel
  obtain ⟨Dt, hDt⟩ : ∃ Dt : Dat, Dt = .tuple [.int ((2 + ws.sum + M : Nat) : Int), .list ((insOf ws).map portD), .list (outs.map portD), .list (cells.map cellD)] := ⟨_, rfl⟩
  have hq1 : kqdOk 9 Dt = true := by
    rw [hDt]
    refine kqd_allT fun d hd => ?_
    simp only [List.mem_cons, List.not_mem_nil, or_false] at hd
    rcases hd with rfl | rfl | rfl | rfl
    · exact kqd_int
    · refine kqd_all fun d hd => ?_
      obtain ⟨b, hb, rfl⟩ := List.mem_map.mp hd
      exact kqd_port (n := 5) (hGp b (List.mem_append_left _ hb))
    · refine kqd_all fun d hd => ?_
      obtain ⟨b, hb, rfl⟩ := List.mem_map.mp hd
      exact kqd_port (n := 5) (hGp b (List.mem_append_right _ hb))
    · refine kqd_all fun d hd => ?_
      obtain ⟨b, hb, rfl⟩ := List.mem_map.mp hd
      exact kqd_cell (n := 5) (hGc b hb)
  refine Op.neD (d := Dt) (e := Dt) (by rw [hDt]; exact .tup (.cons (.int _) (.cons (.ref s3 (DatsOf.map DatOf.port _)) (.cons (.ref s4 (DatsOf.map DatOf.port _)) (.cons (.ref s5 (DatsOf.map DatOf.cell _)) .nil))))) (by rw [hDt]; exact .tup (.cons (.int _) (.cons (.lst (DatsOf.map DatOf.port _)) (.cons (.lst (DatsOf.map DatOf.port _)) (.cons (.lst (DatsOf.map DatOf.cell _)) .nil))))) hq1 hq1 (by show c0.A.units + 64 < _; allgen_close_more) ?_
  refine ⟨_, rfl, fun hk => ?_, fun hk => ?_⟩
  · simp at hk
  iterate 2 tb_rel
  with_reducible exact p loc hl
end

section
open PySem PySem.W PyProof.Rows PySem.Calls
structure Bad (N : Net) (kd d : Str) : Prop where
  ok : NetOkW N
  err : writeBlif N = .error (kd, d)
  k : PyData.strOk kd = true
  d : PyData.strOk d = true
noncomputable abbrev Net.plus (N : Net) (cell : Cell) : Net := { N with count := N.count + 1, cells := N.cells ++ [cell] }
noncomputable abbrev Net.plusIn (N : Net) (p : Port) : Net := { N with ins := N.ins ++ [p] }

theorem refuse {c : Cx} {S : St} {k : Nat} (ok : Ok c (k + 100)) (hst : c.g.stack = [c.env]) (hfrm : c.env.frame = some c.env.locals) {N : Net} {kd d : Str} (hB : Bad N kd d) (hN : NetAt S.sto 2 3 4 5 N) (hp : StoOk S.sto) {P : V → St → Prop} (p : P (.bool true) S) : CW c S (.ref 252) [.ref 2, .tup [.str kd, .str d]] P :=
  f_law_refused (k := k + 20) (ok.less (by allgen_close_more)) hst hfrm hN hB.ok hp hB.err hB.k hB.d p

theorem law_6a {c : Cx} {k : Nat} (ok : Ok c (k + 100)) {fd : FuncData} {sts : List Stmt} (h : IsLaw c.w.params fd sts) {L : Addr} (hc : c.env = callEnvC fd L 257) (hst : c.g.stack = [c.env]) {ws : List Nat} (hws : WsOk ws) {M : Nat} (hM7 : M ≤ 7) {N : Net} (hNc : N.count = 2 + ws.sum + M) (hcl : N.cells.length ≤ 7) {sort which : Int} (hs : 0 ≤ sort ∧ sort < 10) (hw : 0 ≤ which ∧ which < 3) (hro : c.g.ro = 0) {loc : List (Str × V)} {sto : Sto} (hN : NetAt sto 2 3 4 5 N) (hso : StoOk sto) (hl : Loc1 loc ws M) (v1 : loc.lookup ("sort" : Str) = some (.int sort)) (v2 : loc.lookup ("which" : Str) = some (.int which))
    (b0 : ∀ i : Int, Bad (N.plus ⟨"latch", N.count, [0, ((2 + ws.sum : Nat) : Int), 0, 0], .own "held" i⟩) "not_in_blif" "held")
    (b1 : ∀ x y : Int, (x, y) ∈ [((0 : Int), (2 : Int)), (1, 0), (((2 + ws.sum : Nat) : Int), 1)] → Bad (N.plus ⟨"flop", N.count, [2, 2, x, y], .flop 1 "held" 0⟩) "not_in_blif" "held")
    (b2 : ∀ n : Nat, 9 ≤ n → n ≤ 11 → Bad (N.plus ⟨"lut", N.count, List.replicate n 2, .num 1⟩) "too_many_inputs" (istr N.count))
    {P : Fl → St → Prop} (pT : ∀ S', P (.ret (.bool true)) S')
    (p : sort ≠ 0 → sort ≠ 1 → sort ≠ 2 → XW c ⟨loc, sto⟩ (sts.drop 24) P) : XW c ⟨loc, sto⟩ (sts.drop 21) P := by
  have hsl : (1000000 : Nat) ≤ sizeLine := by rw [sizeLine_eq]; decide
  obtain ⟨oc, od, sl, e1, e2⟩ := h
  have e : (KF c.w.params).lookup 257 = some ⟨_, _, .func _, _⟩ := rfl
  rw [e] at e1
  cases e1
  cases e2
  obtain ⟨c0, hcc⟩ := lawC_of hc
  subst hcc
  simp only [List.drop_succ_cons, List.drop_zero] at p ⊢
  have hrz : ∀ n, c0.g.ro ≤ n := fun n => by rw [show c0.g.ro = 0 from hro]; exact Nat.zero_le n
  have hv1 := hl.net
  have hv2 := hl.first
  have hsum := hws.sum
  have hwl := hws.1
  have hlts := hN.lts
  have hjlt := (List.getElem?_eq_some_iff.mp hN.obj).1
  -- after add_cell
  have hNP : ∀ cell : Cell, NetAt ((sto.set 2 (NetO (N.bump 1) 3 4 5)).set 5 (.lst ((N.addCell cell).cells.map Cell.v))) 2 3 4 5 (N.plus cell) := fun cell => by
    refine ⟨?_, ?_, ?_, ?_⟩
    · rw [List.getElem?_set_ne (by decide), List.getElem?_set_self hjlt]
    · rw [List.getElem?_set_ne (by decide), List.getElem?_set_ne (by decide)]; exact hN.i
    · rw [List.getElem?_set_ne (by decide), List.getElem?_set_ne (by decide)]; exact hN.o
    · rw [List.getElem?_set_self (by rw [List.length_set]; exact hlts.2.2)]
  have hNS : ∀ cell : Cell, StoOk ((sto.set 2 (NetO (N.bump 1) 3 4 5)).set 5 (.lst ((N.addCell cell).cells.map Cell.v))) := fun cell => (hso.set (NetO.bel hlts.1 hlts.2.1 hlts.2.2)).set (by rw [List.length_set]; exact belL_cells _)
  repeat tb_rel
  refine ⟨_, rfl, ?_⟩
  by_cases h0 : sort = 0
  · refine brT (by first | exact decide_eq_true h0 | simp [h0]) ?_
    repeat tb_rel
    refine EW.method 114 ok.W ?_ _ (by with_unfolding_all rfl) (by exact .inr ⟨_, _, rfl, by exact starEach_plain rfl _ _, by with_unfolding_all rfl⟩)
    repeat tb_rel
    refine ⟨2, 139, _, rfl, by exact hN.obj, by rfl, by kernel_rfl, ?_⟩
    repeat tb_rel
    refine EW.tuple ?_
    repeat tb_rel
    refine ⟨?_, by simp; allgen_close_more⟩
    refine AW.cons ?_
    refine EW.tuple ?_
    repeat tb_rel
    refine Op.mod (by decide) ?_
    repeat tb_rel
    refine ⟨?_, by simp; allgen_close_more⟩
    repeat tb_rel
    refine f_add_cell (k := k + 10) (N := N) (ji := 3) (jo := 4) (jc := 5) (a := .tup (([0, ((2 + ws.sum : Nat) : Int), 0, 0] : List Int).map .int)) (kind := "latch") (ins := [0, ((2 + ws.sum : Nat) : Int), 0, 0]) (par := .own "held" (which % 2)) (by first | exact ok.less' | exact ok.less (by allgen_close_more)) (by exact hN) (.inr rfl) (by decide) (by exact hrz _) (by exact hrz _) (by simp) (by allgen_close_more) ?_ (by exact hso) _ (.inl rfl)
    repeat tb_rel
    refine EW.callDef (f := 252) ok.W ⟨rfl, rfl, rfl⟩ (by kernel_rfl) (by kernel_rfl) ?_
    repeat tb_rel
    refine EW.tuple ?_
    repeat tb_rel
    refine ⟨?_, by simp; allgen_close_more⟩
    repeat tb_rel
    refine refuse (k := k) (by exact ok) (by exact hst) rfl (b0 (which % 2)) (by exact hNP _) (by exact hNS _) ?_
    repeat tb_rel
    exact pT _
  refine brF (by first | exact decide_eq_false h0 | simp [h0]) ?_
  repeat tb_rel
  refine ⟨_, rfl, ?_⟩
  by_cases h1 : sort = 1
  · refine brT (by first | exact decide_eq_true h1 | simp [h1]) ?_
    obtain ⟨x, y, hx, hy, hxy⟩ : ∃ x y : Int, (([0, 1, ((2 + ws.sum : Nat) : Int)] : List Int).map V.int)[which.toNat]? = some (.int x) ∧ (([2, 0, 1] : List Int).map V.int)[which.toNat]? = some (.int y) ∧ (x, y) ∈ [((0 : Int), (2 : Int)), (1, 0), (((2 + ws.sum : Nat) : Int), 1)] := by
      obtain rfl | rfl | rfl : which = 0 ∨ which = 1 ∨ which = 2 := by allgen_close_more
      · exact ⟨_, _, rfl, rfl, by simp⟩
      · exact ⟨_, _, rfl, rfl, by simp⟩
      · exact ⟨_, _, rfl, rfl, by simp⟩
    repeat tb_rel
    refine EW.method 114 ok.W ?_ _ (by with_unfolding_all rfl) (by exact .inr ⟨_, _, rfl, by exact starEach_plain rfl _ _, by with_unfolding_all rfl⟩)
    repeat tb_rel
    refine ⟨2, 139, _, rfl, by exact hN.obj, by rfl, by kernel_rfl, ?_⟩
    repeat tb_rel
    refine EW.tuple ?_
    repeat tb_rel
    refine EW.list ?_
    repeat tb_rel
    refine ⟨?_, by simp; allgen_close_more⟩
    repeat tb_rel
    refine Item.lst (v := .int x) (by allgen_close_more) (by allgen_close_more) (by exact hx) ?_
    refine AW.cons ?_
    refine EW.item ?_
    refine EW.list ?_
    repeat tb_rel
    refine ⟨?_, by simp; allgen_close_more⟩
    repeat tb_rel
    refine Item.lst (v := .int y) (by allgen_close_more) (by allgen_close_more) (by exact hy) ?_
    repeat tb_rel
    refine ⟨?_, by simp; allgen_close_more⟩
    refine AW.cons ?_
    refine EW.tuple ?_
    repeat tb_rel
    refine ⟨?_, by simp; allgen_close_more⟩
    repeat tb_rel
    refine f_add_cell (k := k + 10) (N := N) (ji := 3) (jo := 4) (jc := 5) (a := .tup (([2, 2, x, y] : List Int).map .int)) (kind := "flop") (ins := [2, 2, x, y]) (par := .flop 1 "held" 0) (by first | exact ok.less' | exact ok.less (by allgen_close_more)) (by exact hN) (.inr rfl) (by decide) (by exact hrz _) (by exact hrz _) (by simp) (by allgen_close_more) ?_ (by exact hso) _ (.inl rfl)
    repeat tb_rel
    refine EW.callDef (f := 252) ok.W ⟨rfl, rfl, rfl⟩ (by kernel_rfl) (by kernel_rfl) ?_
    repeat tb_rel
    refine EW.tuple ?_
    repeat tb_rel
    refine ⟨?_, by simp; allgen_close_more⟩
    repeat tb_rel
    refine refuse (k := k) (by exact ok) (by exact hst) rfl (b1 x y hxy) (by exact hNP _) (by exact hNS _) ?_
    repeat tb_rel
    exact pT _
  refine brF (by first | exact decide_eq_false h1 | simp [h1]) ?_
  repeat tb_rel
  refine ⟨_, rfl, ?_⟩
  by_cases h2 : sort = 2
  · refine brT (by first | exact decide_eq_true h2 | simp [h2]) ?_
    obtain ⟨n, hn⟩ : ∃ n : Nat, 9 + which = (n : Int) := ⟨(9 + which).toNat, by allgen_close_more⟩
    repeat tb_rel
    refine EW.method 114 ok.W ?_ _ (by with_unfolding_all rfl) (by exact .inr ⟨_, _, rfl, by exact starEach_plain rfl _ _, by with_unfolding_all rfl⟩)
    repeat tb_rel
    refine ⟨2, 139, _, rfl, by exact hN.obj, by rfl, by kernel_rfl, ?_⟩
    repeat tb_rel
    refine EW.list ?_
    repeat tb_rel
    refine ⟨?_, by simp; allgen_close_more⟩
    repeat tb_rel
    rw [hn]
    refine Op.mulL .l (by allgen_close_more) (by allgen_close_more) (by simp; allgen_close_more) ?_
    rw [show (List.replicate ((n : Nat) : Int).toNat [V.int 2]).flatten = (List.replicate n (2 : Int)).map V.int from by
      rw [Int.toNat_natCast]
      clear hn
      induction n with
      | zero => rfl
      | succ n ih => rw [List.replicate_succ, List.replicate_succ, List.flatten_cons, ih]; rfl]
    repeat tb_rel
    refine f_add_cell (k := k + 10) (N := N) (ji := 3) (jo := 4) (jc := 5) (a := .lst ((List.replicate n (2 : Int)).map .int)) (kind := "lut") (ins := List.replicate n 2) (par := .num 1) (by first | exact ok.less' | exact ok.less (by allgen_close_more)) (by exact hN) (.inl rfl) (by decide) (by exact hrz _) (by exact hrz _) (by simp; allgen_close_more) (by allgen_close_more) ?_ (by exact hso) _ (.inl rfl)
    repeat tb_rel
    refine EW.callDef (f := 252) ok.W ⟨rfl, rfl, rfl⟩ (by kernel_rfl) (by kernel_rfl) ?_
    repeat tb_rel
    refine EW.tuple ?_
    repeat tb_rel
    refine EW.fstr1 (EW.fmt ?_)
    repeat tb_rel
    refine .inr ⟨_, rfl, netOk_small (by allgen_close_more) (by allgen_close_more), ?_⟩
    repeat tb_rel
    refine ⟨?_, by simp; allgen_close_more⟩
    repeat tb_rel
    refine refuse (k := k) (by exact ok) (by exact hst) rfl (b2 n (by allgen_close_more) (by allgen_close_more)) (by exact hNP _) (by exact hNS _) ?_
    repeat tb_rel
    exact pT _
  refine brF (by first | exact decide_eq_false h2 | simp [h2]) ?_
  iterate 2 tb_rel
  with_reducible exact p h0 h1 h2
end

section
open PySem PySem.W PyProof.Rows PySem.Calls
section
variable {sto : Sto} {N : Net}
theorem NetAt.put1 (h : NetAt sto 2 3 4 5 N) (o : O) : NetAt (sto.set 1 o) 2 3 4 5 N :=
  ⟨by rw [List.getElem?_set_ne (by decide)]; exact h.obj, by rw [List.getElem?_set_ne (by decide)]; exact h.i, by rw [List.getElem?_set_ne (by decide)]; exact h.o, by rw [List.getElem?_set_ne (by decide)]; exact h.c⟩
theorem NetAt.addCell (hN : NetAt sto 2 3 4 5 N) (cell : Cell) : NetAt ((sto.set 2 (NetO (N.bump 1) 3 4 5)).set 5 (.lst ((N.addCell cell).cells.map Cell.v))) 2 3 4 5 (N.plus cell) := by
  refine ⟨?_, ?_, ?_, ?_⟩
  · rw [List.getElem?_set_ne (by decide), List.getElem?_set_self (List.getElem?_eq_some_iff.mp hN.obj).1]
  · rw [List.getElem?_set_ne (by decide), List.getElem?_set_ne (by decide)]; exact hN.i
  · rw [List.getElem?_set_ne (by decide), List.getElem?_set_ne (by decide)]; exact hN.o
  · rw [List.getElem?_set_self (by rw [List.length_set]; exact hN.lts.2.2)]
theorem NetAt.addIn (hN : NetAt sto 2 3 4 5 N) (x : Str) (w : Nat) : NetAt ((sto.set 2 (NetO (N.addIn x w) 3 4 5)).set 3 (.lst ((N.addIn x w).ins.map Port.v))) 2 3 4 5 (N.addIn x w) := by
  refine ⟨?_, ?_, ?_, ?_⟩
  · rw [List.getElem?_set_ne (by decide), List.getElem?_set_self (List.getElem?_eq_some_iff.mp hN.obj).1]
  · rw [List.getElem?_set_self (by rw [List.length_set]; exact hN.lts.1)]
  · rw [List.getElem?_set_ne (by decide), List.getElem?_set_ne (by decide)]; exact hN.o
  · rw [List.getElem?_set_ne (by decide), List.getElem?_set_ne (by decide)]; exact hN.c
theorem NetAt.addOut (hN : NetAt sto 2 3 4 5 N) (x : Str) (bits : List Int) : NetAt (sto.set 4 (.lst ((N.addOut x bits).outs.map Port.v))) 2 3 4 5 (N.addOut x bits) := by
  refine ⟨?_, ?_, ?_, ?_⟩
  · rw [List.getElem?_set_ne (by decide)]; exact hN.obj
  · rw [List.getElem?_set_ne (by decide)]; exact hN.i
  · rw [List.getElem?_set_self hN.lts.2.1]
  · rw [List.getElem?_set_ne (by decide)]; exact hN.c
theorem NetAt.name (hN : NetAt sto 2 3 4 5 N) (x : Str) : NetAt (sto.set 2 (NetO { N with name := x } 3 4 5)) 2 3 4 5 { N with name := x } := by
  refine ⟨?_, ?_, ?_, ?_⟩
  · rw [List.getElem?_set_self (List.getElem?_eq_some_iff.mp hN.obj).1]
  · rw [List.getElem?_set_ne (by decide)]; exact hN.i
  · rw [List.getElem?_set_ne (by decide)]; exact hN.o
  · rw [List.getElem?_set_ne (by decide)]; exact hN.c
theorem StoOk.addCell (h : StoOk sto) (hN : NetAt sto 2 3 4 5 N) (cell : Cell) : StoOk ((sto.set 2 (NetO (N.bump 1) 3 4 5)).set 5 (.lst ((N.addCell cell).cells.map Cell.v))) := (h.set (NetO.bel hN.lts.1 hN.lts.2.1 hN.lts.2.2)).set (by rw [List.length_set]; exact belL_cells _)
theorem StoOk.addIn (h : StoOk sto) (hN : NetAt sto 2 3 4 5 N) (x : Str) (w : Nat) : StoOk ((sto.set 2 (NetO (N.addIn x w) 3 4 5)).set 3 (.lst ((N.addIn x w).ins.map Port.v))) := (h.set (NetO.bel hN.lts.1 hN.lts.2.1 hN.lts.2.2)).set (by rw [List.length_set]; exact belL_ports _)
theorem StoOk.addOut (h : StoOk sto) (x : Str) (bits : List Int) : StoOk (sto.set 4 (.lst ((N.addOut x bits).outs.map Port.v))) := h.set (belL_ports _)
theorem StoOk.name (h : StoOk sto) (hN : NetAt sto 2 3 4 5 N) (x : Str) : StoOk (sto.set 2 (NetO { N with name := x } 3 4 5)) := h.set (NetO.bel hN.lts.1 hN.lts.2.1 hN.lts.2.2)
theorem netO_name {x : Str} : O.inst 139 (putV [("name", .str N.name), ("count", .int N.count), ("inputs", .ref 3), ("outputs", .ref 4), ("cells", .ref 5)] "name" (.str x)) = NetO { N with name := x } 3 4 5 := by
  simp only [putV]
  rw [if_pos trivial]
end

theorem law_6b {c : Cx} {k : Nat} (ok : Ok c (k + 100)) {fd : FuncData} {sts : List Stmt} (h : IsLaw c.w.params fd sts) {L : Addr} (hc : c.env = callEnvC fd L 257) (hst : c.g.stack = [c.env]) {ws : List Nat} (hws : WsOk ws) {M : Nat} (hM7 : M ≤ 7) {N : Net} (hNc : N.count = 2 + ws.sum + M) (hcl : N.cells.length ≤ 7) (hil : N.ins.length ≤ 2) (hol : N.outs.length ≤ 2) {sort which : Int} (hs : 0 ≤ sort ∧ sort < 10) (hw : 0 ≤ which ∧ which < 3) (hro : c.g.ro = 0) {loc : List (Str × V)} {sto : Sto} (hN : NetAt sto 2 3 4 5 N) (hso : StoOk sto) {pool : List Int} (hpool : PoolOk pool) (hsp : sto[1]? = some (.lst (pool.map .int))) (hl : Loc1 loc ws M) (v1 : loc.lookup ("sort" : Str) = some (.int sort)) (v2 : loc.lookup ("which" : Str) = some (.int which))
    (b3 : ∀ x ∈ (["a b", "a#", "a\\"] : List Str), Bad { N with name := x } "bad_name" x)
    (b4 : ∀ x ∈ (["c d", "#", " c"] : List Str), Bad (N.addIn x 1) "bad_name" (x ++ "[0]") ∧ Bad (N.addOut x [((2 + ws.sum : Nat) : Int)]) "bad_name" (x ++ "[0]"))
    (b5 : Bad (N.addIn "a" 1) "bad_name" "a[0]" ∧ Bad (N.addOut "a" [((2 + ws.sum : Nat) : Int)]) "bad_name" "a[0]" ∧ Bad (N.addOut "y" [((2 + ws.sum : Nat) : Int)]) "bad_name" "y[0]")
    (b6 : ∀ x ∈ (["", "q#", "q\\"] : List Str), Bad (N.plus ⟨"flop", N.count, [2, 2, 0, 0], .flop 0 x 1⟩) "bad_name" x)
    {P : Fl → St → Prop} (pT : ∀ S', P (.ret (.bool true)) S')
    (p : sort ≠ 3 → sort ≠ 4 → sort ≠ 5 → sort ≠ 6 → XW c ⟨loc, sto⟩ (sts.drop 28) P) : XW c ⟨loc, sto⟩ (sts.drop 24) P := by
  have hsl : (1000000 : Nat) ≤ sizeLine := by rw [sizeLine_eq]; decide
  obtain ⟨oc, od, sl, e1, e2⟩ := h
  have e : (KF c.w.params).lookup 257 = some ⟨_, _, .func _, _⟩ := rfl
  rw [e] at e1
  cases e1
  cases e2
  obtain ⟨c0, hcc⟩ := lawC_of hc
  subst hcc
  simp only [List.drop_succ_cons, List.drop_zero] at p ⊢
  have hrz : ∀ n, c0.g.ro ≤ n := fun n => by rw [show c0.g.ro = 0 from hro]; exact Nat.zero_le n
  have hv1 := hl.net
  have hv2 := hl.first
  have hv3 := hl.pool
  have hsum := hws.sum
  have hwl := hws.1
  have pick : ∀ l : List Str, l.length = 3 → ∃ x ∈ l, (l.map V.str)[which.toNat]? = some (.str x) := fun l hl => by
    have hlt : which.toNat < l.length := by allgen_close_more
    exact ⟨l[which.toNat], List.getElem_mem hlt, by rw [List.getElem?_map, List.getElem?_eq_getElem hlt]; rfl⟩
  repeat tb_rel
  refine ⟨_, rfl, ?_⟩
  by_cases h3 : sort = 3
  · refine brT (by first | exact decide_eq_true h3 | simp [h3]) ?_
    obtain ⟨x, hx, hxi⟩ := pick ["a b", "a#", "a\\"] rfl
    repeat tb_rel
    refine SW.setAttr ok.W ?_
    repeat tb_rel
    refine EW.list ?_
    repeat tb_rel
    refine ⟨?_, by simp; allgen_close_more⟩
    repeat tb_rel
    refine Item.lst (v := .str x) (by allgen_close_more) (by allgen_close_more) (by exact hxi) ?_
    repeat tb_rel
    refine ⟨2, 139, _, rfl, by exact hN.obj, by exact hrz _, by simp, by kernel_rfl, ?_⟩
    refine seqN ?_
    refine TW.st (sto.set 2 (NetO { N with name := x } 3 4 5)) ?e0 ?_
    case e0 =>
      show sto.set 2 (O.inst 139 _) = _
      rw [netO_name]
    have hN' := hN.name x
    repeat tb_rel
    refine EW.callDef (f := 252) ok.W ⟨rfl, rfl, rfl⟩ (by kernel_rfl) (by kernel_rfl) ?_
    repeat tb_rel
    refine EW.tuple ?_
    repeat tb_rel
    refine EW.attr ok.W ?_
    repeat tb_rel
    refine ⟨2, 139, _, .str x, rfl, by exact hN'.obj, by rfl, by kernel_rfl, ?_⟩
    repeat tb_rel
    refine ⟨?_, by simp; allgen_close_more⟩
    repeat tb_rel
    refine refuse (k := k) (by exact ok) (by exact hst) rfl (b3 x hx) (by exact hN') (by exact hso.name hN x) ?_
    repeat tb_rel
    exact pT _
  refine brF (by first | exact decide_eq_false h3 | simp [h3]) ?_
  repeat tb_rel
  refine ⟨_, rfl, ?_⟩
  by_cases h4 : sort = 4
  · refine brT (by first | exact decide_eq_true h4 | simp [h4]) ?_
    obtain ⟨x, hx, hxi⟩ := pick ["c d", "#", " c"] rfl
    with_reducible refine XW.mid (fun S1 => A5 (S1.sto = sto) (S1.has "wrong" (.str x)) (S1.has "pool" (.ref 1)) (S1.has "net" (.ref 2)) (S1.has "first" (.int ((2 + ws.sum : Nat) : Int)))) ?_ ?_
    · top_caught0
      repeat tb_rel
      refine EW.list ?_
      repeat tb_rel
      refine ⟨?_, by simp; allgen_close_more⟩
      repeat tb_rel
      refine Item.lst (v := .str x) (by allgen_close_more) (by allgen_close_more) (by exact hxi) ?_
      repeat tb_rel
      exact ⟨rfl, rfl, by tb_start, by tb_start, by tb_start, by tb_start⟩
    intro loc1 sto1 hJ0
    refine (?_ : let G0 := _; G0); intro G0
    obtain ⟨g1, u1, u2, u3, u4⟩ := hJ0
    obtain rfl : sto = sto1 := g1.symm
    obtain ⟨c1, c2⟩ := b4 x hx
    unfold G0; clear G0
    have hxl : x.length ≤ 3 := by
      simp only [List.mem_cons, List.not_mem_nil, or_false] at hx
      rcases hx with rfl | rfl | rfl <;> decide
    with_reducible refine XW.mid (fun S1 => ∃ N', A5 (NetAt S1.sto 2 3 4 5 N') (StoOk S1.sto) (Bad N' "bad_name" (x ++ "[0]")) (S1.has "wrong" (.str x)) (S1.has "net" (.ref 2))) ?_ ?_
    · top_caught0
      repeat tb_rel
      refine EW.callDef (f := 230) ok.W ⟨rfl, rfl, rfl⟩ (by kernel_rfl) (by kernel_rfl) ?_
      repeat tb_rel
      refine f_law_drawn (k := k + 10) (by first | exact ok.less' | exact ok.less (by allgen_close_more)) (by decide) (by decide) hpool (by exact hsp) (by exact hrz _) ?_ (by exact hso)
      intro r ys hr0 hr hys
      have hN1 := hN.put1 (.lst (ys.map .int))
      have hso1 : StoOk (sto.set 1 (.lst (ys.map .int))) := hso.set (belL_ints _)
      repeat tb_rel
      refine ⟨_, rfl, ?_⟩
      by_cases hr1 : r = 1
      · refine brT (by first | exact decide_eq_true hr1 | simp [hr1]) ?_
        repeat tb_rel
        refine EW.method 99 ok.W ?_ _ (by with_unfolding_all rfl) (by exact .inr ⟨_, _, rfl, by exact starEach_plain rfl _ _, by with_unfolding_all rfl⟩)
        repeat tb_rel
        refine ⟨2, 139, _, rfl, by exact hN1.obj, by rfl, by kernel_rfl, ?_⟩
        repeat tb_rel
        refine f_add_input (k := k + 10) (N := N) (w := 1) (ji := 3) (jo := 4) (jc := 5) (by first | exact ok.less' | exact ok.less (by allgen_close_more)) (by exact hN1) (by decide) (by exact hrz _) (by exact hrz _) (by allgen_close_more) (by allgen_close_more) ?_ (by exact hso1)
        repeat tb_rel
        exact ⟨rfl, _, hN1.addIn x 1, hso1.addIn hN1 x 1, c1, by tb_start, by tb_start⟩
      · refine brF (by first | exact decide_eq_false hr1 | simp [hr1]) ?_
        repeat tb_rel
        refine EW.method 106 ok.W ?_ _ (by with_unfolding_all rfl) (by exact .inr ⟨_, _, rfl, by exact starEach_plain rfl _ _, by with_unfolding_all rfl⟩)
        repeat tb_rel
        refine ⟨2, 139, _, rfl, by exact hN1.obj, by rfl, by kernel_rfl, ?_⟩
        repeat tb_rel
        refine EW.list ?_
        repeat tb_rel
        refine ⟨?_, by simp; allgen_close_more⟩
        repeat tb_rel
        refine f_add_output (k := k + 10) (N := N) (ji := 3) (jo := 4) (jc := 5) (bits := [((2 + ws.sum : Nat) : Int)]) (by first | exact ok.less' | exact ok.less (by allgen_close_more)) (by exact hN1) .l (by exact hrz _) (by simp) (by allgen_close_more) ?_ (by exact hso1)
        repeat tb_rel
        exact ⟨rfl, _, hN1.addOut x _, hso1.addOut x _, c2, by tb_start, by tb_start⟩
    intro loc2 sto2 hJ0
    refine (?_ : let G0 := _; G0); intro G0
    obtain ⟨N', hN', hso', hB, u5, u6⟩ := hJ0
    unfold G0; clear G0
    repeat tb_rel
    refine EW.callDef (f := 252) ok.W ⟨rfl, rfl, rfl⟩ (by kernel_rfl) (by kernel_rfl) ?_
    repeat tb_rel
    refine EW.tuple ?_
    repeat tb_rel
    refine Op.addS (Nat.le_trans (show _ ≤ 6 by rw [Str.length_append]; show _ + 3 ≤ 6; allgen_close_more) (by allgen_close_more)) ?_
    repeat tb_rel
    refine ⟨?_, by simp; allgen_close_more⟩
    repeat tb_rel
    refine refuse (k := k) (by exact ok) (by exact hst) rfl hB (by exact hN') (by exact hso') ?_
    repeat tb_rel
    exact pT _
  refine brF (by first | exact decide_eq_false h4 | simp [h4]) ?_
  repeat tb_rel
  refine ⟨_, rfl, ?_⟩
  by_cases h5 : sort = 5
  · refine brT (by first | exact decide_eq_true h5 | simp [h5]) ?_
    obtain ⟨d5, d6, d7⟩ := b5
    obtain ⟨x, hxi, hx⟩ : ∃ x, ((["a[0]", "a[0]", "y[0]"] : List Str).map V.str)[which.toNat]? = some (.str x) ∧ (which = 0 ∧ Bad (N.addIn "a" 1) "bad_name" x ∨ which ≠ 0 ∧ ∃ y, ((["a", "y"] : List Str).map V.str)[(which - 1).toNat]? = some (.str y) ∧ Bad (N.addOut y [((2 + ws.sum : Nat) : Int)]) "bad_name" x) := by
      obtain rfl | rfl | rfl : which = 0 ∨ which = 1 ∨ which = 2 := by allgen_close_more
      · exact ⟨_, rfl, .inl ⟨rfl, d5⟩⟩
      · exact ⟨_, rfl, .inr ⟨by decide, _, rfl, d6⟩⟩
      · exact ⟨_, rfl, .inr ⟨by decide, _, rfl, d7⟩⟩
    with_reducible refine XW.mid (fun S1 => ∃ N', A5 (NetAt S1.sto 2 3 4 5 N') (StoOk S1.sto) (Bad N' "bad_name" x) (S1.has "net" (.ref 2)) (S1.has "which" (.int which))) ?_ ?_
    · top_caught0
      repeat tb_rel
      refine ⟨_, rfl, ?_⟩
      rcases hx with ⟨hw0, hB⟩ | ⟨hw0, y, hy, hB⟩
      · refine brT (by first | exact decide_eq_true hw0 | simp [hw0]) ?_
        repeat tb_rel
        refine EW.method 99 ok.W ?_ _ (by with_unfolding_all rfl) (by exact .inr ⟨_, _, rfl, by exact starEach_plain rfl _ _, by with_unfolding_all rfl⟩)
        repeat tb_rel
        refine ⟨2, 139, _, rfl, by exact hN.obj, by rfl, by kernel_rfl, ?_⟩
        repeat tb_rel
        refine f_add_input (k := k + 10) (N := N) (w := 1) (ji := 3) (jo := 4) (jc := 5) (by first | exact ok.less' | exact ok.less (by allgen_close_more)) (by exact hN) (by decide) (by exact hrz _) (by exact hrz _) (by allgen_close_more) (by allgen_close_more) ?_ (by exact hso)
        repeat tb_rel
        exact ⟨rfl, _, hN.addIn _ 1, hso.addIn hN _ 1, hB, by tb_start, by tb_start⟩
      · refine brF (by first | exact decide_eq_false hw0 | simp [hw0]) ?_
        repeat tb_rel
        refine EW.method 106 ok.W ?_ _ (by with_unfolding_all rfl) (by exact .inr ⟨_, _, rfl, by exact starEach_plain rfl _ _, by with_unfolding_all rfl⟩)
        repeat tb_rel
        refine ⟨2, 139, _, rfl, by exact hN.obj, by rfl, by kernel_rfl, ?_⟩
        repeat tb_rel
        refine EW.list ?_
        repeat tb_rel
        refine ⟨?_, by simp; allgen_close_more⟩
        repeat tb_rel
        refine Item.lst (v := .str y) (by allgen_close_more) (by allgen_close_more) (by exact hy) ?_
        refine AW.cons ?_
        refine EW.list ?_
        repeat tb_rel
        refine ⟨?_, by simp; allgen_close_more⟩
        repeat tb_rel
        refine f_add_output (k := k + 10) (N := N) (ji := 3) (jo := 4) (jc := 5) (bits := [((2 + ws.sum : Nat) : Int)]) (by first | exact ok.less' | exact ok.less (by allgen_close_more)) (by exact hN) .l (by exact hrz _) (by simp) (by allgen_close_more) ?_ (by exact hso)
        repeat tb_rel
        exact ⟨rfl, _, hN.addOut y _, hso.addOut y _, hB, by tb_start, by tb_start⟩
    intro loc2 sto2 hJ0
    refine (?_ : let G0 := _; G0); intro G0
    obtain ⟨N', hN', hso', hB, u5, u6⟩ := hJ0
    unfold G0; clear G0
    repeat tb_rel
    refine EW.callDef (f := 252) ok.W ⟨rfl, rfl, rfl⟩ (by kernel_rfl) (by kernel_rfl) ?_
    repeat tb_rel
    refine EW.tuple ?_
    repeat tb_rel
    refine EW.list ?_
    repeat tb_rel
    refine ⟨?_, by simp; allgen_close_more⟩
    repeat tb_rel
    refine Item.lst (v := .str x) (by allgen_close_more) (by allgen_close_more) (by exact hxi) ?_
    repeat tb_rel
    refine ⟨?_, by simp; allgen_close_more⟩
    repeat tb_rel
    refine refuse (k := k) (by exact ok) (by exact hst) rfl hB (by exact hN') (by exact hso') ?_
    repeat tb_rel
    exact pT _
  refine brF (by first | exact decide_eq_false h5 | simp [h5]) ?_
  repeat tb_rel
  refine ⟨_, rfl, ?_⟩
  by_cases h6 : sort = 6
  · refine brT (by first | exact decide_eq_true h6 | simp [h6]) ?_
    obtain ⟨x, hx, hxi⟩ := pick ["", "q#", "q\\"] rfl
    repeat tb_rel
    refine EW.list ?_
    repeat tb_rel
    refine ⟨?_, by simp; allgen_close_more⟩
    repeat tb_rel
    refine Item.lst (v := .str x) (by allgen_close_more) (by allgen_close_more) (by exact hxi) ?_
    repeat tb_rel
    refine EW.method 114 ok.W ?_ _ (by with_unfolding_all rfl) (by exact .inr ⟨_, _, rfl, by exact starEach_plain rfl _ _, by with_unfolding_all rfl⟩)
    repeat tb_rel
    refine ⟨2, 139, _, rfl, by exact hN.obj, by rfl, by kernel_rfl, ?_⟩
    repeat tb_rel
    refine EW.tuple ?_
    repeat tb_rel
    refine ⟨?_, by simp; allgen_close_more⟩
    refine AW.cons ?_
    refine EW.tuple ?_
    repeat tb_rel
    refine ⟨?_, by simp; allgen_close_more⟩
    repeat tb_rel
    refine f_add_cell (k := k + 10) (N := N) (ji := 3) (jo := 4) (jc := 5) (a := .tup (([2, 2, 0, 0] : List Int).map .int)) (kind := "flop") (ins := [2, 2, 0, 0]) (par := .flop 0 x 1) (by first | exact ok.less' | exact ok.less (by allgen_close_more)) (by exact hN) (.inr rfl) (by decide) (by exact hrz _) (by exact hrz _) (by simp) (by allgen_close_more) ?_ (by exact hso) _ (.inl rfl)
    repeat tb_rel
    refine EW.callDef (f := 252) ok.W ⟨rfl, rfl, rfl⟩ (by kernel_rfl) (by kernel_rfl) ?_
    repeat tb_rel
    refine EW.tuple ?_
    repeat tb_rel
    refine ⟨?_, by simp; allgen_close_more⟩
    repeat tb_rel
    refine refuse (k := k) (by exact ok) (by exact hst) rfl (b6 x hx) (by exact hN.addCell _) (by exact hso.addCell hN _) ?_
    repeat tb_rel
    exact pT _
  refine brF (by first | exact decide_eq_false h6 | simp [h6]) ?_
  iterate 2 tb_rel
  with_reducible exact p h3 h4 h5 h6
end

section
open PySem PySem.W PyProof.Rows PySem.Calls
section
variable {sto : Sto} {N : Net}
theorem NetAt.drive (hN : NetAt sto 2 3 4 5 N) (cell : Cell) : NetAt (sto.set 5 (.lst ((N.addCell cell).cells.map Cell.v))) 2 3 4 5 (N.addCell cell) := by
  refine ⟨?_, ?_, ?_, ?_⟩
  · rw [List.getElem?_set_ne (by decide)]; exact hN.obj
  · rw [List.getElem?_set_ne (by decide)]; exact hN.i
  · rw [List.getElem?_set_ne (by decide)]; exact hN.o
  · rw [List.getElem?_set_self hN.lts.2.2]
theorem StoOk.drive (h : StoOk sto) (cell : Cell) : StoOk (sto.set 5 (.lst ((N.addCell cell).cells.map Cell.v))) := h.set (belL_cells _)
theorem NetAt.plusIn (hN : NetAt sto 2 3 4 5 N) (p : Port) : NetAt (sto.set 3 (.lst ((N.plusIn p).ins.map Port.v))) 2 3 4 5 (N.plusIn p) := by
  refine ⟨?_, ?_, ?_, ?_⟩
  · rw [List.getElem?_set_ne (by decide)]; exact hN.obj
  · rw [List.getElem?_set_self hN.lts.1]
  · rw [List.getElem?_set_ne (by decide)]; exact hN.o
  · rw [List.getElem?_set_ne (by decide)]; exact hN.c
theorem StoOk.plusIn (h : StoOk sto) (p : Port) : StoOk (sto.set 3 (.lst ((N.plusIn p).ins.map Port.v))) := h.set (belL_ports _)
end

theorem law_6c {c : Cx} {k : Nat} (ok : Ok c (k + 100)) {fd : FuncData} {sts : List Stmt} (h : IsLaw c.w.params fd sts) {L : Addr} (hc : c.env = callEnvC fd L 257) (hst : c.g.stack = [c.env]) {ws : List Nat} (hws : WsOk ws) {M : Nat} (hM7 : M ≤ 7) {N : Net} (hNc : N.count = 2 + ws.sum + M) (hcl : N.cells.length ≤ 7) (hil : N.ins.length ≤ 2) (hol : N.outs.length ≤ 2) {sort which : Int} (hs : 0 ≤ sort ∧ sort < 10) (hw : 0 ≤ which ∧ which < 3) (hro : c.g.ro = 0) {loc : List (Str × V)} {sto : Sto} (hN : NetAt sto 2 3 4 5 N) (hso : StoOk sto) {pool : List Int} (hpool : PoolOk pool) (hsp : sto[1]? = some (.lst (pool.map .int))) (hl : Loc1 loc ws M) (v1 : loc.lookup ("sort" : Str) = some (.int sort)) (v2 : loc.lookup ("which" : Str) = some (.int which))
    (b7 : ∀ z ∈ ([-1, (N.count : Int) + 1, (N.count : Int) + 40] : List Int), Bad (N.plus ⟨"and", N.count, [((2 + ws.sum : Nat) : Int), z], .none⟩) "bad_net" (istr z) ∧ Bad (N.addCell ⟨"buf", z, [((2 + ws.sum : Nat) : Int)], .none⟩) "bad_net" (istr z) ∧ Bad (N.plus ⟨"flop", N.count, [z, 2, 0, 0], .flop 1 "held" 0⟩) "bad_net" (istr z) ∧ Bad (N.addOut "x" [((2 + ws.sum : Nat) : Int), z]) "bad_net" (istr z))
    (b8 : ∀ z ∈ ([2, 1, (N.count : Int) + 3] : List Int), Bad (N.plusIn ("c", [z])) "bad_net" (istr z))
    (b9 : Bad (N.addIn "e" 0) "empty_port" "e" ∧ Bad (N.addOut "e" []) "empty_port" "e")
    {P : Fl → St → Prop} (pT : ∀ S', P (.ret (.bool true)) S')
    (hd : sort ≠ 0 ∧ sort ≠ 1 ∧ sort ≠ 2 ∧ sort ≠ 3 ∧ sort ≠ 4 ∧ sort ≠ 5 ∧ sort ≠ 6) : XW c ⟨loc, sto⟩ (sts.drop 28) P := by
  have hsl : (1000000 : Nat) ≤ sizeLine := by rw [sizeLine_eq]; decide
  obtain ⟨oc, od, sl, e1, e2⟩ := h
  have e : (KF c.w.params).lookup 257 = some ⟨_, _, .func _, _⟩ := rfl
  rw [e] at e1
  cases e1
  cases e2
  obtain ⟨c0, hcc⟩ := lawC_of hc
  subst hcc
  simp only [List.drop_succ_cons, List.drop_zero] at ⊢
  have hrz : ∀ n, c0.g.ro ≤ n := fun n => by rw [show c0.g.ro = 0 from hro]; exact Nat.zero_le n
  have hv1 := hl.net
  have hv2 := hl.first
  have hv3 := hl.pool
  have hsum := hws.sum
  have hwl := hws.1
  have pick : ∀ l : List Int, l.length = 3 → ∃ x ∈ l, (l.map V.int)[which.toNat]? = some (.int x) := fun l hl => by
    have hlt : which.toNat < l.length := by allgen_close_more
    exact ⟨l[which.toNat], List.getElem_mem hlt, by rw [List.getElem?_map, List.getElem?_eq_getElem hlt]; rfl⟩
  repeat tb_rel
  refine ⟨_, rfl, ?_⟩
  by_cases h7 : sort = 7
  · refine brT (by first | exact decide_eq_true h7 | simp [h7]) ?_
    obtain ⟨x, hx, hxi⟩ := pick [-1, (N.count : Int) + 1, (N.count : Int) + 40] rfl
    obtain ⟨c1, c2, c3, c4⟩ := b7 x hx
    have hxb : netOk x := by
      simp only [List.mem_cons, List.not_mem_nil, or_false] at hx
      rcases hx with rfl | rfl | rfl
      · show (1 : Nat).log2 < 1920; decide
      · exact netOk_small (by allgen_close_more) (by allgen_close_more)
      · exact netOk_small (by allgen_close_more) (by allgen_close_more)
    with_reducible refine XW.mid (fun S1 => A5 (S1.sto = sto) (S1.has "strange" (.int x)) (S1.has "pool" (.ref 1)) (S1.has "net" (.ref 2)) (S1.has "first" (.int ((2 + ws.sum : Nat) : Int)))) ?_ ?_
    · top_caught0
      repeat tb_rel
      refine EW.list ?_
      repeat tb_rel
      refine ⟨1, rfl, ?_⟩
      repeat tb_rel
      refine EW.attr ok.W ?_
      repeat tb_rel
      refine ⟨2, 139, _, .int (N.count : Int), rfl, by exact hN.obj, by rfl, by kernel_rfl, ?_⟩
      repeat tb_rel
      refine EW.attr ok.W ?_
      repeat tb_rel
      refine ⟨2, 139, _, .int (N.count : Int), rfl, by exact hN.obj, by rfl, by kernel_rfl, ?_⟩
      repeat tb_rel
      refine ⟨?_, by simp; allgen_close_more⟩
      repeat tb_rel
      refine Item.lst (v := .int x) (by allgen_close_more) (by allgen_close_more) (by exact hxi) ?_
      repeat tb_rel
      exact ⟨rfl, rfl, by tb_start, by tb_start, by tb_start, by tb_start⟩
    intro loc1 sto1 hJ0
    refine (?_ : let G0 := _; G0); intro G0
    obtain ⟨g1, u1, u2, u3, u4⟩ := hJ0
    obtain rfl : sto = sto1 := g1.symm
    unfold G0; clear G0
    with_reducible refine XW.mid (fun S1 => E2 (fun (pool : List Int) (way : Int) => A5 (S1.sto = sto.set 1 (.lst (pool.map .int))) (S1.has "way" (.int way)) (S1.has "strange" (.int x)) (S1.has "net" (.ref 2)) (S1.has "first" (.int ((2 + ws.sum : Nat) : Int))))) ?_ ?_
    · top_caught0
      repeat tb_rel
      refine EW.callDef (f := 230) ok.W ⟨rfl, rfl, rfl⟩ (by kernel_rfl) (by kernel_rfl) ?_
      repeat tb_rel
      refine f_law_drawn (k := k + 10) (by first | exact ok.less' | exact ok.less (by allgen_close_more)) (by decide) (by decide) hpool (by exact hsp) (by exact hrz _) ?_ (by exact hso)
      intro r ys hr0 hr hys
      exact ⟨rfl, ys, r, rfl, by tb_start, by tb_start, by tb_start, by tb_start⟩
    clear hsp hpool
    intro loc2 sto2 hJ0
    refine (?_ : let G0 := _; G0); intro G0
    obtain ⟨pool', way, g2, w1, w2, w3, w4⟩ := hJ0
    unfold G0; clear G0
    have hN1 := hN.put1 (.lst (pool'.map .int))
    have hso1 : StoOk (sto.set 1 (.lst (pool'.map .int))) := hso.set (belL_ints _)
    obtain ⟨σ, hσ⟩ : ∃ σ, σ = sto.set 1 (.lst (pool'.map .int)) := ⟨_, rfl⟩
    rw [← hσ] at hN1 hso1 g2
    clear hσ hN hso
    obtain rfl : σ = sto2 := g2.symm
    with_reducible refine XW.mid (fun S1 => ∃ N', A5 (NetAt S1.sto 2 3 4 5 N') (StoOk S1.sto) (Bad N' "bad_net" (istr x)) (S1.has "net" (.ref 2)) (S1.has "strange" (.int x))) ?_ ?_
    · top_caught0
      repeat tb_rel
      refine ⟨_, rfl, ?_⟩
      by_cases hq0 : way = 0
      · refine brT (by first | exact decide_eq_true hq0 | simp [hq0]) ?_
        repeat tb_rel
        refine EW.method 114 ok.W ?_ _ (by with_unfolding_all rfl) (by exact .inr ⟨_, _, rfl, by exact starEach_plain rfl _ _, by with_unfolding_all rfl⟩)
        repeat tb_rel
        refine ⟨2, 139, _, rfl, by exact hN1.obj, by rfl, by kernel_rfl, ?_⟩
        repeat tb_rel
        refine EW.tuple ?_
        repeat tb_rel
        refine ⟨?_, by simp; allgen_close_more⟩
        repeat tb_rel
        refine f_add_cell (k := k + 10) (N := N) (ji := 3) (jo := 4) (jc := 5) (a := .tup (([((2 + ws.sum : Nat) : Int), x] : List Int).map .int)) (kind := "and") (ins := [((2 + ws.sum : Nat) : Int), x]) (par := .none) (by first | exact ok.less' | exact ok.less (by allgen_close_more)) (by exact hN1) (.inr rfl) (by decide) (by exact hrz _) (by exact hrz _) (by simp) (by allgen_close_more) ?_ (by exact hso1) _ (.inr ⟨rfl, rfl⟩)
        repeat tb_rel
        exact ⟨rfl, _, hN1.addCell _, hso1.addCell hN1 _, c1, by tb_start, by tb_start⟩
      refine brF (by first | exact decide_eq_false hq0 | simp [hq0]) ?_
      repeat tb_rel
      refine ⟨_, rfl, ?_⟩
      by_cases hq1 : way = 1
      · refine brT (by first | exact decide_eq_true hq1 | simp [hq1]) ?_
        repeat tb_rel
        refine EW.method 122 ok.W ?_ _ (by with_unfolding_all rfl) (by exact .inr ⟨_, _, rfl, by exact starEach_plain rfl _ _, by with_unfolding_all rfl⟩)
        repeat tb_rel
        refine ⟨2, 139, _, rfl, by exact hN1.obj, by rfl, by kernel_rfl, ?_⟩
        repeat tb_rel
        refine EW.tuple ?_
        repeat tb_rel
        refine ⟨?_, by simp; allgen_close_more⟩
        repeat tb_rel
        refine f_drive (k := k + 10) (N := N) (ji := 3) (jo := 4) (jc := 5) (a := .tup (([((2 + ws.sum : Nat) : Int)] : List Int).map .int)) (kind := "buf") (out := x) (ins := [((2 + ws.sum : Nat) : Int)]) (par := .none) (by first | exact ok.less' | exact ok.less (by allgen_close_more)) (by exact hN1) (.inr rfl) (by exact hrz _) (by simp) (by allgen_close_more) ?_ (by exact hso1) _ (.inr ⟨rfl, rfl⟩)
        repeat tb_rel
        exact ⟨rfl, _, hN1.drive _, hso1.drive _, c2, by tb_start, by tb_start⟩
      refine brF (by first | exact decide_eq_false hq1 | simp [hq1]) ?_
      repeat tb_rel
      refine ⟨_, rfl, ?_⟩
      by_cases hq2 : way = 2
      · refine brT (by first | exact decide_eq_true hq2 | simp [hq2]) ?_
        repeat tb_rel
        refine EW.method 114 ok.W ?_ _ (by with_unfolding_all rfl) (by exact .inr ⟨_, _, rfl, by exact starEach_plain rfl _ _, by with_unfolding_all rfl⟩)
        repeat tb_rel
        refine ⟨2, 139, _, rfl, by exact hN1.obj, by rfl, by kernel_rfl, ?_⟩
        repeat tb_rel
        refine EW.tuple ?_
        repeat tb_rel
        refine ⟨?_, by simp; allgen_close_more⟩
        refine AW.cons ?_
        refine EW.tuple ?_
        repeat tb_rel
        refine ⟨?_, by simp; allgen_close_more⟩
        repeat tb_rel
        refine f_add_cell (k := k + 10) (N := N) (ji := 3) (jo := 4) (jc := 5) (a := .tup (([x, 2, 0, 0] : List Int).map .int)) (kind := "flop") (ins := [x, 2, 0, 0]) (par := .flop 1 "held" 0) (by first | exact ok.less' | exact ok.less (by allgen_close_more)) (by exact hN1) (.inr rfl) (by decide) (by exact hrz _) (by exact hrz _) (by simp) (by allgen_close_more) ?_ (by exact hso1) _ (.inl rfl)
        repeat tb_rel
        exact ⟨rfl, _, hN1.addCell _, hso1.addCell hN1 _, c3, by tb_start, by tb_start⟩
      refine brF (by first | exact decide_eq_false hq2 | simp [hq2]) ?_
      repeat tb_rel
      refine EW.method 106 ok.W ?_ _ (by with_unfolding_all rfl) (by exact .inr ⟨_, _, rfl, by exact starEach_plain rfl _ _, by with_unfolding_all rfl⟩)
      repeat tb_rel
      refine ⟨2, 139, _, rfl, by exact hN1.obj, by rfl, by kernel_rfl, ?_⟩
      repeat tb_rel
      refine EW.list ?_
      repeat tb_rel
      refine ⟨?_, by simp; allgen_close_more⟩
      repeat tb_rel
      refine f_add_output (k := k + 10) (N := N) (ji := 3) (jo := 4) (jc := 5) (bits := [((2 + ws.sum : Nat) : Int), x]) (by first | exact ok.less' | exact ok.less (by allgen_close_more)) (by exact hN1) .l (by exact hrz _) (by simp) (by allgen_close_more) ?_ (by exact hso1)
      repeat tb_rel
      exact ⟨rfl, _, hN1.addOut _ _, hso1.addOut _ _, c4, by tb_start, by tb_start⟩
    intro loc3 sto3 hJ0
    refine (?_ : let G0 := _; G0); intro G0
    obtain ⟨N', hN', hso', hB, u5, u6⟩ := hJ0
    unfold G0; clear G0
    repeat tb_rel
    refine EW.callDef (f := 252) ok.W ⟨rfl, rfl, rfl⟩ (by kernel_rfl) (by kernel_rfl) ?_
    repeat tb_rel
    refine EW.tuple ?_
    repeat tb_rel
    refine EW.fstr1 (EW.fmt ?_)
    repeat tb_rel
    refine .inr ⟨_, rfl, hxb, ?_⟩
    repeat tb_rel
    refine ⟨?_, by simp; allgen_close_more⟩
    repeat tb_rel
    refine refuse (k := k) (by exact ok) (by exact hst) rfl hB (by exact hN') (by exact hso') ?_
    repeat tb_rel
    exact pT _
  refine brF (by first | exact decide_eq_false h7 | simp [h7]) ?_
  repeat tb_rel
  refine ⟨_, rfl, ?_⟩
  by_cases h8 : sort = 8
  · refine brT (by first | exact decide_eq_true h8 | simp [h8]) ?_
    obtain ⟨x, hx, hxi⟩ := pick [2, 1, (N.count : Int) + 3] rfl
    have hxb : netOk x := by
      simp only [List.mem_cons, List.not_mem_nil, or_false] at hx
      rcases hx with rfl | rfl | rfl
      · show (2 : Nat).log2 < 1920; decide
      · show (1 : Nat).log2 < 1920; decide
      · exact netOk_small (by allgen_close_more) (by allgen_close_more)
    repeat tb_rel
    refine EW.list ?_
    repeat tb_rel
    refine EW.attr ok.W ?_
    repeat tb_rel
    refine ⟨2, 139, _, .int (N.count : Int), rfl, by exact hN.obj, by rfl, by kernel_rfl, ?_⟩
    repeat tb_rel
    refine ⟨?_, by simp; allgen_close_more⟩
    repeat tb_rel
    refine Item.lst (v := .int x) (by allgen_close_more) (by allgen_close_more) (by exact hxi) ?_
    repeat tb_rel
    refine EW.listMeth1 (id := "list.append") ?sa ?sb ?_ ?sd ?se ?sf
    case sa => exact slot_list_append
    case sb => kernel_rfl
    case sd => exact attributeBase_plain rfl _ _
    case se => exact starEach_plain rfl _ _
    case sf => with_unfolding_all rfl
    refine EW.attr ok.W ?_
    repeat tb_rel
    refine ⟨2, 139, _, .ref 3, rfl, by exact hN.obj, by rfl, by kernel_rfl, ?_⟩
    repeat tb_rel
    refine ⟨3, _, rfl, by exact hN.i, ?_⟩
    refine EW.tuple ?_
    repeat tb_rel
    refine EW.list ?_
    repeat tb_rel
    refine ⟨?_, by simp; allgen_close_more⟩
    repeat tb_rel
    refine ⟨?_, by simp; allgen_close_more⟩
    refine Meth.append (by exact hN.i) (by exact hrz _) (by simp; allgen_close_more) ?_
    refine seqN ?_
    refine TW.st (sto.set 3 (.lst ((N.plusIn ("c", [x])).ins.map Port.v))) ?e0 ?_
    case e0 =>
      show sto.set 3 (.lst _) = _
      rw [List.map_append]; rfl
    repeat tb_rel
    refine EW.callDef (f := 252) ok.W ⟨rfl, rfl, rfl⟩ (by kernel_rfl) (by kernel_rfl) ?_
    repeat tb_rel
    refine EW.tuple ?_
    repeat tb_rel
    refine EW.fstr1 (EW.fmt ?_)
    repeat tb_rel
    refine .inr ⟨_, rfl, hxb, ?_⟩
    repeat tb_rel
    refine ⟨?_, by simp; allgen_close_more⟩
    repeat tb_rel
    refine refuse (k := k) (by exact ok) (by exact hst) rfl (b8 x hx) (by exact hN.plusIn _) (by exact hso.plusIn _) ?_
    repeat tb_rel
    exact pT _
  refine brF (by first | exact decide_eq_false h8 | simp [h8]) ?_
  obtain ⟨d1, d2⟩ := b9
  iterate 2 tb_rel
  with_reducible refine XW.mid (fun S1 => ∃ N', A4 (NetAt S1.sto 2 3 4 5 N') (StoOk S1.sto) (Bad N' "empty_port" "e") (S1.has "net" (.ref 2))) ?_ ?_
  · top_caught0
    repeat tb_rel
    refine ⟨_, rfl, ?_⟩
    by_cases hw0 : which = 0
    · refine brT (by first | exact decide_eq_true hw0 | simp [hw0]) ?_
      repeat tb_rel
      refine EW.method 99 ok.W ?_ _ (by with_unfolding_all rfl) (by exact .inr ⟨_, _, rfl, by exact starEach_plain rfl _ _, by with_unfolding_all rfl⟩)
      repeat tb_rel
      refine ⟨2, 139, _, rfl, by exact hN.obj, by rfl, by kernel_rfl, ?_⟩
      repeat tb_rel
      refine f_add_input (k := k + 10) (N := N) (w := 0) (ji := 3) (jo := 4) (jc := 5) (by first | exact ok.less' | exact ok.less (by allgen_close_more)) (by exact hN) (by decide) (by exact hrz _) (by exact hrz _) (by allgen_close_more) (by allgen_close_more) ?_ (by exact hso)
      repeat tb_rel
      exact ⟨rfl, _, hN.addIn _ 0, hso.addIn hN _ 0, d1, by tb_start⟩
    · refine brF (by first | exact decide_eq_false hw0 | simp [hw0]) ?_
      repeat tb_rel
      refine EW.method 106 ok.W ?_ _ (by with_unfolding_all rfl) (by exact .inr ⟨_, _, rfl, by exact starEach_plain rfl _ _, by with_unfolding_all rfl⟩)
      repeat tb_rel
      refine ⟨2, 139, _, rfl, by exact hN.obj, by rfl, by kernel_rfl, ?_⟩
      repeat tb_rel
      refine EW.list ?_
      repeat tb_rel
      refine ⟨?_, by simp⟩
      repeat tb_rel
      refine f_add_output (k := k + 10) (N := N) (ji := 3) (jo := 4) (jc := 5) (bits := []) (by first | exact ok.less' | exact ok.less (by allgen_close_more)) (by exact hN) .l (by exact hrz _) (by simp) (by allgen_close_more) ?_ (by exact hso)
      repeat tb_rel
      exact ⟨rfl, _, hN.addOut _ _, hso.addOut _ _, d2, by tb_start⟩
  intro loc3 sto3 hJ0
  refine (?_ : let G0 := _; G0); intro G0
  obtain ⟨N', hN', hso', hB, u5⟩ := hJ0
  unfold G0; clear G0
  repeat tb_rel
  refine EW.callDef (f := 252) ok.W ⟨rfl, rfl, rfl⟩ (by kernel_rfl) (by kernel_rfl) ?_
  repeat tb_rel
  refine EW.tuple ?_
  repeat tb_rel
  refine ⟨?_, by simp; allgen_close_more⟩
  repeat tb_rel
  refine refuse (k := k) (by exact ok) (by exact hst) rfl hB (by exact hN') (by exact hso') ?_
  repeat tb_rel
  exact pT _
end

section
open PySem PySem.W PyProof.Rows PySem.Calls
structure LawNet (ws : List Nat) (M : Nat) (cells : List Cell) (outs : List Port) : Prop where
  wok : WsOk ws
  ws1 : 1 ≤ ws.length
  M1 : 1 ≤ M
  M7 : M ≤ 7
  cl : cells.length = M - (if M = 1 then 0 else 1)
  ce : ∀ i cell, cells[i]? = some cell → CellLaw (2 + ws.sum) (2 + ws.sum + M) i cell
  o1 : 1 ≤ outs.length
  o2 : outs.length ≤ 2
  oe : ∀ i q, outs[i]? = some q → OutLaw (2 + ws.sum + M) i q
structure LawBad (N : Net) (f : Int) : Prop where
  b0 : ∀ i : Int, Bad (N.plus ⟨"latch", N.count, [0, f, 0, 0], .own "held" i⟩) "not_in_blif" "held"
  b1 : ∀ x y : Int, (x, y) ∈ [((0 : Int), (2 : Int)), (1, 0), (f, 1)] → Bad (N.plus ⟨"flop", N.count, [2, 2, x, y], .flop 1 "held" 0⟩) "not_in_blif" "held"
  b2 : ∀ n : Nat, 9 ≤ n → n ≤ 11 → Bad (N.plus ⟨"lut", N.count, List.replicate n 2, .num 1⟩) "too_many_inputs" (istr N.count)
  b3 : ∀ x ∈ (["a b", "a#", "a\\"] : List Str), Bad { N with name := x } "bad_name" x
  b4 : ∀ x ∈ (["c d", "#", " c"] : List Str), Bad (N.addIn x 1) "bad_name" (x ++ "[0]") ∧ Bad (N.addOut x [f]) "bad_name" (x ++ "[0]")
  b5 : Bad (N.addIn "a" 1) "bad_name" "a[0]" ∧ Bad (N.addOut "a" [f]) "bad_name" "a[0]" ∧ Bad (N.addOut "y" [f]) "bad_name" "y[0]"
  b6 : ∀ x ∈ (["", "q#", "q\\"] : List Str), Bad (N.plus ⟨"flop", N.count, [2, 2, 0, 0], .flop 0 x 1⟩) "bad_name" x
  b7 : ∀ z ∈ ([-1, (N.count : Int) + 1, (N.count : Int) + 40] : List Int), Bad (N.plus ⟨"and", N.count, [f, z], .none⟩) "bad_net" (istr z) ∧ Bad (N.addCell ⟨"buf", z, [f], .none⟩) "bad_net" (istr z) ∧ Bad (N.plus ⟨"flop", N.count, [z, 2, 0, 0], .flop 1 "held" 0⟩) "bad_net" (istr z) ∧ Bad (N.addOut "x" [f, z]) "bad_net" (istr z)
  b8 : ∀ z ∈ ([2, 1, (N.count : Int) + 3] : List Int), Bad (N.plusIn ("c", [z])) "bad_net" (istr z)
  b9 : Bad (N.addIn "e" 0) "empty_port" "e" ∧ Bad (N.addOut "e" []) "empty_port" "e"
noncomputable abbrev GoodLaw : Prop := ∀ ws M cells outs, LawNet ws M cells outs → Good (netW ws M cells outs) (texts ws) (bitNames outs) (cells.flatMap (dueOf (texts ws)) ++ outs.flatMap (outDue (texts ws)))
noncomputable abbrev BadLaw : Prop := ∀ ws M cells outs, LawNet ws M cells outs → LawBad (netW ws M cells outs) ((2 + ws.sum : Nat) : Int)

theorem NetAt.put1b {sto : Sto} {N : Net} (h : NetAt sto 2 3 4 5 N) (o : O) : NetAt (sto.set 1 o) 2 3 4 5 N := h.put1 o

theorem dues_len {ws : List Nat} {M : Nat} {cells : List Cell} {outs : List Port} (h : LawNet ws M cells outs) : (cells.flatMap (dueOf (texts ws))).length ≤ 14 ∧ (outs.flatMap (outDue (texts ws))).length ≤ 4 ∧ (bitNames outs).length ≤ 4 := by
  refine ⟨?_, ?_, ?_⟩
  · have : ∀ l : List Cell, (l.flatMap (dueOf (texts ws))).length ≤ 2 * l.length := by
      intro l
      induction l with
      | nil => simp
      | cons x l ih =>
        rw [List.flatMap_cons, List.length_append, List.length_cons]
        have : (dueOf (texts ws) x).length ≤ 2 := by
          unfold dueOf; split
          · split <;> simp
          · simp
        allgen_close_more
    have h1 := this cells
    have h2 := h.cl
    have h3 := h.M7
    allgen_close_more
  · have : ∀ l : List Port, (∀ (i : Nat) (q : Port), l[i]? = some q → q.2.length ≤ 2) → (l.flatMap (outDue (texts ws))).length ≤ 2 * l.length := by
      intro l
      induction l with
      | nil => intro _; simp
      | cons x l ih =>
        intro hh
        have h1 := hh 0 x rfl
        have h2 := ih fun i q hq => hh (i + 1) q (by simpa using hq)
        rw [List.flatMap_cons, List.length_append, List.length_cons]
        simp only [outDue, List.length_map, List.length_range]
        allgen_close_more
    have h1 := this outs fun i q hq => (h.oe i q hq).2.2.1
    have h2 := h.o2
    allgen_close_more
  · rw [bitNames_len]
    have : ∀ l : List Port, (∀ (i : Nat) (q : Port), l[i]? = some q → q.2.length ≤ 2) → (l.flatMap (·.2)).length ≤ 2 * l.length := by
      intro l
      induction l with
      | nil => intro _; simp
      | cons x l ih =>
        intro hh
        have h1 := hh 0 x rfl
        have h2 := ih fun i q hq => hh (i + 1) q (by simpa using hq)
        rw [List.flatMap_cons, List.length_append, List.length_cons]
        allgen_close_more
    have h1 := this outs fun i q hq => (h.oe i q hq).2.2.1
    have h2 := h.o2
    allgen_close_more

theorem law_5b {c : Cx} {k : Nat} (ok : Ok c (k + 100)) {fd : FuncData} {sts : List Stmt} (h : IsLaw c.w.params fd sts) {L : Addr} (hc : c.env = callEnvC fd L 257) {ws : List Nat} {M : Nat} {N : Net} (hro : c.g.ro = 0) {loc : List (Str × V)} {sto : Sto} (hN : NetAt sto 2 3 4 5 N) (hso : StoOk sto) {pool : List Int} (hpool : PoolOk pool) (hsp : sto[1]? = some (.lst (pool.map .int))) (hl : Loc1 loc ws M)
    {P : Fl → St → Prop}
    (p : ∀ (loc : List (Str × V)) (sto : Sto) (pool : List Int) (sort which : Int), 0 ≤ sort ∧ sort < 10 → 0 ≤ which ∧ which < 3 → NetAt sto 2 3 4 5 N → StoOk sto → PoolOk pool → sto[1]? = some (.lst (pool.map .int)) → Loc1 loc ws M → loc.lookup ("sort" : Str) = some (.int sort) → loc.lookup ("which" : Str) = some (.int which) → XW c ⟨loc, sto⟩ (sts.drop 21) P) : XW c ⟨loc, sto⟩ (sts.drop 19) P := by
  have hsl : (1000000 : Nat) ≤ sizeLine := by rw [sizeLine_eq]; decide
  obtain ⟨oc, od, sl, e1, e2⟩ := h
  have e : (KF c.w.params).lookup 257 = some ⟨_, _, .func _, _⟩ := rfl
  rw [e] at e1
  cases e1
  cases e2
  obtain ⟨c0, hcc⟩ := lawC_of hc
  subst hcc
  simp only [List.drop_succ_cons, List.drop_zero] at p ⊢
  have hrz : ∀ n, c0.g.ro ≤ n := fun n => by rw [show c0.g.ro = 0 from hro]; exact Nat.zero_le n
  have hv3 := hl.pool
  with_reducible refine XW.mid (fun S1 => E2 (fun (pool : List Int) (sort : Int) => A7 ((0 ≤ sort ∧ sort < 10)) (NetAt S1.sto 2 3 4 5 N) (StoOk S1.sto) (PoolOk pool) (S1.sto[1]? = some (.lst (pool.map .int))) (Loc1 S1.loc ws M) (S1.loc.lookup ("sort" : Str) = some (.int sort)))) ?_ ?_
  · top_caught0
    repeat tb_rel
    refine EW.callDef (f := 230) ok.W ⟨rfl, rfl, rfl⟩ (by kernel_rfl) (by kernel_rfl) ?_
    repeat tb_rel
    refine f_law_drawn (k := k + 10) (by first | exact ok.less' | exact ok.less (by allgen_close_more)) (by decide) (by decide) hpool (by exact hsp) (by exact hrz _) ?_ (by exact hso)
    intro r ys hr0 hr hys
    exact ⟨rfl, ys, r, ⟨hr0, hr⟩, hN.put1 _, hso.set (belL_ints _), hys, List.getElem?_set_self (List.getElem?_eq_some_iff.mp hsp).1, by allgen_close2_more, by tb_start⟩
  clear hl hv3 hsp hpool hN hso
  intro loc sto hJ0
  refine (?_ : let G0 := _; G0); intro G0
  obtain ⟨pool, sort, hs, hN, hso, hpool, hsp, hl, v1⟩ := hJ0
  unfold G0; clear G0
  have hv3 := hl.pool
  with_reducible refine XW.mid (fun S1 => E2 (fun (pool : List Int) (which : Int) => A8 ((0 ≤ which ∧ which < 3)) (NetAt S1.sto 2 3 4 5 N) (StoOk S1.sto) (PoolOk pool) (S1.sto[1]? = some (.lst (pool.map .int))) (Loc1 S1.loc ws M) (S1.loc.lookup ("sort" : Str) = some (.int sort)) (S1.loc.lookup ("which" : Str) = some (.int which)))) ?_ ?_
  · top_caught0
    repeat tb_rel
    refine EW.callDef (f := 230) ok.W ⟨rfl, rfl, rfl⟩ (by kernel_rfl) (by kernel_rfl) ?_
    repeat tb_rel
    refine f_law_drawn (k := k + 10) (by first | exact ok.less' | exact ok.less (by allgen_close_more)) (by decide) (by decide) hpool (by exact hsp) (by exact hrz _) ?_ (by exact hso)
    intro r ys hr0 hr hys
    exact ⟨rfl, ys, r, ⟨hr0, hr⟩, hN.put1 _, hso.set (belL_ints _), hys, List.getElem?_set_self (List.getElem?_eq_some_iff.mp hsp).1, by allgen_close2_more, by tb_start, by tb_start⟩
  intro loc sto hJ0
  refine (?_ : let G0 := _; G0); intro G0
  obtain ⟨pool, which, hw, hN, hso, hpool, hsp, hl, v1, v2⟩ := hJ0
  unfold G0; clear G0
  with_reducible exact p loc sto pool sort which hs hw hN hso hpool hsp hl v1 v2

theorem law_body {c : Cx} {S : St} {k : Nat} (ok : Ok c (k + 100)) {fd : FuncData} {sts : List Stmt} (h : IsLaw c.w.params fd sts) {L : Addr} (hc : c.env = callEnvC fd L 257) (hst : c.g.stack = [c.env]) (hro : c.g.ro = 0) (hS : S.sto = []) {xs : List Int} (hx : xs.length ≤ 63) (hv : S.has "script" (.lst (xs.map .int))) (hG : GoodLaw) (hB : BadLaw) {P : Fl → St → Prop} (pT : ∀ S', P (.ret (.bool true)) S') : XW c S sts P := by
  refine law_0 ok h hc hx hS hv ?_
  intro zs pool loc hpool S1 v1 v2 v3 v4
  refine law_1 ok h hc hpool hro v1 v2 v3 v4 ?_
  clear v1 v2 v3 v4 S1 hpool pool loc
  intro pool ws loc hpool hws hws1 S1 v1 v2 v3 v4
  refine law_2 ok h hc hpool hws hro rfl v1 v2 v3 v4 ?_
  clear v1 v2 v3 v4 S1 hpool pool loc
  intro pool M loc sto hpool hM1 hM7 hsto hl
  refine law_3 ok h hc hpool hws hM1 hM7 hro hsto hl ?_
  clear hl hsto sto hpool pool loc
  intro pool cells loc sto hpool hcl hce hsto hl
  have hcl7 : cells.length ≤ 7 := by allgen_close_more
  have hdl : (cells.flatMap (dueOf (texts ws))).length ≤ 14 := by
    have : ∀ l : List Cell, (l.flatMap (dueOf (texts ws))).length ≤ 2 * l.length := by
      intro l
      induction l with
      | nil => simp
      | cons x l ih =>
        rw [List.flatMap_cons, List.length_append, List.length_cons]
        have : (dueOf (texts ws) x).length ≤ 2 := by
          unfold dueOf; split
          · split <;> simp
          · simp
        allgen_close_more
    have h1 := this cells
    allgen_close_more
  refine law_4 ok h hc hpool hws hM1 hM7 hcl7 hdl hro hsto hl ?_
  clear hl hsto sto hpool pool loc
  intro pool outs loc sto hpool ho1 ho2 hoe hsto hl v1
  have hLN : LawNet ws M cells outs := ⟨hws, hws1, hM1, hM7, hcl, hce, ho1, ho2, hoe⟩
  obtain ⟨d1, d2, d3⟩ := dues_len hLN
  have hsum := hws.sum
  have hwl := hws.1
  have hsp : sto[1]? = some (.lst (pool.map .int)) := by rw [hsto]; rfl
  have hN : NetAt sto 2 3 4 5 (netW ws M cells outs) := by rw [hsto]; exact ⟨rfl, rfl, rfl, rfl⟩
  have hso : StoOk sto := by rw [hsto]; exact stoC_ok0
  refine law_5 ok h hc (hG _ _ _ _ hLN) (by rw [List.length_append]; allgen_close_more) (by rw [insOf_len]; allgen_close_more) (by allgen_close_more) hsto hl v1 ?_
  clear hl v1 hsto loc
  intro loc hl
  refine law_5b ok h hc hro hN hso hpool hsp hl ?_
  clear hN hso hpool hsp hl pool sto loc
  intro loc sto pool sort which hs hw hN hso hpool hsp hl v1 v2
  obtain ⟨b0, b1, b2, b3, b4, b5, b6, b7, b8, b9⟩ := hB _ _ _ _ hLN
  have hNc : (netW ws M cells outs).count = 2 + ws.sum + M := rfl
  have hil : (netW ws M cells outs).ins.length ≤ 2 := by show (insOf ws).length ≤ 2; simp [insOf]; allgen_close_more
  refine law_6a ok h hc hst hws hM7 hNc hcl7 hs hw hro hN hso hl v1 v2 b0 b1 b2 pT ?_
  intro q0 q1 q2
  refine law_6b ok h hc hst hws hM7 hNc hcl7 hil ho2 hs hw hro hN hso hpool hsp hl v1 v2 b3 b4 b5 b6 pT ?_
  intro q3 q4 q5 q6
  exact law_6c ok h hc hst hws hM7 hNc hcl7 hil ho2 hs hw hro hN hso hpool hsp hl v1 v2 b7 b8 b9 pT ⟨q0, q1, q2, q3, q4, q5, q6⟩
end

section
open PySem PySem.W PyProof.Rows PySem.Calls
theorem wellAll_ints {P : Params} {h : Heap} {us : List Value} {xs : List Int} (x : WellAll P h us (xs.map WData.int)) : VRs h [] (xs.map .int) us := by
  induction xs generalizing us with
  | nil => cases x; exact .nil
  | cons y xs ih =>
    cases x with
    | cons a r => cases a; exact .cons (.int _ _) (ih r)
theorem VRs.ints {h : Heap} {us : List Value} {xs : List Int} (x : VRs h [] (xs.map .int) us) (h' : Heap) : VRs h' [] (xs.map .int) us := by
  induction xs generalizing us with
  | nil => cases x; exact .nil
  | cons y xs ih =>
    cases x with
    | cons a r => cases a; exact .cons (.int _ _) (ih r)

theorem enter_top {prog : Program} {w : World} {A : Around} {K : Frag} {f : Addr} {names : List Str} {fd : FuncData} {body : List Stmt} (F : FnAt K f names fd body) {s : Shared} (hW : Wd K s.heap) (hroom : A.depth < recursionLimit) (hg : s.gens = #[]) {us : List Value} {vs : List V}
    (hus : ∀ h : Heap, (∀ b o, s.heap.get? b = some o → h.get? b = some o) → VRs h [] vs us) (hlen : names.length = vs.length) {Q E : Value → Shared → Prop}
    (h : ∀ L, XW ⟨prog, w, { s₀ := s, ro := 0, stack := [callEnvC fd L f] }, A.deeper (callEnvC fd L f), callEnvC fd L f, fun _ _ => False⟩ ⟨names.zip vs, []⟩ body fun fl _ => fl = .ret (.bool true))
    (q : ∀ h' tk', (∀ b o, s.heap.get? b = some o → h'.get? b = some o) → Q (.bool true) (shT s h' tk')) :
    wpAny (model prog w) A (call (.ref f) us) Q E s := by
  obtain ⟨oc, od, sl, ho⟩ := F.ho
  have pre : Pre prog w { s₀ := s, ro := 0, stack := [] } [] [] s := ⟨⟨hg, rfl⟩, fun _ _ e => e, fun i p hp => (by cases i <;> cases hp), Nat.zero_le _, fun p hp => (by cases hp), rfl, fun _ _ i p o e1 => (by cases i <;> cases e1), List.nodup_nil, trivial, fun p hp => (by cases hp)⟩
  refine wpAny_call (enter_core pre (hW.X _ _ ho) hW.lim (codeRec_of hW.X F.hcd) F.hbody F.hclo hroom hlen hus F.hnd (F.hb s us ((hus s.heap fun _ _ e => e).length.trans hlen.symm)) F.hkinds F.hcn F.hco F.hgen F.hk fun h₁ tk₁ hk₁ hCn r₁ => ?_)
  have hLn : s.heap.get? (callEnvC fd s.heap.objs.size f).locals = none := fresh_none
  refine h s.heap.objs.size [] _ _ _ r₁ (fun fl S' ρ' u h' tk' p₂ r₂ o₂ st₂ => ?_) ⟨fun e s' hXe => hXe.elim, PassesOwn.leaving⟩
  subst p₂
  cases o₂ with
  | ret hv =>
    cases hv
    refine q h' tk' fun b o e => ?_
    refine st₂.keep b o (hk₁ b o e) (fun p hp => by cases hp) ?_ ?_
    · rintro rfl; rw [hLn] at e; cases e
    · rintro _ c hc rfl; rw [hCn c hc] at e; cases e
end

section
open PySem PySem.W PyProof.Rows PySem.Calls
theorem law_fnAt (P : Params) : ∃ fd sts, FnAt (KF P) 257 ["script"] fd sts ∧ IsLaw P fd sts := by
  refine ⟨_, _, ⟨⟨_, _, _, rfl⟩, by rfl, by rfl, by rfl, by decide +kernel, fun s us hu => ?_, by decide +kernel, by decide +kernel, by rfl, by rfl, by rfl⟩, ⟨_, _, _, rfl, by rfl⟩⟩
  obtain ⟨a, rfl⟩ := len1 hu
  exact .of_eq (by rfl)

theorem ofPys_ints : ∀ xs : List Int, ofPys (xs.map PyData.int) = xs.map WData.int
  | [] => rfl
  | x :: xs => by
    show ofPy (PyData.int x) :: ofPys (xs.map PyData.int) = _
    rw [ofPys_ints xs]; rfl
theorem law_holds (gl : GoodLaw) (bl : BadLaw) : PySem.Challenge.rw_sj0035_01.Holds := by
  refine hd ?_
  k_fill
  intro w s₀ s₁ mg mb G Y fa o pm cd doc dV kV ho hd hcd hD hmg hg args vals as hpre hlay hrd hwl hlo
  have KX := kIn_of Y
  have X := (Ground.X G).1
  have V := (Ground.X G).2
  refine Ground.open G ?_
  intro T B D TE TW
  clear D
  clear hd hcd hD
  wrow_args hpre hlay hrd hwl hlo
  rename_i xs _ _ _ _ _ _ _ la us _ hL ra w1 r0 hI hr hcond _
  obtain rfl : fa = 257 := by
    have e := mg_of KX T.g (n := "law") (v := .ref 257) (by rfl)
    rw [show mg "law" = _ from hmg] at e
    injection e with e; injection e
  have hW : Wd (KF w.params) s₁.heap := ⟨KX, ⟨mg, mb, T.g, T.b, T.builtins⟩, T.nolimit, T.nodigits⟩
  obtain ⟨fd, sts, F, hL⟩ := law_fnAt w.params
  obtain ⟨us, hpl, hus⟩ : ∃ us, s₁.heap.PlainList la us.toArray ∧ VRs s₁.heap [] (xs.map .int) us := by
    have w2 := w1
    rw [show ofPy (PyData.list (xs.map PyData.int)) = WData.list (xs.map WData.int) from by show WData.list (ofPys (xs.map PyData.int)) = _; rw [ofPys_ints]] at w2
    cases w2 with
    | list e r => exact ⟨_, ⟨_, e⟩, wellAll_ints r⟩
  refine enter_top F hW (by decide +kernel) hg (vs := [.lst (xs.map .int)]) (fun h hk => .cons (.lst (by obtain ⟨n, e⟩ := hpl; exact ⟨n, hk _ _ e⟩) (fun p hp => by cases hp) (hus.ints h)) .nil) rfl (fun L => ?_) fun h' tk' hk' => ?_
  · refine law_body (k := 100) (xs := xs) ⟨hW, rfl, by show 1 + claimMargin + 1 + (100 + 100) < recursionLimit; decide +kernel, by show 4 + 3 + 10 * (100 + 100) < cLine; decide +kernel, rfl⟩ hL rfl rfl rfl rfl (by allgen_close_more) (by rfl) gl bl ?_
    intro S'
    rfl
  · refine ⟨.inl ⟨_, .bool true, [], rfl, fun _ => rfl, .bool true, by wrow_post, fun _ => ⟨List.nodup_nil, fun _ h => by cases h⟩⟩, .of_keep hk', rfl, .of_eq hg⟩
end

section
open PySem PySem.W PyProof.Rows PySem.Calls
noncomputable def jl (c : Nat) : List (List Nat) → List Nat
  | [] => []
  | [p] => p
  | p :: q :: r => p ++ c :: jl c (q :: r)
theorem jl_inj_one {c : Nat} : ∀ {p q X Y : List Nat}, c ∉ p → c ∉ q → p ++ c :: X = q ++ c :: Y → p = q ∧ X = Y
  | [], [], X, Y, _, _, h => by simpa using h
  | [], b :: q, X, Y, _, hq, h => by
    simp only [List.nil_append, List.cons_append, List.cons.injEq] at h
    exact absurd (List.mem_cons.mpr (.inl h.1)) hq
  | a :: p, [], X, Y, hp, _, h => by
    simp only [List.nil_append, List.cons_append, List.cons.injEq] at h
    exact absurd (List.mem_cons.mpr (.inl h.1.symm)) hp
  | a :: p, b :: q, X, Y, hp, hq, h => by
    simp only [List.cons_append, List.cons.injEq] at h
    obtain ⟨h1, h2⟩ := jl_inj_one (fun x => hp (.tail _ x)) (fun x => hq (.tail _ x)) h.2
    exact ⟨by rw [h.1, h1], h2⟩
theorem jl_inj {c : Nat} : ∀ {l m : List (List Nat)}, l ≠ [] → m ≠ [] → (∀ p ∈ l, c ∉ p) → (∀ p ∈ m, c ∉ p) → jl c l = jl c m → l = m
  | [], _, h, _, _, _, _ => absurd rfl h
  | _, [], _, h, _, _, _ => absurd rfl h
  | [p], [q], _, _, _, _, h => by rw [show p = q from h]
  | [p], q :: q2 :: r, _, _, hl, _, h => by
    have : p = q ++ c :: jl c (q2 :: r) := h
    exact absurd (by rw [this]; simp) (hl p (.head _))
  | p :: p2 :: r, [q], _, _, _, hm, h => by
    have : p ++ c :: jl c (p2 :: r) = q := h
    exact absurd (by rw [← this]; simp) (hm q (.head _))
  | p :: p2 :: r, q :: q2 :: s, _, _, hl, hm, h => by
    obtain ⟨h1, h2⟩ := jl_inj_one (hl p (.head _)) (hm q (.head _)) (show p ++ c :: jl c (p2 :: r) = q ++ c :: jl c (q2 :: s) from h)
    rw [h1, jl_inj (List.cons_ne_nil _ _) (List.cons_ne_nil _ _) (fun x hx => hl x (.tail _ hx)) (fun x hx => hm x (.tail _ hx)) h2]
theorem join_jl (c : Nat) : ∀ l : List Str, (Str.join ⟨#[c]⟩ l).cps.toList = jl c (l.map fun x => x.cps.toList)
  | [] => rfl
  | [p] => rfl
  | p :: q :: r => by
    have := join_jl c (q :: r)
    show ((p ++ ⟨#[c]⟩) ++ Str.join ⟨#[c]⟩ (q :: r)).cps.toList = p.cps.toList ++ c :: jl c ((q :: r).map fun x => x.cps.toList)
    rw [← this, Str.cps_append, Str.cps_append]
    simp
theorem split_join {c : Nat} {l : List Str} (hl : l ≠ []) (h : ∀ p ∈ l, c ∉ p.cps.toList) : Txt.split (Txt.join ⟨#[c]⟩ l) ⟨#[c]⟩ = l := by
  have e : Txt.join ⟨#[c]⟩ l = Str.join ⟨#[c]⟩ l := StrLaws.glued_eq_join _ _
  rw [e]
  have h1 := StrLaws.join_split (Str.join ⟨#[c]⟩ l) ⟨#[c]⟩
  have h2 := StrLaws.split_free (Str.join ⟨#[c]⟩ l) c
  generalize hm : Txt.split (Str.join ⟨#[c]⟩ l) ⟨#[c]⟩ = m at h1 h2
  have hmn : m ≠ [] := by
    intro z
    have := split_pos (Str.join ⟨#[c]⟩ l) ⟨#[c]⟩
    rw [hm, z] at this
    simp at this
  have h3 : jl c (m.map fun x => x.cps.toList) = jl c (l.map fun x => x.cps.toList) := by rw [← join_jl, ← join_jl, h1]
  have h4 := jl_inj (by simpa using hmn) (by simpa using hl) (by simpa using h2) (by simpa using h) h3
  have inj : ∀ a b : Str, a.cps.toList = b.cps.toList → a = b := fun a b e => Str.ext' (Array.toList_inj.mp e)
  exact (List.map_inj_right (fun a b e => inj a b e)).mp h4

theorem pickL_init {α : Type} (l : List α) (x : α) : pickL (l ++ [x]) none (some (-1)) = l := by
  unfold pickL sliceBounds
  have e1 : max (0 : Int) (min (-1 + ((l ++ [x]).length : Int)) ((l ++ [x]).length : Int)) = (l.length : Int) := by
    rw [List.length_append, List.length_singleton]; allgen_close_more
  simp only [Option.getD_none, show ((1 : Int) > 0) = True from by simp, if_true, show ((-1 : Int) < 0) = True from by simp, e1]
  unfold sliceRange
  have e3 : (if (0 : Int) < (l.length : Int) then ((l.length : Int) - 0 + 1 - 1) / 1 else 0).toNat = l.length := by
    split
    · rw [Int.ediv_one]; allgen_close_more
    · allgen_close_more
  simp only [show ((1 : Int) > 0) = True from by simp, if_true, e3]
  have h := StrLaws.picks (l ++ [x]) l.length 0 (by rw [List.length_append]; allgen_close_more)
  have e4 : (List.range l.length).map (fun (k : Nat) => ((0 : Int) + 1 * (k : Int)).toNat) = (List.range l.length).map (fun k => 0 + k) := List.map_congr_left fun k _ => by allgen_close_more
  rw [e4, h]
  simp

theorem slice_tail (a b : Str) (hb : b.length = 6) (ha : 0 < a.length) : Txt.slice (a ++ b) (some (-6)) none = b := by
  have hl : (a ++ b).length = a.length + 6 := by rw [Str.length_append, hb]
  have e1 : max (0 : Int) (min (-6 + ((a ++ b).length : Int)) ((a ++ b).length : Int)) = (a.length : Int) := by rw [hl]; allgen_close_more
  have hidx : Builtin.Str.strSliceIndices (some (-6)) none 1 (a ++ b).length = (List.range 6).map (fun k => a.length + k) := by
    unfold Builtin.Str.strSliceIndices sliceRange
    simp only [show ((1 : Int) > 0) = True from by simp, if_true, show ((-6 : Int) < 0) = True from by simp, e1]
    have e3 : (if (a.length : Int) < ((a ++ b).length : Int) then (((a ++ b).length : Int) - (a.length : Int) + 1 - 1) / 1 else 0).toNat = 6 := by
      rw [if_pos (by allgen_close_more), Int.ediv_one]; allgen_close_more
    simp only [e3]
    exact List.map_congr_left fun k _ => by allgen_close_more
  unfold Txt.slice
  rw [hidx, if_neg (by simp; allgen_close_more)]
  have h := StrLaws.picks (a ++ b).cps.toList 6 a.length (by rw [Array.length_toList]; exact Nat.le_of_eq hl.symm)
  refine Str.ext' ?_
  have h2 : (((List.range 6).map (fun k => a.length + k)).filterMap ((a ++ b).cps[·]?)) = b.cps.toList := by
    rw [show (fun i : Nat => (a ++ b).cps[i]?) = fun i => (a ++ b).cps.toList[i]? from by funext i; simp]
    rw [h, Str.cps_append, Array.toList_append, List.drop_append_of_le_length (by unfold Str.length; simp)]
    have : (List.drop a.length a.cps.toList) = [] := List.drop_eq_nil_of_le (by unfold Str.length; simp)
    rw [this, List.nil_append, List.take_of_length_le (by have := hb; unfold Str.length at this; simp [this])]
  show (List.filterMap _ _).toArray = b.cps
  rw [h2]
end

section
open PySem PySem.W PyProof.Rows PySem.Calls
noncomputable def clW (x : Str) : Bool := (x.cps.toList.all fun c => c != 32 && c != 10) && PyData.strOk x
noncomputable def clL (ws : List Str) : Prop := ws ≠ [] ∧ ∀ x ∈ ws, clW x = true
theorem clW.free32 {x : Str} (h : clW x = true) : 32 ∉ x.cps.toList := fun hm => by
  simp only [clW, Bool.and_eq_true, List.all_eq_true] at h
  have := (h.1 _ hm).1
  simp at this
theorem clW.free10 {x : Str} (h : clW x = true) : 10 ∉ x.cps.toList := fun hm => by
  simp only [clW, Bool.and_eq_true, List.all_eq_true] at h
  have := (h.1 _ hm).2
  simp at this
theorem space_eq : (" " : Str) = ⟨#[32]⟩ := by decide +kernel
theorem nl_eq : ("\n" : Str) = ⟨#[10]⟩ := by decide +kernel
theorem split_row {ws : List Str} (h : clL ws) : Txt.split (Txt.join " " ws) " " = ws := by
  rw [space_eq]; exact split_join h.1 fun p hp => clW.free32 (h.2 p hp)
theorem jl_mem {c d : Nat} : ∀ {l : List (List Nat)}, d ∈ jl c l → d = c ∨ ∃ p ∈ l, d ∈ p
  | [], h => by cases h
  | [p], h => .inr ⟨p, .head _, h⟩
  | p :: q :: r, h => by
    rcases List.mem_append.mp (show d ∈ p ++ c :: jl c (q :: r) from h) with h | h
    · exact .inr ⟨p, .head _, h⟩
    · rcases List.mem_cons.mp h with h | h
      · exact .inl h
      · rcases jl_mem h with h | ⟨x, hx, h⟩
        · exact .inl h
        · exact .inr ⟨x, .tail _ hx, h⟩
theorem free_row {ws : List Str} (h : clL ws) : 10 ∉ (Txt.join " " ws).cps.toList := by
  intro hm
  rw [space_eq, show Txt.join ⟨#[32]⟩ ws = Str.join ⟨#[32]⟩ ws from StrLaws.glued_eq_join _ _, join_jl] at hm
  rcases jl_mem hm with h1 | ⟨p, hp, h1⟩
  · cases h1
  · obtain ⟨x, hx, rfl⟩ := List.mem_map.mp hp
    exact clW.free10 (h.2 x hx) h1

noncomputable def rowsOf (b : Blk) : List (List Str) := b.1 :: b.2
noncomputable def textRows (RB : List Blk) : List Str := (RB.flatMap rowsOf).map (Txt.join " ")
structure BlkGood (b : Blk) : Prop where
  hd : clL b.1
  dot : dotted b.1
  rows : ∀ r ∈ b.2, clL r ∧ ¬ dotted r
theorem rows_step {acc : List Blk} {h : List Str} : ∀ {l done : List (List Str)}, (∀ r ∈ l, clL r ∧ ¬ dotted r) → (l.map (Txt.join " ")).foldl blkStep (acc ++ [(h, done)]) = acc ++ [(h, done ++ l)]
  | [], done, _ => by simp
  | r :: l, done, hl => by
    have h1 := hl r (.head _)
    rw [List.map_cons, List.foldl_cons]
    have : blkStep (acc ++ [(h, done)]) (Txt.join " " r) = acc ++ [(h, done ++ [r])] := by
      unfold blkStep
      rw [split_row h1.1, if_neg h1.2, addRow_last]
    rw [this, rows_step fun x hx => hl x (.tail _ hx)]
    simp
theorem blk_step {acc : List Blk} {b : Blk} (hb : BlkGood b) : ((rowsOf b).map (Txt.join " ")).foldl blkStep acc = acc ++ [b] := by
  unfold rowsOf
  rw [List.map_cons, List.foldl_cons]
  have : blkStep acc (Txt.join " " b.1) = acc ++ [(b.1, [])] := by
    unfold blkStep
    rw [split_row hb.hd, if_pos hb.dot]
  rw [this, rows_step hb.rows]
  simp
theorem raw_fold : ∀ {RB acc : List Blk}, (∀ b ∈ RB, BlkGood b) → (textRows RB).foldl blkStep acc = acc ++ RB
  | [], acc, _ => by simp [textRows]
  | b :: RB, acc, h => by
    have : textRows (b :: RB) = (rowsOf b).map (Txt.join " ") ++ textRows RB := by
      unfold textRows; rw [List.flatMap_cons, List.map_append]
    rw [this, List.foldl_append, blk_step (h b (.head _)), raw_fold fun x hx => h x (.tail _ hx)]
    simp
theorem raw_text {RB : List Blk} (h : ∀ b ∈ RB, BlkGood b) : rawBlocks (textRows RB) = RB := by
  unfold rawBlocks
  rw [raw_fold h]; simp

noncomputable def textOf (RB : List Blk) : Str := Txt.join "\n" (textRows RB) ++ "\n"
theorem textRows_free {RB : List Blk} (h : ∀ b ∈ RB, BlkGood b) : ∀ x ∈ textRows RB, 10 ∉ x.cps.toList := by
  intro x hx
  obtain ⟨ws, hws, rfl⟩ := List.mem_map.mp hx
  obtain ⟨b, hb, hws⟩ := List.mem_flatMap.mp hws
  rcases List.mem_cons.mp hws with rfl | hws
  · exact free_row (h b hb).hd
  · exact free_row ((h b hb).rows _ hws).1
theorem join_snoc_empty (sep : Str) : ∀ l : List Str, l ≠ [] → Str.join sep (l ++ [Str.empty]) = Str.join sep l ++ sep
  | [], h => absurd rfl h
  | [a], _ => by
    show a ++ sep ++ Str.empty = a ++ sep
    rw [Str.append_empty]
  | a :: b :: r, _ => by
    have := join_snoc_empty sep (b :: r) (List.cons_ne_nil _ _)
    show a ++ sep ++ Str.join sep ((b :: r) ++ [Str.empty]) = (a ++ sep ++ Str.join sep (b :: r)) ++ sep
    rw [this]
    simp only [Mine.Str.append_assoc]
theorem lines_text {RB : List Blk} (hne : RB ≠ []) (h : ∀ b ∈ RB, BlkGood b) : linesOf (textOf RB) = textRows RB := by
  have hn : textRows RB ≠ [] := by
    obtain ⟨b, r, rfl⟩ := List.exists_cons_of_ne_nil hne
    unfold textRows
    rw [List.flatMap_cons]
    unfold rowsOf
    simp
  have e : textOf RB = Txt.join ⟨#[10]⟩ (textRows RB ++ [Str.empty]) := by
    unfold textOf
    rw [show Txt.join ⟨#[10]⟩ (textRows RB ++ [Str.empty]) = Str.join ⟨#[10]⟩ (textRows RB ++ [Str.empty]) from StrLaws.glued_eq_join _ _, join_snoc_empty _ _ hn, nl_eq]
    rw [show Txt.join ⟨#[10]⟩ (textRows RB) = Str.join ⟨#[10]⟩ (textRows RB) from StrLaws.glued_eq_join _ _]
  unfold linesOf
  rw [e, nl_eq, split_join (by simp) fun p hp => ?_]
  · exact pickL_init _ _
  · rcases List.mem_append.mp hp with hp | hp
    · exact textRows_free h p hp
    · simp only [List.mem_singleton] at hp
      subst hp
      show 10 ∉ ([] : List Nat)
      simp
theorem blocks_text {RB : List Blk} (hne : RB ≠ []) (h : ∀ b ∈ RB, BlkGood b) : blocks (textOf RB) = RB.map fun b => (b.1, srt b.2) := by
  unfold blocks
  rw [lines_text hne h, raw_text h]
theorem join_snoc (sep a : Str) : ∀ l : List Str, l ≠ [] → Str.join sep (l ++ [a]) = Str.join sep l ++ (sep ++ a)
  | [], h => absurd rfl h
  | [x], _ => by
    show x ++ sep ++ a = x ++ (sep ++ a)
    rw [Mine.Str.append_assoc]
  | x :: b :: r, _ => by
    have := join_snoc sep a (b :: r) (List.cons_ne_nil _ _)
    show x ++ sep ++ Str.join sep ((b :: r) ++ [a]) = (x ++ sep ++ Str.join sep (b :: r)) ++ (sep ++ a)
    rw [this]
    simp only [Mine.Str.append_assoc]
theorem text_tail {RB : List Blk} (hne : RB ≠ []) (hp : 0 < (Txt.join "\n" (textRows RB)).length) : Txt.slice (textOf (RB ++ [endBlk])) (some (-6)) none = ("\n.end\n" : Str) := by
  have hn : textRows RB ≠ [] := by
    obtain ⟨b, r, rfl⟩ := List.exists_cons_of_ne_nil hne
    unfold textRows
    rw [List.flatMap_cons]
    unfold rowsOf
    simp
  have e : textRows (RB ++ [endBlk]) = textRows RB ++ [(".end" : Str)] := by
    unfold textRows
    rw [List.flatMap_append, List.map_append]
    congr 1
  unfold textOf
  rw [e]
  have : Txt.join "\n" (textRows RB ++ [(".end" : Str)]) ++ "\n" = Txt.join "\n" (textRows RB) ++ ("\n.end\n" : Str) := by
    rw [show Txt.join "\n" (textRows RB ++ [(".end" : Str)]) = Str.join "\n" (textRows RB ++ [(".end" : Str)]) from StrLaws.glued_eq_join _ _, join_snoc _ _ _ hn]
    rw [show Txt.join "\n" (textRows RB) = Str.join "\n" (textRows RB) from StrLaws.glued_eq_join _ _]
    simp only [Mine.Str.append_assoc]
    congr 1
  rw [this]
  exact slice_tail _ _ (by decide +kernel) hp
end

section
open PySem PySem.W PyProof.Rows PySem.Calls
noncomputable def wsAll : List (List Nat) := [[1], [2], [1, 1], [1, 2], [2, 1], [2, 2]]
theorem two_of {α : Type} {l : List α} (h1 : 1 ≤ l.length) (h2 : l.length ≤ 2) : (∃ a, l = [a]) ∨ ∃ a b, l = [a, b] := by
  rcases Nat.lt_or_ge l.length 2 with h | h
  · exact .inl (List.length_eq_one_iff.mp (Nat.le_antisymm (Nat.le_of_lt_succ h) h1))
  · cases l with
    | nil => cases h1
    | cons a l =>
      obtain ⟨b, rfl⟩ := List.length_eq_one_iff.mp (Nat.le_antisymm (Nat.le_of_succ_le_succ h2) (Nat.le_of_succ_le_succ h))
      exact .inr ⟨a, b, rfl⟩
theorem ws_shape {ws : List Nat} (h : WsOk ws) (h1 : 1 ≤ ws.length) : ws ∈ wsAll := by
  obtain ⟨h2, h3⟩ := h
  rcases two_of h1 h2 with ⟨a, rfl⟩ | ⟨a, b, rfl⟩
  · skip
    have := h3 a (.head _)
    have : a = 1 ∨ a = 2 := by allgen_close_more
    rcases this with rfl | rfl <;> decide
  · skip
    have ha := h3 a (.head _)
    have hb := h3 b (.tail _ (.head _))
    have ha : a = 1 ∨ a = 2 := by allgen_close_more
    have hb : b = 1 ∨ b = 2 := by allgen_close_more
    rcases ha with rfl | rfl <;> rcases hb with rfl | rfl <;> decide
noncomputable def OutsIn (cnt : Nat) (outs : List Port) : Prop :=
  (∃ a, outs = [(("y" : Str), [a])]) ∨ (∃ a b, outs = [(("y" : Str), [a, b])]) ∨ (∃ a b, outs = [(("y" : Str), [a]), (("z" : Str), [b])]) ∨ (∃ a b d, outs = [(("y" : Str), [a]), (("z" : Str), [b, d])]) ∨ (∃ a b d, outs = [(("y" : Str), [a, b]), (("z" : Str), [d])]) ∨ (∃ a b d e, outs = [(("y" : Str), [a, b]), (("z" : Str), [d, e])])
theorem outs_shape {cnt : Nat} {outs : List Port} (o1 : 1 ≤ outs.length) (o2 : outs.length ≤ 2) (oe : ∀ i q, outs[i]? = some q → OutLaw cnt i q) : OutsIn cnt outs := by
  have ey : Txt.item "yz" ((0 : Nat) : Int) = "y" := by decide +kernel
  have ez : Txt.item "yz" ((1 : Nat) : Int) = "z" := by decide +kernel
  rcases two_of o1 o2 with ⟨⟨n, l⟩, rfl⟩ | ⟨⟨n, l⟩, ⟨n', l'⟩, rfl⟩
  · skip
    obtain ⟨h1, h2, h3, _⟩ := oe 0 _ rfl
    rw [ey] at h1
    dsimp only at h1 h2 h3
    subst h1
    rcases two_of h2 h3 with ⟨a, rfl⟩ | ⟨a, b, rfl⟩
    · exact .inl ⟨a, rfl⟩
    · exact .inr (.inl ⟨a, b, rfl⟩)
  · skip
    obtain ⟨h1, h2, h3, _⟩ := oe 0 _ rfl
    obtain ⟨g1, g2, g3, _⟩ := oe 1 _ rfl
    rw [ey] at h1
    rw [ez] at g1
    dsimp only at h1 h2 h3 g1 g2 g3
    subst h1
    subst g1
    rcases two_of h2 h3 with ⟨a, rfl⟩ | ⟨a, b, rfl⟩ <;> rcases two_of g2 g3 with ⟨d, rfl⟩ | ⟨d, e, rfl⟩
    · exact .inr (.inr (.inl ⟨_, _, rfl⟩))
    · exact .inr (.inr (.inr (.inl ⟨_, _, _, rfl⟩)))
    · exact .inr (.inr (.inr (.inr (.inl ⟨_, _, _, rfl⟩))))
    · exact .inr (.inr (.inr (.inr (.inr ⟨_, _, _, _, rfl⟩))))
noncomputable def onsAll : List (List Str) := [["y[0]"], ["y[0]", "y[1]"], ["y[0]", "z[0]"], ["y[0]", "z[0]", "z[1]"], ["y[0]", "y[1]", "z[0]"], ["y[0]", "y[1]", "z[0]", "z[1]"]]
noncomputable def insAll : List (List Str) := [["a[0]"], ["a[0]", "a[1]"], ["a[0]", "b[0]"], ["a[0]", "b[0]", "b[1]"], ["a[0]", "a[1]", "b[0]"], ["a[0]", "a[1]", "b[0]", "b[1]"]]
theorem y0 : bitName "y" 0 = "y[0]" := by decide +kernel
theorem y1 : bitName "y" 1 = "y[1]" := by decide +kernel
theorem z0 : bitName "z" 0 = "z[0]" := by decide +kernel
theorem z1 : bitName "z" 1 = "z[1]" := by decide +kernel
theorem ons_shape {cnt : Nat} {outs : List Port} (h : OutsIn cnt outs) : bitNames outs ∈ onsAll := by
  have r1 : List.range 1 = [0] := rfl
  have r2 : List.range 2 = [0, 1] := rfl
  rcases h with ⟨a, rfl⟩ | ⟨a, b, rfl⟩ | ⟨a, b, rfl⟩ | ⟨a, b, d, rfl⟩ | ⟨a, b, d, rfl⟩ | ⟨a, b, d, e, rfl⟩ <;>
    simp only [bitNames, List.flatMap_cons, List.flatMap_nil, List.length_cons, List.length_nil, Nat.zero_add, r1, r2, List.map_cons, List.map_nil, y0, y1, z0, z1, List.append_nil, List.cons_append, List.nil_append] <;> decide +kernel
theorem ins_shape {ws : List Nat} (h : ws ∈ wsAll) : texts ws ∈ insAll := by
  have : ∀ ws ∈ wsAll, texts ws ∈ insAll := by decide +kernel
  exact this ws h
theorem ins_nets {ws : List Nat} (h : ws ∈ wsAll) : (insOf ws).flatMap (·.2) = (List.range ws.sum).map fun (j : Nat) => ((2 + j : Nat) : Int) := by
  have : ∀ ws ∈ wsAll, (insOf ws).flatMap (·.2) = (List.range ws.sum).map fun (j : Nat) => ((2 + j : Nat) : Int) := by decide +kernel
  exact this ws h

noncomputable def good20 : List Str := ["a[0]", "a[1]", "b[0]", "b[1]", "y[0]", "y[1]", "z[0]", "z[1]", "x[0]", "x[1]", "c[0]"]
theorem good20_ok : ∀ x ∈ good20, checkedName x = .ok x ∧ nameOk x = true ∧ clW x = true := by
  have h1 : ∀ x ∈ good20, Txt.words x = [x] := by decide +kernel
  have h2 : ∀ x ∈ good20, Txt.contains x "#" = false ∧ Txt.item x (-1) ≠ "\\" := by decide +kernel
  have h3 : ∀ x ∈ good20, nameOk x = true ∧ clW x = true := by decide +kernel
  intro x hx
  refine ⟨?_, h3 x hx⟩
  unfold checkedName
  rw [if_neg]
  rintro (h | h | h)
  · exact h (h1 x hx)
  · rw [(h2 x hx).1] at h; cases h
  · exact (h2 x hx).2 h
theorem seen_ok : ∀ {l seen : List Str}, (∀ x ∈ l, x ∈ good20) → (seen ++ l).Nodup → foldE seenStep seen l = .ok (seen ++ l)
  | [], seen, _, _ => by simp [foldE]
  | a :: l, seen, h, hd => by
    have h1 : a ∉ seen := fun hm => by
      rw [List.nodup_append] at hd
      exact hd.2.2 a hm a (.head _) rfl
    have hs : seenStep seen a = .ok (seen ++ [a]) := by
      unfold seenStep
      rw [if_neg h1, (good20_ok a (h a (.head _))).1, okBind]
    rw [foldE_cons, hs, okBind]
    rw [seen_ok (fun x hx => h x (.tail _ hx)) (by simpa using hd)]
    simp
theorem ports_ok : ∀ {l : List Port}, (∀ p ∈ l, p.2 ≠ []) → foldE portStep () l = .ok ()
  | [], _ => rfl
  | p :: l, h => by
    unfold foldE portStep
    rw [if_neg (by have := h p (.head _); simpa using this), okBind]
    exact ports_ok fun x hx => h x (.tail _ hx)

theorem base_nmT (m : Nat) : baseNames m = nmT [] (2 + m) := by
  induction m with
  | zero => rfl
  | succ m ih =>
    rw [baseNames_succ, ih, show 2 + (m + 1) = (2 + m) + 1 from by allgen_close_more, nmT_succ]
    congr 1
    have : ((2 + m : Nat) : Int) = 2 + (m : Int) := by allgen_close_more
    rw [← this]
    unfold nameOf
    rw [if_neg (by allgen_close_more), if_neg (by allgen_close_more), if_neg (by simp)]
theorem nmT_putN {T : List Str} {t : Str} {n : Nat} (h : 2 + T.length < n) : putN (nmT T n) ((2 + T.length : Nat) : Int) t = nmT (T ++ [t]) n := by
  unfold putN nmT
  rw [List.map_map]
  refine List.map_congr_left fun i hi => ?_
  have hi := List.mem_range.mp hi
  show (if (i : Int) = ((2 + T.length : Nat) : Int) then ((i : Int), t) else ((i : Int), nameOf T i)) = ((i : Int), nameOf (T ++ [t]) i)
  by_cases e : i = 2 + T.length
  · subst e
    rw [if_pos rfl]
    unfold nameOf
    rw [if_neg (by allgen_close_more), if_neg (by allgen_close_more), if_pos (by simp), List.getD_eq_getElem?_getD, show 2 + T.length - 2 = T.length from by allgen_close_more]
    simp
  · rw [if_neg (by allgen_close_more)]
    by_cases h2 : i < 2 + T.length
    · rw [nameOf_app T t h2]
    · unfold nameOf
      by_cases h0 : i = 0
      · allgen_close_more
      · by_cases h1 : i = 1
        · allgen_close_more
        · rw [if_neg h0, if_neg h1, if_neg h0, if_neg h1, if_neg h2, if_neg (by simp; allgen_close_more)]
theorem nets_fold (T : List Str) (n : Nat) : ∀ k, k ≤ T.length → 2 + k ≤ n → foldE (netStep T) ([], nmT [] n) ((List.range k).map fun (j : Nat) => ((2 + j : Nat) : Int)) = .ok ((List.range k).map fun (j : Nat) => ((2 + j : Nat) : Int), nmT (T.take k) n)
  | 0, _, _ => rfl
  | k + 1, h, h2 => by
    rw [List.range_succ, List.map_append]
    refine foldE_snoc (nets_fold T n k (by allgen_close_more) (by allgen_close_more)) ?_
    unfold netStep
    have hk : T[k]? = some T[k] := List.getElem?_eq_getElem (by allgen_close_more)
    have hl : (T.take k).length = k := by simp; allgen_close_more
    rw [if_neg]
    · show Except.ok _ = _
      rw [show ((List.map (fun (j : Nat) => ((2 + j : Nat) : Int)) (List.range k), nmT (T.take k) n) : List Int × Names).1.length = k from by simp]
      congr 2
      show putN (nmT (T.take k) n) ((2 + k : Nat) : Int) (T.getD k "") = nmT (T.take (k + 1)) n
      have := nmT_putN (T := T.take k) (t := T[k]) (n := n) (by rw [hl]; allgen_close_more)
      rw [hl] at this
      rw [List.getD_eq_getElem?_getD, hk, Option.getD_some, this, take_snoc hk]
    · rintro (h3 | h3 | h3)
      · have h3 : ((2 + k : Nat) : Int) < 2 := h3
        allgen_close_more
      · obtain ⟨j, hj, e⟩ := List.mem_map.mp h3
        have := List.mem_range.mp hj
        have e : ((2 + j : Nat) : Int) = ((2 + k : Nat) : Int) := e
        allgen_close_more
      · have h4 : (nmT (T.take k) n).get ((2 + k : Nat) : Int) = none := h3
        rw [nmT_get (by allgen_close_more)] at h4
        cases h4
end

section
open PySem PySem.W PyProof.Rows PySem.Calls
theorem sig_parts {ws : List Nat} (hw : ws ∈ wsAll) {m : Nat} (hm : ws.sum ≤ m) : foldE (netStep (texts ws)) ([], baseNames m) ((insOf ws).flatMap (·.2)) = .ok ((List.range ws.sum).map fun (j : Nat) => ((2 + j : Nat) : Int), nmT (texts ws) (2 + m)) := by
  rw [base_nmT, ins_nets hw]
  have hl : (texts ws).length = ws.sum := insOf_len ws
  rw [nets_fold _ _ _ (by allgen_close_more) (by allgen_close_more), List.take_of_length_le (by allgen_close_more)]
theorem texts_good {ws : List Nat} (hw : ws ∈ wsAll) : ∀ x ∈ texts ws, x ∈ good20 := by
  have : ∀ l ∈ insAll, ∀ x ∈ l, x ∈ good20 := by decide +kernel
  exact this _ (ins_shape hw)
theorem ons_good {cnt : Nat} {outs : List Port} (h : OutsIn cnt outs) : ∀ x ∈ bitNames outs, x ∈ good20 := by
  have : ∀ l ∈ onsAll, ∀ x ∈ l, x ∈ good20 := by decide +kernel
  exact this _ (ons_shape h)
theorem all_nodup {ws : List Nat} (hw : ws ∈ wsAll) {cnt : Nat} {outs : List Port} (h : OutsIn cnt outs) : (texts ws ++ [("c[0]" : Str)] ++ bitNames outs ++ [("x[0]" : Str), "x[1]"]).Nodup := by
  have : ∀ l ∈ insAll, ∀ m ∈ onsAll, (l ++ [("c[0]" : Str)] ++ m ++ [("x[0]" : Str), "x[1]"]).Nodup := by decide +kernel
  exact this _ (ins_shape hw) _ (ons_shape h)
theorem ins_ne {ws : List Nat} (hw : ws ∈ wsAll) : ∀ p ∈ insOf ws, p.2 ≠ [] := by
  have : ∀ ws ∈ wsAll, ∀ p ∈ insOf ws, p.2 ≠ [] := by decide +kernel
  exact this ws hw
theorem outs_ne {cnt : Nat} {outs : List Port} (h : OutsIn cnt outs) : ∀ p ∈ outs, p.2 ≠ [] := by
  rcases h with ⟨a, rfl⟩ | ⟨a, b, rfl⟩ | ⟨a, b, rfl⟩ | ⟨a, b, d, rfl⟩ | ⟨a, b, d, rfl⟩ | ⟨a, b, d, e, rfl⟩ <;> simp
theorem sig_ok {ws : List Nat} (hw : ws ∈ wsAll) {cnt : Nat} {outs : List Port} (ho : OutsIn cnt outs) {N : Net} (h1 : N.ins = insOf ws) (h2 : N.outs = outs) {m : Nat} (h3 : N.count = 2 + m) (hm : ws.sum ≤ m) : signalNames N = .ok (nmT (texts ws) (2 + m)) := by
  unfold signalNames
  rw [h1, h2, h3, ports_ok (fun p hp => (List.mem_append.mp hp).elim (ins_ne hw p) (outs_ne ho p)), okBind]
  rw [seen_ok (l := texts ws ++ bitNames outs) (fun x hx => (List.mem_append.mp hx).elim (texts_good hw x) (ons_good ho x)) ?nd, okBind]
  case nd =>
    have := all_nodup hw ho
    rw [List.append_assoc, List.append_assoc] at this
    rw [List.nil_append]
    refine this.sublist (List.Sublist.append (List.Sublist.refl _) ?_)
    refine List.Sublist.trans ?_ (List.sublist_append_right _ _)
    exact List.sublist_append_left _ _
  rw [show ((2 + m : Nat) : Nat) - 2 = m from by allgen_close_more]
  rw [sig_parts hw hm, okBind]
theorem sig_okX {ws : List Nat} (hw : ws ∈ wsAll) {cnt : Nat} {outs : List Port} (ho : OutsIn cnt outs) {N : Net} (h1 : N.ins = insOf ws) {a b : Int} (h2 : N.outs = outs ++ [(("x" : Str), [a, b])]) {m : Nat} (h3 : N.count = 2 + m) (hm : ws.sum ≤ m) : signalNames N = .ok (nmT (texts ws) (2 + m)) := by
  unfold signalNames
  have ex : bitNames (outs ++ [(("x" : Str), [a, b])]) = bitNames outs ++ [("x[0]" : Str), "x[1]"] := by
    have e0 : bitName "x" 0 = "x[0]" := by decide +kernel
    have e1 : bitName "x" 1 = "x[1]" := by decide +kernel
    rw [bitNames_append, bitNames_one]
    show _ ++ [bitName "x" 0, bitName "x" 1] = _
    rw [e0, e1]
  have hx : ∀ x ∈ ([("x[0]" : Str), "x[1]"] : List Str), x ∈ good20 := by decide +kernel
  rw [h1, h2, h3, ports_ok (fun p hp => (List.mem_append.mp hp).elim (ins_ne hw p) fun hp => (List.mem_append.mp hp).elim (outs_ne ho p) fun hp => by simp at hp; subst hp; simp), okBind, ex]
  rw [seen_ok (l := texts ws ++ (bitNames outs ++ [("x[0]" : Str), "x[1]"])) (fun x hx' => (List.mem_append.mp hx').elim (texts_good hw x) fun hx' => (List.mem_append.mp hx').elim (ons_good ho x) (hx x)) ?nd, okBind]
  case nd =>
    have := all_nodup hw ho
    rw [List.append_assoc, List.append_assoc] at this
    rw [List.nil_append]
    refine this.sublist (List.Sublist.append (List.Sublist.refl _) ?_)
    exact List.sublist_append_right _ _
  rw [show ((2 + m : Nat) : Nat) - 2 = m from by allgen_close_more]
  rw [sig_parts hw hm, okBind]
theorem sig_c {ws : List Nat} (hw : ws ∈ wsAll) {cnt : Nat} {outs : List Port} (ho : OutsIn cnt outs) {N : Net} {z : Int} (h1 : N.ins = insOf ws ++ [(("c" : Str), [z])]) (h2 : N.outs = outs) {m : Nat} (h3 : N.count = 2 + m) (hm : ws.sum ≤ m) (hz : z = 2 ∨ z = 1 ∨ z = (N.count : Int) + 3) : signalNames N = .error ("bad_net", istr z) := by
  unfold signalNames
  have ex : bitNames (insOf ws ++ [(("c" : Str), [z])]) = texts ws ++ [("c[0]" : Str)] := by
    have e0 : bitName "c" 0 = "c[0]" := by decide +kernel
    rw [bitNames_append, bitNames_one]
    show _ ++ [bitName "c" 0] = _
    rw [e0]
  have hx : ("c[0]" : Str) ∈ good20 := by decide +kernel
  rw [h1, h2, ports_ok (fun p hp => (List.mem_append.mp hp).elim (fun hp => (List.mem_append.mp hp).elim (ins_ne hw p) fun hp => by simp at hp; subst hp; simp) (outs_ne ho p)), okBind, ex]
  rw [seen_ok (l := texts ws ++ [("c[0]" : Str)] ++ bitNames outs) (fun x hx' => (List.mem_append.mp hx').elim (fun hx' => (List.mem_append.mp hx').elim (texts_good hw x) fun hx' => by simp at hx'; subst hx'; exact hx) (ons_good ho x)) ?nd, okBind]
  case nd =>
    have := all_nodup hw ho
    rw [List.nil_append]
    exact this.sublist (List.sublist_append_left _ _)
  rw [List.flatMap_append]
  have hs : 1 ≤ ws.sum := by
    have : ∀ ws ∈ wsAll, 1 ≤ ws.sum := by decide
    exact this ws hw
  have hk : ws.sum = (texts ws).length := (insOf_len ws).symm
  have hp : foldE (netStep (texts ws ++ [("c[0]" : Str)])) ([], baseNames (N.count - 2)) ((insOf ws).flatMap (·.2)) = .ok ((List.range ws.sum).map fun (j : Nat) => ((2 + j : Nat) : Int), nmT (texts ws) (2 + m)) := by
    rw [h3, show 2 + m - 2 = m from by allgen_close_more, base_nmT, ins_nets hw]
    rw [nets_fold _ _ _ (by simp; allgen_close_more) (by allgen_close_more), List.take_append_of_le_length (by allgen_close_more), List.take_of_length_le (by allgen_close_more)]
  have : foldE (netStep (texts ws ++ [("c[0]" : Str)])) ([], baseNames (N.count - 2)) ((insOf ws).flatMap (·.2) ++ z :: []) = .error ("bad_net", istr z) := by
    refine foldE_err hp ?_
    unfold netStep
    rw [if_pos]
    rcases hz with rfl | rfl | hz
    · refine .inr (.inl ?_)
      refine List.mem_map.mpr ⟨0, List.mem_range.mpr (by allgen_close_more), rfl⟩
    · exact .inl (by decide)
    · refine .inr (.inr ?_)
      show (nmT (texts ws) (2 + m)).get z = none
      unfold Names.get nmT
      rw [Option.map_eq_none_iff, List.find?_eq_none]
      intro p hp
      obtain ⟨i, hi, rfl⟩ := List.mem_map.mp hp
      have := List.mem_range.mp hi
      simp
      allgen_close_more
  have e2 : List.flatMap (fun x : Port => x.2) [(("c" : Str), [z])] = [z] := rfl
  rw [e2, this]
  rfl
theorem sig_empty {N : Net} {l m : List Port} {p : Port} (h : N.ins ++ N.outs = l ++ p :: m) (hl : ∀ q ∈ l, q.2 ≠ []) (hp : p.2 = []) : signalNames N = .error ("empty_port", p.1) := by
  unfold signalNames
  rw [h, foldE_err (b' := ()) (e := ("empty_port", p.1)) (ports_ok hl)]
  · rfl
  · unfold portStep
    rw [if_pos (by rw [hp]; rfl)]
theorem sig_name {N : Net} {l m : List Str} {x : Str} (hn : ∀ p ∈ N.ins ++ N.outs, p.2 ≠ []) (h : bitNames N.ins ++ bitNames N.outs = l ++ x :: m) (hl : ∀ y ∈ l, y ∈ good20) (hd : l.Nodup) (hx : x ∈ l ∨ checkedName x = .error ("bad_name", x)) : signalNames N = .error ("bad_name", x) := by
  unfold signalNames
  rw [ports_ok hn, okBind, h, foldE_err (b' := l) (e := ("bad_name", x)) (by have := seen_ok (seen := []) hl (by simpa using hd); simpa using this)]
  · rfl
  · unfold seenStep
    by_cases hx' : x ∈ l
    · rw [if_pos hx']
    · rw [if_neg hx', hx.resolve_left hx']; rfl
end

section
open PySem PySem.W PyProof.Rows PySem.Calls
noncomputable def rawOf (T : List Str) (cell : Cell) : List Blk :=
  if cell.kind = "flop" then dueOf T cell
  else [(".names" :: (cell.ins.map (nm T) ++ [nm T cell.out]), coverRows cell.kind (parNum cell.par) cell.ins.length)]
noncomputable def srtB (b : Blk) : Blk := (b.1, srt b.2)
theorem raw_due (T : List Str) (cell : Cell) : (rawOf T cell).map srtB = dueOf T cell := by
  unfold rawOf
  by_cases h : cell.kind = "flop"
  · rw [if_pos h]
    have : ∀ b ∈ dueOf T cell, srtB b = id b := by
      intro b hb
      unfold dueOf at hb
      rw [if_pos h] at hb
      split at hb
      · simp only [List.mem_cons, List.not_mem_nil, or_false] at hb
        rcases hb with rfl | rfl <;> rfl
      · cases hb
    rw [List.map_congr_left this, List.map_id]
  · unfold dueOf
    rw [if_neg h, if_neg h]
    rfl
theorem textRows_one (b : Blk) : textRows [b] = (rowsOf b).map (Txt.join " ") := by
  unfold textRows
  rw [List.flatMap_cons, List.flatMap_nil, List.append_nil]
theorem out_due (T : List Str) (p : Port) : (outDue T p).map srtB = outDue T p := by
  unfold outDue
  rw [List.map_map]
  rfl
theorem head_due (T ons : List Str) : (headBlks T ons).map srtB = headBlks T ons := rfl

theorem net_ok (T : List Str) {cnt : Nat} {n : Int} (h0 : 0 ≤ n) (h : n < cnt) : netName (nmT T cnt) n = .ok (nm T n) := by
  obtain ⟨i, rfl⟩ := Int.eq_ofNat_of_zero_le h0
  unfold netName
  rw [nmT_get (by allgen_close_more)]
  rfl
theorem mapE_ok (T : List Str) {cnt : Nat} : ∀ {l : List Int}, (∀ n ∈ l, 0 ≤ n ∧ n < (cnt : Int)) → mapE (netName (nmT T cnt)) l = .ok (l.map (nm T))
  | [], _ => rfl
  | a :: l, h => by
    unfold mapE
    rw [net_ok T (h a (.head _)).1 (h a (.head _)).2, okBind, mapE_ok T fun n hn => h n (.tail _ hn), okBind]
    rfl
theorem net_bad (T : List Str) {cnt : Nat} {n : Int} (h : n < 0 ∨ (cnt : Int) ≤ n) : netName (nmT T cnt) n = .error ("bad_net", istr n) := by
  have : (nmT T cnt).get n = none := by
    unfold Names.get nmT
    rw [Option.map_eq_none_iff, List.find?_eq_none]
    intro p hp
    obtain ⟨i, hi, rfl⟩ := List.mem_map.mp hp
    have := List.mem_range.mp hi
    simp
    allgen_close_more
  unfold netName
  rw [this]

theorem rows_all : ∀ n : Fin 4, ∀ row : Fin 8, row.val < 2 ^ n.val → rowP (bitsOf n.val row.val) n.val = (row.val : Int) ∧ rowText n.val row.val = Txt.join " " (coverRow n.val (row.val : Int)) := by decide +kernel
theorem rows_clean : ∀ n : Fin 4, ∀ row : Fin 8, row.val < 2 ^ n.val → (coverRow n.val (row.val : Int)).isEmpty = false ∧ (coverRow n.val (row.val : Int)).all clW = true ∧ ¬ dotted (coverRow n.val (row.val : Int)) := by decide +kernel
theorem pow8 {n : Nat} (h : n ≤ 3) : 2 ^ n ≤ 8 := (Nat.pow_le_pow_right (by decide) h : 2 ^ n ≤ 2 ^ 3)
theorem gates_rows : ∀ kind ∈ gateKinds, ones kind 0 (arity kind) = ((List.range (2 ^ arity kind)).filter fun row => cellV kind .none (bitsOf (arity kind) row) = 1).map fun (k : Nat) => (k : Int) := by decide +kernel
theorem tab_rows {w : Int} {n : Nat} (hn : n ≤ 3) : onesOf w (2 ^ n) = ((List.range (2 ^ n)).filter fun row => tabV w (bitsOf n row) = 1).map fun (k : Nat) => (k : Int) := by
  unfold onesOf
  congr 1
  refine List.filter_congr fun k hk => ?_
  have hk := List.mem_range.mp hk
  have h1 := (rows_all ⟨n, by allgen_close_more⟩ ⟨k, Nat.lt_of_lt_of_le hk (pow8 hn)⟩ hk).1
  dsimp only at h1
  have hl : (bitsOf n k).length = n := by simp [bitsOf]
  unfold tabV
  rw [hl, h1, bitAnd_m1, Int.toNat_natCast]
theorem ones_rows {turn : Nat} {kind : Str} {many : Nat} {par : Par} (h : ShapeOk turn kind many par) (hf : kind ≠ "flop") : ones kind (parNum par) many = ((List.range (2 ^ many)).filter fun row => cellV kind par (bitsOf many row) = 1).map fun (k : Nat) => (k : Int) := by
  rcases h with ⟨hk, rfl, rfl⟩ | ⟨rfl, hm, w, rfl, _⟩ | ⟨rfl, _, hm, w, rfl, _⟩ | ⟨h1, _⟩
  · exact gates_rows kind hk
  · have : ones "lut" w many = onesOf w (2 ^ many) := by unfold ones; rfl
    show ones "lut" w many = _
    rw [this, tab_rows (by allgen_close_more)]
    rfl
  · have : ones "cell" w many = onesOf w (2 ^ many) := by unfold ones; rfl
    show ones "cell" w many = _
    rw [this, tab_rows (by allgen_close_more)]
    rfl
  · exact absurd h1 hf
theorem table_cover {turn : Nat} {kind : Str} {many : Nat} {par : Par} (h : ShapeOk turn kind many par) (hf : kind ≠ "flop") : tableRows kind par many = (coverRows kind (parNum par) many).map (Txt.join " ") := by
  have hm := h.many
  unfold tableRows rowsUpTo coverRows
  rw [ones_rows h hf, List.map_map, List.map_map]
  refine List.map_congr_left fun k hk => ?_
  have hk := List.mem_range.mp (List.mem_filter.mp hk).1
  exact (rows_all ⟨many, by allgen_close_more⟩ ⟨k, Nat.lt_of_lt_of_le hk (pow8 hm)⟩ hk).2
theorem cover_clean {turn : Nat} {kind : Str} {many : Nat} {par : Par} (h : ShapeOk turn kind many par) (hf : kind ≠ "flop") : ∀ r ∈ coverRows kind (parNum par) many, clL r ∧ ¬ dotted r := by
  have hm := h.many
  unfold coverRows
  rw [ones_rows h hf]
  intro r hr
  obtain ⟨x, hx, rfl⟩ := List.mem_map.mp hr
  obtain ⟨k, hk, rfl⟩ := List.mem_map.mp hx
  have hk := List.mem_range.mp (List.mem_filter.mp hk).1
  obtain ⟨h1, h2, h3⟩ := rows_clean ⟨many, by allgen_close_more⟩ ⟨k, Nat.lt_of_lt_of_le hk (pow8 hm)⟩ hk
  refine ⟨⟨fun e => ?_, List.all_eq_true.mp h2⟩, h3⟩
  dsimp only at h1
  rw [e] at h1
  cases h1
theorem q_ok : ∀ t : Fin 8, checkedName (qText t.val) = .ok (qText t.val) ∧ nameOk (qText t.val) = true ∧ clW (qText t.val) = true := by
  have h1 : ∀ t : Fin 8, Txt.words (qText t.val) = [qText t.val] := by decide +kernel
  have h2 : ∀ t : Fin 8, Txt.contains (qText t.val) "#" = false ∧ Txt.item (qText t.val) (-1) ≠ "\\" := by decide +kernel
  have h3 : ∀ t : Fin 8, nameOk (qText t.val) = true ∧ clW (qText t.val) = true := by decide +kernel
  intro x
  refine ⟨?_, h3 x⟩
  unfold checkedName
  rw [if_neg]
  rintro (h | h | h)
  · exact h (h1 x)
  · rw [(h2 x).1] at h; cases h
  · exact (h2 x).2 h
theorem cell_rows_ok (T : List Str) {lo c0 cnt turn : Nat} (hc : c0 ≤ cnt) (ht : turn < 8) {cell : Cell} (h : CellLaw lo c0 turn cell) : cellRows (nmT T cnt) cell = .ok (textRows (rawOf T cell)) := by
  obtain ⟨⟨h1, h2⟩, many, hs, ins, hl, hi, he⟩ := h
  have ho : netName (nmT T cnt) cell.out = .ok (nm T cell.out) := net_ok T (by allgen_close_more) (by allgen_close_more)
  have hin : ∀ n ∈ ins, 0 ≤ n ∧ n < (cnt : Int) := fun n hn => ⟨(hi n hn).1, by have := (hi n hn).2; allgen_close_more⟩
  unfold cellRows rawOf
  by_cases hf : cell.kind = "flop"
  · rw [if_pos hf, if_pos hf]
    rw [if_pos hf] at he
    rcases hs with ⟨hk, _⟩ | ⟨hk, _⟩ | ⟨hk, _⟩ | ⟨_, rfl, e, init, hp, h3, h4⟩
    · rw [hf] at hk; exact absurd hk (by decide +kernel)
    · rw [hf] at hk; exact absurd hk (by decide +kernel)
    · rw [hf] at hk; exact absurd hk (by decide +kernel)
    match ins, hl, hin, he with
    | [clk, data], _, hin, he =>
      unfold dueOf
      rw [if_pos hf, he, hp]
      have g1 := hin clk (.head _)
      have g2 := hin data (.tail _ (.head _))
      show flopRows (nmT T cnt) cell clk data 0 0 e (qText turn) init = _
      unfold flopRows
      rw [if_neg (by simp), net_ok T g2.1 g2.2, okBind, ho, okBind, net_ok T g1.1 g1.2, okBind, (q_ok ⟨turn, ht⟩).1, okBind]
      have ej : ".cname " ++ qText turn = Txt.join " " [".cname", qText turn] := by
        rw [show Txt.join " " [".cname", qText turn] = Str.join " " [".cname", qText turn] from StrLaws.glued_eq_join _ _]
        rfl
      show Except.ok _ = Except.ok _
      rw [ej]
      rfl
  · rw [if_neg hf, if_neg hf]
    rw [if_neg hf] at he
    have hlt : cell.kind ≠ "latch" := by
      intro z
      rw [z] at hs
      rcases hs with ⟨hk, _⟩ | ⟨hk, _⟩ | ⟨hk, _⟩ | ⟨hk, _⟩
      · exact absurd hk (by decide +kernel)
      · exact absurd hk (by decide +kernel)
      · exact absurd hk (by decide +kernel)
      · exact absurd hk (by decide +kernel)
    have hm := hs.many
    rw [if_neg hlt, if_neg (by rw [he]; allgen_close_more), he, mapE_ok T hin, okBind, ho, okBind, hl, table_cover hs hf, textRows_one]
    rfl
end

section
open PySem PySem.W PyProof.Rows PySem.Calls
theorem textRows_append (a b : List Blk) : textRows (a ++ b) = textRows a ++ textRows b := by unfold textRows; rw [List.flatMap_append, List.map_append]
theorem cells_fold (T : List Str) {lo c0 cnt : Nat} (hc : c0 ≤ cnt) : ∀ {l : List Cell} {acc : List Str}, (∀ cell ∈ l, ∃ turn, turn < 8 ∧ CellLaw lo c0 turn cell) → foldE (cellStep (nmT T cnt)) acc l = .ok (acc ++ textRows (l.flatMap (rawOf T)))
  | [], acc, _ => by
    show Except.ok acc = Except.ok (acc ++ [])
    rw [List.append_nil]
  | x :: l, acc, h => by
    obtain ⟨t, ht, hx⟩ := h x (.head _)
    rw [foldE_cons]
    unfold cellStep
    rw [cell_rows_ok T hc ht hx, okBind, okBind]
    have := cells_fold T hc (l := l) (acc := acc ++ textRows (rawOf T x)) fun c hc' => h c (.tail _ hc')
    unfold cellStep at this
    rw [this, List.flatMap_cons, textRows_append, List.append_assoc]
noncomputable def outBlk (T : List Str) (p : Int × Str) : Blk := ([(".names" : Str), nm T p.1, p.2], [[("1" : Str), ("1" : Str)]])
noncomputable def outPair (T : List Str) (p : Int × Str) : List Str := [outText (nm T p.1) p.2, ("1 1" : Str)]
theorem out_rows (T : List Str) : ∀ l : List (Int × Str), textRows (l.map (outBlk T)) = l.flatMap (outPair T)
  | [] => rfl
  | p :: l => by
    rw [List.map_cons, List.flatMap_cons, ← out_rows T l]
    have e : (outBlk T p :: l.map (outBlk T)) = [outBlk T p] ++ l.map (outBlk T) := rfl
    rw [e, textRows_append]
    congr 1
theorem outs_fold' (T : List Str) {cnt : Nat} : ∀ {nets : List Int} {pre mid post acc : List Str}, mid.length = nets.length → (∀ n ∈ nets, 0 ≤ n ∧ n < (cnt : Int)) → foldE (outStep (nmT T cnt) (pre ++ (mid ++ post))) (pre.length, acc) nets = .ok (pre.length + nets.length, acc ++ (nets.zip mid).flatMap (outPair T))
  | [], pre, [], post, acc, _, _ => by
    show Except.ok _ = Except.ok _
    simp
  | n :: nets, pre, o :: mid, post, acc, hl, h => by
    rw [foldE_cons]
    have e1 : outStep (nmT T cnt) (pre ++ (o :: mid ++ post)) (pre.length, acc) n = .ok (pre.length + 1, acc ++ outPair T (n, o)) := by
      unfold outStep
      rw [net_ok T (h n (.head _)).1 (h n (.head _)).2, okBind]
      have : (pre ++ (o :: mid ++ post)).getD pre.length "" = o := by simp [List.getD_eq_getElem?_getD]
      dsimp only
      rw [this]
      rfl
    rw [e1, okBind]
    have := outs_fold' T (cnt := cnt) (nets := nets) (pre := pre ++ [o]) (mid := mid) (post := post) (acc := acc ++ outPair T (n, o)) (by simpa using hl) fun x hx => h x (.tail _ hx)
    rw [List.length_append, List.length_singleton, List.append_assoc] at this
    rw [show pre ++ (o :: mid ++ post) = pre ++ ([o] ++ (mid ++ post)) from rfl, this, List.zip_cons_cons, List.flatMap_cons, List.append_assoc, List.length_cons, show pre.length + 1 + nets.length = pre.length + (nets.length + 1) from by allgen_close_more]
theorem outs_due {cnt : Nat} {outs : List Port} (h : OutsIn cnt outs) (T : List Str) : outs.flatMap (outDue T) = ((outs.flatMap (·.2)).zip (bitNames outs)).map (outBlk T) := by
  rcases h with ⟨a, rfl⟩ | ⟨a, b, rfl⟩ | ⟨a, b, rfl⟩ | ⟨a, b, d, rfl⟩ | ⟨a, b, d, rfl⟩ | ⟨a, b, d, e, rfl⟩ <;> rfl
theorem outs_fold {cnt c0 : Nat} {outs : List Port} (h : OutsIn c0 outs) (T : List Str) (ho : ∀ n ∈ outs.flatMap (·.2), 0 ≤ n ∧ n < (cnt : Int)) (post acc : List Str) : foldE (outStep (nmT T cnt) (bitNames outs ++ post)) (0, acc) (outs.flatMap (·.2)) = .ok ((bitNames outs).length, acc ++ textRows (outs.flatMap (outDue T))) := by
  have h1 := outs_fold' T (cnt := cnt) (nets := outs.flatMap (·.2)) (pre := []) (mid := bitNames outs) (post := post) (acc := acc) (bitNames_len outs) ho
  rw [outs_due h, out_rows, bitNames_len]
  simpa using h1
theorem head_rows (N : Net) : headRows "top" N = textRows (headBlks (bitNames N.ins) (bitNames N.outs)) := by
  unfold headRows textRows headBlks rowsOf
  have e1 : (".model " : Str) ++ "top" = Txt.join " " [(".model" : Str), "top"] := by decide +kernel
  have e2 : (".names $false" : Str) = Txt.join " " [(".names" : Str), "$false"] := by decide +kernel
  have e3 : (".names $true" : Str) = Txt.join " " [(".names" : Str), "$true"] := by decide +kernel
  have e4 : ("1" : Str) = Txt.join " " [("1" : Str)] := by decide +kernel
  rw [e1, e2, e3]
  conv => lhs; rw [e4]
  rfl
theorem top_ok : checkedName "top" = .ok "top" := by
  unfold checkedName
  rw [if_neg]
  have h1 : Txt.words ("top" : Str) = [("top" : Str)] := by decide +kernel
  have h2 : Txt.contains ("top" : Str) "#" = false ∧ Txt.item ("top" : Str) (-1) ≠ "\\" := by decide +kernel
  rintro (h | h | h)
  · exact h h1
  · rw [h2.1] at h; cases h
  · exact h2.2 h
noncomputable def allRaw (ws : List Nat) (cells : List Cell) (outs : List Port) : List Blk := headBlks (texts ws) (bitNames outs) ++ (cells.flatMap (rawOf (texts ws)) ++ outs.flatMap (outDue (texts ws)))
theorem write_ok {ws : List Nat} (hw : ws ∈ wsAll) {M : Nat} {cells : List Cell} {outs : List Port} {lo : Nat} (hc : ∀ cell ∈ cells, ∃ turn, turn < 8 ∧ CellLaw lo (2 + ws.sum + M) turn cell) {c0 : Nat} (ho : OutsIn c0 outs) (hon : ∀ n ∈ outs.flatMap (·.2), 0 ≤ n ∧ n < ((2 + ws.sum + M : Nat) : Int)) : writeBlif (netW ws M cells outs) = .ok (textOf (allRaw ws cells outs ++ [endBlk])) := by
  unfold writeBlif
  have e1 : signalNames (netW ws M cells outs) = .ok (nmT (texts ws) (2 + ws.sum + M)) := by
    have := sig_ok hw ho (N := netW ws M cells outs) rfl rfl (m := ws.sum + M) (by show 2 + ws.sum + M = _; allgen_close_more) (by allgen_close_more)
    rwa [← Nat.add_assoc] at this
  rw [e1, okBind]
  show (checkedName "top" >>= _) = _
  rw [top_ok, okBind, head_rows]
  show (foldE (cellStep _) _ cells >>= _) = _
  rw [cells_fold (texts ws) (Nat.le_refl _) hc, okBind]
  show (foldE (outStep (nmT (texts ws) (2 + ws.sum + M)) (bitNames outs)) _ (outs.flatMap (·.2)) >>= _) = _
  have := outs_fold ho (texts ws) hon [] (textRows (headBlks (bitNames (netW ws M cells outs).ins) (bitNames (netW ws M cells outs).outs)) ++ textRows (cells.flatMap (rawOf (texts ws))))
  rw [List.append_nil] at this
  rw [this, okBind]
  unfold textOf
  rw [textRows_append]
  unfold allRaw
  rw [textRows_append, textRows_append]
  have e4 : textRows [endBlk] = [(".end" : Str)] := by
    have : (".end" : Str) = Txt.join " " [(".end" : Str)] := by decide +kernel
    conv => rhs; rw [this]
    rfl
  rw [e4, ← List.append_assoc]
  rfl
end

section
open PySem PySem.W PyProof.Rows PySem.Calls
theorem nm_clean {ws : List Nat} (hw : ws ∈ wsAll) {n : Int} (h : n < 20) : clW (nm (texts ws) n) = true := by
  unfold nm nameOf
  have h0 : clW "$false" = true ∧ clW "$true" = true ∧ ∀ i : Fin 20, clW (netText (i.val : Int)) = true := by decide +kernel
  generalize hi : n.toNat = i
  have hi2 : i < 20 := by allgen_close_more
  split
  · exact h0.1
  · split
    · exact h0.2.1
    · split
      · rename_i h1 h2 h3
        rw [List.getD_eq_getElem?_getD, List.getElem?_eq_getElem (by allgen_close_more), Option.getD_some]
        exact (good20_ok _ (texts_good hw _ (List.getElem_mem _))).2.2
      · exact h0.2.2 ⟨i, hi2⟩
theorem words_clean : clW ".model" = true ∧ clW "top" = true ∧ clW ".inputs" = true ∧ clW ".outputs" = true ∧ clW ".names" = true ∧ clW "$false" = true ∧ clW "$true" = true ∧ clW "1" = true ∧ clW ".latch" = true ∧ clW ".cname" = true ∧ clW "re" = true ∧ clW "fe" = true ∧ clW (istr 0) = true ∧ clW (istr 1) = true ∧ clW ".end" = true := by decide +kernel
theorem dots : (∀ l, dotted ((".model" : Str) :: l)) ∧ (∀ l, dotted ((".inputs" : Str) :: l)) ∧ (∀ l, dotted ((".outputs" : Str) :: l)) ∧ (∀ l, dotted ((".names" : Str) :: l)) ∧ (∀ l, dotted ((".latch" : Str) :: l)) ∧ (∀ l, dotted ((".cname" : Str) :: l)) ∧ (∀ l, dotted ((".end" : Str) :: l)) ∧ ∀ l, ¬ dotted (("1" : Str) :: l) := by
  have h : Txt.slice (".model" : Str) none (some 1) = "." ∧ Txt.slice (".inputs" : Str) none (some 1) = "." ∧ Txt.slice (".outputs" : Str) none (some 1) = "." ∧ Txt.slice (".names" : Str) none (some 1) = "." ∧ Txt.slice (".latch" : Str) none (some 1) = "." ∧ Txt.slice (".cname" : Str) none (some 1) = "." ∧ Txt.slice (".end" : Str) none (some 1) = "." ∧ Txt.slice ("1" : Str) none (some 1) ≠ "." := by decide +kernel
  exact ⟨fun _ => h.1, fun _ => h.2.1, fun _ => h.2.2.1, fun _ => h.2.2.2.1, fun _ => h.2.2.2.2.1, fun _ => h.2.2.2.2.2.1, fun _ => h.2.2.2.2.2.2.1, fun _ => h.2.2.2.2.2.2.2⟩
theorem clL_cons {x : Str} {l : List Str} (h : clW x = true) (hl : ∀ y ∈ l, clW y = true) : clL (x :: l) := ⟨by simp, fun y hy => by
  rcases List.mem_cons.mp hy with rfl | hy
  · exact h
  · exact hl y hy⟩
theorem clean_head {ws : List Nat} (hw : ws ∈ wsAll) {cnt : Nat} {outs : List Port} (ho : OutsIn cnt outs) : ∀ b ∈ headBlks (texts ws) (bitNames outs), BlkGood b ∧ b.2.length ≤ 8 := by
  obtain ⟨w1, w2, w3, w4, w5, w6, w7, w8, _⟩ := words_clean
  obtain ⟨d1, d2, d3, d4, _, _, _, d8⟩ := dots
  intro b hb
  unfold headBlks at hb
  simp only [List.mem_cons, List.not_mem_nil, or_false] at hb
  rcases hb with rfl | rfl | rfl | rfl | rfl
  · exact ⟨⟨clL_cons w1 (by simpa using w2), d1 _, by simp⟩, by simp⟩
  · exact ⟨⟨clL_cons w3 fun y hy => (good20_ok y (texts_good hw y hy)).2.2, d2 _, by simp⟩, by simp⟩
  · exact ⟨⟨clL_cons w4 fun y hy => (good20_ok y (ons_good ho y hy)).2.2, d3 _, by simp⟩, by simp⟩
  · exact ⟨⟨clL_cons w5 (by simpa using w6), d4 _, by simp⟩, by simp⟩
  · refine ⟨⟨clL_cons w5 (by simpa using w7), d4 _, fun r hr => ?_⟩, by simp⟩
    simp at hr
    subst hr
    exact ⟨clL_cons w8 (by simp), d8 _⟩
theorem clean_end : BlkGood endBlk := ⟨clL_cons words_clean.2.2.2.2.2.2.2.2.2.2.2.2.2.2 (by simp), dots.2.2.2.2.2.2.1 _, by simp [endBlk]⟩
theorem clean_cell {ws : List Nat} (hw : ws ∈ wsAll) {lo c0 turn : Nat} (hc : c0 ≤ 20) (ht : turn < 8) {cell : Cell} (h : CellLaw lo c0 turn cell) : ∀ b ∈ rawOf (texts ws) cell, BlkGood b ∧ b.2.length ≤ 8 := by
  obtain ⟨w1, w2, w3, w4, w5, w6, w7, w8, w9, w10, w11, w12, w13, w14, _⟩ := words_clean
  obtain ⟨d1, d2, d3, d4, d5, d6, _, d8⟩ := dots
  obtain ⟨⟨h1, h2⟩, many, hs, ins, hl, hi, he⟩ := h
  have hout : clW (nm (texts ws) cell.out) = true := nm_clean hw (by allgen_close_more)
  have hin : ∀ n ∈ ins, clW (nm (texts ws) n) = true := fun n hn => nm_clean hw (by have := (hi n hn).2; allgen_close_more)
  intro b hb
  unfold rawOf at hb
  by_cases hf : cell.kind = "flop"
  · rw [if_pos hf] at hb he
    rcases hs with ⟨hk, _⟩ | ⟨hk, _⟩ | ⟨hk, _⟩ | ⟨_, rfl, e, init, hp, h3, h4⟩
    · rw [hf] at hk; exact absurd hk (by decide +kernel)
    · rw [hf] at hk; exact absurd hk (by decide +kernel)
    · rw [hf] at hk; exact absurd hk (by decide +kernel)
    match ins, hl, hin, he with
    | [clk, data], _, hin, he =>
      unfold dueOf at hb
      rw [if_pos hf, he, hp] at hb
      have g1 := hin clk (.head _)
      have g2 := hin data (.tail _ (.head _))
      have hb : b ∈ ([([".latch", nm (texts ws) data, nm (texts ws) cell.out, if e = 1 then ("re" : Str) else ("fe" : Str), nm (texts ws) clk, istr init], []), ([".cname", qText turn], [])] : List Blk) := hb
      simp only [List.mem_cons, List.not_mem_nil, or_false] at hb
      rcases hb with rfl | rfl
      · refine ⟨⟨clL_cons w9 fun y hy => ?_, d5 _, by simp⟩, by simp⟩
        simp only [List.mem_cons, List.not_mem_nil, or_false] at hy
        rcases hy with rfl | rfl | rfl | rfl | rfl
        · exact g2
        · exact hout
        · split
          · exact w11
          · exact w12
        · exact g1
        · rcases h4 with rfl | rfl
          · exact w13
          · exact w14
      · exact ⟨⟨clL_cons w10 (by simpa using (q_ok ⟨turn, ht⟩).2.2), d6 _, by simp⟩, by simp⟩
  · rw [if_neg hf] at hb he
    simp only [List.mem_singleton] at hb
    subst hb
    rw [he, hl]
    refine ⟨⟨clL_cons w5 fun y hy => ?_, d4 _, cover_clean hs hf⟩, ?_⟩
    · rcases List.mem_append.mp hy with hy | hy
      · obtain ⟨n, hn, rfl⟩ := List.mem_map.mp hy
        exact hin n hn
      · simp at hy; subst hy; exact hout
    · show (coverRows cell.kind (parNum cell.par) many).length ≤ 8
      unfold coverRows
      rw [List.length_map]
      exact ones_len hs.many
theorem clean_outs {ws : List Nat} (hw : ws ∈ wsAll) {c0 cnt : Nat} (hc : cnt ≤ 20) {outs : List Port} (ho : OutsIn c0 outs) (hon : ∀ n ∈ outs.flatMap (·.2), 0 ≤ n ∧ n < (cnt : Int)) : ∀ b ∈ outs.flatMap (outDue (texts ws)), BlkGood b ∧ b.2.length ≤ 8 := by
  obtain ⟨w1, w2, w3, w4, w5, w6, w7, w8, _⟩ := words_clean
  obtain ⟨d1, d2, d3, d4, _, _, _, d8⟩ := dots
  rw [outs_due ho]
  intro b hb
  obtain ⟨⟨n, o⟩, hp, rfl⟩ := List.mem_map.mp hb
  have h1 := List.of_mem_zip hp
  refine ⟨⟨clL_cons w5 fun y hy => ?_, d4 _, fun r hr => ?_⟩, ?_⟩
  · simp only [List.mem_cons, List.not_mem_nil, or_false] at hy
    rcases hy with rfl | rfl
    · exact nm_clean hw (by have := (hon n h1.1).2; allgen_close_more)
    · exact (good20_ok _ (ons_good ho _ h1.2)).2.2
  · simp [outBlk] at hr
    subst hr
    exact ⟨clL_cons w8 (by simpa using w8), d8 _⟩
  · show 1 ≤ 8
    decide

theorem srt_mem {l : List (List Str)} : ∀ r ∈ srt l, r ∈ l ∨ r = [] := by
  intro r hr
  unfold srt at hr
  split at hr
  · exact .inl hr
  · obtain ⟨i, _, rfl⟩ := List.mem_map.mp hr
    rw [List.getD_eq_getElem?_getD]
    cases hq : l[i]? with
    | none => exact .inr rfl
    | some x => exact .inl (List.mem_of_getElem? hq)
theorem clW.ok {x : Str} (h : clW x = true) : PyData.strOk x = true := by
  simp only [clW, Bool.and_eq_true] at h
  exact h.2
theorem blk_ok {b : Blk} (h : BlkGood b) : blkOk (srtB b) = true := by
  unfold blkOk srtB
  rw [Bool.and_eq_true]
  refine ⟨List.all_eq_true.mpr fun x hx => clW.ok (h.hd.2 x hx), List.all_eq_true.mpr fun r hr => ?_⟩
  rcases srt_mem r hr with hr | rfl
  · exact List.all_eq_true.mpr fun x hx => clW.ok ((h.rows r hr).1.2 x hx)
  · rfl
end

section
open PySem PySem.W PyProof.Rows PySem.Calls
theorem gate_no : ("lut" : Str) ∉ gateKinds ∧ ("cell" : Str) ∉ gateKinds ∧ ("flop" : Str) ∉ gateKinds ∧ ("latch" : Str) ∉ gateKinds := by decide +kernel
theorem cell_ok {lo c0 turn : Nat} (hc : c0 ≤ 20) (ht : turn < 8) {cell : Cell} (h : CellLaw lo c0 turn cell) : cellOk cell ∧ cellStr cell = true := by
  obtain ⟨⟨h1, h2⟩, many, hs, ins, hl, hi, he⟩ := h
  have hm := hs.many
  have k1 : netOk cell.out := netOk_small (by allgen_close_more) (by allgen_close_more)
  have k2 : ∀ n ∈ ins, netOk n := fun n hn => netOk_small (hi n hn).1 (by have := (hi n hn).2; allgen_close_more)
  have k0 : netOk 0 := netOk_small (by decide) (by decide)
  have si : ∀ x : Int, x = 0 ∨ x = 1 → netOk x ∧ (istr x).length ≤ 10 := fun x hx => ⟨netOk_small (by allgen_close_more) (by allgen_close_more), istr_len' (by allgen_close_more) (by allgen_close_more)⟩
  obtain ⟨n1, n2, n3, n4⟩ := gate_no
  by_cases hf : cell.kind = "flop"
  · rw [if_pos hf] at he
    rcases hs with ⟨hk, _⟩ | ⟨hk, _⟩ | ⟨hk, _⟩ | ⟨_, rfl, e, init, hp, h3, h4⟩
    · rw [hf] at hk; exact absurd hk n3
    · rw [hf] at hk; exact absurd hk (by decide +kernel)
    · rw [hf] at hk; exact absurd hk (by decide +kernel)
    refine ⟨⟨k1, fun n hn => ?_, by rw [he]; simp; allgen_close_more, ?_⟩, ?_⟩
    · rw [he] at hn
      rcases List.mem_append.mp hn with hn | hn
      · exact k2 n hn
      · simp at hn; subst hn; exact k0
    · rw [if_pos hf]
      match ins, hl, he with
      | [clk, data], _, he =>
        exact ⟨clk, data, 0, 0, e, qText turn, init, he, hp, (q_ok ⟨turn, ht⟩).2.1, (si init h4).1, (si init h4).2⟩
    · unfold cellStr
      rw [hf, hp, Bool.and_eq_true]
      exact ⟨by decide +kernel, clW.ok (q_ok ⟨turn, ht⟩).2.2⟩
  · rw [if_neg hf] at he
    have hlt : cell.kind ≠ "latch" := by
      intro z
      rw [z] at hs
      rcases hs with ⟨hk, _⟩ | ⟨hk, _⟩ | ⟨hk, _⟩ | ⟨hk, _⟩
      · exact n4 hk
      · exact absurd hk (by decide +kernel)
      · exact absurd hk (by decide +kernel)
      · exact absurd hk (by decide +kernel)
    refine ⟨⟨k1, fun n hn => k2 n (he ▸ hn), by rw [he]; allgen_close_more, ?_⟩, ?_⟩
    · rw [if_neg hf, if_neg hlt, he, hl]
      intro _
      refine ⟨by allgen_close_more, fun hk => ?_, fun hk => ?_, fun g1 g2 => ?_⟩
      · rcases hs with ⟨h, _⟩ | ⟨_, _, w, hp, _⟩ | ⟨h, _⟩ | ⟨h, _⟩
        · rw [hk] at h; exact absurd h n1
        · exact ⟨w, hp⟩
        · rw [hk] at h; exact absurd h (by decide +kernel)
        · exact absurd h hf
      · rcases hs with ⟨h, _⟩ | ⟨h, _⟩ | ⟨_, _, _, w, hp, _⟩ | ⟨h, _⟩
        · rw [hk] at h; exact absurd h n2
        · rw [hk] at h; exact absurd h (by decide +kernel)
        · exact ⟨_, w, hp⟩
        · exact absurd h hf
      · rcases hs with ⟨h, hm, _⟩ | ⟨h, _⟩ | ⟨h, _⟩ | ⟨h, _⟩
        · exact ⟨h, by allgen_close_more⟩
        · exact absurd h g1
        · exact absurd h g2
        · exact absurd h hf
    · unfold cellStr
      have hg : ∀ x ∈ gateKinds, PyData.strOk x = true := by decide +kernel
      rw [Bool.and_eq_true]
      rcases hs with ⟨h, _, hp⟩ | ⟨h, _, w, hp, _⟩ | ⟨h, _, _, w, hp, _⟩ | ⟨h, _⟩
      · rw [hp]; exact ⟨hg _ h, rfl⟩
      · rw [h, hp]; exact ⟨by decide +kernel, rfl⟩
      · rw [h, hp]; exact ⟨by decide +kernel, by show PyData.strOk ("OWN" : Str) = true; decide +kernel⟩
      · exact absurd h hf

theorem ins_ok {ws : List Nat} (hw : ws ∈ wsAll) : portsOk (insOf ws) ∧ (insOf ws).length ≤ 2 ∧ ∀ p ∈ insOf ws, PyData.strOk p.1 = true := by
  have h : ∀ ws ∈ wsAll, (insOf ws).length ≤ 2 ∧ ∀ p ∈ insOf ws, p.1.length ≤ 100 ∧ p.2.length ≤ 20 ∧ PyData.strOk p.1 = true := by decide +kernel
  have h := h ws hw
  exact ⟨⟨by allgen_close_more, fun p hp => ⟨(h.2 p hp).1, (h.2 p hp).2.1⟩⟩, h.1, fun p hp => (h.2 p hp).2.2⟩
theorem outs_ok {c0 : Nat} {outs : List Port} (h : OutsIn c0 outs) : portsOk outs ∧ outs.length ≤ 2 ∧ (outs.flatMap (·.2)).length ≤ 4 ∧ ∀ p ∈ outs, PyData.strOk p.1 = true := by
  have hy : ("y" : Str).length ≤ 100 ∧ ("z" : Str).length ≤ 100 ∧ PyData.strOk ("y" : Str) = true ∧ PyData.strOk ("z" : Str) = true := by decide +kernel
  obtain ⟨y1, y2, y3, y4⟩ := hy
  have e1 : ∀ a : Int, ([a] : List Int).length ≤ 20 := fun a => Nat.le_of_ble_eq_true rfl
  have e2 : ∀ a b : Int, ([a, b] : List Int).length ≤ 20 := fun a b => Nat.le_of_ble_eq_true rfl
  have one : ∀ {P : Port → Prop} {a : Port}, P a → ∀ p ∈ [a], P p := fun h => List.forall_mem_cons.2 ⟨h, fun _ h => absurd h List.not_mem_nil⟩
  have two : ∀ {P : Port → Prop} {a b : Port}, P a → P b → ∀ p ∈ [a, b], P p := fun h h' => List.forall_mem_cons.2 ⟨h, one h'⟩
  rcases h with ⟨a, rfl⟩ | ⟨a, b, rfl⟩ | ⟨a, b, rfl⟩ | ⟨a, b, d, rfl⟩ | ⟨a, b, d, rfl⟩ | ⟨a, b, d, e, rfl⟩
  · exact ⟨⟨Nat.le_of_ble_eq_true rfl, one ⟨y1, e1 _⟩⟩, Nat.le_of_ble_eq_true rfl, Nat.le_of_ble_eq_true rfl, one y3⟩
  · exact ⟨⟨Nat.le_of_ble_eq_true rfl, one ⟨y1, e2 _ _⟩⟩, Nat.le_of_ble_eq_true rfl, Nat.le_of_ble_eq_true rfl, one y3⟩
  · exact ⟨⟨Nat.le_of_ble_eq_true rfl, two ⟨y1, e1 _⟩ ⟨y2, e1 _⟩⟩, Nat.le_of_ble_eq_true rfl, Nat.le_of_ble_eq_true rfl, two y3 y4⟩
  · exact ⟨⟨Nat.le_of_ble_eq_true rfl, two ⟨y1, e1 _⟩ ⟨y2, e2 _ _⟩⟩, Nat.le_of_ble_eq_true rfl, Nat.le_of_ble_eq_true rfl, two y3 y4⟩
  · exact ⟨⟨Nat.le_of_ble_eq_true rfl, two ⟨y1, e2 _ _⟩ ⟨y2, e1 _⟩⟩, Nat.le_of_ble_eq_true rfl, Nat.le_of_ble_eq_true rfl, two y3 y4⟩
  · exact ⟨⟨Nat.le_of_ble_eq_true rfl, two ⟨y1, e2 _ _⟩ ⟨y2, e2 _ _⟩⟩, Nat.le_of_ble_eq_true rfl, Nat.le_of_ble_eq_true rfl, two y3 y4⟩
structure Facts (ws : List Nat) (M : Nat) (cells : List Cell) (outs : List Port) : Prop where
  hw : ws ∈ wsAll
  hs : 1 ≤ ws.sum ∧ ws.sum ≤ 4
  M1 : 1 ≤ M
  M7 : M ≤ 7
  cl : cells.length ≤ 7
  ce : ∀ cell ∈ cells, ∃ turn, turn < 8 ∧ CellLaw (2 + ws.sum) (2 + ws.sum + M) turn cell
  ho : OutsIn (2 + ws.sum + M) outs
  on : ∀ n ∈ outs.flatMap (·.2), 0 ≤ n ∧ n < ((2 + ws.sum + M : Nat) : Int)
theorem facts {ws : List Nat} {M : Nat} {cells : List Cell} {outs : List Port} (h : LawNet ws M cells outs) : Facts ws M cells outs := by
  have hw := ws_shape h.wok h.ws1
  have hs : ∀ ws ∈ wsAll, 1 ≤ ws.sum ∧ ws.sum ≤ 4 := by decide
  refine ⟨hw, hs ws hw, h.M1, h.M7, by rw [h.cl]; have := h.M7; allgen_close_more, fun cell hc => ?_, outs_shape h.o1 h.o2 h.oe, fun n hn => ?_⟩
  · obtain ⟨i, hi⟩ := List.getElem?_of_mem hc
    have := h.ce i cell hi
    exact ⟨i, by have h1 := this.1.2; have := h.M7; allgen_close_more, this⟩
  · obtain ⟨p, hp, hn⟩ := List.mem_flatMap.mp hn
    obtain ⟨i, hi⟩ := List.getElem?_of_mem hp
    exact (h.oe i p hi).2.2.2 n hn
theorem net_okW {ws : List Nat} {M : Nat} {cells : List Cell} {outs : List Port} (h : Facts ws M cells outs) : NetOkW (netW ws M cells outs) := by
  have hs := h.hs
  have h7 := h.M7
  have ho := outs_ok h.ho
  refine ⟨⟨⟨by show 2 ≤ 2 + ws.sum + M; allgen_close_more, by show 2 + ws.sum + M ≤ 150; allgen_close_more⟩, (ins_ok h.hw).1, ho.1, fun t ht => ?_, fun p hp n hn => ?_⟩, (by show nameOk "top" = true; decide +kernel), fun cell hc => ?_, by show cells.length ≤ 20; have := h.cl; allgen_close_more, by show (outs.flatMap (·.2)).length ≤ 100; allgen_close_more⟩
  · rcases List.mem_append.mp ht with ht | ht
    · exact (good20_ok t (texts_good h.hw t ht)).2.1
    · exact (good20_ok t (ons_good h.ho t ht)).2.1
  · rcases List.mem_append.mp hp with hp | hp
    · have hin : n ∈ (insOf ws).flatMap (·.2) := List.mem_flatMap.mpr ⟨p, hp, hn⟩
      rw [ins_nets h.hw] at hin
      obtain ⟨j, hj, rfl⟩ := List.mem_map.mp hin
      have := List.mem_range.mp hj
      exact netOk_small (by allgen_close_more) (by allgen_close_more)
    · have := h.on n (List.mem_flatMap.mpr ⟨p, hp, hn⟩)
      exact netOk_small this.1 (by allgen_close_more)
  · obtain ⟨t, ht, hl⟩ := h.ce cell hc
    exact (cell_ok (by allgen_close_more) ht hl).1
theorem clean_all {ws : List Nat} {M : Nat} {cells : List Cell} {outs : List Port} (h : Facts ws M cells outs) : ∀ b ∈ allRaw ws cells outs, BlkGood b ∧ b.2.length ≤ 8 := by
  have hs := h.hs
  have h7 := h.M7
  intro b hb
  unfold allRaw at hb
  rcases List.mem_append.mp hb with hb | hb
  · exact clean_head h.hw h.ho b hb
  · rcases List.mem_append.mp hb with hb | hb
    · obtain ⟨cell, hc, hb⟩ := List.mem_flatMap.mp hb
      obtain ⟨t, ht, hl⟩ := h.ce cell hc
      exact clean_cell h.hw (by allgen_close_more) ht hl b hb
    · exact clean_outs h.hw (by allgen_close_more) h.ho h.on b hb
theorem flatMap_same {α β : Type} {f g : α → List β} : ∀ {l : List α}, (∀ a ∈ l, f a = g a) → l.flatMap f = l.flatMap g
  | [], _ => rfl
  | a :: l, h => by rw [List.flatMap_cons, List.flatMap_cons, h a (.head _), flatMap_same fun x hx => h x (.tail _ hx)]
theorem all_srt (ws : List Nat) (cells : List Cell) (outs : List Port) : (allRaw ws cells outs).map srtB = headBlks (texts ws) (bitNames outs) ++ (cells.flatMap (dueOf (texts ws)) ++ outs.flatMap (outDue (texts ws))) := by
  unfold allRaw
  rw [List.map_append, List.map_append, head_due]
  congr 2
  · rw [List.map_flatMap]
    exact flatMap_same fun c _ => raw_due (texts ws) c
  · rw [List.map_flatMap]
    exact flatMap_same fun c _ => out_due (texts ws) c
theorem rows_len {ws : List Nat} {M : Nat} {cells : List Cell} {outs : List Port} (h : Facts ws M cells outs) : (textRows (allRaw ws cells outs)).length ≤ 10000 ∧ lens (textRows (allRaw ws cells outs)) ≤ 200000 := by
  have hs := h.hs
  have h7 := h.M7
  have hcl := h.cl
  have hok := net_okW h
  have ho := outs_ok h.ho
  have e1 : signalNames (netW ws M cells outs) = .ok (nmT (texts ws) (2 + ws.sum + M)) := by
    have := sig_ok h.hw h.ho (N := netW ws M cells outs) rfl rfl (m := ws.sum + M) (by show 2 + ws.sum + M = _; allgen_close_more) (by allgen_close_more)
    rwa [← Nat.add_assoc] at this
  have hn := signal_namesOk hok.toNetOk e1
  have a1 := cells_len (l := cells) hn (fun c hc => hok.cells c hc) (cells_fold (texts ws) (cnt := 2 + ws.sum + M) (Nat.le_refl _) (acc := textRows (headBlks (texts ws) (bitNames outs))) h.ce)
  have hsh := bitNames_short ho.1
  have a2 := outs_len hn hsh (by have := outs_fold h.ho (texts ws) h.on [] (textRows (headBlks (texts ws) (bitNames outs)) ++ textRows (cells.flatMap (rawOf (texts ws)))); rwa [List.append_nil] at this)
  have hh : ∀ l ∈ insAll, ∀ m ∈ onsAll, (textRows (headBlks l m)).length ≤ 10 ∧ lens (textRows (headBlks l m)) ≤ 1000 := by decide +kernel
  have hh := hh _ (ins_shape h.hw) _ (ons_shape h.ho)
  have e2 : textRows (allRaw ws cells outs) = textRows (headBlks (texts ws) (bitNames outs)) ++ textRows (cells.flatMap (rawOf (texts ws))) ++ textRows (outs.flatMap (outDue (texts ws))) := by
    unfold allRaw
    rw [textRows_append, textRows_append, List.append_assoc]
  rw [e2]
  dsimp only at a2
  have c1 : cells.length * 300 ≤ 7 * 300 := Nat.mul_le_mul_right _ hcl
  constructor <;> allgen_close_more
end

section
open PySem PySem.W PyProof.Rows PySem.Calls
theorem goodLaw : GoodLaw := by
  intro ws M cells outs hL
  have h := facts hL
  have hok := net_okW h
  have hcl := clean_all h
  have hrl := rows_len h
  have hne : allRaw ws cells outs ≠ [] := by unfold allRaw headBlks; simp
  have hg : ∀ b ∈ allRaw ws cells outs ++ [endBlk], BlkGood b := fun b hb => by
    rcases List.mem_append.mp hb with hb | hb
    · exact (hcl b hb).1
    · simp at hb; subst hb; exact clean_end
  have hne2 : allRaw ws cells outs ++ [endBlk] ≠ [] := by simp
  obtain ⟨rest, hr⟩ : ∃ rest, textRows (allRaw ws cells outs) = Txt.join " " [".model", "top"] :: rest := ⟨_, rfl⟩
  have e3 : textRows [endBlk] = [(".end" : Str)] := by
    have : (".end" : Str) = Txt.join " " [(".end" : Str)] := by decide +kernel
    conv => rhs; rw [this]
    rfl
  have hlines := lines_text hne2 hg
  refine ⟨hok, fun b hb => ?_, ⟨textOf (allRaw ws cells outs ++ [endBlk]), write_ok h.hw h.ce h.ho h.on, ?_, ?_, fun x hx => ?_, ?_, fun b hb => ?_, ?_⟩, fun p hp => ?_, fun c hc => ?_⟩
  · rw [← all_srt] at hb
    obtain ⟨b', hb', rfl⟩ := List.mem_map.mp hb
    exact blk_ok (hcl b' hb').1
  · unfold textOf
    rw [Str.length_append, textRows_append]
    have := lens_join "\n" (by decide +kernel) (textRows (allRaw ws cells outs) ++ textRows [endBlk])
    rw [lens_append, e3] at this
    have e4 : lens [(".end" : Str)] = 5 := rfl
    have e5 : ("\n" : Str).length = 1 := rfl
    rw [e3]
    allgen_close_more
  · refine text_tail hne ?_
    have : ∀ l : List Str, (Txt.join " " [".model", "top"]).length ≤ (Txt.join "\n" (Txt.join " " [".model", "top"] :: l)).length := by
      intro l
      rw [show Txt.join "\n" (Txt.join " " [".model", "top"] :: l) = Str.join "\n" (Txt.join " " [".model", "top"] :: l) from StrLaws.glued_eq_join _ _]
      cases l with
      | nil => exact Nat.le_refl _
      | cons a l =>
        show _ ≤ (Txt.join " " [".model", "top"] ++ "\n" ++ Str.join "\n" (a :: l)).length
        rw [Str.length_append, Str.length_append]
        allgen_close_more
    have h2 := this rest
    rw [← hr] at h2
    have h3 : 0 < (Txt.join " " [(".model" : Str), "top"]).length := by decide +kernel
    allgen_close_more
  · rw [hlines, textRows_append, hr] at hx
    have hx : some (Txt.join " " [(".model" : Str), "top"]) = some x := hx
    cases hx
    rw [split_row (clL_cons words_clean.1 (by simpa using words_clean.2.1))]
    exact dots.1 _
  · rw [hlines, textRows_append, e3, List.length_append]
    have : ([(".end" : Str)]).length = 1 := rfl
    allgen_close_more
  · rw [hlines, raw_text hg] at hb
    rcases List.mem_append.mp hb with hb | hb
    · have := (hcl b hb).2
      allgen_close_more
    · simp at hb; subst hb; decide
  · rw [blocks_text hne2 hg, List.map_append]
    have := all_srt ws cells outs
    unfold srtB at this
    rw [this]
    simp only [List.append_assoc]
    rfl
  · rcases List.mem_append.mp hp with hp | hp
    · exact (ins_ok h.hw).2.2 p hp
    · exact (outs_ok h.ho).2.2.2 p hp
  · obtain ⟨t, ht, hl⟩ := h.ce c hc
    have := h.hs
    have := h.M7
    exact (cell_ok (by allgen_close_more) ht hl).2
end

section
open PySem PySem.W PyProof.Rows PySem.Calls
theorem sig_of {ws : List Nat} {M : Nat} {cells : List Cell} {outs : List Port} (h : Facts ws M cells outs) {N : Net} (h1 : N.ins = insOf ws) (h2 : N.outs = outs) {cnt : Nat} (h3 : N.count = cnt) (hm : 2 + ws.sum + M ≤ cnt) : signalNames N = .ok (nmT (texts ws) cnt) := by
  obtain ⟨m, rfl⟩ : ∃ m, cnt = 2 + m := ⟨cnt - 2, by allgen_close_more⟩
  exact sig_ok h.hw h.ho h1 h2 h3 (by allgen_close_more)
theorem write_sig {N : Net} {e : Str × Str} (h : signalNames N = .error e) : writeBlif N = .error e := by
  unfold writeBlif
  rw [h]
  rfl
theorem bad_cell {ws : List Nat} {M : Nat} {cells : List Cell} {outs : List Port} (h : Facts ws M cells outs) {N : Net} (h1 : N.ins = insOf ws) (h2 : N.outs = outs) {cnt : Nat} (h3 : N.count = cnt) (hm : 2 + ws.sum + M ≤ cnt) (h4 : N.name = "top") {cell : Cell} (h5 : N.cells = cells ++ [cell]) {e : Str × Str} (h6 : cellRows (nmT (texts ws) cnt) cell = .error e) : writeBlif N = .error e := by
  unfold writeBlif
  rw [sig_of h h1 h2 h3 hm, okBind, h4, top_ok, okBind, h5, foldE_err (cells_fold (texts ws) hm h.ce) (e := e) (by unfold cellStep; rw [h6]; rfl)]
  rfl

theorem okW_plus {N : Net} (h : NetOkW N) (hc : N.count + 1 ≤ 150) (hm : N.cells.length + 1 ≤ 20) {cell : Cell} (hcell : cellOk cell) : NetOkW (N.plus cell) := by
  obtain ⟨⟨h1, h2, h3, h4, h5⟩, h6, h7, h8, h9⟩ := h
  refine ⟨⟨⟨by show 2 ≤ N.count + 1; allgen_close_more, hc⟩, h2, h3, h4, h5⟩, h6, fun x hx => ?_, by show (N.cells ++ [cell]).length ≤ 20; simpa using hm, h9⟩
  rcases List.mem_append.mp hx with hx | hx
  · exact h7 x hx
  · simp at hx; subst hx; exact hcell
theorem okW_cell {N : Net} (h : NetOkW N) (hm : N.cells.length + 1 ≤ 20) {cell : Cell} (hcell : cellOk cell) : NetOkW (N.addCell cell) := by
  obtain ⟨⟨h1, h2, h3, h4, h5⟩, h6, h7, h8, h9⟩ := h
  refine ⟨⟨h1, h2, h3, h4, h5⟩, h6, fun x hx => ?_, by show (N.cells ++ [cell]).length ≤ 20; simpa using hm, h9⟩
  rcases List.mem_append.mp hx with hx | hx
  · exact h7 x hx
  · simp at hx; subst hx; exact hcell
theorem okW_name {N : Net} (h : NetOkW N) {x : Str} (hx : nameOk x = true) : NetOkW { N with name := x } := by
  obtain ⟨⟨h1, h2, h3, h4, h5⟩, h6, h7, h8, h9⟩ := h
  exact ⟨⟨h1, h2, h3, h4, h5⟩, hx, h7, h8, h9⟩
structure PortOk (p : Port) : Prop where
  n : p.1.length ≤ 100
  l : p.2.length ≤ 20
  t : ∀ x ∈ bitNames [p], nameOk x = true
  z : ∀ n ∈ p.2, netOk n
theorem ports_more {l : List Port} (h : portsOk l) (hl : l.length ≤ 2) {p : Port} (hp : PortOk p) : portsOk (l ++ [p]) := by
  refine ⟨by simp; allgen_close_more, fun q hq => ?_⟩
  rcases List.mem_append.mp hq with hq | hq
  · exact h.2 q hq
  · simp at hq; subst hq; exact ⟨hp.n, hp.l⟩
theorem okW_in {N : Net} (h : NetOkW N) (hl : N.ins.length ≤ 2) {p : Port} (hp : PortOk p) {cnt : Nat} (hc : 2 ≤ cnt ∧ cnt ≤ 150) : NetOkW { N with count := cnt, ins := N.ins ++ [p] } := by
  obtain ⟨⟨h1, h2, h3, h4, h5⟩, h6, h7, h8, h9⟩ := h
  refine ⟨⟨hc, ports_more h2 hl hp, h3, fun t ht => ?_, fun q hq n hn => ?_⟩, h6, h7, h8, h9⟩
  · have ht : t ∈ bitNames (N.ins ++ [p]) ++ bitNames N.outs := ht
    rw [bitNames_append] at ht
    rcases List.mem_append.mp ht with ht | ht
    · rcases List.mem_append.mp ht with ht | ht
      · exact h4 t (List.mem_append_left _ ht)
      · exact hp.t t ht
    · exact h4 t (List.mem_append_right _ ht)
  · have hq : q ∈ (N.ins ++ [p]) ++ N.outs := hq
    rcases List.mem_append.mp hq with hq | hq
    · rcases List.mem_append.mp hq with hq | hq
      · exact h5 q (List.mem_append_left _ hq) n hn
      · simp at hq; subst hq; exact hp.z n hn
    · exact h5 q (List.mem_append_right _ hq) n hn
theorem okW_out {N : Net} (h : NetOkW N) (hl : N.outs.length ≤ 2) (hf : (N.outs.flatMap (·.2)).length ≤ 10) {p : Port} (hp : PortOk p) : NetOkW { N with outs := N.outs ++ [p] } := by
  obtain ⟨⟨h1, h2, h3, h4, h5⟩, h6, h7, h8, h9⟩ := h
  refine ⟨⟨h1, h2, ports_more h3 hl hp, fun t ht => ?_, fun q hq n hn => ?_⟩, h6, h7, h8, ?_⟩
  · have ht : t ∈ bitNames N.ins ++ bitNames (N.outs ++ [p]) := ht
    rw [bitNames_append] at ht
    rcases List.mem_append.mp ht with ht | ht
    · exact h4 t (List.mem_append_left _ ht)
    · rcases List.mem_append.mp ht with ht | ht
      · exact h4 t (List.mem_append_right _ ht)
      · exact hp.t t ht
  · have hq : q ∈ N.ins ++ (N.outs ++ [p]) := hq
    rcases List.mem_append.mp hq with hq | hq
    · exact h5 q (List.mem_append_left _ hq) n hn
    · rcases List.mem_append.mp hq with hq | hq
      · exact h5 q (List.mem_append_right _ hq) n hn
      · simp at hq; subst hq; exact hp.z n hn
  · show ((N.outs ++ [p]).flatMap (·.2)).length ≤ 100
    rw [List.flatMap_append, List.length_append]
    have := hp.l
    simp only [List.flatMap_cons, List.flatMap_nil, List.append_nil]
    allgen_close_more
theorem istr_ok : (∀ i : Fin 64, PyData.strOk (istr (i.val : Int)) = true) ∧ PyData.strOk (istr (-1)) = true := by decide +kernel
theorem istr_strOk {z : Int} (h1 : -1 ≤ z) (h2 : z < 64) : PyData.strOk (istr z) = true := by
  by_cases h : z = -1
  · subst h; exact istr_ok.2
  · obtain ⟨n, rfl⟩ := Int.eq_ofNat_of_zero_le (show 0 ≤ z by allgen_close_more)
    exact istr_ok.1 ⟨n, by allgen_close_more⟩
theorem netOk_near {z : Int} (h1 : -1 ≤ z) (h2 : z < 64) : netOk z := by
  by_cases h : z = -1
  · subst h; show (-1 : Int).natAbs.log2 < 1920; decide
  · exact netOk_small (by allgen_close_more) (by allgen_close_more)
noncomputable def badAll : List Str := ["a b", "a#", "a\\", "c d[0]", "#[0]", " c[0]", "", "q#", "q\\"]
theorem bad_ok : ∀ x ∈ badAll, nameOk x = true ∧ PyData.strOk x = true ∧ checkedName x = .error ("bad_name", x) := by
  have h1 : ∀ x ∈ badAll, nameOk x = true ∧ PyData.strOk x = true := by decide +kernel
  have h2 : ∀ x ∈ badAll, (Txt.words x ≠ [x] ∨ Txt.contains x "#" = true ∨ Txt.item x (-1) = "\\") := by decide +kernel
  intro x hx
  refine ⟨(h1 x hx).1, (h1 x hx).2, ?_⟩
  unfold checkedName
  rw [if_pos (h2 x hx)]
theorem kinds_ok : PyData.strOk "not_in_blif" = true ∧ PyData.strOk "too_many_inputs" = true ∧ PyData.strOk "bad_name" = true ∧ PyData.strOk "bad_net" = true ∧ PyData.strOk "empty_port" = true := by decide +kernel
theorem held_ok : nameOk "held" = true ∧ PyData.strOk "held" = true ∧ checkedName "held" = .ok "held" := by
  have h1 : nameOk "held" = true ∧ PyData.strOk "held" = true ∧ Txt.words ("held" : Str) = [("held" : Str)] ∧ Txt.contains ("held" : Str) "#" = false ∧ Txt.item ("held" : Str) (-1) ≠ "\\" := by decide +kernel
  refine ⟨h1.1, h1.2.1, ?_⟩
  unfold checkedName
  rw [if_neg]
  rintro (h | h | h)
  · exact h h1.2.2.1
  · rw [h1.2.2.2.1] at h; cases h
  · exact h1.2.2.2.2 h
end

section
open PySem PySem.W PyProof.Rows PySem.Calls
theorem portOk1 {x y : Str} {a : Int} (hl : x.length ≤ 100) (e : bitName x 0 = y) (hy : nameOk y = true) (ha : netOk a) : PortOk (x, [a]) := by
  refine ⟨hl, by show 1 ≤ 20; decide, fun t ht => ?_, fun n hn => ?_⟩
  · have ht : t ∈ [bitName x 0] := ht
    rw [e] at ht
    simp at ht; subst ht; exact hy
  · have hn : n ∈ [a] := hn
    simp at hn; subst hn; exact ha
theorem b4_names : ∀ x ∈ (["c d", "#", " c"] : List Str), bitName x 0 = x ++ "[0]" ∧ x ++ "[0]" ∈ badAll ∧ x.length ≤ 100 := by decide +kernel

section
variable {ws : List Nat} {M : Nat} {cells : List Cell} {outs : List Port}
theorem count_ok (h : Facts ws M cells outs) : 4 ≤ (netW ws M cells outs).count ∧ (netW ws M cells outs).count ≤ 13 := by
  have := h.hs; have := h.M1; have := h.M7
  constructor
  · show 4 ≤ 2 + ws.sum + M; allgen_close_more
  · show 2 + ws.sum + M ≤ 13; allgen_close_more
theorem bad_plus (h : Facts ws M cells outs) {cell : Cell} (hk : cellOk cell) {kd d : Str} (he : cellRows (nmT (texts ws) (2 + ws.sum + M + 1)) cell = .error (kd, d)) (h1 : PyData.strOk kd = true) (h2 : PyData.strOk d = true) : Bad ((netW ws M cells outs).plus cell) kd d := by
  have hc := count_ok h
  exact ⟨okW_plus (net_okW h) (by allgen_close_more) (by show cells.length + 1 ≤ 20; have := h.cl; allgen_close_more) hk, bad_cell (cnt := 2 + ws.sum + M + 1) h rfl rfl rfl (by allgen_close_more) rfl rfl he, h1, h2⟩
theorem bad_add (h : Facts ws M cells outs) {cell : Cell} (hk : cellOk cell) {kd d : Str} (he : cellRows (nmT (texts ws) (2 + ws.sum + M)) cell = .error (kd, d)) (h1 : PyData.strOk kd = true) (h2 : PyData.strOk d = true) : Bad ((netW ws M cells outs).addCell cell) kd d :=
  ⟨okW_cell (net_okW h) (by show cells.length + 1 ≤ 20; have := h.cl; allgen_close_more) hk, bad_cell (cnt := 2 + ws.sum + M) h rfl rfl rfl (by allgen_close_more) rfl rfl he, h1, h2⟩
theorem ins_bad (h : Facts ws M cells outs) {x y : Str} (hl : x.length ≤ 100) (e : bitName x 0 = y) (hy : nameOk y = true) (hs : PyData.strOk y = true) (hb : y ∈ texts ws ∨ checkedName y = .error ("bad_name", y)) : Bad ((netW ws M cells outs).addIn x 1) "bad_name" y := by
  have hc := count_ok h
  have hs4 := h.hs
  have hs7 := h.M7
  refine ⟨okW_in (net_okW h) (ins_ok h.hw).2.1 (portOk1 (a := ((2 + ws.sum + M : Nat) : Int) + ((0 : Nat) : Int)) hl e hy (netOk_near (by allgen_close_more) (by allgen_close_more))) (by allgen_close_more), write_sig (sig_name (l := texts ws) (m := bitNames outs) (fun p hp => ?_) ?_ (texts_good h.hw) ?_ hb), kinds_ok.2.2.1, hs⟩
  · have hp : p ∈ (insOf ws ++ [(x, [((2 + ws.sum + M : Nat) : Int) + ((0 : Nat) : Int)])]) ++ outs := hp
    rcases List.mem_append.mp hp with hp | hp
    · rcases List.mem_append.mp hp with hp | hp
      · exact ins_ne h.hw p hp
      · simp only [List.mem_singleton] at hp; subst hp; exact List.cons_ne_nil _ _
    · exact outs_ne h.ho p hp
  · show bitNames (insOf ws ++ [(x, [((2 + ws.sum + M : Nat) : Int) + ((0 : Nat) : Int)])]) ++ bitNames outs = _
    rw [bitNames_append]
    show (texts ws ++ [bitName x 0]) ++ bitNames outs = _
    rw [e, List.append_assoc]
    rfl
  · have := all_nodup h.hw h.ho
    rw [List.append_assoc, List.append_assoc] at this
    exact this.sublist (List.sublist_append_left _ _)
theorem outs_bad (h : Facts ws M cells outs) {x y : Str} {f : Int} (hf : netOk f) (hl : x.length ≤ 100) (e : bitName x 0 = y) (hy : nameOk y = true) (hs : PyData.strOk y = true) (hb : y ∈ texts ws ++ bitNames outs ∨ checkedName y = .error ("bad_name", y)) : Bad ((netW ws M cells outs).addOut x [f]) "bad_name" y := by
  refine ⟨okW_out (net_okW h) (outs_ok h.ho).2.1 (by have := (outs_ok h.ho).2.2.1; show (outs.flatMap (·.2)).length ≤ 10; allgen_close_more) (portOk1 hl e hy hf), write_sig (sig_name (l := texts ws ++ bitNames outs) (m := []) (fun p hp => ?_) ?_ (fun t ht => (List.mem_append.mp ht).elim (texts_good h.hw t) (ons_good h.ho t)) ?_ hb), kinds_ok.2.2.1, hs⟩
  · have hp : p ∈ insOf ws ++ (outs ++ [(x, [f])]) := hp
    rcases List.mem_append.mp hp with hp | hp
    · exact ins_ne h.hw p hp
    · rcases List.mem_append.mp hp with hp | hp
      · exact outs_ne h.ho p hp
      · simp only [List.mem_singleton] at hp; subst hp; exact List.cons_ne_nil _ _
  · show texts ws ++ bitNames (outs ++ [(x, [f])]) = _
    rw [bitNames_append]
    show texts ws ++ (bitNames outs ++ [bitName x 0]) = _
    rw [e, List.append_assoc]
  · have := all_nodup h.hw h.ho
    rw [List.append_assoc, List.append_assoc] at this
    refine this.sublist (List.Sublist.append (List.Sublist.refl _) ?_)
    refine List.Sublist.trans ?_ (List.sublist_append_right _ _)
    exact List.sublist_append_left _ _
theorem x_bad (h : Facts ws M cells outs) {f z : Int} (hf : 0 ≤ f ∧ f < ((2 + ws.sum + M : Nat) : Int)) (hz : z < 0 ∨ ((2 + ws.sum + M : Nat) : Int) ≤ z) (hz1 : -1 ≤ z) (hz2 : z < 64) : Bad ((netW ws M cells outs).addOut "x" [f, z]) "bad_net" (istr z) := by
  have hc := count_ok h
  have hs := h.hs
  have h7 := h.M7
  have e0 : bitName "x" 0 = "x[0]" ∧ bitName "x" 1 = "x[1]" ∧ ("x" : Str).length ≤ 100 ∧ ("x[0]" : Str) ∈ good20 ∧ ("x[1]" : Str) ∈ good20 := by decide +kernel
  have hp : PortOk ("x", [f, z]) := by
    refine ⟨e0.2.2.1, by show 2 ≤ 20; decide, fun t ht => ?_, fun n hn => ?_⟩
    · have ht : t ∈ [bitName "x" 0, bitName "x" 1] := ht
      rw [e0.1, e0.2.1] at ht
      simp only [List.mem_cons, List.not_mem_nil, or_false] at ht
      rcases ht with rfl | rfl
      · exact (good20_ok _ e0.2.2.2.1).2.1
      · exact (good20_ok _ e0.2.2.2.2).2.1
    · have hn : n ∈ [f, z] := hn
      simp only [List.mem_cons, List.not_mem_nil, or_false] at hn
      rcases hn with rfl | rfl
      · exact netOk_near (by allgen_close_more) (by allgen_close_more)
      · exact netOk_near hz1 hz2
  refine ⟨okW_out (net_okW h) (outs_ok h.ho).2.1 (by have := (outs_ok h.ho).2.2.1; show (outs.flatMap (·.2)).length ≤ 10; allgen_close_more) hp, ?_, kinds_ok.2.2.2.1, istr_strOk hz1 hz2⟩
  unfold writeBlif
  have e1 : signalNames ((netW ws M cells outs).addOut "x" [f, z]) = .ok (nmT (texts ws) (2 + ws.sum + M)) := by
    have := sig_okX h.hw h.ho (N := (netW ws M cells outs).addOut "x" [f, z]) rfl rfl (m := ws.sum + M) (by show 2 + ws.sum + M = _; allgen_close_more) (by allgen_close_more)
    rwa [← Nat.add_assoc] at this
  rw [e1, okBind]
  show (checkedName "top" >>= _) = _
  rw [top_ok, okBind]
  show (foldE (cellStep _) _ cells >>= _) = _
  rw [cells_fold (texts ws) (Nat.le_refl _) h.ce, okBind]
  show (foldE (outStep (nmT (texts ws) (2 + ws.sum + M)) (bitNames (outs ++ [(("x" : Str), [f, z])]))) _ ((outs ++ [(("x" : Str), [f, z])]).flatMap (·.2)) >>= _) = _
  rw [bitNames_append, List.flatMap_append, foldE_append, outs_fold h.ho (texts ws) h.on, okBind]
  have e2 : [(("x" : Str), [f, z])].flatMap (fun p : Port => p.2) = [f, z] := rfl
  rw [e2, foldE_cons]
  unfold outStep
  rw [net_ok _ hf.1 hf.2, okBind, okBind, foldE_cons, net_bad _ hz]
  rfl
end
end

section
open PySem PySem.W PyProof.Rows PySem.Calls
theorem kind_ne : ("latch" : Str) ≠ "flop" ∧ ("lut" : Str) ≠ "flop" ∧ ("lut" : Str) ≠ "latch" ∧ ("and" : Str) ≠ "flop" ∧ ("and" : Str) ≠ "latch" ∧ ("buf" : Str) ≠ "flop" ∧ ("buf" : Str) ≠ "latch" ∧ ("and" : Str) ∈ gateKinds ∧ ("buf" : Str) ∈ gateKinds ∧ arity "and" = 2 ∧ arity "buf" = 1 ∧ ("and" : Str) ≠ "lut" ∧ ("and" : Str) ≠ "cell" ∧ ("buf" : Str) ≠ "lut" ∧ ("buf" : Str) ≠ "cell" := by decide +kernel
noncomputable abbrev Near (n : Int) : Prop := -1 ≤ n ∧ n < 64
theorem Near.ok {n : Int} (h : Near n) : netOk n := netOk_near h.1 h.2
theorem near1 {a : Int} (ha : Near a) : ∀ n ∈ [a], netOk n := List.forall_mem_cons.2 ⟨ha.ok, fun _ h => nomatch h⟩
theorem near2 {a b : Int} (ha : Near a) (hb : Near b) : ∀ n ∈ [a, b], netOk n := List.forall_mem_cons.2 ⟨ha.ok, near1 hb⟩
theorem near4 {a b x y : Int} (ha : Near a) (hb : Near b) (hx : Near x) (hy : Near y) : ∀ n ∈ [a, b, x, y], netOk n := List.forall_mem_cons.2 ⟨ha.ok, List.forall_mem_cons.2 ⟨hb.ok, near2 hx hy⟩⟩
theorem m0 : Near 0 := by decide
theorem m1 : Near 1 := by decide
theorem m2 : Near 2 := by decide
theorem flop_ok {o a b x y e init : Int} {name : Str} (ho : Near o) (ha : Near a) (hb : Near b) (hx : Near x) (hy : Near y) (hn : nameOk name = true) (hi : init = 0 ∨ init = 1) : cellOk ⟨"flop", o, [a, b, x, y], .flop e name init⟩ := by
  refine ⟨ho.ok, near4 ha hb hx hy, by show 4 ≤ 20; decide, ?_⟩
  rw [if_pos rfl]
  refine ⟨a, b, x, y, e, name, init, rfl, rfl, hn, ?_⟩
  rcases hi with rfl | rfl
  · exact ⟨netOk_small (by decide) (by decide), istr_len' (by decide) (by decide)⟩
  · exact ⟨netOk_small (by decide) (by decide), istr_len' (by decide) (by decide)⟩

theorem badLaw : BadLaw := by
  intro ws M cells outs hL
  have h := facts hL
  have hs := h.hs
  have h7 := h.M7
  have h1 := h.M1
  have hc := count_ok h
  have hcn : (netW ws M cells outs).count = 2 + ws.sum + M := rfl
  obtain ⟨s1, s2, s3, s4, s5⟩ := kinds_ok
  obtain ⟨k1, k2, k3, k4, k5, k6, k7, k8, k9, k10, k11, k12, k13, k14, k15⟩ := kind_ne
  have mN : Near ((2 + ws.sum + M : Nat) : Int) := ⟨by allgen_close_more, by allgen_close_more⟩
  have hN := mN.ok
  have mf : Near ((2 + ws.sum : Nat) : Int) := ⟨by allgen_close_more, by allgen_close_more⟩
  have hf := mf.ok
  refine ⟨fun i => ?_, fun x y hxy => ?_, fun n n1 n2 => ?_, fun x hx => ?_, fun x hx => ?_, ?_, fun x hx => ?_, fun z hz => ?_, fun z hz => ?_, ?_⟩
  · refine bad_plus h ?_ ?_ s1 held_ok.2.1
    · refine ⟨hN, near4 m0 mf m0 m0, by show 4 ≤ 20; decide, ?_⟩
      · rw [if_neg k1, if_pos rfl]
        exact ⟨_, _, rfl⟩
    · unfold cellRows
      rw [if_neg k1, if_pos rfl]
  · have mxy : (Near x ∧ Near y) ∧ (¬x = 0 ∨ ¬y = 0) := by
      simp only [List.mem_cons, List.not_mem_nil, or_false, Prod.mk.injEq] at hxy
      rcases hxy with ⟨rfl, rfl⟩ | ⟨rfl, rfl⟩ | ⟨rfl, rfl⟩
      · exact ⟨⟨m0, m2⟩, .inr (by decide)⟩
      · exact ⟨⟨m1, m0⟩, .inl (by decide)⟩
      · exact ⟨⟨mf, m1⟩, .inr (by decide)⟩
    obtain ⟨⟨mx, my⟩, nxy⟩ := mxy
    refine bad_plus h (flop_ok mN m2 m2 mx my held_ok.1 (.inl rfl)) ?_ s1 held_ok.2.1
    · unfold cellRows
      rw [if_pos rfl]
      show flopRows _ _ 2 2 x y 1 "held" 0 = _
      unfold flopRows
      exact if_pos nxy
  · refine bad_plus h ?_ ?_ s2 (istr_strOk (by allgen_close_more) (by allgen_close_more))
    · refine ⟨hN, fun m hm => ?_, by show (List.replicate n (2 : Int)).length ≤ 20; rw [List.length_replicate]; allgen_close_more, ?_⟩
      · rw [List.eq_of_mem_replicate hm]; exact netOk_near (by decide) (by decide)
      · rw [if_neg k2, if_neg k3]
        intro hl
        have hl : (List.replicate n (2 : Int)).length ≤ 8 := hl
        rw [List.length_replicate] at hl
        allgen_close_more
    · unfold cellRows
      rw [if_neg k2, if_neg k3, if_pos (by show 8 < (List.replicate n (2 : Int)).length; rw [List.length_replicate]; allgen_close_more)]
  · have hb : x ∈ badAll := by
      have : ∀ x ∈ (["a b", "a#", "a\\"] : List Str), x ∈ badAll := by decide +kernel
      exact this x hx
    obtain ⟨g1, g2, g3⟩ := bad_ok x hb
    refine ⟨okW_name (net_okW h) g1, ?_, s3, g2⟩
    unfold writeBlif
    rw [sig_of h rfl rfl rfl (Nat.le_refl _), okBind]
    show (checkedName x >>= _) = _
    rw [g3]
    rfl
  · obtain ⟨e1, e2, e3⟩ := b4_names x hx
    obtain ⟨g1, g2, g3⟩ := bad_ok _ e2
    exact ⟨ins_bad h e3 e1 g1 g2 (.inr g3), outs_bad h hf e3 e1 g1 g2 (.inr g3)⟩
  · have q : bitName "a" 0 = "a[0]" ∧ ("a" : Str).length ≤ 100 ∧ ("a[0]" : Str) ∈ good20 ∧ bitName "y" 0 = "y[0]" ∧ ("y" : Str).length ≤ 100 ∧ ("y[0]" : Str) ∈ good20 ∧ (∀ l ∈ insAll, ("a[0]" : Str) ∈ l) ∧ ∀ l ∈ onsAll, ("y[0]" : Str) ∈ l := by decide +kernel
    obtain ⟨q1, q2, q3, q4, q5, q6, q7, q8⟩ := q
    obtain ⟨_, g1, g2⟩ := good20_ok _ q3
    obtain ⟨_, g4, g5⟩ := good20_ok _ q6
    have i1 := q7 _ (ins_shape h.hw)
    have i2 := q8 _ (ons_shape h.ho)
    exact ⟨ins_bad h q2 q1 g1 (clW.ok g2) (.inl i1), outs_bad h hf q2 q1 g1 (clW.ok g2) (.inl (List.mem_append_left _ i1)), outs_bad h hf q5 q4 g4 (clW.ok g5) (.inl (List.mem_append_right _ i2))⟩
  · have hb : x ∈ badAll := by
      have : ∀ x ∈ (["", "q#", "q\\"] : List Str), x ∈ badAll := by decide +kernel
      exact this x hx
    obtain ⟨g1, g2, g3⟩ := bad_ok x hb
    refine bad_plus h (flop_ok mN m2 m2 m0 m0 g1 (.inr rfl)) ?_ s3 g2
    · unfold cellRows
      rw [if_pos rfl]
      show flopRows _ _ 2 2 0 0 0 x 1 = _
      unfold flopRows
      rw [if_neg (by simp), net_ok _ (by allgen_close_more) (by allgen_close_more), okBind]
      show (netName _ ((2 + ws.sum + M : Nat) : Int) >>= _) = _
      rw [net_ok _ (by allgen_close_more) (by allgen_close_more), okBind, okBind, g3]
      rfl
  · have hz' : z = -1 ∨ z = ((2 + ws.sum + M : Nat) : Int) + 1 ∨ z = ((2 + ws.sum + M : Nat) : Int) + 40 := by
      have hz := hz
      rw [hcn] at hz
      simpa only [List.mem_cons, List.not_mem_nil, or_false] using hz
    have rs : ((-1 ≤ z ∧ z < 64) ∧ (z < 0 ∨ ((2 + ws.sum + M : Nat) : Int) ≤ z)) ∧ (z < 0 ∨ ((2 + ws.sum + M + 1 : Nat) : Int) ≤ z) := by
      rcases hz' with rfl | rfl | rfl
      · exact ⟨⟨⟨by decide, by decide⟩, .inl (by decide)⟩, .inl (by decide)⟩
      · exact ⟨⟨⟨by allgen_close_more, by allgen_close_more⟩, .inr (by allgen_close_more)⟩, .inr (by allgen_close_more)⟩
      · exact ⟨⟨⟨by allgen_close_more, by allgen_close_more⟩, .inr (by allgen_close_more)⟩, .inr (by allgen_close_more)⟩
    obtain ⟨⟨⟨r1, r2⟩, r3⟩, r4⟩ := rs
    have r5 := istr_strOk r1 r2
    have mz : Near z := ⟨r1, r2⟩
    refine ⟨bad_plus h ?_ ?_ s4 r5, bad_add h ?_ ?_ s4 r5, bad_plus h (flop_ok mN mz m2 m0 m0 held_ok.1 (.inl rfl)) ?_ s4 r5, x_bad h (by allgen_close_more) r3 r1 r2⟩
    · refine ⟨hN, near2 mf mz, by show 2 ≤ 20; decide, ?_⟩
      · rw [if_neg k4, if_neg k5]
        intro _
        exact ⟨by show 2 ≤ 8; decide, fun e => absurd e k12, fun e => absurd e k13, fun _ _ => ⟨k8, by rw [k10]; show 2 ≤ 2; decide⟩⟩
    · unfold cellRows
      rw [if_neg k4, if_neg k5, if_neg (by show ¬ (2 > 8); decide)]
      unfold mapE
      rw [net_ok _ (by allgen_close_more) (by allgen_close_more), okBind]
      unfold mapE
      rw [net_bad _ r4]
      rfl
    · refine ⟨mz.ok, near1 mf, by show 1 ≤ 20; decide, ?_⟩
      · rw [if_neg k6, if_neg k7]
        intro _
        exact ⟨by show 1 ≤ 8; decide, fun e => absurd e k14, fun e => absurd e k15, fun _ _ => ⟨k9, by rw [k11]; show 1 ≤ 1; decide⟩⟩
    · unfold cellRows
      rw [if_neg k6, if_neg k7, if_neg (by show ¬ (1 > 8); decide), mapE_ok _ (cnt := 2 + ws.sum + M) (List.forall_mem_cons.2 ⟨⟨by allgen_close_more, by allgen_close_more⟩, fun _ h => absurd h List.not_mem_nil⟩), okBind]
      show (netName _ z >>= _) = _
      rw [net_bad _ r3]
      rfl
    · unfold cellRows
      rw [if_pos rfl]
      show flopRows _ _ z 2 0 0 1 "held" 0 = _
      unfold flopRows
      rw [if_neg (by simp), net_ok _ (by allgen_close_more) (by allgen_close_more), okBind]
      show (netName _ ((2 + ws.sum + M : Nat) : Int) >>= _) = _
      rw [net_ok _ (by allgen_close_more) (by allgen_close_more), okBind, net_bad _ r4]
      rfl
  · have hz' : z = 2 ∨ z = 1 ∨ z = ((2 + ws.sum + M : Nat) : Int) + 3 := by
      have hz := hz
      rw [hcn] at hz
      simpa only [List.mem_cons, List.not_mem_nil, or_false] using hz
    have q : bitName "c" 0 = "c[0]" ∧ ("c" : Str).length ≤ 100 ∧ ("c[0]" : Str) ∈ good20 := by decide +kernel
    refine ⟨okW_in (net_okW h) (ins_ok h.hw).2.1 (portOk1 q.2.1 q.1 (good20_ok _ q.2.2).2.1 (netOk_near (by allgen_close_more) (by allgen_close_more))) (cnt := 2 + ws.sum + M) (by allgen_close_more), ?_, s4, istr_strOk (by allgen_close_more) (by allgen_close_more)⟩
    exact write_sig (sig_c h.hw h.ho rfl rfl (m := ws.sum + M) (by show 2 + ws.sum + M = _; allgen_close_more) (by allgen_close_more) hz')
  · have q : ("e" : Str).length ≤ 100 ∧ PyData.strOk ("e" : Str) = true := by decide +kernel
    have hp : PortOk ("e", []) := ⟨q.1, Nat.zero_le _, fun t ht => absurd ht List.not_mem_nil, fun n hn => absurd hn List.not_mem_nil⟩
    refine ⟨⟨okW_in (net_okW h) (ins_ok h.hw).2.1 hp (cnt := 2 + ws.sum + M + 0) (by allgen_close_more), ?_, s5, q.2⟩, ⟨okW_out (net_okW h) (outs_ok h.ho).2.1 (by have := (outs_ok h.ho).2.2.1; show (outs.flatMap (·.2)).length ≤ 10; allgen_close_more) hp, ?_, s5, q.2⟩⟩
    · refine write_sig (sig_empty (p := (("e" : Str), [])) (l := insOf ws) (m := outs) ?_ (ins_ne h.hw) rfl)
      show (insOf ws ++ [(("e" : Str), [])]) ++ outs = _
      rw [List.append_assoc]
      rfl
    · refine write_sig (sig_empty (p := (("e" : Str), [])) (l := insOf ws ++ outs) (m := []) ?_ (fun p hp => (List.mem_append.mp hp).elim (ins_ne h.hw p) (outs_ne h.ho p)) rfl)
      show insOf ws ++ (outs ++ [(("e" : Str), [])]) = _
      rw [List.append_assoc]
end

end Mine
end

theorem PySem.Challenge.cw_sj0035_01_holds : PySem.Challenge.rw_sj0035_01.Holds :=
  Mine.law_holds Mine.goodLaw Mine.badLaw
