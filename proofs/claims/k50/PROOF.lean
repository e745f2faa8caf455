import PyProof.Rows.All
import Wide.All
import OpenK.AllK
import Wide.FinOn
import HandS.ForMost
import HandS.ForExc
import HandS.Walk
import HandS.Style
import HandS.Deep
import HandS.Rev
import HandS.TupMul
import HandS.Conv
import HandS.TupAny
import KE.GoesEnum
import KE.GoesMore
import HandS.SortInts
import HandS.IsInst
import HandS.SortRule
import HandS.More
import HandS.Set
import HandS.Strs
import HandS.SetTxt0
import KE.GoesZip
import HandS.RaiseMore
import PyProof.StrOps2
import HandS.Text
import PySem.Challenge.RW_touchtree_k50_written
set_option Elab.async false
set_option linter.all false
set_option maxRecDepth 100000
set_option maxHeartbeats 4000000
set_option autoImplicit false
/-! The data layer, part A: data trees, what represents them, the frame of a def, the judgements. -/
namespace Dx
open PySem PySem.Spec PyProof.Rows L2

/-! ### results -/
inductive R (α : Type) : Type where
  | ok (a : α)
  | exc (c : Str)
  | bad
def R.bnd {α β : Type} : R α → (α → R β) → R β
  | .ok a, f => f a
  | .exc c, _ => .exc c
  | .bad, _ => .bad
instance : Monad R where
  pure := R.ok
  bind := R.bnd
@[simp] theorem R.ok_bind {α β : Type} (a : α) (f : α → R β) : (R.ok a >>= f) = f a := (rfl)
@[simp] theorem R.exc_bind {α β : Type} (c : Str) (f : α → R β) : ((R.exc c : R α) >>= f) = R.exc c := (rfl)
@[simp] theorem R.bad_bind {α β : Type} (f : α → R β) : ((R.bad : R α) >>= f) = R.bad := (rfl)
@[simp] theorem R.pure_eq {α : Type} (a : α) : (pure a : R α) = R.ok a := (rfl)

/-! ### data -/
inductive D where
  | non
  | bl (b : Bool)
  | int (i : Int)
  | str (s : Str)
  | tup (xs : List D)
  | lst (xs : List D)
  | dic (kvs : List (Key × D))
  /-- the script -/
  | frz (ns : List Int)
  /-- some object, of which nothing is told -/
  | opq

/-- a text of Python's, not too long -/
def sOk (x : Str) : Bool := PyData.strOk x && decide (x.length ≤ 16777216)
def keyOk : Key → Bool
  | .inl _ => true
  | .inr x => sOk x
mutual
inductive Rep (K : PySem.W.Frag) (H : Hp) : V → D → Prop
  | non : Rep K H .non .non
  | bl (b : Bool) : Rep K H (.bl b) (.bl b)
  | int (i : Int) : Rep K H (.int i) (.int i)
  | str (x : Str) : sOk x = true → Rep K H (.str x) (.str x)
  | tup {a : Addr} {vs : List V} {xs : List D} : H a = some (.tup vs) → xs.length ≤ sizeLine → RepAll K H vs xs → Rep K H (.ref a) (.tup xs)
  | lst {a : Addr} {vs : List V} {xs : List D} : H a = some (.lst vs) → xs.length ≤ sizeLine → RepAll K H vs xs → Rep K H (.ref a) (.lst xs)
  | dic {a : Addr} {kvs : List (Key × V)} {xs : List (Key × D)} : Rd H a (.dK kvs) → RepKv K H kvs xs → Rep K H (.ref a) (.dic xs)
  | frz {a : Addr} {ns : List Int} : SqL K H a (ns.map V.int) → Rep K H (.ref a) (.frz ns)
  | opq (a : Addr) : Rep K H (.ref a) .opq
inductive RepAll (K : PySem.W.Frag) (H : Hp) : List V → List D → Prop
  | nil : RepAll K H [] []
  | cons {v : V} {vs : List V} {x : D} {xs : List D} : Rep K H v x → RepAll K H vs xs → RepAll K H (v :: vs) (x :: xs)
inductive RepKv (K : PySem.W.Frag) (H : Hp) : List (Key × V) → List (Key × D) → Prop
  | nil : RepKv K H [] []
  | cons {k : Key} {v : V} {vs : List (Key × V)} {x : D} {xs : List (Key × D)} : keyOk k = true → Rep K H v x → RepKv K H vs xs → RepKv K H ((k, v) :: vs) ((k, x) :: xs)
end

section
variable {K : PySem.W.Frag} {H H' : Hp}
mutual
theorem Rep.mono (s : Same H H') : ∀ {v : V} {d : D}, Rep K H v d → Rep K H' v d
  | _, _, .non => .non
  | _, _, .bl b => .bl b
  | _, _, .int i => .int i
  | _, _, .str x h => .str x h
  | _, _, .tup h z r => .tup (s _ _ h) z (RepAll.mono s r)
  | _, _, .lst h z r => .lst (s _ _ h) z (RepAll.mono s r)
  | _, _, .dic h r => .dic (h.imp (s _ _) fun ⟨o, e⟩ => ⟨o, s _ _ e⟩) (RepKv.mono s r)
  | _, _, .frz h => .frz (s.seq h)
  | _, _, .opq a => .opq a
theorem RepAll.mono (s : Same H H') : ∀ {vs : List V} {xs : List D}, RepAll K H vs xs → RepAll K H' vs xs
  | _, _, .nil => .nil
  | _, _, .cons r t => .cons (Rep.mono s r) (RepAll.mono s t)
theorem RepKv.mono (s : Same H H') : ∀ {vs : List (Key × V)} {xs : List (Key × D)}, RepKv K H vs xs → RepKv K H' vs xs
  | _, _, .nil => .nil
  | _, _, .cons h r t => .cons h (Rep.mono s r) (RepKv.mono s t)
end
theorem RepAll.length {vs : List V} {xs : List D} (r : RepAll K H vs xs) : vs.length = xs.length := by
  induction vs generalizing xs with
  | nil => cases r; rfl
  | cons v vs ih => cases r with | cons _ t => simp [ih t]
theorem RepAll.get {vs : List V} {xs : List D} (r : RepAll K H vs xs) {i : Nat} {x : D} (h : xs[i]? = some x) : ∃ v, vs[i]? = some v ∧ Rep K H v x := by
  induction vs generalizing xs i with
  | nil => cases r; simp at h
  | cons v vs ih =>
    cases r with
    | cons q t =>
      cases i with
      | zero => simp at h; subst h; exact ⟨_, rfl, q⟩
      | succ i => simpa using ih t (by simpa using h)
theorem RepAll.getV {vs : List V} {xs : List D} (r : RepAll K H vs xs) {i : Nat} {v : V} (h : vs[i]? = some v) : ∃ x, xs[i]? = some x ∧ Rep K H v x := by
  induction vs generalizing xs i with
  | nil => simp at h
  | cons w vs ih =>
    cases r with
    | cons q t =>
      cases i with
      | zero => simp at h; subst h; exact ⟨_, rfl, q⟩
      | succ i => simpa using ih t (by simpa using h)
theorem RepAll.append {vs ws : List V} {xs ys : List D} (r : RepAll K H vs xs) (q : RepAll K H ws ys) : RepAll K H (vs ++ ws) (xs ++ ys) := by
  induction vs generalizing xs with
  | nil => cases r; exact q
  | cons v vs ih => cases r with | cons a t => exact .cons a (ih t)
theorem RepAll.take {vs : List V} {xs : List D} (n : Nat) (r : RepAll K H vs xs) : RepAll K H (vs.take n) (xs.take n) := by
  induction vs generalizing xs n with
  | nil => cases r; simp; exact .nil
  | cons v vs ih =>
    cases r with
    | cons a t =>
      cases n with
      | zero => exact .nil
      | succ n => exact .cons a (ih n t)
theorem RepAll.drop {vs : List V} {xs : List D} (n : Nat) (r : RepAll K H vs xs) : RepAll K H (vs.drop n) (xs.drop n) := by
  induction vs generalizing xs n with
  | nil => cases r; simp; exact .nil
  | cons v vs ih =>
    cases r with
    | cons a t =>
      cases n with
      | zero => exact .cons a t
      | succ n => simpa using ih n t
theorem RepAll.reverse {vs : List V} {xs : List D} (r : RepAll K H vs xs) : RepAll K H vs.reverse xs.reverse := by
  induction vs generalizing xs with
  | nil => cases r; exact .nil
  | cons v vs ih =>
    cases r with
    | cons a t =>
      rw [List.reverse_cons, List.reverse_cons]
      exact (ih t).append (.cons a .nil)
theorem RepAll.snoc {vs : List V} {xs : List D} {v : V} {x : D} (r : RepAll K H vs xs) (q : Rep K H v x) : RepAll K H (vs ++ [v]) (xs ++ [x]) := r.append (.cons q .nil)
theorem RepAll.ints {vs : List V} {ns : List Int} (r : RepAll K H vs (ns.map D.int)) : vs = ns.map V.int := by
  induction ns generalizing vs with
  | nil => cases r; rfl
  | cons n ns ih =>
    cases r with
    | cons a t => cases a; rw [ih t]; rfl
theorem RepAll.strs {vs : List V} {ns : List Str} (r : RepAll K H vs (ns.map D.str)) : vs = ns.map V.str := by
  induction ns generalizing vs with
  | nil => cases r; rfl
  | cons n ns ih =>
    cases r with
    | cons a t => cases a; rw [ih t]; rfl
theorem RepAll.bls {vs : List V} {ns : List Bool} (r : RepAll K H vs (ns.map D.bl)) : vs = ns.map V.bl := by
  induction ns generalizing vs with
  | nil => cases r; rfl
  | cons n ns ih =>
    cases r with
    | cons a t => cases a; rw [ih t]; rfl
theorem repAll_ints (ns : List Int) : RepAll K H (ns.map V.int) (ns.map D.int) := by
  induction ns with
  | nil => exact .nil
  | cons n ns ih => exact .cons (.int n) ih
end

/-! ### objects that change: trees -/
/-- data; a list, a dict, an instance of its own; a hole: what another name holds -/
inductive Tr where
  | da (d : D)
  | ls (ts : List Tr)
  | dc (kvs : List (Key × Tr))
  | ob (c : Str) (fs : List (Str × Tr))
  | hl (n : Nat)
mutual
/-- v is such a tree, standing at the addresses fp -/
inductive TrAt (K : PySem.W.Frag) (ξ : Str → Value) (τ : Nat → Option V) (H0 H : Hp) : V → Tr → List Addr → Prop
  | da {v : V} {d : D} : Rep K H0 v d → TrAt K ξ τ H0 H v (.da d) []
  | ls {a : Addr} {vs : List V} {ts : List Tr} {fp : List Addr} : H a = some (.lst vs) → ts.length ≤ sizeLine → TrAll K ξ τ H0 H vs ts fp → TrAt K ξ τ H0 H (.ref a) (.ls ts) (a :: fp)
  | dc {a : Addr} {vs : List (Key × V)} {ts : List (Key × Tr)} {fp : List Addr} : H a = some (.dK vs) → TrKv K ξ τ H0 H vs ts fp → TrAt K ξ τ H0 H (.ref a) (.dc ts) (a :: fp)
  | ob {a C dx : Addr} {c : Str} {vs : List (Str × V)} {ts : List (Str × Tr)} {fp : List Addr} : H a = some (.ins C dx vs) → ξ c = .ref C → Cls K C → TrFs K ξ τ H0 H C vs ts fp → TrAt K ξ τ H0 H (.ref a) (.ob c ts) (a :: fp)
  | hl {a : Addr} {n : Nat} : (∀ u, τ n = some u → V.ref a = u) → TrAt K ξ τ H0 H (.ref a) (.hl n) []
inductive TrAll (K : PySem.W.Frag) (ξ : Str → Value) (τ : Nat → Option V) (H0 H : Hp) : List V → List Tr → List Addr → Prop
  | nil : TrAll K ξ τ H0 H [] [] []
  | cons {v : V} {vs : List V} {t : Tr} {ts : List Tr} {fp fq : List Addr} : TrAt K ξ τ H0 H v t fp → TrAll K ξ τ H0 H vs ts fq → TrAll K ξ τ H0 H (v :: vs) (t :: ts) (fp ++ fq)
inductive TrKv (K : PySem.W.Frag) (ξ : Str → Value) (τ : Nat → Option V) (H0 H : Hp) : List (Key × V) → List (Key × Tr) → List Addr → Prop
  | nil : TrKv K ξ τ H0 H [] [] []
  | cons {k : Key} {v : V} {vs : List (Key × V)} {t : Tr} {ts : List (Key × Tr)} {fp fq : List Addr} : keyOk k = true → TrAt K ξ τ H0 H v t fp → TrKv K ξ τ H0 H vs ts fq → TrKv K ξ τ H0 H ((k, v) :: vs) ((k, t) :: ts) (fp ++ fq)
inductive TrFs (K : PySem.W.Frag) (ξ : Str → Value) (τ : Nat → Option V) (H0 H : Hp) : Addr → List (Str × V) → List (Str × Tr) → List Addr → Prop
  | nil {C : Addr} : TrFs K ξ τ H0 H C [] [] []
  | cons {C : Addr} {f : Str} {v : V} {vs : List (Str × V)} {t : Tr} {ts : List (Str × Tr)} {fp fq : List Addr} : NoAttr K C f → TrAt K ξ τ H0 H v t fp → TrFs K ξ τ H0 H C vs ts fq → TrFs K ξ τ H0 H C ((f, v) :: vs) ((f, t) :: ts) (fp ++ fq)
end
section
variable {K : PySem.W.Frag} {ξ : Str → Value} {τ τ' : Nat → Option V} {H0 H H0' H' : Hp}
mutual
theorem TrAt.map (hr : ∀ v d, Rep K H0 v d → Rep K H0' v d) (hτ : ∀ n u, τ' n = some u → τ n = some u) : ∀ {v : V} {t : Tr} {fp : List Addr}, TrAt K ξ τ H0 H v t fp → (∀ a ∈ fp, ∀ o, H a = some o → H' a = some o) → TrAt K ξ τ' H0' H' v t fp
  | _, _, _, .da r, _ => .da (hr _ _ r)
  | _, _, _, .ls h z r, k => .ls (k _ List.mem_cons_self _ h) z (TrAll.map hr hτ r fun a ha => k a (List.mem_cons_of_mem _ ha))
  | _, _, _, .dc h r, k => .dc (k _ List.mem_cons_self _ h) (TrKv.map hr hτ r fun a ha => k a (List.mem_cons_of_mem _ ha))
  | _, _, _, .ob h e c r, k => .ob (k _ List.mem_cons_self _ h) e c (TrFs.map hr hτ r fun a ha => k a (List.mem_cons_of_mem _ ha))
  | _, _, _, .hl h, _ => .hl fun u e => h u (hτ _ u e)
theorem TrAll.map (hr : ∀ v d, Rep K H0 v d → Rep K H0' v d) (hτ : ∀ n u, τ' n = some u → τ n = some u) : ∀ {v : List V} {t : List Tr} {fp : List Addr}, TrAll K ξ τ H0 H v t fp → (∀ a ∈ fp, ∀ o, H a = some o → H' a = some o) → TrAll K ξ τ' H0' H' v t fp
  | _, _, _, .nil, _ => .nil
  | _, _, _, .cons r q, k => .cons (TrAt.map hr hτ r fun a ha => k a (List.mem_append_left _ ha)) (TrAll.map hr hτ q fun a ha => k a (List.mem_append_right _ ha))
theorem TrKv.map (hr : ∀ v d, Rep K H0 v d → Rep K H0' v d) (hτ : ∀ n u, τ' n = some u → τ n = some u) : ∀ {v : List (Key × V)} {t : List (Key × Tr)} {fp : List Addr}, TrKv K ξ τ H0 H v t fp → (∀ a ∈ fp, ∀ o, H a = some o → H' a = some o) → TrKv K ξ τ' H0' H' v t fp
  | _, _, _, .nil, _ => .nil
  | _, _, _, .cons h r q, k => .cons h (TrAt.map hr hτ r fun a ha => k a (List.mem_append_left _ ha)) (TrKv.map hr hτ q fun a ha => k a (List.mem_append_right _ ha))
theorem TrFs.map (hr : ∀ v d, Rep K H0 v d → Rep K H0' v d) (hτ : ∀ n u, τ' n = some u → τ n = some u) {C : Addr} : ∀ {v : List (Str × V)} {t : List (Str × Tr)} {fp : List Addr}, TrFs K ξ τ H0 H C v t fp → (∀ a ∈ fp, ∀ o, H a = some o → H' a = some o) → TrFs K ξ τ' H0' H' C v t fp
  | _, _, _, .nil, _ => .nil
  | _, _, _, .cons h r q, k => .cons h (TrAt.map hr hτ r fun a ha => k a (List.mem_append_left _ ha)) (TrFs.map hr hτ q fun a ha => k a (List.mem_append_right _ ha))
end
end
/-- seen only -/
def TrV (K : PySem.W.Frag) (ξ : Str → Value) (H0 H : Hp) (v : V) (t : Tr) : Prop := ∃ fp, TrAt K ξ (fun _ => none) H0 H v t fp
theorem TrV.map {K : PySem.W.Frag} {ξ : Str → Value} {H0 H H0' : Hp} {v : V} {t : Tr} (hr : ∀ v d, Rep K H0 v d → Rep K H0' v d) : TrV K ξ H0 H v t → TrV K ξ H0' H v t := fun ⟨fp, r⟩ => ⟨fp, r.map hr (fun _ _ e => e) fun _ _ _ e => e⟩
theorem TrV.mono {K : PySem.W.Frag} {ξ : Str → Value} {H0 H H0' : Hp} {v : V} {t : Tr} (s : Same H0 H0') : TrV K ξ H0 H v t → TrV K ξ H0' H v t := TrV.map fun _ _ r => r.mono s

/-! ### the frame of a def -/
/-- a step into an object -/
inductive St where
  | fl (f : Str)
  | ix (i : Nat)
  | ky (k : Key)
/-- whose an object is: the caller's, the def's own, taken out of what another name holds -/
inductive Tk where
  | par
  | loc
  | tkn (j : Nat) (p : List St)
/-- what a local name holds: nothing, data, or a list or a dict that is its own -/
inductive Slot where
  | u
  | d (x : D)
  | ol (xs : List D)
  | od (kvs : List (Key × D))
  /-- an object that changes, at the n-th name -/
  | tr (n : Nat) (k : Tk) (t : Tr)
  /-- the exception that is handled -/
  | ex
abbrev En := List Slot

/-- G: the heap at the entry; N: addresses that are not the def's to read -/
structure Fm (ξ : Str → Value) where
  G : Hp
  N : Addr → Prop
  /-- where the objects that change stand -/
  T : Nat → Addr
  R : Nat → Option (Tk × Tr)

def SlotAt (K : PySem.W.Frag) {ξ : Str → Value} (M : Fm ξ) (H0 H : Hp) (o : Option (Option V)) : Slot → Prop
  | .u => True
  | .d x => ∃ v, o = some (some v) ∧ Rep K H0 v x
  | .ol xs => ∃ a vs, o = some (some (.ref a)) ∧ H0 a = none ∧ M.G a = none ∧ H a = some (.lst vs) ∧ xs.length ≤ sizeLine ∧ RepAll K H0 vs xs
  | .od xs => ∃ a vs, o = some (some (.ref a)) ∧ H0 a = none ∧ M.G a = none ∧ H a = some (.dK vs) ∧ RepKv K H0 vs xs
  | .ex => ∃ a, o = some (some (.ref a)) ∧ ξ "!" = .ref a
  | .tr n k t => o = some (some (.ref (M.T n))) ∧ M.R n = some (k, t) ∧ TrV K ξ H0 M.G (.ref (M.T n)) t
def Slot.own : Slot → Bool
  | .ol _ => true
  | .od _ => true
  | _ => false
/-- slot i owns the object at a -/
def Owns (σ : L2.St) (env : En) (i : Nat) (a : Addr) : Prop := σ[i]? = some (some (.ref a)) ∧ ∃ s, env[i]? = some s ∧ s.own = true

structure EnvAt (K : PySem.W.Frag) {ξ : Str → Value} (M : Fm ξ) (H0 H : Hp) (σ : L2.St) (env : En) : Prop where
  same : Same H0 H
  fr : Same M.G H
  nogo : ∀ a, M.N a → H0 a = none ∧ H a ≠ none
  len : σ.length = env.length
  slot : ∀ (i : Nat) (s : Slot), env[i]? = some s → SlotAt K M H0 H σ[i]? s
  sep : ∀ (i j : Nat) (a : Addr), Owns σ env i a → Owns σ env j a → i = j
  ng : ∀ (a : Addr) (j : Nat), M.N a → ¬ Owns σ env j a
  tg : ∀ (i n : Nat) (k : Tk) (t : Tr), env[i]? = some (.tr n k t) → n = i
theorem tg_set {env : En} {i : Nat} {s : Slot} (h : ∀ (i n : Nat) (k : Tk) (t : Tr), env[i]? = some (.tr n k t) → n = i) (hs : ∀ n k t, s ≠ .tr n k t) : ∀ (j n : Nat) (k : Tk) (t : Tr), (env.set i s)[j]? = some (.tr n k t) → n = j := fun j n k t e => by
  by_cases hi : i = j
  · subst hi
    by_cases hl : i < env.length
    · rw [List.getElem?_set_self hl] at e; cases e; exact absurd rfl (hs _ _ _)
    · rw [List.getElem?_eq_none (by rw [List.length_set]; omega)] at e; cases e
  · rw [List.getElem?_set_ne hi] at e; exact h j n k t e
theorem own_tr {s : Slot} (h : s.own = true) : ∀ n k t, s ≠ .tr n k t := fun n k t e => by subst e; cases h
theorem set_same {α : Type} : ∀ {l : List α} {i : Nat} {x : α}, l[i]? = some x → l.set i x = l
  | [], _, _, h => by simp at h
  | y :: l, 0, x, h => by simp at h; subst h; rfl
  | y :: l, i + 1, x, h => by simp at h; simp [set_same h]

section
variable {K : PySem.W.Frag} {ξ : Str → Value} {M : Fm ξ} {H0 H H0' H' : Hp} {σ : L2.St} {env : En}
theorem same_upd {p : Addr} {o : HO} (h : H p = none) : Same H (upd H p o) := fun b u e => by
  rw [upd_ne (ne_of_none e h)]; exact e
theorem EnvAt.grow (E : EnvAt K M H0 H σ env) (s0 : Same H0 H0') (s : Same H H') (s1 : Same H0' H') (n : ∀ a, H a ≠ none → H0 a = none → H0' a = none) : EnvAt K M H0' H' σ env := by
  have ne : ∀ {a o}, H a = some o → H a ≠ none := fun e z => by rw [e] at z; cases z
  refine ⟨s1, E.fr.trans s, fun a h => ?_, E.len, fun i sl h => ?_, E.sep, E.ng, E.tg⟩
  · obtain ⟨h1, h2⟩ := E.nogo a h
    refine ⟨n a h2 h1, fun z => ?_⟩
    cases q : H a with
    | none => exact h2 q
    | some o => rw [s a o q] at z; cases z
  · have q := E.slot i sl h
    cases sl with
    | u => trivial
    | d x => obtain ⟨v, e, r⟩ := q; exact ⟨v, e, r.mono s0⟩
    | ol xs => obtain ⟨a, vs, e, h0, hg, ha, z, r⟩ := q; exact ⟨a, vs, e, n a (ne ha) h0, hg, s _ _ ha, z, r.mono s0⟩
    | od xs => obtain ⟨a, vs, e, h0, hg, ha, r⟩ := q; exact ⟨a, vs, e, n a (ne ha) h0, hg, s _ _ ha, r.mono s0⟩
    | ex => exact q
    | tr n k t => exact ⟨q.1, q.2.1, q.2.2.mono s0⟩
/-- a new object, frozen -/
theorem EnvAt.alloc (E : EnvAt K M H0 H σ env) {p : Addr} {o : HO} (h : H p = none) : EnvAt K M (upd H0 p o) (upd H p o) σ env := by
  refine E.grow (same_upd (E.same.free h)) (same_upd h) (fun b u e => ?_) fun a h1 h2 => ?_
  · by_cases hb : b = p
    · subst hb; rw [upd_same] at e ⊢; exact e
    · rw [upd_ne hb] at e ⊢; exact E.same _ _ e
  · by_cases hb : a = p
    · subst hb; exact absurd h h1
    · rw [upd_ne hb]; exact h2
theorem EnvAt.get (E : EnvAt K M H0 H σ env) {i : Nat} {x : D} (h : env[i]? = some (.d x)) : ∃ v, σ[i]? = some (some v) ∧ Rep K H0 v x := E.slot i _ h
/-- a name is given data -/
theorem EnvAt.set (E : EnvAt K M H0 H σ env) {v : V} {x : D} (i : Nat) (r : Rep K H0 v x) : EnvAt K M H0 H (σ.set i (some v)) (env.set i (.d x)) := by
  have key : ∀ a j, Owns (σ.set i (some v)) (env.set i (.d x)) j a → Owns σ env j a := fun a j ⟨h1, s, h2, h3⟩ => by
    by_cases hi : i = j
    · subst hi
      by_cases hlt : i < env.length
      · rw [List.getElem?_set_self hlt] at h2; cases h2; cases h3
      · rw [List.getElem?_eq_none (by rw [List.length_set]; omega)] at h2; cases h2
    · rw [List.getElem?_set_ne hi] at h1 h2
      exact ⟨h1, s, h2, h3⟩
  refine ⟨E.same, E.fr, E.nogo, by rw [List.length_set, List.length_set]; exact E.len, fun j s h => ?_, fun j l a hj hl => E.sep j l a (key a j hj) (key a l hl), fun a j hn ho => E.ng a j hn (key a j ho), tg_set E.tg (by intro _ _ _ z; cases z)⟩
  · by_cases hi : i = j
    · subst hi
      by_cases hlt : i < env.length
      · rw [List.getElem?_set_self hlt] at h
        cases h
        exact ⟨v, List.getElem?_set_self (by rw [E.len]; exact hlt), r⟩
      · rw [List.getElem?_eq_none (by rw [List.length_set]; omega)] at h; cases h
    · rw [List.getElem?_set_ne hi] at h
      have q := E.slot j s h
      rw [List.getElem?_set_ne hi]
      exact q
/-- a name is forgotten -/
theorem EnvAt.kill (E : EnvAt K M H0 H σ env) (i : Nat) : EnvAt K M H0 H σ (env.set i .u) := by
  have key : ∀ a j, Owns σ (env.set i .u) j a → Owns σ env j a := fun a j ⟨h1, s, h2, h3⟩ => by
    by_cases hi : i = j
    · subst hi
      by_cases hlt : i < env.length
      · rw [List.getElem?_set_self hlt] at h2; cases h2; cases h3
      · rw [List.getElem?_eq_none (by rw [List.length_set]; omega)] at h2; cases h2
    · rw [List.getElem?_set_ne hi] at h2
      exact ⟨h1, s, h2, h3⟩
  refine ⟨E.same, E.fr, E.nogo, by rw [List.length_set]; exact E.len, fun j s h => ?_, fun j l a hj hl => E.sep j l a (key a j hj) (key a l hl), fun a j hn ho => E.ng a j hn (key a j ho), tg_set E.tg (by intro _ _ _ z; cases z)⟩
  · by_cases hi : i = j
    · subst hi
      by_cases hlt : i < env.length
      · rw [List.getElem?_set_self hlt] at h; cases h; trivial
      · rw [List.getElem?_eq_none (by rw [List.length_set]; omega)] at h; cases h
    · rw [List.getElem?_set_ne hi] at h
      exact E.slot j s h
/-- a slot's value is taken away -/
theorem EnvAt.unset (E : EnvAt K M H0 H σ env) (i : Nat) : EnvAt K M H0 H (σ.set i none) (env.set i .u) := by
  have key : ∀ a j, Owns (σ.set i none) (env.set i .u) j a → Owns σ env j a := fun a j ⟨h1, s, h2, h3⟩ => by
    by_cases hi : i = j
    · subst hi
      by_cases hlt : i < env.length
      · rw [List.getElem?_set_self hlt] at h2; cases h2; cases h3
      · rw [List.getElem?_eq_none (by rw [List.length_set]; omega)] at h2; cases h2
    · rw [List.getElem?_set_ne hi] at h1 h2
      exact ⟨h1, s, h2, h3⟩
  refine ⟨E.same, E.fr, E.nogo, by rw [List.length_set, List.length_set]; exact E.len, fun j s h => ?_, fun j l a hj hl => E.sep j l a (key a j hj) (key a l hl), fun a j hn ho => E.ng a j hn (key a j ho), tg_set E.tg (by intro _ _ _ z; cases z)⟩
  · by_cases hi : i = j
    · subst hi
      by_cases hlt : i < env.length
      · rw [List.getElem?_set_self hlt] at h; cases h; trivial
      · rw [List.getElem?_eq_none (by rw [List.length_set]; omega)] at h; cases h
    · rw [List.getElem?_set_ne hi] at h ⊢
      exact E.slot j s h
/-- a name is given a new object of its own -/
theorem EnvAt.setOwn (E : EnvAt K M H0 H σ env) {a : Addr} {s : Slot} (i : Nat) (ho : s.own = true) (hn : ∀ j, ¬ Owns σ env j a) (hN : ¬ M.N a) (r : SlotAt K M H0 H (some (some (.ref a))) s) : EnvAt K M H0 H (σ.set i (some (.ref a))) (env.set i s) := by
  have key : ∀ b j, j ≠ i → Owns (σ.set i (some (.ref a))) (env.set i s) j b → Owns σ env j b := fun b j hne ⟨h1, s', h2, h3⟩ => by
    rw [List.getElem?_set_ne (Ne.symm hne)] at h1 h2
    exact ⟨h1, s', h2, h3⟩
  have at_i : ∀ b, Owns (σ.set i (some (.ref a))) (env.set i s) i b → b = a := fun b ⟨h1, s', h2, h3⟩ => by
    have hlt : i < σ.length := by
      apply Decidable.byContradiction
      intro z
      rw [List.getElem?_eq_none (by rw [List.length_set]; omega)] at h1; cases h1
    rw [List.getElem?_set_self hlt] at h1
    cases h1; rfl
  refine ⟨E.same, E.fr, E.nogo, by rw [List.length_set, List.length_set]; exact E.len, fun j s' h => ?_, fun j l b hj hl => ?_, fun b j hb hw => ?_, tg_set E.tg (own_tr ho)⟩
  · by_cases hi : i = j
    · subst hi
      by_cases hlt : i < env.length
      · rw [List.getElem?_set_self hlt] at h
        cases h
        rw [List.getElem?_set_self (by rw [E.len]; exact hlt)]
        exact r
      · rw [List.getElem?_eq_none (by rw [List.length_set]; omega)] at h; cases h
    · rw [List.getElem?_set_ne hi] at h ⊢
      exact E.slot j s' h
  · by_cases h1 : j = i
    · by_cases h2 : l = i
      · rw [h1, h2]
      · have := key b l h2 hl
        rw [h1] at hj
        rw [at_i b hj] at this
        exact absurd this (hn l)
    · by_cases h2 : l = i
      · have := key b j h1 hj
        rw [h2] at hl
        rw [at_i b hl] at this
        exact absurd this (hn j)
      · exact E.sep j l b (key b j h1 hj) (key b l h2 hl)
  · by_cases h1 : j = i
    · rw [h1] at hw
      rw [at_i b hw] at hb
      exact hN hb
    · exact E.ng b j hb (key b j h1 hw)
/-- the object of slot i is changed -/
theorem EnvAt.mutate (E : EnvAt K M H0 H σ env) {a : Addr} {i : Nat} {o : HO} {s : Slot} (h : Owns σ env i a) (ho : s.own = true)
    (r : SlotAt K M H0 (upd H a o) (some (some (.ref a))) s) : EnvAt K M H0 (upd H a o) σ (env.set i s) := by
  obtain ⟨h1, s0, h2, h3⟩ := id h
  have q0 := E.slot i s0 h2
  rw [h1] at q0
  have own : H0 a = none ∧ M.G a = none := by
    cases s0 with
    | u => cases h3
    | d _ => cases h3
    | ol xs => obtain ⟨b, vs, e, h0, hg, _, _⟩ := q0; cases e; exact ⟨h0, hg⟩
    | od xs => obtain ⟨b, vs, e, h0, hg, _, _⟩ := q0; cases e; exact ⟨h0, hg⟩
    | ex => cases h3
    | tr n k t => cases h3
  have hlt : i < env.length := by
    apply Decidable.byContradiction
    intro z
    rw [List.getElem?_eq_none (by omega)] at h2; cases h2
  have key : ∀ b j, Owns σ (env.set i s) j b → Owns σ env j b := fun b j ⟨k1, s', k2, k3⟩ => by
    by_cases hi : i = j
    · subst hi
      exact ⟨k1, s0, h2, h3⟩
    · rw [List.getElem?_set_ne hi] at k2
      exact ⟨k1, s', k2, k3⟩
  refine ⟨fun b u e => ?_, fun b u e => ?_, fun b hb => ?_, by rw [List.length_set]; exact E.len, fun j s' hs => ?_, fun j l b hj hl => E.sep j l b (key b j hj) (key b l hl), fun b j hb hw => E.ng b j hb (key b j hw), tg_set E.tg (own_tr ho)⟩
  · rw [upd_ne (ne_of_none e own.1)]; exact E.same _ _ e
  · rw [upd_ne (ne_of_none e own.2)]; exact E.fr _ _ e
  · obtain ⟨z1, z2⟩ := E.nogo b hb
    refine ⟨z1, ?_⟩
    by_cases hba : b = a
    · subst hba; rw [upd_same]; intro z; cases z
    · rw [upd_ne hba]; exact z2
  · by_cases hi : i = j
    · subst hi
      rw [List.getElem?_set_self hlt] at hs
      cases hs
      rw [h1]
      exact r
    · rw [List.getElem?_set_ne hi] at hs
      have q := E.slot j s' hs
      have ne : ∀ {b}, σ[j]? = some (some (.ref b)) → s'.own = true → b ≠ a := fun {b} e o z => by
        subst z
        exact hi (E.sep i j b h ⟨e, s', hs, o⟩)
      cases s' with
      | u => trivial
      | d x => exact q
      | ol xs => obtain ⟨b, vs, e, h0, hg, hb, z, r⟩ := q; exact ⟨b, vs, e, h0, hg, by rw [upd_ne (ne e rfl)]; exact hb, z, r⟩
      | od xs => obtain ⟨b, vs, e, h0, hg, hb, r⟩ := q; exact ⟨b, vs, e, h0, hg, by rw [upd_ne (ne e rfl)]; exact hb, r⟩
      | ex => exact q
      | tr n k t => exact q
/-- slot i's own object is given up: it is data from now on -/
def Slot.fz : Slot → Slot
  | .ol xs => .d (.lst xs)
  | .od xs => .d (.dic xs)
  | s => s
def frz (i : Nat) (env : En) : En := match env[i]? with
  | some s => env.set i s.fz
  | none => env
theorem EnvAt.freeze (E : EnvAt K M H0 H σ env) (i : Nat) : ∃ H0', Same H0 H0' ∧ EnvAt K M H0' H σ (frz i env) := by
  cases hs : env[i]? with
  | none => exact ⟨H0, Same.refl _, by unfold frz; rw [hs]; exact E⟩
  | some s =>
    have hlt : i < env.length := by
      apply Decidable.byContradiction
      intro z
      rw [List.getElem?_eq_none (by omega)] at hs; cases hs
    have fzE : frz i env = env.set i s.fz := by unfold frz; rw [hs]
    have q := E.slot i s hs
    -- the general step
    have step : ∀ (a : Addr) (o : HO) (s' : Slot), Owns σ env i a → H0 a = none → M.G a = none → H a = some o → s'.own = false → SlotAt K M (upd H0 a o) H (some (some (.ref a))) s' → (∀ n k t, s' ≠ .tr n k t) → EnvAt K M (upd H0 a o) H σ (env.set i s') := by
      intro a o s' hw h0 hg ha hno hr htr
      have s0 : Same H0 (upd H0 a o) := same_upd h0
      have key : ∀ b j, Owns σ (env.set i s') j b → Owns σ env j b := fun b j ⟨k1, s3, k2, k3⟩ => by
        by_cases hi : i = j
        · subst hi
          rw [List.getElem?_set_self hlt] at k2
          cases k2
          rw [hno] at k3; cases k3
        · rw [List.getElem?_set_ne hi] at k2
          exact ⟨k1, s3, k2, k3⟩
      refine ⟨fun b u e => ?_, E.fr, fun b hb => ?_, by rw [List.length_set]; exact E.len, fun j s2 h2 => ?_, fun j l b hj hl => E.sep j l b (key b j hj) (key b l hl), fun b j hb hw => E.ng b j hb (key b j hw), tg_set E.tg htr⟩
      · by_cases hb : b = a
        · subst hb; rw [upd_same] at e; cases e; exact ha
        · rw [upd_ne hb] at e; exact E.same _ _ e
      · obtain ⟨z1, z2⟩ := E.nogo b hb
        refine ⟨?_, z2⟩
        by_cases hba : b = a
        · subst hba
          exact absurd hw (E.ng b i hb)
        · rw [upd_ne hba]; exact z1
      · by_cases hi : i = j
        · subst hi
          rw [List.getElem?_set_self hlt] at h2
          cases h2
          rw [hw.1]; exact hr
        · rw [List.getElem?_set_ne hi] at h2
          have q2 := E.slot j s2 h2
          have ne : ∀ {b}, σ[j]? = some (some (.ref b)) → s2.own = true → b ≠ a := fun {b} e o' z => by
            subst z
            exact hi (E.sep i j b hw ⟨e, s2, h2, o'⟩)
          cases s2 with
          | u => trivial
          | d x => obtain ⟨v, e, r⟩ := q2; exact ⟨v, e, r.mono s0⟩
          | ol xs => obtain ⟨b, vs, e, k0, kg, kb, z, r⟩ := q2; exact ⟨b, vs, e, by rw [upd_ne (ne e rfl)]; exact k0, kg, kb, z, r.mono s0⟩
          | od xs => obtain ⟨b, vs, e, k0, kg, kb, r⟩ := q2; exact ⟨b, vs, e, by rw [upd_ne (ne e rfl)]; exact k0, kg, kb, r.mono s0⟩
          | ex => exact q2
          | tr n k t => exact ⟨q2.1, q2.2.1, q2.2.2.mono s0⟩
    cases s with
    | u => exact ⟨H0, Same.refl _, by rw [fzE]; exact (by rw [show env.set i Slot.u.fz = env from set_same hs] ; exact E)⟩
    | d x => exact ⟨H0, Same.refl _, by rw [fzE]; exact (by rw [show env.set i (Slot.d x).fz = env from set_same hs] ; exact E)⟩
    | ex => exact ⟨H0, Same.refl _, by rw [fzE]; exact (by rw [show env.set i Slot.ex.fz = env from set_same hs] ; exact E)⟩
    | tr n k t => exact ⟨H0, Same.refl _, by rw [fzE]; exact (by rw [show env.set i (Slot.tr n k t).fz = env from set_same hs] ; exact E)⟩
    | ol xs =>
      obtain ⟨a, vs, e, h0, hg, ha, z, r⟩ := q
      refine ⟨upd H0 a (.lst vs), same_upd h0, ?_⟩
      rw [fzE]
      exact step a _ _ ⟨e, _, hs, rfl⟩ h0 hg ha rfl ⟨_, rfl, .lst upd_same z (r.mono (same_upd h0))⟩ (by intro _ _ _ z; cases z)
    | od xs =>
      obtain ⟨a, vs, e, h0, hg, ha, r⟩ := q
      refine ⟨upd H0 a (.dK vs), same_upd h0, ?_⟩
      rw [fzE]
      exact step a _ _ ⟨e, _, hs, rfl⟩ h0 hg ha rfl ⟨_, rfl, .dic (.inl upd_same) (r.mono (same_upd h0))⟩ (by intro _ _ _ z; cases z)
end
end Dx

/-! The data layer, part B: judgements over data. -/
namespace Dx
open PySem PySem.Spec PyProof.Rows L2


/-! ### words of what an expression computes -/
def eC (d : D) : En → R D := fun _ => .ok d
def eBin (f : D → D → R D) (A B : En → R D) : En → R D := fun env => A env >>= fun x => B env >>= fun y => f x y
def eUn {α β : Type} (f : α → R β) (A : En → R α) : En → R β := fun env => A env >>= f
def eOfF (A : En → R (List D)) : En → R D := fun env => A env >>= fun xs => .ok (.lst xs)
def eOfK (A : En → R (List (Key × D))) : En → R D := fun env => A env >>= fun xs => .ok (.dic xs)

/-- v stands for d: as frozen data (c), or as a list or a dict that some name owns -/
def RepX (c : Bool) (K : PySem.W.Frag) (H0 H : Hp) (v : V) (d : D) : Prop := match c with
  | true => Rep K H0 v d
  | false => Rep K H0 v d ∨ (∃ a vs xs, v = .ref a ∧ d = .lst xs ∧ H a = some (.lst vs) ∧ xs.length ≤ sizeLine ∧ RepAll K H0 vs xs) ∨ (∃ a vs xs, v = .ref a ∧ d = .dic xs ∧ H a = some (.dK vs) ∧ RepKv K H0 vs xs)
structure Gr (K : PySem.W.Frag) {ξ : Str → Value} (M : Fm ξ) (σ : L2.St) (env : En) (H0 H H0' H' : Hp) : Prop where
  s0 : Same H0 H0'
  s : Same H H'
  e : EnvAt K M H0' H' σ env
  n : ∀ a, H a ≠ none → H0 a = none → H0' a = none
section
variable {K : PySem.W.Frag} {ξ : Str → Value} {M : Fm ξ} {σ : L2.St} {env : En} {H0 H H1 H0' H' H01 : Hp} {v : V} {d : D} {c : Bool}
theorem RepX.mono (r : RepX c K H0 H v d) (s0 : Same H0 H0') (s : Same H H') : RepX c K H0' H' v d := by
  cases c with
  | true => exact Rep.mono s0 r
  | false =>
    rcases r with r | ⟨a, vs, xs, e1, e2, h, z, r⟩ | ⟨a, vs, xs, e1, e2, h, r⟩
    · exact .inl (r.mono s0)
    · exact .inr (.inl ⟨a, vs, xs, e1, e2, s _ _ h, z, r.mono s0⟩)
    · exact .inr (.inr ⟨a, vs, xs, e1, e2, s _ _ h, r.mono s0⟩)
theorem RepX.b (r : RepX c K H0 H v d) : RepX false K H0 H v d := by
  cases c with
  | true => exact .inl r
  | false => exact r
theorem RepX.rep (r : RepX c K H0 H v d) (s : Same H0 H) : Rep K H v d := by
  cases c with
  | true => exact Rep.mono s r
  | false =>
    rcases r with r | ⟨a, vs, xs, e1, e2, h, z, r⟩ | ⟨a, vs, xs, e1, e2, h, r⟩
    · exact r.mono s
    · subst e1 e2; exact .lst h z (r.mono s)
    · subst e1 e2; exact .dic (.inl h) (r.mono s)
theorem RepX.int {i : Int} (r : RepX c K H0 H v (.int i)) : v = .int i := by
  have r := r.b
  rcases r with r | ⟨_, _, _, _, e, _⟩ | ⟨_, _, _, _, e, _⟩
  · cases r; rfl
  · cases e
  · cases e
theorem RepX.bl {i : Bool} (r : RepX c K H0 H v (.bl i)) : v = .bl i := by
  have r := r.b
  rcases r with r | ⟨_, _, _, _, e, _⟩ | ⟨_, _, _, _, e, _⟩
  · cases r; rfl
  · cases e
  · cases e
theorem RepX.str {i : Str} (r : RepX c K H0 H v (.str i)) : v = .str i := by
  have r := r.b
  rcases r with r | ⟨_, _, _, _, e, _⟩ | ⟨_, _, _, _, e, _⟩
  · cases r; rfl
  · cases e
  · cases e
theorem RepX.non (r : RepX c K H0 H v .non) : v = .non := by
  have r := r.b
  rcases r with r | ⟨_, _, _, _, e, _⟩ | ⟨_, _, _, _, e, _⟩
  · cases r; rfl
  · cases e
  · cases e
theorem RepX.lst {xs : List D} (r : RepX c K H0 H v (.lst xs)) (s : Same H0 H) : ∃ a vs, v = .ref a ∧ H a = some (.lst vs) ∧ RepAll K H0 vs xs := by
  have r := r.b
  rcases r with r | ⟨a, vs, xs, e1, e, h, _, r⟩ | ⟨_, _, _, _, e, _⟩
  · cases r with | lst h _ r => exact ⟨_, _, rfl, s _ _ h, r⟩
  · cases e; exact ⟨a, vs, e1, h, r⟩
  · cases e
theorem RepX.lstLen {xs : List D} (r : RepX c K H0 H v (.lst xs)) : xs.length ≤ sizeLine := by
  have r := r.b
  rcases r with r | ⟨a, vs, xs, e1, e, h, z, r⟩ | ⟨_, _, _, _, e, _⟩
  · cases r with | lst h z r => exact z
  · cases e; exact z
  · cases e
theorem RepX.tup {xs : List D} (r : RepX c K H0 H v (.tup xs)) : ∃ a vs, v = .ref a ∧ H0 a = some (.tup vs) ∧ RepAll K H0 vs xs := by
  have r := r.b
  rcases r with r | ⟨a, vs, xs, e1, e, h, r⟩ | ⟨_, _, _, _, e, _⟩
  · cases r with | tup h _ r => exact ⟨_, _, rfl, h, r⟩
  · cases e
  · cases e
theorem RepX.tupLen {xs : List D} (r : RepX c K H0 H v (.tup xs)) : xs.length ≤ sizeLine := by
  have r := r.b
  rcases r with r | ⟨a, vs, xs, e1, e, h, r⟩ | ⟨_, _, _, _, e, _⟩
  · cases r with | tup h z r => exact z
  · cases e
  · cases e
theorem RepX.dic {xs : List (Key × D)} (r : RepX c K H0 H v (.dic xs)) (s : Same H0 H) : ∃ a vs, v = .ref a ∧ Rd H a (.dK vs) ∧ RepKv K H0 vs xs := by
  have r := r.b
  rcases r with r | ⟨a, vs, xs, e1, e, h, r⟩ | ⟨a, vs, xs, e1, e, h, r⟩
  · cases r with | dic h r => exact ⟨_, _, rfl, h.imp (s _ _) fun ⟨o, e⟩ => ⟨o, s _ _ e⟩, r⟩
  · cases e
  · cases e; exact ⟨a, vs, e1, .inl h, r⟩
theorem RepX.frz {ns : List Int} (r : RepX c K H0 H v (.frz ns)) (s : Same H0 H) : ∃ a, v = .ref a ∧ SqL K H a (ns.map V.int) := by
  have r := r.b
  rcases r with r | ⟨a, vs, xs, e1, e, h, r⟩ | ⟨_, _, _, _, e, _⟩
  · cases r with | frz h => exact ⟨_, rfl, s.seq h⟩
  · cases e
  · cases e
theorem RepX.of (r : Rep K H0 v d) : RepX c K H0 H v d := by
  cases c with
  | true => exact r
  | false => exact .inl r
theorem Gr.refl (E : EnvAt K M H0 H σ env) : Gr K M σ env H0 H H0 H := ⟨Same.refl _, Same.refl _, E, fun _ _ z => z⟩
theorem Gr.trans {H02 H2 : Hp} (g : Gr K M σ env H0 H H01 H1) (g' : Gr K M σ env H01 H1 H02 H2) : Gr K M σ env H0 H H02 H2 := ⟨g.s0.trans g'.s0, g.s.trans g'.s, g'.e, fun a h1 h2 => g'.n a (fun z => h1 (g.s.free z)) (g.n a h1 h2)⟩
theorem EnvAt.new (E : EnvAt K M H0 H σ env) {p : Addr} {o : HO} (h : H p = none) : Gr K M σ env H0 H (upd H0 p o) (upd H p o) := ⟨same_upd (E.same.free h), same_upd h, E.alloc h, fun a h1 h2 => by
  by_cases hb : a = p
  · subst hb; exact absurd h h1
  · rw [upd_ne hb]; exact h2⟩
end

theorem DGetR {H : Hp} {a : Addr} {kvs : List (Key × V)} {k : Key} (e : Rd H a (.dK kvs)) : DGet H a (kV k) (valV kvs k) := .inl ⟨kvs, k, e, rfl, rfl⟩
theorem rdSame {H H' : Hp} {a : Addr} {u : HO} (s : Same H H') (e : Rd H a u) : Rd H' a u := e.imp (s _ _) fun ⟨o, e⟩ => ⟨o, s _ _ e⟩
/-! ### what is wanted behind an expression -/
section
variable (K : PySem.W.Frag) (W : WX) (ξ : Str → Value) (M : Fm ξ) (σ : L2.St) (env : En)
def PostE (c : Bool) (H0 H : Hp) (Q : VK) : R D → Prop
  | .ok d => ∀ v H0' H', Gr K M σ env H0 H H0' H' → RepX c K H0' H' v d → Q v H'
  | .exc x => ∀ H0' H', Gr K M σ env H0 H H0' H' → W (ξ x) none σ H'
  | .bad => False
def PostT (H0 H : Hp) (Q : Bool → Hp → Prop) : R Bool → Prop
  | .ok b => ∀ H0' H', Gr K M σ env H0 H H0' H' → Q b H'
  | .exc x => ∀ H0' H', Gr K M σ env H0 H H0' H' → W (ξ x) none σ H'
  | .bad => False
abbrev RepXs (c : Bool) (H0 H : Hp) : List V → List D → Prop := Paired (RepX c K H0 H)
def PostA (c : Bool) (H0 H : Hp) (Q : List V → Hp → Prop) : R (List D) → Prop
  | .ok ds => ∀ vs H0' H', Gr K M σ env H0 H H0' H' → RepXs K c H0' H' vs ds → Q vs H'
  | .exc x => ∀ H0' H', Gr K M σ env H0 H H0' H' → W (ξ x) none σ H'
  | .bad => False
end
/-- a new list of the def's own -/
structure NewAt {ξ : Str → Value} (M : Fm ξ) (σ : L2.St) (env : En) (H0' H' : Hp) (p : Addr) (o : HO) : Prop where
  at_ : H' p = some o
  h0 : H0' p = none
  g : M.G p = none
  n : ¬ M.N p
  w : ∀ j, ¬ Owns σ env j p
section
variable (K : PySem.W.Frag) (W : WX) (ξ : Str → Value) (M : Fm ξ) (σ : L2.St) (env : En)
def PostF (H0 H : Hp) (Q : VK) : R (List D) → Prop
  | .ok ds => ∀ p vs H0' H', Gr K M σ env H0 H H0' H' → H p = none → NewAt M σ env H0' H' p (.lst vs) → ds.length ≤ sizeLine ∧ RepAll K H0' vs ds → Q (.ref p) H'
  | .exc x => ∀ H0' H', Gr K M σ env H0 H H0' H' → W (ξ x) none σ H'
  | .bad => False
def PostK (H0 H : Hp) (Q : VK) : R (List (Key × D)) → Prop
  | .ok ds => ∀ p vs H0' H', Gr K M σ env H0 H H0' H' → H p = none → NewAt M σ env H0' H' p (.dK vs) → RepKv K H0' vs ds → Q (.ref p) H'
  | .exc x => ∀ H0' H', Gr K M σ env H0 H H0' H' → W (ξ x) none σ H'
  | .bad => False
end
def tD (K : PySem.W.Frag) (W : WX) (ξ : Str → Value) (c : Bool) (F : En → R D) : TE := fun σ H Q => ∃ M H0 env, EnvAt K M H0 H σ env ∧ PostE K W ξ M σ env c H0 H Q (F env)
def tDT (K : PySem.W.Frag) (W : WX) (ξ : Str → Value) (F : En → R Bool) : TT := fun σ H Q => ∃ M H0 env, EnvAt K M H0 H σ env ∧ PostT K W ξ M σ env H0 H Q (F env)
def tDA (K : PySem.W.Frag) (W : WX) (ξ : Str → Value) (c : Bool) (F : En → R (List D)) : TA := fun σ H Q => ∃ M H0 env, EnvAt K M H0 H σ env ∧ PostA K W ξ M σ env c H0 H Q (F env)
def tDF (K : PySem.W.Frag) (W : WX) (ξ : Str → Value) (F : En → R (List D)) : TE := fun σ H Q => ∃ M H0 env, EnvAt K M H0 H σ env ∧ PostF K W ξ M σ env H0 H Q (F env)
def tDK (K : PySem.W.Frag) (W : WX) (ξ : Str → Value) (F : En → R (List (Key × D))) : TE := fun σ H Q => ∃ M H0 env, EnvAt K M H0 H σ env ∧ PostK K W ξ M σ env H0 H Q (F env)
abbrev DE (X : Cx) (W : WX) (ξ : Str → Value) (c : Bool) (e : Expr) (F : En → R D) : Prop := PE X e (tD X.K W ξ c F)
abbrev DT (X : Cx) (W : WX) (ξ : Str → Value) (e : Expr) (F : En → R Bool) : Prop := PT X e (tDT X.K W ξ F)
abbrev DW (X : Cx) (W : WX) (ξ : Str → Value) (e : Expr) (F : En → R Bool) : Prop := PW X e (tDT X.K W ξ F)
abbrev DA (X : Cx) (W : WX) (ξ : Str → Value) (c : Bool) (es : List Expr) (F : En → R (List D)) : Prop := PA X es (tDA X.K W ξ c F)
/-- a new list; a new dict -/
abbrev DF (X : Cx) (W : WX) (ξ : Str → Value) (e : Expr) (F : En → R (List D)) : Prop := PE X e (tDF X.K W ξ F)
abbrev DK (X : Cx) (W : WX) (ξ : Str → Value) (e : Expr) (F : En → R (List (Key × D))) : Prop := PE X e (tDK X.K W ξ F)

theorem peImp {X : Cx} {e : Expr} {t t' : TE} (h : PE X e t) (hi : ∀ σ H Q, t' σ H Q → t σ H Q) : PE X e t' := ⟨fun pins s σ H Q I w => h.run pins s σ H Q I (hi _ _ _ w)⟩
theorem ptImp {X : Cx} {e : Expr} {t t' : TT} (h : PT X e t) (hi : ∀ σ H Q, t' σ H Q → t σ H Q) : PT X e t' := ⟨fun pins s σ H Q I w => h.run pins s σ H Q I (hi _ _ _ w)⟩
theorem pwImp {X : Cx} {e : Expr} {t t' : TT} (h : PW X e t) (hi : ∀ σ H Q, t' σ H Q → t σ H Q) : PW X e t' := ⟨fun wh pins s σ H Q I w => h.run wh pins s σ H Q I (hi _ _ _ w)⟩
theorem paImp {X : Cx} {e : List Expr} {t t' : TA} (h : PA X e t) (hi : ∀ σ H Q, t' σ H Q → t σ H Q) : PA X e t' := ⟨fun p pins s σ H Q I w => h.run p pins s σ H Q I (hi _ _ _ w)⟩
theorem psImp {X : Cx} {e : Stmt} {t t' : TS} (h : PS X e t) (hi : ∀ D σ H, t' D σ H → t D σ H) : PS X e t' := ⟨fun pins s σ H D I w => h.run pins s σ H D I (hi _ _ _ w)⟩
theorem pssImp {X : Cx} {e : List Stmt} {t t' : TS} (h : PSs X e t) (hi : ∀ D σ H, t' D σ H → t D σ H) : PSs X e t' := ⟨fun pins s σ H D I w => h.run pins s σ H D I (hi _ _ _ w)⟩

section
variable {K : PySem.W.Frag} {W : WX} {ξ : Str → Value} {M : Fm ξ} {σ : L2.St} {env : En} {c c1 : Bool} {H0 H H0' H' : Hp} {Q Q1 : VK}
/-- one continuation of all kinds: what may come of the rest is told by P -/
structure Weak (K : PySem.W.Frag) {ξ : Str → Value} (M : Fm ξ) (σ : L2.St) (env : En) (P : Hp → Hp → Prop) : Prop where
  mono : ∀ {H0 H H0' H' : Hp}, Gr K M σ env H0 H H0' H' → P H0 H → P H0' H'
theorem PostE.weak {x : R D} (g : Gr K M σ env H0 H H0' H') (p : PostE K W ξ M σ env c H0 H Q x) : PostE K W ξ M σ env c H0' H' Q x := by
  cases x with
  | ok d => exact fun v H02 H2 g2 r => p v H02 H2 (g.trans g2) r
  | exc x => exact fun H02 H2 g2 => p H02 H2 (g.trans g2)
  | bad => exact p
theorem PostT.weak {x : R Bool} {Q : Bool → Hp → Prop} (g : Gr K M σ env H0 H H0' H') (p : PostT K W ξ M σ env H0 H Q x) : PostT K W ξ M σ env H0' H' Q x := by
  cases x with
  | ok d => exact fun H02 H2 g2 => p H02 H2 (g.trans g2)
  | exc x => exact fun H02 H2 g2 => p H02 H2 (g.trans g2)
  | bad => exact p
theorem PostA.weak {x : R (List D)} {Q : List V → Hp → Prop} (g : Gr K M σ env H0 H H0' H') (p : PostA K W ξ M σ env c H0 H Q x) : PostA K W ξ M σ env c H0' H' Q x := by
  cases x with
  | ok d => exact fun v H02 H2 g2 r => p v H02 H2 (g.trans g2) r
  | exc x => exact fun H02 H2 g2 => p H02 H2 (g.trans g2)
  | bad => exact p
theorem PostF.weak {x : R (List D)} (g : Gr K M σ env H0 H H0' H') (p : PostF K W ξ M σ env H0 H Q x) : PostF K W ξ M σ env H0' H' Q x := by
  cases x with
  | ok d => exact fun v vs H02 H2 g2 hp r => p v vs H02 H2 (g.trans g2) (g.s.free hp) r
  | exc x => exact fun H02 H2 g2 => p H02 H2 (g.trans g2)
  | bad => exact p
theorem PostK.weak {x : R (List (Key × D))} (g : Gr K M σ env H0 H H0' H') (p : PostK K W ξ M σ env H0 H Q x) : PostK K W ξ M σ env H0' H' Q x := by
  cases x with
  | ok d => exact fun v vs H02 H2 g2 hp r => p v vs H02 H2 (g.trans g2) (g.s.free hp) r
  | exc x => exact fun H02 H2 g2 => p H02 H2 (g.trans g2)
  | bad => exact p

/-- the wish of what is to come: it weakens, and holds at what is raised -/
structure Wish (K : PySem.W.Frag) (W : WX) (ξ : Str → Value) (M : Fm ξ) (σ : L2.St) (env : En) {β : Type} (P : Hp → Hp → R β → Prop) : Prop where
  weak : ∀ {H0 H H0' H' : Hp} {x : R β}, Gr K M σ env H0 H H0' H' → P H0 H x → P H0' H' x
  exc : ∀ {H0 H : Hp} {x : Str}, P H0 H (.exc x) → ∀ H0' H', Gr K M σ env H0 H H0' H' → W (ξ x) none σ H'
  bad : ∀ {H0 H : Hp}, P H0 H .bad → False
theorem wishE : Wish K W ξ M σ env (fun H0 H => PostE K W ξ M σ env c H0 H Q) := ⟨PostE.weak, fun p => p, fun p => p⟩
theorem wishT {Q : Bool → Hp → Prop} : Wish K W ξ M σ env (fun H0 H => PostT K W ξ M σ env H0 H Q) := ⟨PostT.weak, fun p => p, fun p => p⟩
theorem wishA {Q : List V → Hp → Prop} : Wish K W ξ M σ env (fun H0 H => PostA K W ξ M σ env c H0 H Q) := ⟨PostA.weak, fun p => p, fun p => p⟩
theorem wishF : Wish K W ξ M σ env (fun H0 H => PostF K W ξ M σ env H0 H Q) := ⟨PostF.weak, fun p => p, fun p => p⟩
theorem wishK : Wish K W ξ M σ env (fun H0 H => PostK K W ξ M σ env H0 H Q) := ⟨PostK.weak, fun p => p, fun p => p⟩
section
variable {β : Type} {P : Hp → Hp → R β → Prop}
theorem bindE (w : Wish K W ξ M σ env P) {x : R D} {k : D → R β} (p : P H0 H (x >>= k)) (h : ∀ a v H0' H', Gr K M σ env H0 H H0' H' → RepX c1 K H0' H' v a → P H0' H' (k a) → Q1 v H') : PostE K W ξ M σ env c1 H0 H Q1 x := by
  cases x with
  | ok d => exact fun v H0' H' g r => h d v H0' H' g r (w.weak g p)
  | exc x => exact fun H0' H' g => w.exc p H0' H' g
  | bad => exact w.bad p
theorem bindT (w : Wish K W ξ M σ env P) {x : R Bool} {k : Bool → R β} {Q1 : Bool → Hp → Prop} (p : P H0 H (x >>= k)) (h : ∀ a H0' H', Gr K M σ env H0 H H0' H' → P H0' H' (k a) → Q1 a H') : PostT K W ξ M σ env H0 H Q1 x := by
  cases x with
  | ok d => exact fun H0' H' g => h d H0' H' g (w.weak g p)
  | exc x => exact fun H0' H' g => w.exc p H0' H' g
  | bad => exact w.bad p
theorem bindA (w : Wish K W ξ M σ env P) {x : R (List D)} {k : List D → R β} {Q1 : List V → Hp → Prop} (p : P H0 H (x >>= k)) (h : ∀ a v H0' H', Gr K M σ env H0 H H0' H' → RepXs K c1 H0' H' v a → P H0' H' (k a) → Q1 v H') : PostA K W ξ M σ env c1 H0 H Q1 x := by
  cases x with
  | ok d => exact fun v H0' H' g r => h d v H0' H' g r (w.weak g p)
  | exc x => exact fun H0' H' g => w.exc p H0' H' g
  | bad => exact w.bad p
theorem bindF (w : Wish K W ξ M σ env P) {x : R (List D)} {k : List D → R β} (p : P H0 H (x >>= k)) (h : ∀ a q vs H0' H', Gr K M σ env H0 H H0' H' → H q = none → NewAt M σ env H0' H' q (.lst vs) → a.length ≤ sizeLine ∧ RepAll K H0' vs a → P H0 H (k a) → P H0' H' (k a) → Q1 (.ref q) H') : PostF K W ξ M σ env H0 H Q1 x := by
  cases x with
  | ok d => exact fun q vs H0' H' g hq n r => h d q vs H0' H' g hq n r p (w.weak g p)
  | exc x => exact fun H0' H' g => w.exc p H0' H' g
  | bad => exact w.bad p
theorem bindK (w : Wish K W ξ M σ env P) {x : R (List (Key × D))} {k : List (Key × D) → R β} (p : P H0 H (x >>= k)) (h : ∀ a q vs H0' H', Gr K M σ env H0 H H0' H' → H q = none → NewAt M σ env H0' H' q (.dK vs) → RepKv K H0' vs a → P H0 H (k a) → P H0' H' (k a) → Q1 (.ref q) H') : PostK K W ξ M σ env H0 H Q1 x := by
  cases x with
  | ok d => exact fun q vs H0' H' g hq n r => h d q vs H0' H' g hq n r p (w.weak g p)
  | exc x => exact fun H0' H' g => w.exc p H0' H' g
  | bad => exact w.bad p
end
/-- a new object is laid for good -/
theorem NewAt.frz0 (E : EnvAt K M H0 H σ env) {p : Addr} {o : HO} (n : NewAt M σ env H0 H p o) : Same H0 (upd H0 p o) ∧ EnvAt K M (upd H0 p o) H σ env := by
  have s0 : Same H0 (upd H0 p o) := same_upd n.h0
  have s1 : Same (upd H0 p o) H := fun b u e => by
    by_cases hb : b = p
    · subst hb; rw [upd_same] at e; cases e; exact n.at_
    · rw [upd_ne hb] at e; exact E.same _ _ e
  refine ⟨s0, ⟨s1, E.fr, fun a h => ?_, E.len, fun i s h => ?_, E.sep, E.ng, E.tg⟩⟩
  · obtain ⟨h1, h2⟩ := E.nogo a h
    refine ⟨?_, h2⟩
    by_cases hb : a = p
    · subst hb; exact absurd h n.n
    · rw [upd_ne hb]; exact h1
  · have q := E.slot i s h
    have ne : ∀ {a}, σ[i]? = some (some (.ref a)) → s.own = true → a ≠ p := fun {a} e o z => by
      subst z; exact n.w i ⟨e, s, h, o⟩
    cases s with
    | u => trivial
    | d x => obtain ⟨v, e, r⟩ := q; exact ⟨v, e, r.mono s0⟩
    | ol xs => obtain ⟨a, vs, e, h0, hg, ha, z, r⟩ := q; exact ⟨a, vs, e, by rw [upd_ne (ne e rfl)]; exact h0, hg, ha, z, r.mono s0⟩
    | od xs => obtain ⟨a, vs, e, h0, hg, ha, r⟩ := q; exact ⟨a, vs, e, by rw [upd_ne (ne e rfl)]; exact h0, hg, ha, r.mono s0⟩
    | ex => exact q
    | tr n k t => exact ⟨q.1, q.2.1, q.2.2.mono s0⟩
theorem NewAt.frz {p : Addr} {o : HO} (g : Gr K M σ env H0 H H0' H') (hp : H p = none) (n : NewAt M σ env H0' H' p o) : Gr K M σ env H0 H (upd H0' p o) H' := by
  obtain ⟨a, b⟩ := n.frz0 g.e
  refine ⟨g.s0.trans a, g.s, b, fun q h1 h2 => ?_⟩
  by_cases hb : q = p
  · subst hb; exact absurd hp h1
  · rw [upd_ne hb]; exact g.n q h1 h2
/-- a new object, at an address that was free -/
theorem EnvAt.newAt (E : EnvAt K M H0 H σ env) {p : Addr} {o : HO} (h : H p = none) : Gr K M σ env H0 H H0 (upd H p o) ∧ NewAt M σ env H0 (upd H p o) p o := by
  have s : Same H (upd H p o) := same_upd h
  have h0 := E.same.free h
  refine ⟨⟨Same.refl _, s, E.grow (Same.refl _) s (E.same.trans s) fun a _ z => z, fun a _ z => z⟩, upd_same, h0, E.fr.free h, fun z => (E.nogo p z).2 h, fun j ⟨e, sl, h1, h2⟩ => ?_⟩
  have q := E.slot j sl h1
  rw [e] at q
  cases sl with
  | u => cases h2
  | d _ => cases h2
  | ol xs => obtain ⟨a, vs, e, _, _, ha, _, _⟩ := q; cases e; rw [h] at ha; cases ha
  | od xs => obtain ⟨a, vs, e, _, _, ha, _⟩ := q; cases e; rw [h] at ha; cases ha
  | ex => cases h2
  | tr n k t => cases h2
end

section
variable {X : Cx} {W : WX} {ξ : Str → Value} {e a b : Expr} {c c1 c2 : Bool} {pos : Pos}
/-- frozen data may be taken as any -/
theorem deB {F : En → R D} (h : DE X W ξ c e F) : DE X W ξ false e F := peImp h fun σ H Q ⟨M, H0, env, E, p⟩ => ⟨M, H0, env, E, by
  revert p
  cases F env with
  | ok d => exact fun p v H0' H' g r => p v H0' H' g r.b
  | exc x => exact fun p => p
  | bad => exact fun p => p⟩
/-- a new list, laid for good -/
theorem de_ofF {F : En → R (List D)} (h : DF X W ξ e F) : DE X W ξ true e (eOfF F) := peImp h fun σ H Q ⟨M, H0, env, E, p⟩ => ⟨M, H0, env, E, bindF wishE p fun xs q vs H0' H' g hq n r pu p1 =>
  pu (.ref q) _ _ (n.frz g hq) (Rep.lst upd_same r.1 (r.2.mono (same_upd n.h0)))⟩
theorem de_ofK {F : En → R (List (Key × D))} (h : DK X W ξ e F) : DE X W ξ true e (eOfK F) := peImp h fun σ H Q ⟨M, H0, env, E, p⟩ => ⟨M, H0, env, E, bindK wishE p fun xs q vs H0' H' g hq n r pu p1 =>
  pu (.ref q) _ _ (n.frz g hq) (Rep.dic (.inl upd_same) (r.mono (same_upd n.h0)))⟩
/-- what is no list, tuple or dict is frozen -/
def scalR : D → R D
  | .non => .ok .non
  | .bl b => .ok (.bl b)
  | .int i => .ok (.int i)
  | .str s => .ok (.str s)
  | _ => .bad

/-! ### names, constants -/
def getV (i : Nat) (env : En) : R D := match env[i]? with
  | some (.d x) => .ok x
  | some (.ol xs) => .ok (.lst xs)
  | some (.od xs) => .ok (.dic xs)
  | _ => .bad
def getD' (i : Nat) (env : En) : R D := match env[i]? with
  | some (.d x) => .ok x
  | _ => .bad
/-- a name, whatever it holds -/
theorem de_vb {i : Nat} {x : Str} (h : PE X (.Name x pos) (tVar i)) : DE X W ξ false (.Name x pos) (getV i) := peImp h fun σ H Q ⟨M, H0, env, E, p⟩ => by
  unfold getV at p
  cases h : env[i]? with
  | none => rw [h] at p; exact p.elim
  | some s =>
    rw [h] at p
    have q := E.slot i s h
    cases s with
    | u => exact p.elim
    | d x => obtain ⟨v, e, r⟩ := q; exact ⟨v, e, p v H0 H (.refl E) (.inl r)⟩
    | ol xs => obtain ⟨a, vs, e, h0, hg, ha, z, r⟩ := q; exact ⟨_, e, p _ H0 H (.refl E) (.inr (.inl ⟨a, vs, xs, rfl, rfl, ha, z, r⟩))⟩
    | od xs => obtain ⟨a, vs, e, h0, hg, ha, r⟩ := q; exact ⟨_, e, p _ H0 H (.refl E) (.inr (.inr ⟨a, vs, xs, rfl, rfl, ha, r⟩))⟩
    | ex => exact p.elim
    | tr n k t => exact p.elim
/-- a name that holds frozen data -/
theorem de_v {i : Nat} {x : Str} (h : PE X (.Name x pos) (tVar i)) : DE X W ξ true (.Name x pos) (getD' i) := peImp h fun σ H Q ⟨M, H0, env, E, p⟩ => by
  unfold getD' at p
  cases h : env[i]? with
  | none => rw [h] at p; exact p.elim
  | some s =>
    rw [h] at p
    have q := E.slot i s h
    cases s with
    | u => exact p.elim
    | d x => obtain ⟨v, e, r⟩ := q; exact ⟨v, e, p v H0 H (.refl E) r⟩
    | ol xs => exact p.elim
    | od xs => exact p.elim
    | ex => exact p.elim
    | tr n k t => exact p.elim
theorem de_c {v : V} {d : D} (h : PE X e (tC v)) (r : ∀ H : Hp, Rep X.K H v d) : DE X W ξ true e (eC d) := peImp h fun σ H Q ⟨M, H0, env, E, p⟩ => p v H0 H (.refl E) (r H0)
theorem de_int {i : Int} {j : Nat} : DE X W ξ true (.Constant (.int i) j pos) (eC (.int i)) := de_c pe_int fun _ => .int i
theorem de_bl {i : Bool} {j : Nat} : DE X W ξ true (.Constant (.bool i) j pos) (eC (.bl i)) := de_c pe_bl fun _ => .bl i
theorem de_str {i : Str} {j : Nat} (h : sOk i = true := by decide +kernel) : DE X W ξ true (.Constant (.str i) j pos) (eC (.str i)) := de_c pe_str fun _ => .str i h
theorem de_non {j : Nat} : DE X W ξ true (.Constant .none j pos) (eC .non) := de_c pe_non fun _ => .non

/-! ### operators by their rules -/
theorem de_op {op : Operator} {r : R2} {fa fb : En → R D} {c3 : Bool} {f : D → D → R D} (ho : OpR X (binaryOp op) r) (ha : DE X W ξ c1 a fa) (hb : DE X W ξ c2 b fb)
    (hr : ∀ {M : Fm ξ} {σ : L2.St} {env : En} {H0 H : Hp} {Q : VK} {x y : V} {d1 d2 : D}, EnvAt X.K M H0 H σ env → RepX c1 X.K H0 H x d1 → RepX c2 X.K H0 H y d2 → PostE X.K W ξ M σ env c3 H0 H Q (f d1 d2) → r x y H Q) :
    DE X W ξ c3 (.BinOp a op b pos) (eBin f fa fb) :=
  peImp (pe_op ho ha hb) fun σ H Q ⟨M, H0, env, E, p⟩ => ⟨M, H0, env, E, bindE wishE p fun d1 x H1 H2 g1 r1 p1 => ⟨M, H1, env, g1.e, bindE wishE p1 fun d2 y H3 H4 g2 r2 p2 => hr g2.e (r1.mono g2.s0 g2.s) r2 p2⟩⟩
theorem de_cmp {op : CmpOp} {r : R2} {fa fb : En → R D} {c3 : Bool} {f : D → D → R D} (ho : OpR X (compareOp op) r) (hm : behindInMarks op b = false) (ha : DE X W ξ c1 a fa) (hb : DE X W ξ c2 b fb)
    (hr : ∀ {M : Fm ξ} {σ : L2.St} {env : En} {H0 H : Hp} {Q : VK} {x y : V} {d1 d2 : D}, EnvAt X.K M H0 H σ env → RepX c1 X.K H0 H x d1 → RepX c2 X.K H0 H y d2 → PostE X.K W ξ M σ env c3 H0 H Q (f d1 d2) → r x y H Q) :
    DE X W ξ c3 (.Compare a [op] [b] pos) (eBin f fa fb) :=
  peImp (pe_cmpR ho ha hb hm) fun σ H Q ⟨M, H0, env, E, p⟩ => ⟨M, H0, env, E, bindE wishE p fun d1 x H1 H2 g1 r1 p1 => ⟨M, H1, env, g1.e, bindE wishE p1 fun d2 y H3 H4 g2 r2 p2 => hr g2.e (r1.mono g2.s0 g2.s) r2 p2⟩⟩
end
end Dx

/-! The data layer, part C: operators, comparisons, subscripts. -/
namespace Dx
open PySem PySem.Spec PyProof.Rows L2

/-! ### equality -/
/-- no dict in it, not deeper than n -/
def dle : Nat → D → Bool
  | 0, .non => true
  | 0, .bl _ => true
  | 0, .int _ => true
  | 0, .str _ => true
  | 0, _ => false
  | n + 1, .lst xs => xs.all (dle n)
  | n + 1, .tup xs => xs.all (dle n)
  | _ + 1, .frz _ => false
  | _ + 1, .dic _ => false
  | _ + 1, .opq => false
  | _ + 1, _ => true
mutual
def eqD : D → D → Bool
  | .non, .non => true
  | .bl a, .bl b => a == b
  | .bl a, .int j => (if a then 1 else 0) == j
  | .int i, .bl b => i == (if b then 1 else 0)
  | .int i, .int j => i == j
  | .str x, .str y => x == y
  | .lst xs, .lst ys => eqDs xs ys
  | .tup xs, .tup ys => eqDs xs ys
  | _, _ => false
def eqDs : List D → List D → Bool
  | [], [] => true
  | x :: xs, y :: ys => eqD x y && eqDs xs ys
  | _, _ => false
end
mutual
def toPy : D → PyData
  | .non => .none
  | .bl b => .bool b
  | .int i => .int i
  | .str s => .str s
  | .tup xs => .tuple (toPys xs)
  | .lst xs => .list (toPys xs)
  | .dic _ => .dict []
  | .frz ns => .dict []
  | .opq => .dict []
def toPys : List D → List PyData
  | [] => []
  | x :: xs => toPy x :: toPys xs
end
theorem toPys_map : ∀ xs : List D, toPys xs = xs.map toPy
  | [] => rfl
  | x :: xs => by simp only [toPys, List.map_cons, toPys_map xs]
mutual
theorem eqv_toPy : ∀ a b : D, PyData.eqv (toPy a) (toPy b) = eqD a b
  | .non, b => by cases b <;> simp only [toPy, PyData.eqv, eqD]
  | .bl _, b => by cases b <;> simp only [toPy, PyData.eqv, eqD]
  | .int _, b => by cases b <;> simp only [toPy, PyData.eqv, eqD]
  | .str _, b => by cases b <;> simp only [toPy, PyData.eqv, eqD]
  | .tup xs, b => by cases b <;> simp only [toPy, PyData.eqv, eqD, eqvAll_toPys xs]
  | .lst xs, b => by cases b <;> simp only [toPy, PyData.eqv, eqD, eqvAll_toPys xs]
  | .dic _, b => by cases b <;> simp only [toPy, PyData.eqv, eqD]
  | .frz _, b => by cases b <;> simp only [toPy, PyData.eqv, eqD]
  | .opq, b => by cases b <;> simp only [toPy, PyData.eqv, eqD]
theorem eqvAll_toPys : ∀ xs ys : List D, PyData.eqvAll (toPys xs) (toPys ys) = eqDs xs ys
  | [], [] => by simp only [toPys, PyData.eqvAll, eqDs]
  | [], _ :: _ => by simp only [toPys, PyData.eqvAll, eqDs]
  | _ :: _, [] => by simp only [toPys, PyData.eqvAll, eqDs]
  | x :: xs, y :: ys => by simp only [toPys, PyData.eqvAll, eqDs, eqv_toPy x y, eqvAll_toPys xs ys]
end
section
variable {K : PySem.W.Frag} {H : Hp}
theorem rep_dps {n : Nat} (ih : ∀ (d : D) (v : V), dle n d = true → Rep K H v d → Dp K H v (toPy d) ∧ (toPy d).canLay0 = true ∧ (toPy d).depth ≤ n) :
    ∀ (xs : List D) (vs : List V), xs.all (dle n) = true → RepAll K H vs xs → DpAll K H vs (toPys xs) ∧ PyData.canLayAll0 (toPys xs) = true ∧ PyData.depthAll (toPys xs) ≤ n
  | [], _, _, .nil => ⟨.nil, by simp only [toPys, PyData.canLayAll0], by simp only [toPys, PyData.depthAll]; exact Nat.zero_le _⟩
  | x :: xs, _, h, .cons r t => by
    rw [List.all_cons, Bool.and_eq_true] at h
    obtain ⟨a1, a2, a3⟩ := ih x _ h.1 r
    obtain ⟨b1, b2, b3⟩ := rep_dps ih xs _ h.2 t
    refine ⟨.cons a1 b1, by simp only [toPys, PyData.canLayAll0, a2, b2, Bool.and_self], ?_⟩
    simp only [toPys, PyData.depthAll]
    omega
theorem rep_dp : ∀ (n : Nat) (d : D) (v : V), dle n d = true → Rep K H v d → Dp K H v (toPy d) ∧ (toPy d).canLay0 = true ∧ (toPy d).depth ≤ n
  | n, .non, _, _, .non => ⟨.non, by simp only [toPy, PyData.canLay0], by simp only [toPy, PyData.depth]; exact Nat.zero_le _⟩
  | n, .bl _, _, _, .bl _ => ⟨.bl _, by simp only [toPy, PyData.canLay0], by simp only [toPy, PyData.depth]; exact Nat.zero_le _⟩
  | n, .int _, _, _, .int _ => ⟨.int _, by simp only [toPy, PyData.canLay0], by simp only [toPy, PyData.depth]; exact Nat.zero_le _⟩
  | n, .str _, _, _, .str _ h => ⟨.str _, by simp only [toPy, PyData.canLay0]; exact (Bool.and_eq_true_iff.mp h).1, by simp only [toPy, PyData.depth]; exact Nat.zero_le _⟩
  | 0, .tup _, _, h, _ => by simp only [dle, Bool.false_eq_true] at h
  | 0, .lst _, _, h, _ => by simp only [dle, Bool.false_eq_true] at h
  | 0, .dic _, _, h, _ => by simp only [dle, Bool.false_eq_true] at h
  | 0, .frz _, _, h, _ => by simp only [dle, Bool.false_eq_true] at h
  | 0, .opq, _, h, _ => by simp only [dle, Bool.false_eq_true] at h
  | n + 1, .opq, _, h, _ => by simp only [dle, Bool.false_eq_true] at h
  | n + 1, .dic _, _, h, _ => by simp only [dle, Bool.false_eq_true] at h
  | n + 1, .frz _, _, h, _ => by simp only [dle, Bool.false_eq_true] at h
  | n + 1, .tup xs, _, h, .tup hh _ r => by
    obtain ⟨b1, b2, b3⟩ := rep_dps (rep_dp n) xs _ (by simpa only [dle] using h) r
    exact ⟨.tup (SqT.of hh) b1, by simp only [toPy, PyData.canLay0]; exact b2, by simp only [toPy, PyData.depth]; omega⟩
  | n + 1, .lst xs, _, h, .lst hh _ r => by
    obtain ⟨b1, b2, b3⟩ := rep_dps (rep_dp n) xs _ (by simpa only [dle] using h) r
    exact ⟨.lst (SqL.of hh) b1, by simp only [toPy, PyData.canLay0]; exact b2, by simp only [toPy, PyData.depth]; omega⟩
theorem rep_shaped {d : D} {v : V} (h : dle 64 d = true) (r : Rep K H v d) : Dp K H v (toPy d) ∧ SeqAt.shaped (toPy d) = true := by
  obtain ⟨a, b, c⟩ := rep_dp 64 d v h r
  refine ⟨a, ?_⟩
  unfold SeqAt.shaped
  rw [b, decide_eq_true c]; rfl
end
/-- a == b -/
def eqR (a b : D) : R D := match a, b with
  | .frz ns, .lst [] => .ok (.bl ns.isEmpty)
  | a, b => if dle 64 a && dle 64 b then .ok (.bl (eqD a b)) else .bad
def neR (a b : D) : R D := match a, b with
  | .frz ns, .lst [] => .ok (.bl (!ns.isEmpty))
  | a, b => if dle 64 a && dle 64 b then .ok (.bl (!eqD a b)) else .bad

section
variable {X : Cx} {W : WX} {ξ : Str → Value} {e a b : Expr} {c c1 c2 c3 : Bool} {pos : Pos} {fa fb : En → R D}

theorem post_ok {K : PySem.W.Frag} {M : Fm ξ} {σ : L2.St} {env : En} {H0 H : Hp} {Q : VK} {d : D} {v : V} (E : EnvAt K M H0 H σ env) (p : PostE K W ξ M σ env c H0 H Q (.ok d)) (r : Rep K H0 v d) : Q v H := p v H0 H (.refl E) (.of r)
theorem intsPy : ∀ ns : List Int, (PyData.list (ns.map PyData.int)).canLay0 = true ∧ (PyData.list (ns.map PyData.int)).depth ≤ 64 := by
  intro ns
  have h : PyData.canLayAll0 (ns.map PyData.int) = true ∧ PyData.depthAll (ns.map PyData.int) ≤ 0 := by
    induction ns with
    | nil => exact ⟨by simp only [List.map_nil, PyData.canLayAll0], by simp only [List.map_nil, PyData.depthAll]; exact Nat.le_refl _⟩
    | cons n ns ih => exact ⟨by simp only [List.map_cons, PyData.canLayAll0, PyData.canLay0, ih.1, Bool.and_self], by simp only [List.map_cons, PyData.depthAll, PyData.depth]; omega⟩
  exact ⟨by simp only [PyData.canLay0]; exact h.1, by simp only [PyData.depth]; omega⟩
theorem ints_dp {K : PySem.W.Frag} {H : Hp} : ∀ ns : List Int, DpAll K H (ns.map V.int) (ns.map PyData.int)
  | [] => .nil
  | n :: ns => .cons (.int n) (ints_dp ns)
/-- a comparison by values -/
def boolR : D → R Bool
  | .bl b => .ok b
  | _ => .bad
def tBin (f : D → D → R D) (A B : En → R D) : En → R Bool := fun env => A env >>= fun x => B env >>= fun y => f x y >>= boolR
def CmpD (X : Cx) (W : WX) (ξ : Str → Value) (op : CmpOp) (f : D → D → R D) : Prop := ∃ r : R2, OpR X (compareOp op) r ∧
  ∀ {c1 c2 : Bool} {M : Fm ξ} {σ : L2.St} {env : En} {H0 H : Hp} {Q : VK} {x y : V} {d1 d2 : D}, EnvAt X.K M H0 H σ env → RepX c1 X.K H0 H x d1 → RepX c2 X.K H0 H y d2 → PostE X.K W ξ M σ env true H0 H Q (f d1 d2) → r x y H Q
theorem deC {op : CmpOp} {f : D → D → R D} (h : CmpD X W ξ op f) (ha : DE X W ξ c1 a fa) (hb : DE X W ξ c2 b fb) (hm : behindInMarks op b = false := by first | exact nomark _ | rfl) : DE X W ξ true (.Compare a [op] [b] pos) (eBin f fa fb) := by
  obtain ⟨r, ho, hr⟩ := h
  exact de_cmp ho hm ha hb hr
theorem bool_end {K : PySem.W.Frag} {M : Fm ξ} {σ : L2.St} {env : En} {H0 H : Hp} {Q : Bool → Hp → Prop} {d : D} {v : V} (E : EnvAt K M H0 H σ env) (r : RepX c K H0 H v d) (p : PostT K W ξ M σ env H0 H Q (boolR d)) : ∃ k, v = .bl k ∧ Q k H := by
  cases d with
  | bl b => exact ⟨b, r.bl, p H0 H (.refl E)⟩
  | _ => exact p.elim
theorem dtC {op : CmpOp} {f : D → D → R D} (h : CmpD X W ξ op f) (ha : DE X W ξ c1 a fa) (hb : DE X W ξ c2 b fb) (hm : behindInMarks op b = false := by first | exact nomark _ | rfl) : DT X W ξ (.Compare a [op] [b] pos) (tBin f fa fb) := by
  obtain ⟨r, ho, hr⟩ := h
  exact ptImp (pt_cmpR ho ha hb hm) fun σ H Q ⟨M, H0, env, E, p⟩ => ⟨M, H0, env, E, bindE wishT p fun d1 x H1 H2 g1 r1 p1 => ⟨M, H1, env, g1.e, bindE wishT p1 fun d2 y H3 H4 g2 r2 p2 => hr g2.e (r1.mono g2.s0 g2.s) r2
    (bindE (c1 := true) wishT p2 fun d3 z H5 H6 g3 r3 p3 => bool_end g3.e r3 p3)⟩⟩
theorem cm_eq (hu : X.A.units + 64 < cLine) : CmpD X W ξ .Eq eqR := ⟨_, op_eqD hu, fun {c1 c2 M σ env H0 H Q x y d1 d2} E r1 r2 p => by
    unfold eqR at p
    split at p
    · rename_i ns
      obtain ⟨q, rfl, hq⟩ := r1.frz E.same
      obtain ⟨q2, vs, rfl, h2, r3⟩ := r2.lst E.same
      cases r3
      refine ⟨.list (ns.map .int), .list [], .lst hq (ints_dp ns), .lst (SqL.of h2) .nil, ?_, by decide, ?_⟩
      · unfold SeqAt.shaped; rw [(intsPy ns).1, decide_eq_true (intsPy ns).2]; rfl
      · have : PyData.eqv (.list (ns.map .int)) (.list []) = ns.isEmpty := by cases ns <;> simp only [List.map_nil, List.map_cons, PyData.eqv, PyData.eqvAll, List.isEmpty]
        rw [this]
        exact post_ok E p (.bl _)
    · split at p
      · rename_i h
        rw [Bool.and_eq_true] at h
        obtain ⟨p1, q1⟩ := rep_shaped h.1 (r1.rep E.same)
        obtain ⟨p2, q2⟩ := rep_shaped h.2 (r2.rep E.same)
        exact ⟨_, _, p1, p2, q1, q2, by rw [eqv_toPy]; exact post_ok E p (.bl _)⟩
      · exact p.elim⟩
theorem cm_ne (hu : X.A.units + 64 < cLine) : CmpD X W ξ .NotEq neR := ⟨_, op_neD hu, fun {c1 c2 M σ env H0 H Q x y d1 d2} E r1 r2 p => by
    unfold neR at p
    split at p
    · rename_i ns
      obtain ⟨q, rfl, hq⟩ := r1.frz E.same
      obtain ⟨q2, vs, rfl, h2, r3⟩ := r2.lst E.same
      cases r3
      refine ⟨.list (ns.map .int), .list [], .lst hq (ints_dp ns), .lst (SqL.of h2) .nil, ?_, by decide, ?_⟩
      · unfold SeqAt.shaped; rw [(intsPy ns).1, decide_eq_true (intsPy ns).2]; rfl
      · have : PyData.eqv (.list (ns.map .int)) (.list []) = ns.isEmpty := by cases ns <;> simp only [List.map_nil, List.map_cons, PyData.eqv, PyData.eqvAll, List.isEmpty]
        rw [this]
        exact post_ok E p (.bl _)
    · split at p
      · rename_i h
        rw [Bool.and_eq_true] at h
        obtain ⟨p1, q1⟩ := rep_shaped h.1 (r1.rep E.same)
        obtain ⟨p2, q2⟩ := rep_shaped h.2 (r2.rep E.same)
        exact ⟨_, _, p1, p2, q1, q2, by rw [eqv_toPy]; exact post_ok E p (.bl _)⟩
      · exact p.elim⟩
/-- is None -/
def isN : D → Bool
  | .non => true
  | _ => false
theorem isN_v {K : PySem.W.Frag} {H0 H : Hp} {v : V} {d : D} (r : RepX c K H0 H v d) : decide (v = V.non) = isN d := by
  rcases r.b with r | ⟨a, vs, xs, e1, e2, _⟩ | ⟨a, vs, xs, e1, e2, _⟩
  · cases r <;> simp [isN]
  · subst e1 e2; simp [isN]
  · subst e1 e2; simp [isN]
def isR (x y : D) : R D := if isN y = true then .ok (.bl (isN x)) else .bad
def isNotR (x y : D) : R D := if isN y = true then .ok (.bl (!isN x)) else .bad
theorem isN_y {K : PySem.W.Frag} {H0 H : Hp} {v : V} {d : D} (r : RepX c K H0 H v d) (h : isN d = true) : v = .non := of_decide_eq_true ((isN_v r).trans h)
theorem cm_is : CmpD X W ξ .Is isR := ⟨_, op_isN, fun {c1 c2 M σ env H0 H Q x y d1 d2} E r1 r2 p => by
    unfold isR at p
    split at p
    · rename_i h
      exact ⟨isN_y r2 h, by rw [isN_v r1]; exact post_ok E p (.bl _)⟩
    · exact p.elim⟩
theorem cm_isNot : CmpD X W ξ .IsNot isNotR := ⟨_, op_notN, fun {c1 c2 M σ env H0 H Q x y d1 d2} E r1 r2 p => by
    unfold isNotR at p
    split at p
    · rename_i h
      exact ⟨isN_y r2 h, by rw [isN_v r1]; exact post_ok E p (.bl _)⟩
    · exact p.elim⟩

/-! ### numbers -/
def addR : D → D → R D
  | .int i, .int j => .ok (.int (i + j))
  | .str s, .str t => if s.length + t.length ≤ sizeLine then .ok (.str (s ++ t)) else .bad
  | .lst xs, .lst ys => if xs.length + ys.length ≤ sizeLine then .ok (.lst (xs ++ ys)) else .bad
  | .tup xs, .tup ys => if xs.length + ys.length ≤ sizeLine then .ok (.tup (xs ++ ys)) else .bad
  | _, _ => .bad
def subR : D → D → R D
  | .int i, .int j => .ok (.int (i - j))
  | _, _ => .bad
def modR : D → D → R D
  | .int i, .int j => if 0 < j then .ok (.int (i % j)) else .bad
  | _, _ => .bad
def divR : D → D → R D
  | .int i, .int j => if 0 < j ∧ j < 1073741824 then .ok (.int (i / j)) else .bad
  | _, _ => .bad
def ltR : D → D → R D
  | .int i, .int j => .ok (.bl (decide (i < j)))
  | .str i, .str j => .ok (.bl (decide (i.cps.toList < j.cps.toList)))
  | _, _ => .bad
def leR : D → D → R D
  | .int i, .int j => .ok (.bl (decide (i ≤ j)))
  | _, _ => .bad
def gtR : D → D → R D
  | .int i, .int j => .ok (.bl (decide (j < i)))
  | _, _ => .bad
def geR : D → D → R D
  | .int i, .int j => .ok (.bl (decide (j ≤ i)))
  | _, _ => .bad
theorem de_sub (ha : DE X W ξ c1 a fa) (hb : DE X W ξ c2 b fb) : DE X W ξ true (.BinOp a .Sub b pos) (eBin subR fa fb) :=
  de_op op_sub ha hb fun {M σ env H0 H Q x y d1 d2} E r1 r2 p => by
    unfold subR at p
    split at p
    · exact ⟨_, _, r1.int, r2.int, post_ok E p (.int _)⟩
    · exact p.elim
theorem de_mod (ha : DE X W ξ c1 a fa) (hb : DE X W ξ c2 b fb) : DE X W ξ true (.BinOp a .Mod b pos) (eBin modR fa fb) :=
  de_op op_mod ha hb fun {M σ env H0 H Q x y d1 d2} E r1 r2 p => by
    unfold modR at p
    split at p
    · split at p
      · rename_i h
        exact ⟨_, _, r1.int, r2.int, h, post_ok E p (.int _)⟩
      · exact p.elim
    · exact p.elim
theorem de_div (ha : DE X W ξ c1 a fa) (hb : DE X W ξ c2 b fb) : DE X W ξ true (.BinOp a .FloorDiv b pos) (eBin divR fa fb) :=
  de_op op_fdiv ha hb fun {M σ env H0 H Q x y d1 d2} E r1 r2 p => by
    unfold divR at p
    split at p
    · split at p
      · rename_i h
        exact ⟨_, _, r1.int, r2.int, h, post_ok E p (.int _)⟩
      · exact p.elim
    · exact p.elim
theorem cm_lt : CmpD X W ξ .Lt ltR := ⟨_, OpR.or op_lt op_lt_str, fun {c1 c2 M σ env H0 H Q x y d1 d2} E r1 r2 p => by
    unfold ltR at p
    split at p
    · exact .inl ⟨_, _, r1.int, r2.int, post_ok E p (.bl _)⟩
    · exact .inr ⟨_, _, r1.str, r2.str, post_ok E p (.bl _)⟩
    · exact p.elim⟩
theorem cm_le : CmpD X W ξ .LtE leR := ⟨_, op_le, fun {c1 c2 M σ env H0 H Q x y d1 d2} E r1 r2 p => by
    unfold leR at p
    split at p
    · exact ⟨_, _, r1.int, r2.int, post_ok E p (.bl _)⟩
    · exact p.elim⟩
theorem cm_gt : CmpD X W ξ .Gt gtR := ⟨_, op_gt, fun {c1 c2 M σ env H0 H Q x y d1 d2} E r1 r2 p => by
    unfold gtR at p
    split at p
    · exact ⟨_, _, r1.int, r2.int, post_ok E p (.bl _)⟩
    · exact p.elim⟩
theorem cm_ge : CmpD X W ξ .GtE geR := ⟨_, op_ge, fun {c1 c2 M σ env H0 H Q x y d1 d2} E r1 r2 p => by
    unfold geR at p
    split at p
    · exact ⟨_, _, r1.int, r2.int, post_ok E p (.bl _)⟩
    · exact p.elim
⟩
/-! ### + -/
theorem sOk_append {s t : Str} (h : sOk s = true) (h' : sOk t = true) (hz : s.length + t.length ≤ sizeLine) : sOk (s ++ t) = true := by
  unfold sOk at *
  rw [Bool.and_eq_true] at *
  refine ⟨?_, decide_eq_true ?_⟩
  · have h1 := h.1
    have h2 := h'.1
    unfold PyData.strOk at *
    show (s.cps ++ t.cps).all _ = true
    rw [Array.all_append, h1, h2]; rfl
  · rw [sizeLine_eq] at hz
    show (s.cps ++ t.cps).size ≤ _
    rw [Array.size_append]
    exact hz
theorem RepX.sok {K : PySem.W.Frag} {H0 H : Hp} {v : V} {s : Str} (r : RepX c K H0 H v (.str s)) : sOk s = true := by
  rcases r.b with r | ⟨_, _, _, _, e, _⟩ | ⟨_, _, _, _, e, _⟩
  · cases r with | str _ h => exact h
  · cases e
  · cases e
theorem RepX.slen {K : PySem.W.Frag} {H0 H : Hp} {v : V} {s : Str} (r : RepX c K H0 H v (.str s)) : s.length ≤ sizeLine := by
  rw [sizeLine_eq]
  exact of_decide_eq_true (Bool.and_eq_true_iff.mp r.sok).2
/-- () + t -/
def rCat0 (K : PySem.W.Frag) : R2 := fun x y H Q => ∃ a b ys, x = .ref a ∧ y = .ref b ∧ SqT K H a [] ∧ SqT K H b ys ∧ Q (.ref b) H
end
end Dx

/-! The data layer, part D: +, *, subscripts, slices, in, displays, and, or, not, if. -/
namespace Dx
open PySem PySem.Spec PyProof.Rows L2
section
variable {X : Cx} {W : WX} {ξ : Str → Value} {e a b : Expr} {es : List Expr} {c c1 c2 c3 : Bool} {pos : Pos} {fa fb : En → R D}
variable {K : PySem.W.Frag} {M : Fm ξ} {σ : L2.St} {env : En} {H0 H : Hp} {Q : VK}

theorem post_new {o : HO} {d : D} (E : EnvAt K M H0 H σ env) (p : PostE K W ξ M σ env c H0 H Q (.ok d)) (r : ∀ q, H q = none → Rep K (upd H0 q o) (.ref q) d) : ∀ q, H q = none → Q (.ref q) (upd H q o) :=
  fun q hq => p (.ref q) _ _ (E.new hq) (.of (r q hq))
theorem new_lst {vs : List V} {xs : List D} (E : EnvAt K M H0 H σ env) (p : PostE K W ξ M σ env c H0 H Q (.ok (.lst xs))) (z : xs.length ≤ sizeLine) (r : RepAll K H0 vs xs) : ∀ q, H q = none → Q (.ref q) (upd H q (.lst vs)) :=
  post_new E p fun q hq => .lst upd_same z (r.mono (same_upd (E.same.free hq)))
theorem new_tup {vs : List V} {xs : List D} (E : EnvAt K M H0 H σ env) (p : PostE K W ξ M σ env c H0 H Q (.ok (.tup xs))) (z : xs.length ≤ sizeLine) (r : RepAll K H0 vs xs) : ∀ q, H q = none → Q (.ref q) (upd H q (.tup vs)) :=
  post_new E p fun q hq => .tup upd_same z (r.mono (same_upd (E.same.free hq)))
theorem same_free {p : Addr} (E : EnvAt K M H0 H σ env) : Same H0 H := E.same

/-- an operator by values -/
def OpD (X : Cx) (W : WX) (ξ : Str → Value) (op : Operator) (f : D → D → R D) : Prop := ∃ r : R2, OpR X (binaryOp op) r ∧
  ∀ {c1 c2 : Bool} {M : Fm ξ} {σ : L2.St} {env : En} {H0 H : Hp} {Q : VK} {x y : V} {d1 d2 : D}, EnvAt X.K M H0 H σ env → RepX c1 X.K H0 H x d1 → RepX c2 X.K H0 H y d2 → PostE X.K W ξ M σ env true H0 H Q (f d1 d2) → r x y H Q
theorem od_add : OpD X W ξ .Add addR :=
  ⟨_, (OpR.or op_add (OpR.or op_add_str (OpR.or op_cat op_catA))), fun {c1 c2 M σ env H0 H Q x y d1 d2} E r1 r2 p => by
    unfold addR at p
    split at p
    · exact .inl ⟨_, _, r1.int, r2.int, post_ok E p (.int _)⟩
    · split at p
      · rename_i h
        exact .inr (.inl ⟨_, _, r1.str, r2.str, h, post_ok E p (.str _ (sOk_append r1.sok r2.sok h))⟩)
      · exact p.elim
    · split at p
      · rename_i h
        obtain ⟨q1, vs, rfl, h1, r3⟩ := r1.lst E.same
        obtain ⟨q2, ws, rfl, h2, r4⟩ := r2.lst E.same
        exact .inr (.inr (.inl ⟨_, _, _, _, rfl, rfl, h1, h2, by rw [r3.length, r4.length]; exact h, new_lst E p (by rw [List.length_append]; exact h) (r3.append r4)⟩))
      · exact p.elim
    · split at p
      · rename_i h
        obtain ⟨q1, vs, rfl, h1, r3⟩ := r1.tup
        obtain ⟨q2, ws, rfl, h2, r4⟩ := r2.tup
        have z1 := r1.tupLen
        have z2 := r2.tupLen
        refine .inr (.inr (.inr ⟨_, _, vs, ws, rfl, rfl, SqT.of (E.same _ _ h1), SqT.of (E.same _ _ h2), by rw [r3.length, r4.length]; exact h, fun z => ?_, fun z1 z => ?_, fun _ _ => new_tup E p (by rw [List.length_append]; exact h) (r3.append r4)⟩))
        · subst z
          cases r3
          exact post_ok E p (.tup h2 z2 r4)
        · subst z
          cases r4
          rw [List.append_nil] at p
          exact post_ok E p (.tup h1 (by assumption) r3)
      · exact p.elim
    · exact p.elim⟩
theorem de_add (ha : DE X W ξ c1 a fa) (hb : DE X W ξ c2 b fb) : DE X W ξ true (.BinOp a .Add b pos) (eBin addR fa fb) := by
  obtain ⟨r, ho, hr⟩ := od_add (X := X) (W := W) (ξ := ξ)
  exact de_op ho ha hb hr
def mulR : D → D → R D
  | .int i, .int j => if (-(2 ^ 64) < i ∧ i < 2 ^ 64) ∨ (-(2 ^ 64) < j ∧ j < 2 ^ 64) then .ok (.int (i * j)) else .bad
  | .lst xs, .int k => if -(2 ^ 63) ≤ k ∧ k < 2 ^ 63 ∧ xs.length * k.toNat ≤ sizeLine then .ok (.lst (List.replicate k.toNat xs).flatten) else .bad
  | .tup xs, .int k => if xs ≠ [] ∧ 2 ≤ k ∧ k ≤ 1000 ∧ xs.length ≤ 1000 then .ok (.tup (List.replicate k.toNat xs).flatten) else .bad
  | _, _ => .bad
theorem RepAll.rep {vs : List V} {xs : List D} (r : RepAll K H vs xs) : ∀ n : Nat, RepAll K H (List.replicate n vs).flatten (List.replicate n xs).flatten
  | 0 => .nil
  | n + 1 => by
    rw [List.replicate_succ, List.replicate_succ, List.flatten_cons, List.flatten_cons]
    exact r.append (RepAll.rep r n)
theorem RepAll.nil_iff {vs : List V} {xs : List D} (r : RepAll K H vs xs) : vs = [] ↔ xs = [] := by
  cases r <;> simp
theorem rep_len {α : Type} (xs : List α) : ∀ n : Nat, (List.replicate n xs).flatten.length = xs.length * n
  | 0 => by simp
  | n + 1 => by rw [List.replicate_succ, List.flatten_cons, List.length_append, rep_len xs n, Nat.mul_succ, Nat.add_comm]
theorem de_mul (ha : DE X W ξ c1 a fa) (hb : DE X W ξ c2 b fb) : DE X W ξ true (.BinOp a .Mult b pos) (eBin mulR fa fb) :=
  de_op (OpR.or op_mul (OpR.or op_rep op_repT)) ha hb fun {M σ env H0 H Q x y d1 d2} E r1 r2 p => by
    unfold mulR at p
    split at p
    · split at p
      · rename_i h
        exact .inl ⟨_, _, r1.int, r2.int, h, post_ok E p (.int _)⟩
      · exact p.elim
    · split at p
      · rename_i h
        obtain ⟨q1, vs, rfl, h1, r3⟩ := r1.lst E.same
        exact .inr (.inl ⟨_, _, _, rfl, r2.int, h1, h.1, h.2.1, by rw [r3.length]; exact h.2.2, new_lst E p (by rw [rep_len]; exact h.2.2) (r3.rep _)⟩)
      · exact p.elim
    · split at p
      · rename_i h
        obtain ⟨q1, vs, rfl, h1, r3⟩ := r1.tup
        exact .inr (.inr ⟨_, _, _, rfl, r2.int, SqT.of (E.same _ _ h1), fun z => h.1 (r3.nil_iff.mp z), h.2.1, h.2.2.1, by rw [r3.length]; exact h.2.2.2, new_tup E p (by
          rw [rep_len, sizeLine_eq]
          have h1 : (_ : Int).toNat ≤ 1000 := Int.toNat_le.mpr h.2.2.1
          exact Nat.le_trans (Nat.mul_le_mul h.2.2.2 h1) (by decide)) (r3.rep _)⟩)
      · exact p.elim
    · exact p.elim

/-! ### a[i] -/
def keyOf : D → Option Key
  | .int i => some (.inl i)
  | .str s => some (.inr s)
  | _ => none
def valD (kvs : List (Key × D)) (k : Key) : Option D := (kvs.find? fun kv => decide (kv.1 = k)).map (·.2)
theorem RepKv.val {vs : List (Key × V)} {xs : List (Key × D)} (r : RepKv K H vs xs) (k : Key) : (valV vs k = none ∧ valD xs k = none) ∨ ∃ v x, valV vs k = some v ∧ valD xs k = some x ∧ Rep K H v x := by
  induction vs generalizing xs with
  | nil => cases r; exact .inl ⟨rfl, rfl⟩
  | cons p vs ih =>
    cases r with
    | @cons k' v _ x xs' _ q t =>
      by_cases e : k' = k
      · refine .inr ⟨v, x, ?_, ?_, q⟩
        · exact valV_pos (p := (k', v)) e
        · simp [valD, List.find?_cons, e]
      · rcases ih t with ⟨h1, h2⟩ | ⟨w', y, h1, h2, h3⟩
        · refine .inl ⟨by rw [valV_neg (p := (k', v)) e]; exact h1, ?_⟩
          simpa [valD, List.find?_cons, e] using h2
        · refine .inr ⟨w', y, by rw [valV_neg (p := (k', v)) e]; exact h1, ?_, h3⟩
          simpa [valD, List.find?_cons, e] using h2
theorem keyOf_v {k : Key} {d : D} {v : V} (h : keyOf d = some k) (r : RepX c K H0 H v d) : v = kV k ∧ keyOk k = true := by
  cases d with
  | int i => cases h; exact ⟨r.int, rfl⟩
  | str s => cases h; exact ⟨r.str, r.sok⟩
  | _ => cases h
def ixR : D → D → R D
  | .lst xs, .int i => match atI xs i with
    | some x => .ok x
    | none => .bad
  | .tup xs, .int i => match atI xs i with
    | some x => .ok x
    | none => .bad
  | .str z, .int i => match atI z.cps.toList i with
    | some x => .ok (.str ⟨#[x]⟩)
    | none => .bad
  | .frz ns, .int i => match atI ns i with
    | some n => .ok (.int n)
    | none => .bad
  | .dic kvs, y => match keyOf y with
    | some k => (match valD kvs k with
      | some x => .ok x
      | none => .bad)
    | none => .bad
  | _, _ => .bad
theorem ix_dict (hu : X.A.units + 1 < cLine) : IxR X (fun x y H Q => ∃ a v, x = .ref a ∧ DGet H a y (some v) ∧ Q v H) := by
  intro value slice pins s σ H x y v u Q I rx ry h hs
  obtain ⟨a, z, rfl, g, q⟩ := h
  cases rx
  exact tail_any (dict_typeIs I g) PySem.F.slot_dict_getitem.lookup (d_getItem hu I g ry fun w' s' I' r => ⟨z, H, I', r, q⟩) hs
theorem atI_rep {vs : List V} {xs : List D} (r : RepAll K H vs xs) {i : Int} {x : D} (h : atI xs i = some x) : ∃ v, atI vs i = some v ∧ Rep K H v x := by
  unfold atI at h ⊢
  rw [r.length]
  cases e : ixN xs.length i with
  | none => rw [e] at h; cases h
  | some j => rw [e] at h; exact r.get h
theorem strOk_get {s : Str} {c : Nat} (h : sOk s = true) (hc : c ∈ s.cps.toList) : sOk ⟨#[c]⟩ = true := by
  unfold sOk at *
  rw [Bool.and_eq_true] at h ⊢
  refine ⟨?_, decide_eq_true (show 1 ≤ 16777216 by decide)⟩
  replace h := h.1
  unfold PyData.strOk at *
  rw [Array.all_eq_true_iff_forall_mem] at h
  have := h c (by simpa using hc)
  simpa using this
theorem atI_mem {α : Type} {xs : List α} {i : Int} {x : α} (h : atI xs i = some x) : x ∈ xs := by
  unfold atI at h
  cases e : ixN xs.length i with
  | none => rw [e] at h; cases h
  | some j => rw [e] at h; exact List.mem_of_getElem? h
def IxD (X : Cx) (W : WX) (ξ : Str → Value) : Prop := ∃ r : R2, IxR X r ∧
  ∀ {c1 c2 : Bool} {M : Fm ξ} {σ : L2.St} {env : En} {H0 H : Hp} {Q : VK} {x y : V} {d1 d2 : D}, EnvAt X.K M H0 H σ env → RepX c1 X.K H0 H x d1 → RepX c2 X.K H0 H y d2 → PostE X.K W ξ M σ env true H0 H Q (ixR d1 d2) → r x y H Q
theorem ixD (hu : X.A.units + 1 < cLine) : IxD X W ξ :=
  ⟨_, (ix_list.or (ix_tup.or (ix_str.or (ix_dict hu)))), fun {c1 c2 M σ env H0 H Q x y d1 d2} E r1 r2 p2 => by
    unfold ixR at p2
    split at p2
    · split at p2
      · rename_i h
        obtain ⟨q1, vs, rfl, h1, r3⟩ := r1.lst E.same
        obtain ⟨v, hv, rv⟩ := atI_rep r3 h
        exact .inl ⟨_, _, _, v, rfl, r2.int, SqL.of h1, hv, post_ok E p2 rv⟩
      · exact p2.elim
    · split at p2
      · rename_i h
        obtain ⟨q1, vs, rfl, h1, r3⟩ := r1.tup
        obtain ⟨v, hv, rv⟩ := atI_rep r3 h
        exact .inr (.inl ⟨_, _, _, v, rfl, r2.int, SqT.of (E.same _ _ h1), hv, post_ok E p2 rv⟩)
      · exact p2.elim
    · split at p2
      · rename_i h
        exact .inr (.inr (.inl ⟨_, _, _, r1.str, r2.int, r1.slen, h, post_ok E p2 (.str _ (strOk_get r1.sok (atI_mem h)))⟩))
      · exact p2.elim
    · split at p2
      · rename_i ns i o n h
        obtain ⟨q1, rfl, h1⟩ := r1.frz E.same
        refine .inl ⟨_, _, _, .int n, rfl, r2.int, h1, ?_, post_ok E p2 (.int _)⟩
        unfold atI at h ⊢
        rw [List.length_map]
        cases e : ixN ns.length i with
        | none => rw [e] at h; cases h
        | some j =>
          rw [e] at h
          have h : ns[j]? = some n := h
          show (ns.map V.int)[j]? = _
          rw [List.getElem?_map, h]; rfl
      · exact p2.elim
    · split at p2
      · rename_i k hk
        split at p2
        · rename_i x hx
          obtain ⟨q1, vs, rfl, h1, r3⟩ := r1.dic E.same
          obtain ⟨ey, _⟩ := keyOf_v hk r2
          rcases r3.val k with ⟨z1, z2⟩ | ⟨v, x', z1, z2, z3⟩
          · rw [hx] at z2; cases z2
          · rw [hx] at z2; cases z2
            refine .inr (.inr (.inr ⟨_, v, rfl, ?_, post_ok E p2 z3⟩))
            rw [ey, ← z1]
            exact DGetR h1
        · exact p2.elim
      · exact p2.elim
    · exact p2.elim⟩
theorem de_ix (hu : X.A.units + 1 < cLine) (hs : PlainIx b) (ha : DE X W ξ c1 a fa) (hb : DE X W ξ c2 b fb) : DE X W ξ true (.Subscript a b pos) (eBin ixR fa fb) := by
  obtain ⟨r, ho, hr⟩ := ixD (X := X) (W := W) (ξ := ξ) hu
  exact peImp (pe_ix ho ha hb hs) fun σ H Q ⟨M, H0, env, E, p⟩ => ⟨M, H0, env, E, bindE wishE p fun d1 x H1 H2 g1 r1 p1 => ⟨M, H1, env, g1.e, bindE wishE p1 fun d2 y H3 H4 g2 r2 p2 => hr g2.e (r1.mono g2.s0 g2.s) r2 p2⟩⟩

/-! ### a[i:j], a[::-1] -/
def PostO (K : PySem.W.Frag) (W : WX) (ξ : Str → Value) (M : Fm ξ) (σ : L2.St) (env : En) (H0 H : Hp) (Q : Option Int → Hp → Prop) : R (Option Int) → Prop
  | .ok b => ∀ H0' H', Gr K M σ env H0 H H0' H' → Q b H'
  | .exc x => ∀ H0' H', Gr K M σ env H0 H H0' H' → W (ξ x) none σ H'
  | .bad => False
def tDO (K : PySem.W.Frag) (W : WX) (ξ : Str → Value) (F : En → R (Option Int)) : TO := fun σ H Q => ∃ M H0 env, EnvAt K M H0 H σ env ∧ PostO K W ξ M σ env H0 H Q (F env)
abbrev DO (X : Cx) (W : WX) (ξ : Str → Value) (e : Option Expr) (F : En → R (Option Int)) : Prop := PO X e (tDO X.K W ξ F)
def optR : D → R (Option Int)
  | .int i => .ok (some i)
  | _ => .bad
theorem poImp {e : Option Expr} {t t' : TO} (h : PO X e t) (hi : ∀ σ H Q, t' σ H Q → t σ H Q) : PO X e t' := ⟨fun pins s σ H Q I w => h.run pins s σ H Q I (hi _ _ _ w)⟩
theorem bindO {β : Type} {P : Hp → Hp → R β → Prop} (w : Wish K W ξ M σ env P) {x : R (Option Int)} {k : Option Int → R β} {Q1 : Option Int → Hp → Prop} (p : P H0 H (x >>= k)) (h : ∀ a H0' H', Gr K M σ env H0 H H0' H' → P H0' H' (k a) → Q1 a H') : PostO K W ξ M σ env H0 H Q1 x := by
  cases x with
  | ok d => exact fun H0' H' g => h d H0' H' g (w.weak g p)
  | exc x => exact fun H0' H' g => w.exc p H0' H' g
  | bad => exact w.bad p
theorem PostO.weak {x : R (Option Int)} {Q : Option Int → Hp → Prop} {H0' H' : Hp} (g : Gr K M σ env H0 H H0' H') (p : PostO K W ξ M σ env H0 H Q x) : PostO K W ξ M σ env H0' H' Q x := by
  cases x with
  | ok d => exact fun H02 H2 g2 => p H02 H2 (g.trans g2)
  | exc x => exact fun H02 H2 g2 => p H02 H2 (g.trans g2)
  | bad => exact p
theorem wishO {Q : Option Int → Hp → Prop} : Wish K W ξ M σ env (fun H0 H => PostO K W ξ M σ env H0 H Q) := ⟨PostO.weak, fun p => p, fun p => p⟩
def oNone : En → R (Option Int) := fun _ => .ok none
theorem do_none : DO X W ξ none oNone := poImp po_none fun σ H Q ⟨M, H0, env, E, p⟩ => p H0 H (.refl E)
theorem do_some (h : DE X W ξ c e fa) : DO X W ξ (some e) (eUn optR fa) := poImp (po_some h) fun σ H Q ⟨M, H0, env, E, p⟩ => ⟨M, H0, env, E, bindE wishO p fun d x H1 H2 g r p1 => by
  unfold optR at p1
  split at p1
  · exact ⟨_, r.int, p1 H1 H2 (.refl g.e)⟩
  · exact p1.elim⟩
def cutL {α : Type} (xs : List α) (lo hi : Option Int) : List α := (xs.drop (HT.sIx xs.length 0 lo)).take (HT.sIx xs.length xs.length hi - HT.sIx xs.length 0 lo)
def sliceR : D → Option Int → Option Int → R D
  | .lst xs, lo, hi => .ok (.lst (cutL xs lo hi))
  | .tup xs, lo, hi => .ok (.tup (cutL xs lo hi))
  | .str z, lo, hi => .ok (.str (cutS z lo hi))
  | _, _, _ => .bad
def eSlice (A : En → R D) (l h : En → R (Option Int)) : En → R D := fun env => A env >>= fun x => l env >>= fun l => h env >>= fun h => sliceR x l h
theorem RepAll.cut {vs : List V} {xs : List D} (r : RepAll K H vs xs) (lo hi : Option Int) : RepAll K H (cutV vs lo hi) (cutL xs lo hi) := by
  unfold cutV cutL
  rw [r.length]
  exact (r.drop _).take _
theorem cutL_whole {α : Type} {xs : List α} {lo hi : Option Int} (h1 : HT.sIx xs.length 0 lo = 0) (h2 : HT.sIx xs.length xs.length hi = xs.length) : cutL xs lo hi = xs := by
  unfold cutL; rw [h1, h2]; simp
theorem cutL_len {α : Type} (xs : List α) (lo hi : Option Int) : (cutL xs lo hi).length ≤ xs.length := by
  unfold cutL
  rw [List.length_take, List.length_drop]
  omega
theorem strOk_cut {s : Str} {lo hi : Option Int} (h : sOk s = true) : sOk (cutS s lo hi) = true := by
  unfold sOk at *
  rw [Bool.and_eq_true] at h ⊢
  refine ⟨?_, ?_⟩
  · replace h := h.1
    unfold PyData.strOk at *
    rw [Array.all_eq_true_iff_forall_mem] at h ⊢
    intro x hx
    apply h x
    have : x ∈ (cutS s lo hi).cps.toList := by simpa using hx
    unfold cutS at this
    have := List.mem_of_mem_drop (List.mem_of_mem_take (by simpa using this))
    simpa using this
  · exact decide_eq_true (Nat.le_trans (cutS_length s lo hi) (of_decide_eq_true h.2))
def SlD (X : Cx) (W : WX) (ξ : Str → Value) : Prop := ∃ r : V → Option Int → Option Int → Hp → VK → Prop, SlR X r ∧
  ∀ {c1 : Bool} {M : Fm ξ} {σ : L2.St} {env : En} {H0 H : Hp} {Q : VK} {x : V} {d1 : D} {l h : Option Int}, EnvAt X.K M H0 H σ env → RepX c1 X.K H0 H x d1 → PostE X.K W ξ M σ env true H0 H Q (sliceR d1 l h) → r x l h H Q
theorem slD : SlD X W ξ :=
  ⟨_, (SlR.or sl_list (SlR.or sl_tupA sl_str)), fun {c1 M σ env H0 H Q x d1 l h} E r1 p3 => by
    unfold sliceR at p3
    split at p3
    · obtain ⟨q1, vs, rfl, h1, r3⟩ := r1.lst E.same
      exact .inl ⟨_, _, rfl, SqL.of h1, new_lst E p3 (Nat.le_trans (cutL_len _ _ _) r1.lstLen) (r3.cut _ _)⟩
    · have z1 := r1.tupLen
      obtain ⟨q1, vs, rfl, h1, r3⟩ := r1.tup
      refine .inr (.inl ⟨_, _, rfl, SqT.of (E.same _ _ h1), fun z => ?_, fun _ => new_tup E p3 (Nat.le_trans (cutL_len _ _ _) z1) (r3.cut _ _)⟩)
      rw [r3.length] at z
      rw [cutL_whole z.1 z.2] at p3
      exact post_ok E p3 (.tup h1 z1 r3)
    · exact .inr (.inr ⟨_, r1.str, r1.slen, post_ok E p3 (.str _ (strOk_cut r1.sok))⟩)
    · exact p3.elim⟩
theorem de_slice {lo hi : Option Expr} {p2 : Pos} {fl fh : En → R (Option Int)} (ha : DE X W ξ c1 a fa) (hl : DO X W ξ lo fl) (hh : DO X W ξ hi fh) :
    DE X W ξ true (.Subscript a (.Slice lo hi none p2) pos) (eSlice fa fl fh) := by
  obtain ⟨r, ho, hr⟩ := slD (X := X) (W := W) (ξ := ξ)
  exact peImp (pe_slice ho ha hl hh) fun σ H Q ⟨M, H0, env, E, p⟩ => ⟨M, H0, env, E, bindE wishE p fun d1 x H1 H2 g1 r1 p1 => ⟨M, H1, env, g1.e, bindO wishE p1 fun l H3 H4 g2 p2 => ⟨M, H3, env, g2.e, bindO wishE p2 fun h H5 H6 g3 p3 => hr g3.e ((r1.mono g2.s0 g2.s).mono g3.s0 g3.s) p3⟩⟩⟩
def revR : D → R D
  | .lst xs => .ok (.lst xs.reverse)
  | _ => .bad
theorem de_rev {k : Nat} {p1 p2 p3 : Pos} (ha : DE X W ξ c1 a fa) : DE X W ξ true (.Subscript a (.Slice none none (some (.UnaryOp .USub (.Constant (.int 1) k p1) p2)) p3) pos) (eUn revR fa) :=
  peImp (pe_revL ha) fun σ H Q ⟨M, H0, env, E, p⟩ => ⟨M, H0, env, E, bindE wishE p fun d1 x H1 H2 g1 r1 p1 => by
    unfold revR at p1
    split at p1
    · have z1 := r1.lstLen
      obtain ⟨q1, vs, rfl, h1, r3⟩ := r1.lst g1.e.same
      exact ⟨_, _, rfl, SqL.of h1, new_lst g1.e p1 (by rw [List.length_reverse]; exact z1) r3.reverse⟩
    · exact p1.elim⟩
/-! ### - -/
def negR : D → R D
  | .int i => .ok (.int (-i))
  | _ => .bad
theorem de_neg (ha : DE X W ξ c1 a fa) : DE X W ξ true (.UnaryOp .USub a pos) (eUn negR fa) :=
  peImp (pe_un un_neg ha) fun σ H Q ⟨M, H0, env, E, p⟩ => ⟨M, H0, env, E, bindE wishE p fun d1 x H1 H2 g1 r1 p1 => by
    unfold negR at p1
    split at p1
    · exact ⟨_, r1.int, post_ok g1.e p1 (.int _)⟩
    · exact p1.elim⟩
end
end Dx

/-! The data layer, part E: in, displays, tests, calls. -/
namespace Dx
open PySem PySem.Spec PyProof.Rows L2
section
variable {X : Cx} {W : WX} {ξ : Str → Value} {e a b : Expr} {es : List Expr} {c c1 c2 c3 : Bool} {pos : Pos} {fa fb : En → R D}
variable {K : PySem.W.Frag} {M : Fm ξ} {σ : L2.St} {env : En} {H0 H : Hp} {Q : VK}

/-! ### in -/
def scal0 : D → Bool
  | .non => true
  | .bl _ => true
  | .int _ => true
  | .str _ => true
  | _ => false
theorem scal_flat {d : D} {v : V} (h : scal0 d = true) (r : Rep K H v d) : flatV v = true := by
  cases r <;> first | rfl | cases h
theorem scal_eq {d e : D} {v w : V} (h : scal0 d = true) (h' : scal0 e = true) (r : Rep K H v d) (q : Rep K H w e) : eqV v w = eqD d e := by
  cases r <;> cases q <;> first | (simp only [eqV, eqD]; done) | cases h | cases h'
theorem scal_all : ∀ {xs : List D} {vs : List V}, xs.all scal0 = true → RepAll K H vs xs → vs.all flatV = true
  | _, _, _, .nil => rfl
  | _, _, h, .cons r t => by
    rw [List.all_cons, Bool.and_eq_true] at h
    rw [List.all_cons, scal_flat h.1 r, scal_all h.2 t]; rfl
theorem scal_any {d : D} {v : V} (h : scal0 d = true) (r : Rep K H v d) : ∀ {xs : List D} {vs : List V}, xs.all scal0 = true → RepAll K H vs xs → inV v vs = xs.any fun z => eqD z d
  | _, _, _, .nil => rfl
  | _, _, h', .cons q t => by
    rw [List.all_cons, Bool.and_eq_true] at h'
    have := scal_any h r h'.2 t
    unfold inV at this ⊢
    rw [List.any_cons, List.any_cons, scal_eq h'.1 h q r, this]
def inB (a b : D) : R Bool := match b with
  | .str z => (match a with
    | .str s => (match s.cps.toList with
      | [c] => .ok (decide (c ∈ z.cps.toList))
      | _ => .bad)
    | _ => .bad)
  | .lst xs => if dle 64 a && dle 64 (.lst xs) then .ok (xs.any fun z => eqD z a) else .bad
  | .tup xs => if scal0 a && xs.all scal0 then .ok (xs.any fun z => eqD z a) else .bad
  | .dic kvs => (match keyOf a with
    | some k => .ok (valD kvs k).isSome
    | none => .bad)
  | _ => .bad
def inR (a b : D) : R D := inB a b >>= fun k => .ok (.bl k)
def notInR (a b : D) : R D := inB a b >>= fun k => .ok (.bl (!k))
theorem any_toPys (d : D) : ∀ xs : List D, ((toPys xs).any fun z => PyData.eqv z (toPy d)) = xs.any fun z => eqD z d
  | [] => rfl
  | x :: xs => by rw [toPys, List.any_cons, List.any_cons, eqv_toPy, any_toPys d xs]
theorem RepKv.isSome {vs : List (Key × V)} {xs : List (Key × D)} (r : RepKv K H vs xs) (k : Key) : (valV vs k).isSome = (valD xs k).isSome := by
  rcases r.val k with ⟨z1, z2⟩ | ⟨v, x', z1, z2, z3⟩
  · rw [z1, z2]; rfl
  · rw [z1, z2]; rfl
theorem op_din (hu : X.A.units + 65 < cLine) : OpR X (compareOp .In) (fun y x H Q => ∃ a o, x = .ref a ∧ DGet H a y o ∧ Q (.bl o.isSome) H) := by
  intro pins s σ H y x v u Q I ry rx h
  obtain ⟨a, o, rfl, g, q⟩ := h
  cases rx
  exact d_in (by omega) I g ry fun s' I' => ⟨.bl o.isSome, H, I', rfl, q⟩
theorem op_dnotin (hu : X.A.units + 65 < cLine) : OpR X (compareOp .NotIn) (fun y x H Q => ∃ a o, x = .ref a ∧ DGet H a y o ∧ Q (.bl (!o.isSome)) H) := by
  intro pins s σ H y x v u Q I ry rx h
  obtain ⟨a, o, rfl, g, q⟩ := h
  cases rx
  exact d_notIn (by omega) I g ry fun s' I' => ⟨.bl (!o.isSome), H, I', rfl, q⟩
theorem str1 {s : Str} {c : Nat} (h : s.cps.toList = [c]) : s = ⟨#[c]⟩ := by
  cases s with
  | mk cps =>
    have h : cps.toList = [c] := h
    have : cps = #[c] := by rw [← Array.toArray_toList (xs := cps), h]
    rw [this]
theorem cm_in (hu : X.A.units + 65 < cLine) : CmpD X W ξ .In inR := ⟨_, OpR.or op_in_sign (OpR.or (op_inD hu) (OpR.or op_in_seq (op_din hu))), fun {c1 c2 M σ env H0 H Q x y d1 d2} E r1 r2 p => by
  unfold inR inB at p
  split at p
  · split at p
    · split at p
      · rename_i h
        have r1s := r1.str
        rw [str1 h] at r1s
        exact .inl ⟨_, _, r1s, r2.str, post_ok E p (.bl _)⟩
      · exact p.elim
    · exact p.elim
  · split at p
    · rename_i h
      rw [Bool.and_eq_true] at h
      obtain ⟨p1, q1⟩ := rep_shaped h.1 (r1.rep E.same)
      obtain ⟨p2, q2⟩ := rep_shaped h.2 (r2.rep E.same)
      simp only [toPy] at p2 q2
      refine .inr (.inl ⟨_, _, p1, p2, q1, q2, ?_⟩)
      rw [any_toPys]
      exact post_ok E p (.bl _)
    · exact p.elim
  · split at p
    · rename_i h
      rw [Bool.and_eq_true] at h
      obtain ⟨q1, vs, rfl, h1, r3⟩ := r2.tup
      have r1r := r1.rep E.same
      have r3' := r3.mono E.same
      refine .inr (.inr (.inl ⟨_, _, rfl, .inr (SqT.of (E.same _ _ h1)), scal_flat h.1 r1r, scal_all h.2 r3', ?_⟩))
      simp only [Bool.false_eq_true, if_false]
      rw [scal_any h.1 r1r h.2 r3']
      exact post_ok E p (.bl _)
    · exact p.elim
  · split at p
    · rename_i k hk
      obtain ⟨q1, vs, rfl, h1, r3⟩ := r2.dic E.same
      obtain ⟨ey, _⟩ := keyOf_v hk r1
      refine .inr (.inr (.inr ⟨_, valV vs k, rfl, by rw [ey]; exact DGetR h1, ?_⟩))
      rw [r3.isSome]
      exact post_ok E p (.bl _)
    · exact p.elim
  · exact p.elim⟩
theorem cm_notIn (hu : X.A.units + 65 < cLine) : CmpD X W ξ .NotIn notInR := ⟨_, OpR.or op_notIn_sign (OpR.or (op_notInD hu) (OpR.or op_notIn_seq (op_dnotin hu))), fun {c1 c2 M σ env H0 H Q x y d1 d2} E r1 r2 p => by
  unfold notInR inB at p
  split at p
  · split at p
    · split at p
      · rename_i h
        have r1s := r1.str
        rw [str1 h] at r1s
        exact .inl ⟨_, _, r1s, r2.str, post_ok E p (.bl _)⟩
      · exact p.elim
    · exact p.elim
  · split at p
    · rename_i h
      rw [Bool.and_eq_true] at h
      obtain ⟨p1, q1⟩ := rep_shaped h.1 (r1.rep E.same)
      obtain ⟨p2, q2⟩ := rep_shaped h.2 (r2.rep E.same)
      simp only [toPy] at p2 q2
      refine .inr (.inl ⟨_, _, p1, p2, q1, q2, ?_⟩)
      rw [any_toPys]
      exact post_ok E p (.bl _)
    · exact p.elim
  · split at p
    · rename_i h
      rw [Bool.and_eq_true] at h
      obtain ⟨q1, vs, rfl, h1, r3⟩ := r2.tup
      have r1r := r1.rep E.same
      have r3' := r3.mono E.same
      refine .inr (.inr (.inl ⟨_, _, rfl, .inr (SqT.of (E.same _ _ h1)), scal_flat h.1 r1r, scal_all h.2 r3', ?_⟩))
      simp only [if_true]
      rw [scal_any h.1 r1r h.2 r3']
      exact post_ok E p (.bl _)
    · exact p.elim
  · split at p
    · rename_i k hk
      obtain ⟨q1, vs, rfl, h1, r3⟩ := r2.dic E.same
      obtain ⟨ey, _⟩ := keyOf_v hk r1
      refine .inr (.inr (.inr ⟨_, valV vs k, rfl, by rw [ey]; exact DGetR h1, ?_⟩))
      rw [r3.isSome]
      exact post_ok E p (.bl _)
    · exact p.elim
  · exact p.elim⟩

/-! ### a < b < c -/
def chainR (f g : D → D → R D) (x y : D) (z : R D) : R D := f x y >>= boolR >>= fun k => if k = true then z >>= fun w => g y w else .ok (.bl false)
/-! ### words -/
def eChain (f g : D → D → R D) (A B C : En → R D) : En → R D := fun env => A env >>= fun x => B env >>= fun y => chainR f g x y (C env)
def tChain (f g : D → D → R D) (A B C : En → R D) : En → R Bool := fun env => A env >>= fun x => B env >>= fun y => chainR f g x y (C env) >>= boolR
def tVal (A : En → R D) : En → R Bool := fun env => A env >>= boolR
def tNot (A : En → R Bool) : En → R Bool := fun env => A env >>= fun k => .ok (!k)
def tAnd (A B : En → R Bool) : En → R Bool := fun env => A env >>= fun k => if k = true then B env else .ok false
def tOr (A B : En → R Bool) : En → R Bool := fun env => A env >>= fun k => if k = true then .ok true else B env
def eAnd (A B : En → R D) : En → R D := fun env => A env >>= fun x => boolR x >>= fun k => if k = true then B env else .ok (.bl false)
def eOr (A B : En → R D) : En → R D := fun env => A env >>= fun x => boolR x >>= fun k => if k = true then .ok (.bl true) else B env
def eIf (t : En → R Bool) (A B : En → R D) : En → R D := fun env => t env >>= fun k => if k = true then A env else B env
def aNil : En → R (List D) := fun _ => .ok []
def aCons (A : En → R D) (As : En → R (List D)) : En → R (List D) := fun env => A env >>= fun x => As env >>= fun xs => .ok (x :: xs)
def kNil : En → R (List (Key × D)) := fun _ => .ok []
theorem deChain {e3 : Expr} {fc : En → R D} {op op' : CmpOp} {f g : D → D → R D} (h1 : CmpD X W ξ op f) (h2 : CmpD X W ξ op' g) (ha : DE X W ξ c1 a fa) (hb : DE X W ξ c2 b fb) (hc : DE X W ξ c3 e3 fc)
    (hm : lastMarks [op, op'] [b, e3] = false := by with_unfolding_all rfl) : DE X W ξ true (.Compare a [op, op'] [b, e3] pos) (eChain f g fa fb fc) := by
  obtain ⟨r, ho, hr⟩ := h1
  obtain ⟨r', ho', hr'⟩ := h2
  refine peImp (pe_chain ho ho' ha hb hc hm) fun σ H Q ⟨M, H0, env, E, p⟩ => ⟨M, H0, env, E, bindE wishE p fun d1 x H1 H2 g1 r1 p1 => ⟨M, H1, env, g1.e, bindE wishE p1 fun d2 y H3 H4 g2 r2 p2 => ?_⟩⟩
  refine hr g2.e (r1.mono g2.s0 g2.s) r2 ?_
  have p2 : PostE X.K W ξ M σ env true H3 H4 Q (f d1 d2 >>= fun t => boolR t >>= fun k => if k = true then fc env >>= fun w => g d2 w else .ok (.bl false)) := by
    unfold chainR at p2
    cases h : f d1 d2 with
    | ok d => rw [h] at p2; exact p2
    | exc x => rw [h] at p2; exact p2
    | bad => rw [h] at p2; exact p2
  refine bindE (c1 := true) wishE p2 fun d3 z H5 H6 g3 r3 p3 => ?_
  cases d3 with
  | bl k =>
    refine ⟨k, r3.bl, ?_⟩
    have p3 : PostE X.K W ξ M σ env true H5 H6 Q (if k = true then fc env >>= fun w => g d2 w else .ok (.bl false)) := p3
    cases k with
    | true =>
      rw [if_pos rfl]
      rw [if_pos rfl] at p3
      exact ⟨M, H5, env, g3.e, bindE wishE p3 fun d4 w H7 H8 g4 r4 p4 => hr' g4.e ((r2.mono g3.s0 g3.s).mono g4.s0 g4.s) r4 p4⟩
    | false =>
      rw [if_neg Bool.false_ne_true]
      rw [if_neg Bool.false_ne_true] at p3
      exact post_ok g3.e p3 (.bl _)
  | _ => exact p3.elim

/-! ### tests -/
theorem dt_val (h : DE X W ξ c e fa) (he : ∀ whole, isTrue e X.env whole = (do let v ← whole; standAt e.pos; holding [v] (truthy v)) := by intro _; rfl) : DT X W ξ e (tVal fa) :=
  ptImp (pt_val h he) fun σ H Q ⟨M, H0, env, E, p⟩ => ⟨M, H0, env, E, bindE wishT p fun d1 x H1 H2 g1 r1 p1 => by
    obtain ⟨k, e, q⟩ := bool_end g1.e r1 p1
    exact ⟨k, e, q⟩⟩
theorem dtChain {e3 : Expr} {fc : En → R D} {op op' : CmpOp} {f g : D → D → R D} (h1 : CmpD X W ξ op f) (h2 : CmpD X W ξ op' g) (ha : DE X W ξ c1 a fa) (hb : DE X W ξ c2 b fb) (hc : DE X W ξ c3 e3 fc)
    (hm : lastMarks [op, op'] [b, e3] = false := by with_unfolding_all rfl) : DT X W ξ (.Compare a [op, op'] [b, e3] pos) (tChain f g fa fb fc) := by
  obtain ⟨r, ho, hr⟩ := h1
  obtain ⟨r', ho', hr'⟩ := h2
  refine ptImp (pt_chain ho ho' ha hb hc hm) fun σ H Q ⟨M, H0, env, E, p⟩ => ⟨M, H0, env, E, bindE wishT p fun d1 x H1 H2 g1 r1 p1 => ⟨M, H1, env, g1.e, bindE wishT p1 fun d2 y H3 H4 g2 r2 p2 => ?_⟩⟩
  refine hr g2.e (r1.mono g2.s0 g2.s) r2 ?_
  have p2 : PostT X.K W ξ M σ env H3 H4 Q (f d1 d2 >>= fun t => boolR t >>= fun k => (if k = true then fc env >>= fun w => g d2 w else .ok (.bl false)) >>= boolR) := by
    unfold chainR at p2
    cases h : f d1 d2 with
    | ok d =>
      rw [h] at p2
      cases d with
      | bl k => exact p2
      | _ => exact p2
    | exc x => rw [h] at p2; exact p2
    | bad => rw [h] at p2; exact p2
  refine bindE (c1 := true) wishT p2 fun d3 z H5 H6 g3 r3 p3 => ?_
  cases d3 with
  | bl k =>
    refine ⟨k, r3.bl, ?_⟩
    have p3 : PostT X.K W ξ M σ env H5 H6 Q ((if k = true then fc env >>= fun w => g d2 w else .ok (.bl false)) >>= boolR) := p3
    cases k with
    | true =>
      rw [if_pos rfl]
      rw [if_pos rfl] at p3
      have p3' : PostT X.K W ξ M σ env H5 H6 Q (fc env >>= fun w => g d2 w >>= boolR) := by
        cases h : fc env with
        | ok d => rw [h] at p3; exact p3
        | exc x => rw [h] at p3; exact p3
        | bad => rw [h] at p3; exact p3
      exact ⟨M, H5, env, g3.e, bindE wishT p3' fun d4 w H7 H8 g4 r4 p4 => hr' g4.e ((r2.mono g3.s0 g3.s).mono g4.s0 g4.s) r4 (bindE (c1 := true) wishT p4 fun d5 u H9 H10 g5 r5 p5 => bool_end g5.e r5 p5)⟩
    | false =>
      rw [if_neg Bool.false_ne_true]
      rw [if_neg Bool.false_ne_true] at p3
      exact ⟨false, rfl, p3 H5 H6 (.refl g3.e)⟩
  | _ => exact p3.elim
section
variable {ta tb : En → R Bool} {rest : List Expr}
theorem dt_not (h : DT X W ξ a ta) : DT X W ξ (.UnaryOp .Not a pos) (tNot ta) :=
  ptImp (pt_not h) fun σ H Q ⟨M, H0, env, E, p⟩ => ⟨M, H0, env, E, bindT wishT p fun k H1 H2 g p1 => p1 H1 H2 (.refl g.e)⟩
theorem dw_and1 (h : DT X W ξ a ta) : DW X W ξ (.BoolOp .And [a] pos) ta := pw_and1 h
theorem dw_or1 (h : DT X W ξ a ta) : DW X W ξ (.BoolOp .Or [a] pos) ta := pw_or1 h
theorem dw_and (h : DT X W ξ a ta) (h2 : DW X W ξ (.BoolOp .And (b :: rest) pos) tb) : DW X W ξ (.BoolOp .And (a :: b :: rest) pos) (tAnd ta tb) :=
  pwImp (pw_and h h2) fun σ H Q ⟨M, H0, env, E, p⟩ => ⟨M, H0, env, E, bindT wishT p fun k H1 H2 g p1 => by
    cases k with
    | true => rw [if_pos rfl] at p1 ⊢; exact ⟨M, H1, env, g.e, p1⟩
    | false => rw [if_neg Bool.false_ne_true] at p1 ⊢; exact p1 H1 H2 (.refl g.e)⟩
theorem dw_or (h : DT X W ξ a ta) (h2 : DW X W ξ (.BoolOp .Or (b :: rest) pos) tb) : DW X W ξ (.BoolOp .Or (a :: b :: rest) pos) (tOr ta tb) :=
  pwImp (pw_or h h2) fun σ H Q ⟨M, H0, env, E, p⟩ => ⟨M, H0, env, E, bindT wishT p fun k H1 H2 g p1 => by
    cases k with
    | true => rw [if_pos rfl] at p1 ⊢; exact p1 H1 H2 (.refl g.e)
    | false => rw [if_neg Bool.false_ne_true] at p1 ⊢; exact ⟨M, H1, env, g.e, p1⟩⟩
theorem dt_w (h : DW X W ξ e ta) : DT X W ξ e ta := PW.pt h
/-- as values -/
theorem de_one {op : BoolOp} (h : DE X W ξ c a fa) : DE X W ξ c (.BoolOp op [a] pos) fa := pe_one h
theorem de_and (h : DE X W ξ c1 a fa) (h2 : DE X W ξ c (.BoolOp .And (b :: rest) pos) fb) : DE X W ξ c (.BoolOp .And (a :: b :: rest) pos) (eAnd fa fb) :=
  peImp (pe_and h h2) fun σ H Q ⟨M, H0, env, E, p⟩ => ⟨M, H0, env, E, bindE wishE p fun d x H1 H2 g r p1 => by
    cases d with
    | bl k =>
      refine ⟨k, r.bl, ?_⟩
      have p1 : PostE X.K W ξ M σ env c H1 H2 Q (if k = true then fb env else .ok (.bl false)) := p1
      cases k with
      | true => rw [if_pos rfl] at p1 ⊢; exact ⟨M, H1, env, g.e, p1⟩
      | false => rw [if_neg Bool.false_ne_true] at p1 ⊢; exact post_ok g.e p1 (.bl _)
    | _ => exact p1.elim⟩
theorem de_or (h : DE X W ξ c1 a fa) (h2 : DE X W ξ c (.BoolOp .Or (b :: rest) pos) fb) : DE X W ξ c (.BoolOp .Or (a :: b :: rest) pos) (eOr fa fb) :=
  peImp (pe_or h h2) fun σ H Q ⟨M, H0, env, E, p⟩ => ⟨M, H0, env, E, bindE wishE p fun d x H1 H2 g r p1 => by
    cases d with
    | bl k =>
      refine ⟨k, r.bl, ?_⟩
      have p1 : PostE X.K W ξ M σ env c H1 H2 Q (if k = true then .ok (.bl true) else fb env) := p1
      cases k with
      | true => rw [if_pos rfl] at p1 ⊢; exact post_ok g.e p1 (.bl _)
      | false => rw [if_neg Bool.false_ne_true] at p1 ⊢; exact ⟨M, H1, env, g.e, p1⟩
    | _ => exact p1.elim⟩
def notR (d : D) : R D := boolR d >>= fun k => .ok (.bl (!k))
theorem de_not (h : DE X W ξ c a fa) : DE X W ξ true (.UnaryOp .Not a pos) (eUn notR fa) :=
  peImp (pe_not h) fun σ H Q ⟨M, H0, env, E, p⟩ => ⟨M, H0, env, E, bindE wishE p fun d x H1 H2 g r p1 => by
    cases d with
    | bl k => exact ⟨k, r.bl, post_ok g.e p1 (.bl _)⟩
    | _ => exact p1.elim⟩
theorem de_if (ht : DT X W ξ e ta) (ha : DE X W ξ c a fa) (hb : DE X W ξ c b fb) : DE X W ξ c (.IfExp e a b pos) (eIf ta fa fb) :=
  peImp (pe_ifExp ht ha hb) fun σ H Q ⟨M, H0, env, E, p⟩ => ⟨M, H0, env, E, bindT wishE p fun k H1 H2 g p1 => by
    cases k with
    | true => rw [if_pos rfl] at p1 ⊢; exact ⟨M, H1, env, g.e, p1⟩
    | false => rw [if_neg Bool.false_ne_true] at p1 ⊢; exact ⟨M, H1, env, g.e, p1⟩⟩
end

/-! ### arguments, displays -/
section
variable {Fs : En → R (List D)}
theorem RepXs.all {vs : List V} {ds : List D} (r : RepXs K true H0 H vs ds) : RepAll K H0 vs ds := by
  induction r with
  | nil => exact .nil
  | cons a _ ih => exact .cons a ih
theorem RepXs.mono {H0' H' : Hp} {vs : List V} {ds : List D} (r : RepXs K c H0 H vs ds) (s0 : Same H0 H0') (s : Same H H') : RepXs K c H0' H' vs ds := by
  induction r with
  | nil => exact .nil
  | cons a _ ih => exact .cons (RepX.mono a s0 s) ih
theorem RepXs.full {vs : List V} {ds : List D} (r : RepXs K c H0 H vs ds) (s : Same H0 H) : RepAll K H vs ds := by
  induction r with
  | nil => exact .nil
  | cons a _ ih => exact .cons (RepX.rep a s) ih
theorem da_nil : DA X W ξ c [] aNil := paImp pa_nil fun σ H Q ⟨M, H0, env, E, p⟩ => p [] H0 H (.refl E) .nil
theorem da_cons (ha : DE X W ξ c e fa) (hr : DA X W ξ c es Fs) (hs : starEach (e :: es) X.env = (false, eval e X.env) :: starEach es X.env := by rfl) : DA X W ξ c (e :: es) (aCons fa Fs) :=
  paImp (pa_cons ha hr hs) fun σ H Q ⟨M, H0, env, E, p⟩ => ⟨M, H0, env, E, bindE wishA p fun d x H1 H2 g r p1 => ⟨M, H1, env, g.e, bindA wishA p1 fun ds vs H3 H4 g2 r2 p2 => p2 _ H3 H4 (.refl g2.e) (.cons (r.mono g2.s0 g2.s) r2)⟩⟩
def tupR (xs : List D) : R D := if xs.length ≤ sizeLine then .ok (.tup xs) else .bad
def lstR (xs : List D) : R (List D) := if xs.length ≤ sizeLine then .ok xs else .bad
theorem de_tup {x1 : _} (h : DA X W ξ true es Fs) : DE X W ξ true (.Tuple es x1 pos) (eUn tupR Fs) :=
  peImp (pe_tup h) fun σ H Q ⟨M, H0, env, E, p⟩ => ⟨M, H0, env, E, bindA wishE p fun ds vs H1 H2 g r p1 => by
    unfold tupR at p1
    have r := RepXs.all r
    split at p1
    · rename_i hz
      exact ⟨by rw [r.length]; exact hz, new_tup g.e p1 hz r⟩
    · exact p1.elim⟩
theorem df_lst (h : DA X W ξ true es Fs) : DF X W ξ (.List es pos) (eUn lstR Fs) :=
  peImp (pe_lst h) fun σ H Q ⟨M, H0, env, E, p⟩ => ⟨M, H0, env, E, bindA wishF p fun ds vs H1 H2 g r p1 => by
    unfold lstR at p1
    have r := RepXs.all r
    split at p1
    · rename_i hz
      refine ⟨by rw [r.length]; exact hz, fun q hq => ?_⟩
      obtain ⟨g2, n⟩ := g.e.newAt (o := .lst vs) hq
      exact p1 q vs _ _ g2 hq n ⟨hz, r⟩
    · exact p1.elim⟩
theorem dk_new : DK X W ξ (.Dict [] [] pos) kNil := peImp pe_dnewK fun σ H Q ⟨M, H0, env, E, p⟩ q hq => by
  obtain ⟨g2, n⟩ := E.newAt (o := .dK []) hq
  exact p q [] _ _ g2 hq n .nil
end

/-! ### calls -/
/-- what a def of data promises: called with data, it tells F of it -/
def PostC (K : PySem.W.Frag) (ξ : Str → Value) (H0 H : Hp) (Q : VK) (E : XK) : R D → Prop
  | .ok d => ∀ v H0' H', Same H0 H0' → Same H H' → Same H0' H' → (∀ a, H a ≠ none → H0 a = none → H0' a = none) → Rep K H0' v d → Q v H'
  | .exc x => ∀ H0' H', Same H0 H0' → Same H H' → Same H0' H' → (∀ a, H a ≠ none → H0 a = none → H0' a = none) → E (ξ x) none H'
  | .bad => False
def spD (K : PySem.W.Frag) (ξ : Str → Value) (F : List D → R D) : Sp := fun vs H Q E => ∃ ds H0, Same H0 H ∧ RepAll K H0 vs ds ∧ PostC K ξ H0 H Q E (F ds)
theorem callPost {H0' H' : Hp} (E : EnvAt K M H0 H σ env) {x : R D} (p : PostE K W ξ M σ env true H0 H Q x) : PostC K ξ H0 H Q (WE W σ) x := by
  cases x with
  | ok d => exact fun v H0' H' s0 s s1 n r => p v H0' H' ⟨s0, s, E.grow s0 s s1 n, n⟩ r
  | exc x => exact fun H0' H' s0 s s1 n => p H0' H' ⟨s0, s, E.grow s0 s s1 n, n⟩
  | bad => exact p
/-- called with what is owned: what is told is no list, no dict -/
def scR : D → R D
  | .non => .ok .non
  | .bl b => .ok (.bl b)
  | .int i => .ok (.int i)
  | .str s => .ok (.str s)
  | _ => .bad
theorem scal_rep {d : D} {v : V} {H' : Hp} (h : scal0 d = true) (r : Rep K H v d) : Rep K H' v d := by
  cases r with
  | non => exact .non
  | bl b => exact .bl b
  | int i => exact .int i
  | str s q => exact .str s q
  | _ => cases h
def eCallS (As : En → R (List D)) (F : List D → R D) : En → R D := fun env => As env >>= fun ds => F ds >>= scR
theorem callPostS (E : EnvAt K M H0 H σ env) {x : R D} (p : PostE K W ξ M σ env true H0 H Q (x >>= scR)) : PostC K ξ H H Q (WE W σ) x := by
  have gr : ∀ {H0' H' : Hp}, Same H H' → Gr K M σ env H0 H H0 H' := fun s => ⟨Same.refl _, s, E.grow (Same.refl _) s (E.same.trans s) fun _ _ z => z, fun _ _ z => z⟩
  cases x with
  | ok d =>
    intro v H0' H' s0 s s1 n r
    cases d with
    | non => exact p v H0 H' (gr (H0' := H0) s) (scal_rep rfl r)
    | bl b => exact p v H0 H' (gr (H0' := H0) s) (scal_rep rfl r)
    | int b => exact p v H0 H' (gr (H0' := H0) s) (scal_rep rfl r)
    | str b => exact p v H0 H' (gr (H0' := H0) s) (scal_rep rfl r)
    | _ => exact p.elim
  | exc x => exact fun H0' H' s0 s s1 n => p H0 H' (gr (H0' := H0) s)
  | bad => exact p
section
variable {k : Nat} {f : Addr} {fd : FuncData} {ps : List Str} {F : List D → R D} {x : Str} {p : Pos} {Fs : En → R (List D)}
theorem de_call (G : FnOk X.prog X.w X.K X.mg X.base (L2.CX X.prog X.w) k f fd ps (spD X.K ξ F)) (tk : Takes X W) (hr : Room k X.A) (hm : X.mg x = some (.ref f)) (hk : PySem.W.keepIn X.K (.ref f) = true) (hb : Binds X.K fd ps [])
    (ha : DA X W ξ true (e :: es) Fs) (hg : Gl X x := by rfl) (hdb : (x == ("__debug__" : Str)) = false := by decide) (he : starEach (e :: es) X.env = (false, eval e X.env) :: starEach es X.env := by rfl) (hpl : (backTo pos (starEach es X.env)).any (·.1) = false := by rfl) :
    DE X W ξ true (.Call (.Name x p) (e :: es) [] pos) (eUn F Fs) :=
  peImp (pe_callS G hr hg hm hk hb (fun σ => passAt tk σ) ha hdb he hpl) fun σ H Q ⟨M, H0, env, E, p⟩ => ⟨M, H0, env, E, bindA wishE p fun ds vs H1 H2 g r p1 => ⟨ds, H1, g.e.same, RepXs.all r, callPost (H0' := H0) (H' := H) g.e p1⟩⟩
theorem de_callS (G : FnOk X.prog X.w X.K X.mg X.base (L2.CX X.prog X.w) k f fd ps (spD X.K ξ F)) (tk : Takes X W) (hr : Room k X.A) (hm : X.mg x = some (.ref f)) (hk : PySem.W.keepIn X.K (.ref f) = true) (hb : Binds X.K fd ps [])
    (ha : DA X W ξ false (e :: es) Fs) (hg : Gl X x := by rfl) (hdb : (x == ("__debug__" : Str)) = false := by decide) (he : starEach (e :: es) X.env = (false, eval e X.env) :: starEach es X.env := by rfl) (hpl : (backTo pos (starEach es X.env)).any (·.1) = false := by rfl) :
    DE X W ξ true (.Call (.Name x p) (e :: es) [] pos) (eCallS Fs F) :=
  peImp (pe_callS G hr hg hm hk hb (fun σ => passAt tk σ) ha hdb he hpl) fun σ H Q ⟨M, H0, env, E, p⟩ => ⟨M, H0, env, E, bindA wishE p fun ds vs H1 H2 g r p1 => ⟨ds, H2, Same.refl _, RepXs.full r g.e.same, callPostS g.e p1⟩⟩
end
end
end Dx

/-! The data layer, part H: statements, loops, defs. -/
namespace Dx
open PySem PySem.Spec PyProof.Rows L2

inductive Out where
  | nx (e : En)
  | rt (d : D) (e : En)
  | bk (e : En)
  | ct (e : En)
  | exc (c : Str) (e : En)
  | bad
structure Ret (K : PySem.W.Frag) {ξ : Str → Value} (M : Fm ξ) (H0' H' : Hp) (v : V) (d : D) : Prop where
  same : Same H0' H'
  fr : Same M.G H'
  nogo : ∀ a, M.N a → H0' a = none
  rep : Rep K H0' v d
def PostS (K : PySem.W.Frag) (W : WX) (ξ : Str → Value) (M : Fm ξ) (H0 : Hp) (Dn : Ends) : Out → Prop
  | .nx e => ∀ σ' H0' H', Same H0 H0' → EnvAt K M H0' H' σ' e → Dn.nx σ' H'
  | .rt d e => ∀ v H0' H', Same H0 H0' → Ret K M H0' H' v d → Dn.rt v H'
  | .bk e => ∀ σ' H0' H', Same H0 H0' → EnvAt K M H0' H' σ' e → Dn.bk σ' H'
  | .ct e => ∀ σ' H0' H', Same H0 H0' → EnvAt K M H0' H' σ' e → Dn.ct σ' H'
  | .exc x e => ∀ σ' H0' H', Same H0 H0' → EnvAt K M H0' H' σ' e → W (ξ x) none σ' H'
  | .bad => False
def tS (K : PySem.W.Frag) (W : WX) (ξ : Str → Value) (G : En → Out) : TS := fun Dn σ H => ∃ M H0 env, EnvAt K M H0 H σ env ∧ PostS K W ξ M H0 Dn (G env)
abbrev DS (X : Cx) (W : WX) (ξ : Str → Value) (st : Stmt) (G : En → Out) : Prop := PS X st (tS X.K W ξ G)
abbrev DSs (X : Cx) (W : WX) (ξ : Str → Value) (st : List Stmt) (G : En → Out) : Prop := PSs X st (tS X.K W ξ G)
section
variable {X : Cx} {W : WX} {ξ : Str → Value} {e a b : Expr} {es : List Expr} {c c1 c2 c3 : Bool} {pos : Pos} {fa fb : En → R D} {st : Stmt} {body rest sa sb : List Stmt} {G G1 G2 B : En → Out}
variable {K : PySem.W.Frag} {M : Fm ξ} {σ : L2.St} {env : En} {H0 H H0' H' : Hp} {Q : VK} {Dn : Ends}
theorem PostS.weak {o : Out} (s : Same H0 H0') (p : PostS K W ξ M H0 Dn o) : PostS K W ξ M H0' Dn o := by
  cases o with
  | nx e => exact fun σ' H0'' H'' s' E => p σ' H0'' H'' (s.trans s') E
  | rt d e => exact fun v H0'' H'' s' E => p v H0'' H'' (s.trans s') E
  | bk e => exact fun σ' H0'' H'' s' E => p σ' H0'' H'' (s.trans s') E
  | ct e => exact fun σ' H0'' H'' s' E => p σ' H0'' H'' (s.trans s') E
  | exc x e => exact fun σ' H0'' H'' s' E => p σ' H0'' H'' (s.trans s') E
  | bad => exact p
/-- what comes of a statement by what comes of an expression -/
def liftO {α : Type} (r : R α) (env : En) (k : α → Out) : Out := match r with
  | .ok a => k a
  | .exc x => .exc x env
  | .bad => .bad
@[simp] theorem liftO_ok {α : Type} (a : α) (env : En) (k : α → Out) : liftO (.ok a) env k = k a := (rfl)
@[simp] theorem liftO_exc {α : Type} (x : Str) (env : En) (k : α → Out) : liftO (.exc x : R α) env k = .exc x env := (rfl)
@[simp] theorem liftO_bad {α : Type} (env : En) (k : α → Out) : liftO (.bad : R α) env k = .bad := (rfl)
theorem liftE {x : R D} {k : D → Out} {Q : VK} (p : PostS K W ξ M H0 Dn (liftO x env k)) (h : ∀ d v H0' H', Gr K M σ env H0 H H0' H' → RepX c K H0' H' v d → PostS K W ξ M H0' Dn (k d) → Q v H') : PostE K W ξ M σ env c H0 H Q x := by
  cases x with
  | ok d => exact fun v H0' H' g r => h d v H0' H' g r (p.weak g.s0)
  | exc x => exact fun H0' H' g => p σ H0' H' g.s0 g.e
  | bad => exact p
theorem liftF {x : R (List D)} {k : List D → Out} {Q : VK} (p : PostS K W ξ M H0 Dn (liftO x env k)) (h : ∀ d q vs H0' H', Gr K M σ env H0 H H0' H' → H q = none → NewAt M σ env H0' H' q (.lst vs) → d.length ≤ sizeLine ∧ RepAll K H0' vs d → PostS K W ξ M H0' Dn (k d) → Q (.ref q) H') : PostF K W ξ M σ env H0 H Q x := by
  cases x with
  | ok d => exact fun v vs H0' H' g hq n r => h d v vs H0' H' g hq n r (p.weak g.s0)
  | exc x => exact fun H0' H' g => p σ H0' H' g.s0 g.e
  | bad => exact p
theorem liftK {x : R (List (Key × D))} {k : List (Key × D) → Out} {Q : VK} (p : PostS K W ξ M H0 Dn (liftO x env k)) (h : ∀ d q vs H0' H', Gr K M σ env H0 H H0' H' → H q = none → NewAt M σ env H0' H' q (.dK vs) → RepKv K H0' vs d → PostS K W ξ M H0' Dn (k d) → Q (.ref q) H') : PostK K W ξ M σ env H0 H Q x := by
  cases x with
  | ok d => exact fun v vs H0' H' g hq n r => h d v vs H0' H' g hq n r (p.weak g.s0)
  | exc x => exact fun H0' H' g => p σ H0' H' g.s0 g.e
  | bad => exact p
theorem liftT {x : R Bool} {k : Bool → Out} {Q : Bool → Hp → Prop} (p : PostS K W ξ M H0 Dn (liftO x env k)) (h : ∀ d H0' H', Gr K M σ env H0 H H0' H' → PostS K W ξ M H0' Dn (k d) → Q d H') : PostT K W ξ M σ env H0 H Q x := by
  cases x with
  | ok d => exact fun H0' H' g => h d H0' H' g (p.weak g.s0)
  | exc x => exact fun H0' H' g => p σ H0' H' g.s0 g.e
  | bad => exact p

/-! ### blocks -/
def seqO (o : Out) (k : En → Out) : Out := match o with
  | .nx e => k e
  | o => o
@[simp] theorem seqO_nx (e : En) (k : En → Out) : seqO (.nx e) k = k e := (rfl)
@[simp] theorem seqO_rt (d : D) (e : En) (k : En → Out) : seqO (.rt d e) k = .rt d e := (rfl)
@[simp] theorem seqO_bk (e : En) (k : En → Out) : seqO (.bk e) k = .bk e := (rfl)
@[simp] theorem seqO_ct (e : En) (k : En → Out) : seqO (.ct e) k = .ct e := (rfl)
@[simp] theorem seqO_exc (x : Str) (e : En) (k : En → Out) : seqO (.exc x e) k = .exc x e := (rfl)
@[simp] theorem seqO_bad (k : En → Out) : seqO .bad k = .bad := (rfl)

/-! ### words of what a statement does -/
def sNil : En → Out := fun env => .nx env
def sSeq (G1 G2 : En → Out) : En → Out := fun env => seqO (G1 env) G2
def sSet (i : Nat) (A : En → R D) : En → Out := fun env => liftO (A env) env fun d => .nx (env.set i (.d d))
def sSetF (i : Nat) (A : En → R (List D)) : En → Out := fun env => liftO (A env) env fun d => .nx (env.set i (.ol d))
def sSetFD (i : Nat) (A : En → R (List D)) : En → Out := fun env => liftO (A env) env fun d => .nx (env.set i (.d (.lst d)))
def sSetK (i : Nat) (A : En → R (List (Key × D))) : En → Out := fun env => liftO (A env) env fun d => .nx (env.set i (.od d))
def sRet (A : En → R D) : En → Out := fun env => liftO (A env) env fun d => .rt d env
def sRetN : En → Out := fun env => .rt .non env
def sBrk : En → Out := fun env => .bk env
def sCnt : En → Out := fun env => .ct env
def sIf (t : En → R Bool) (G1 G2 : En → Out) : En → Out := fun env => liftO (t env) env fun k => if k = true then G1 env else G2 env
def sRaise (x : Str) : En → Out := fun env => .exc x env
def sExpr (A : En → R D) : En → Out := fun env => liftO (A env) env fun _ => .nx env
def sAsg (T : D → En → R En) (A : En → R D) : En → Out := fun env => liftO (A env) env fun d => match T d env with | .ok env' => .nx env' | _ => .bad
def sFrz (i : Nat) (G : En → Out) : En → Out := fun env => G (frz i env)
theorem dss_nil : DSs X W ξ [] sNil := pssImp pss_nil fun Dn σ H ⟨M, H0, env, E, p⟩ => p σ H0 H (Same.refl _) E
theorem seqPost {o : Out} {k : En → Out} (p : PostS K W ξ M H0 Dn (seqO o k)) : PostS K W ξ M H0 { Dn with nx := tS K W ξ k Dn } o := by
  cases o with
  | nx e => exact fun σ' H0' H' s E => ⟨M, H0', e, E, p.weak s⟩
  | _ => exact p
theorem dss_cons (h1 : DS X W ξ st G1) (h2 : DSs X W ξ rest G2) : DSs X W ξ (st :: rest) (sSeq G1 G2) :=
  pssImp (pss_cons h1 h2) fun Dn σ H ⟨M, H0, env, E, p⟩ => ⟨M, H0, env, E, seqPost p⟩
theorem dss_one (h1 : DS X W ξ st G1) : DSs X W ξ [st] G1 := pss_one h1
/-- names that are forgotten -/
def killS (is : List Nat) (env : En) : En := is.foldl (fun e i => e.set i .u) env
theorem EnvAt.kills (E : EnvAt K M H0 H σ env) (is : List Nat) : EnvAt K M H0 H σ (killS is env) := by
  induction is generalizing env with
  | nil => exact E
  | cons i is ih => exact ih (E.kill i)
theorem dss_kill (is : List Nat) (h : DSs X W ξ body G) : DSs X W ξ body (fun env => G (killS is env)) :=
  pssImp h fun Dn σ H ⟨M, H0, env, E, p⟩ => ⟨M, H0, _, E.kills is, p⟩
/-- a block, behind which names are forgotten -/
def endK (is : List Nat) (o : Out) : Out := match o with
  | .nx e => .nx (killS is e)
  | .ct e => .ct (killS is e)
  | .bk e => .bk (killS is e)
  | o => o
def sEnd (is : List Nat) (G : En → Out) : En → Out := fun env => endK is (G env)
theorem dss_end (is : List Nat) (h : DSs X W ξ body G) : DSs X W ξ body (sEnd is G) :=
  pssImp h fun Dn σ H ⟨M, H0, env, E, p⟩ => ⟨M, H0, env, E, by
    have p : PostS X.K W ξ M H0 Dn (endK is (G env)) := p
    revert p
    cases G env with
    | nx e => exact fun p σ' H0' H' s E' => p σ' H0' H' s (E'.kills is)
    | bk e => exact fun p σ' H0' H' s E' => p σ' H0' H' s (E'.kills is)
    | ct e => exact fun p σ' H0' H' s E' => p σ' H0' H' s (E'.kills is)
    | rt d e => exact fun p => p
    | exc x e => exact fun p => p
    | bad => exact fun p => p⟩
theorem ds_end (is : List Nat) (h : DS X W ξ st G) : DS X W ξ st (sEnd is G) :=
  psImp h fun Dn σ H ⟨M, H0, env, E, p⟩ => ⟨M, H0, env, E, by
    have p : PostS X.K W ξ M H0 Dn (endK is (G env)) := p
    revert p
    cases G env with
    | nx e => exact fun p σ' H0' H' s E' => p σ' H0' H' s (E'.kills is)
    | bk e => exact fun p σ' H0' H' s E' => p σ' H0' H' s (E'.kills is)
    | ct e => exact fun p σ' H0' H' s E' => p σ' H0' H' s (E'.kills is)
    | rt d e => exact fun p => p
    | exc x e => exact fun p => p
    | bad => exact fun p => p⟩
theorem dss_frz (i : Nat) (h : DSs X W ξ body G) : DSs X W ξ body (sFrz i G) :=
  pssImp h fun Dn σ H ⟨M, H0, env, E, p⟩ => by
    obtain ⟨H0', s, E'⟩ := E.freeze i
    exact ⟨M, H0', _, E', p.weak s⟩
theorem ds_frz (i : Nat) (h : DS X W ξ st G) : DS X W ξ st (sFrz i G) :=
  psImp h fun Dn σ H ⟨M, H0, env, E, p⟩ => by
    obtain ⟨H0', s, E'⟩ := E.freeze i
    exact ⟨M, H0', _, E', p.weak s⟩

/-! ### small statements -/
theorem ds_pass : DS X W ξ (.Pass pos) sNil := psImp ps_pass fun Dn σ H ⟨M, H0, env, E, p⟩ => p σ H0 H (Same.refl _) E
theorem ds_break : DS X W ξ (.Break pos) sBrk := psImp ps_break fun Dn σ H ⟨M, H0, env, E, p⟩ => p σ H0 H (Same.refl _) E
theorem ds_continue : DS X W ξ (.Continue pos) sCnt := psImp ps_continue fun Dn σ H ⟨M, H0, env, E, p⟩ => p σ H0 H (Same.refl _) E
theorem ds_expr (h : DE X W ξ c e fa) (hs : swapsWith e none pos.line X.env = pure false := by rfl) : DS X W ξ (.Expr e pos) (sExpr fa) :=
  psImp (ps_expr h hs) fun Dn σ H ⟨M, H0, env, E, p⟩ => ⟨M, H0, env, E, liftE p fun d v H0' H' g r p => p σ H0' H' (Same.refl _) g.e⟩
theorem ds_ret (h : DE X W ξ true e fa) : DS X W ξ (.Return (some e) pos) (sRet fa) :=
  psImp (ps_ret h) fun Dn σ H ⟨M, H0, env, E, p⟩ => ⟨M, H0, env, E, liftE p fun d v H0' H' g r p => p v H0' H' (Same.refl _) ⟨g.e.same, g.e.fr, fun a h => (g.e.nogo a h).1, r⟩⟩
theorem ds_retN : DS X W ξ (.Return none pos) sRetN :=
  psImp ps_retN fun Dn σ H ⟨M, H0, env, E, p⟩ => p .non H0 H (Same.refl _) ⟨E.same, E.fr, fun a h => (E.nogo a h).1, .non⟩
theorem ds_if {tc : En → R Bool} (hc : DT X W ξ e tc) (ha : DSs X W ξ sa G1) (hb : DSs X W ξ sb G2) : DS X W ξ (.If e sa sb pos) (sIf tc G1 G2) :=
  psImp (ps_if hc ha hb) fun Dn σ H ⟨M, H0, env, E, p⟩ => ⟨M, H0, env, E, liftT p fun k H0' H' g p => by
    cases k with
    | true => rw [if_pos rfl] at p ⊢; exact ⟨M, H0', env, g.e, p⟩
    | false => rw [if_neg Bool.false_ne_true] at p ⊢; exact ⟨M, H0', env, g.e, p⟩⟩
theorem ds_setG {i : Nat} (h : PS X st (tAsg (tD X.K W ξ true fa) (gName i))) : DS X W ξ st (sSet i fa) :=
  psImp h fun Dn σ H ⟨M, H0, env, E, p⟩ => ⟨M, H0, env, E, liftE p fun d v H0' H' g r p => p _ H0' H' (Same.refl _) (g.e.set i r)⟩
theorem ds_setFG {i : Nat} {fs : En → R (List D)} (h : PS X st (tAsg (tDF X.K W ξ fs) (gName i))) : DS X W ξ st (sSetF i fs) :=
  psImp h fun Dn σ H ⟨M, H0, env, E, p⟩ => ⟨M, H0, env, E, liftF p fun d q vs H0' H' g hq n r p => p _ H0' H' (Same.refl _) (g.e.setOwn i rfl n.w n.n ⟨q, vs, rfl, n.h0, n.g, n.at_, r.1, r.2⟩)⟩
theorem ds_setKG {i : Nat} {fs : En → R (List (Key × D))} (h : PS X st (tAsg (tDK X.K W ξ fs) (gName i))) : DS X W ξ st (sSetK i fs) :=
  psImp h fun Dn σ H ⟨M, H0, env, E, p⟩ => ⟨M, H0, env, E, liftK p fun d q vs H0' H' g hq n r p => p _ H0' H' (Same.refl _) (g.e.setOwn i rfl n.w n.n ⟨q, vs, rfl, n.h0, n.g, n.at_, r⟩)⟩
theorem ds_set {i : Nat} {x : Str} {pos' : Pos} (hN : X.N.Nodup) (he : DE X W ξ true e fa) (hi : X.N[i]? = some x := by rfl) (hx : Loc X.env.scope x := by first | exact Or.inl rfl | exact Or.inr rfl) (hs : swapsWith e (some (.Name x pos')) pos.line X.env = pure false := by rfl)
    (hf : X.fn x = true ∨ X.env.scope.names.lookup x = some .local := by first | exact .inl rfl | exact .inr rfl) : DS X W ξ (.Assign [.Name x pos'] e pos) (sSet i fa) :=
  ds_setG (ps_set hN hi hx he hs hf)
theorem ds_setF {i : Nat} {x : Str} {pos' : Pos} {fs : En → R (List D)} (hN : X.N.Nodup) (he : DF X W ξ e fs) (hi : X.N[i]? = some x := by rfl) (hx : Loc X.env.scope x := by first | exact Or.inl rfl | exact Or.inr rfl) (hs : swapsWith e (some (.Name x pos')) pos.line X.env = pure false := by rfl)
    (hf : X.fn x = true ∨ X.env.scope.names.lookup x = some .local := by first | exact .inl rfl | exact .inr rfl) : DS X W ξ (.Assign [.Name x pos'] e pos) (sSetF i fs) :=
  ds_setFG (ps_set hN hi hx he hs hf)
theorem ds_setK {i : Nat} {x : Str} {pos' : Pos} {fs : En → R (List (Key × D))} (hN : X.N.Nodup) (he : DK X W ξ e fs) (hi : X.N[i]? = some x := by rfl) (hx : Loc X.env.scope x := by first | exact Or.inl rfl | exact Or.inr rfl) (hs : swapsWith e (some (.Name x pos')) pos.line X.env = pure false := by rfl)
    (hf : X.fn x = true ∨ X.env.scope.names.lookup x = some .local := by first | exact .inl rfl | exact .inr rfl) : DS X W ξ (.Assign [.Name x pos'] e pos) (sSetK i fs) :=
  ds_setKG (ps_set hN hi hx he hs hf)

/-! ### targets -/
def tDG (K : PySem.W.Frag) (ξ : Str → Value) (ts : List Nat) (T : D → En → R En) : TG := fun v σ H Q => ∃ (M : Fm ξ), ∃ H0 env d env', EnvAt K M H0 H σ env ∧ Rep K H0 v d ∧ T d env = .ok env' ∧ ∀ σ', wipe σ' ts = wipe σ ts → EnvAt K M H0 H σ' env' → Q σ' H
abbrev DGt (X : Cx) (ξ : Str → Value) (tg : Expr) (ts : List Nat) (T : D → En → R En) : Prop := PG X tg (tDG X.K ξ ts T)
theorem pgImp {tg : Expr} {t t' : TG} (h : PG X tg t) (hi : ∀ v σ H Q, t' v σ H Q → t v σ H Q) : PG X tg t' := ⟨fun pins s σ H v u Q I r w => h.run pins s σ H v u Q I r (hi _ _ _ _ w)⟩
def nameT (i : Nat) (d : D) (env : En) : R En := .ok (env.set i (.d d))
theorem wipe_set1 (σ : L2.St) (i : Nat) (x : Option V) : ∀ ts : List Nat, (wipe (σ.set i x) ts).set i none = (wipe σ ts).set i none
  | [] => by show (σ.set i x).set i none = σ.set i none; rw [List.set_set]
  | t :: ts => by
    show ((wipe (σ.set i x) ts).set t none).set i none = ((wipe σ ts).set t none).set i none
    by_cases h : t = i
    · subst h; rw [List.set_set, List.set_set]; exact wipe_set1 σ t x ts
    · rw [List.set_comm _ _ h, List.set_comm _ _ h, wipe_set1 σ i x ts]
theorem dg_name {i : Nat} {x : Str} (hN : X.N.Nodup) (hi : X.N[i]? = some x := by rfl) (hx : Loc X.env.scope x := by first | exact Or.inl rfl | exact Or.inr rfl) (hf : X.fn x = true ∨ X.env.scope.names.lookup x = some .local := by first | exact .inl rfl | exact .inr rfl) :
    DGt X ξ (.Name x pos) [i] (nameT i) :=
  pgImp (pg_name hN hi hx hf) fun v σ H Q ⟨M, H0, env, d, env', E, r, ht, q⟩ => by
    unfold nameT at ht
    cases ht
    exact q _ (wipe_set1 σ i (some v) []) (E.set i r)
/-- names in a row -/
def tDGs (K : PySem.W.Frag) (ξ : Str → Value) (ts : List Nat) : TGs := fun vs σ H Q => ∃ (M : Fm ξ), ∃ H0 env ds, EnvAt K M H0 H σ env ∧ RepAll K H0 vs ds ∧ ds.length = ts.length ∧ ∀ σ', wipe σ' ts = wipe σ ts → EnvAt K M H0 H σ' ((ts.zip ds).foldl (fun e p => e.set p.1 (.d p.2)) env) → Q σ' H
theorem dgs_nil : PGs X [] (tDGs X.K ξ []) := ⟨fun pins s σ H vs us Q I r h => pgs_nil.run pins s σ H vs us Q I r (by
  obtain ⟨M, H0, env, ds, E, rr, hl, q⟩ := h
  cases ds with
  | nil => cases rr; exact ⟨rfl, q σ rfl E⟩
  | cons d ds => simp at hl)⟩
theorem dgs_cons {i : Nat} {x : Str} {ts : List Nat} (hN : X.N.Nodup) (h2 : PGs X es (tDGs X.K ξ ts)) (hi : X.N[i]? = some x := by rfl) (hx : Loc X.env.scope x := by first | exact Or.inl rfl | exact Or.inr rfl) (hf : X.fn x = true ∨ X.env.scope.names.lookup x = some .local := by first | exact .inl rfl | exact .inr rfl)
    (hs : (assignEach (.Name x pos :: es) X.env).map (·.2) = assign (.Name x pos) X.env :: (assignEach es X.env).map (·.2) := by rfl) : PGs X (.Name x pos :: es) (tDGs X.K ξ (i :: ts)) := ⟨fun pins s σ H vs us Q I r h =>
  (pgs_cons (pg_name hN hi hx hf) h2 hs).run pins s σ H vs us Q I r (by
    obtain ⟨M, H0, env, ds, E, rr, hl, q⟩ := h
    cases ds with
    | nil => simp at hl
    | cons d ds =>
      cases rr with
      | @cons v vs' _ _ rv rvs =>
        refine ⟨v, vs', rfl, M, H0, _, ds, E.set i rv, rvs, by simpa using hl, fun σ' hw E' => q σ' ?_ E'⟩
        show (wipe σ' ts).set i none = (wipe σ ts).set i none
        rw [hw, wipe_set1])⟩
def tupT (ts : List Nat) (d : D) (env : En) : R En := match d with
  | .tup ds => if ds.length = ts.length then .ok ((ts.zip ds).foldl (fun e p => e.set p.1 (.d p.2)) env) else .bad
  | _ => .bad
theorem dg_tup {ts : List Nat} {k : Nat} {n : Nat} (hc : X.calm = true) (h : PGs X es (tDGs X.K ξ ts)) (hl : ts.length = n := by rfl) (hn : (assignEach es X.env).length = n := by rfl) (hst : (assignEach es X.env).findIdx? (·.1) = none := by rfl) : DGt X ξ (.Tuple es k pos) ts (tupT ts) :=
  pgImp (pg_tup hc h hn hst) fun v σ H Q ⟨M, H0, env, d, env', E, r, ht, q⟩ => by
    unfold tupT at ht
    split at ht
    · split at ht
      · rename_i hz
        cases ht
        cases r with
        | @tup a vs _ h1 _ h2 => exact ⟨a, vs, rfl, SqT.of (E.same _ _ h1), by rw [h2.length, hz, hl], M, H0, env, _, E, h2, hz, q⟩
      · cases ht
    · cases ht
theorem ds_asg {tg : Expr} {ts : List Nat} {T : D → En → R En} (he : DE X W ξ true e fa) (hg : DGt X ξ tg ts T) (hs : swapsWithSole [tg] e pos.line X.env = pure false := by rfl) (hw : swappedStores [tg] e X.env = pure none := by rfl) (h1 : (assignEach [tg] X.env).map (·.2) = [assign tg X.env] := by rfl) :
    DS X W ξ (.Assign [tg] e pos) (sAsg T fa) :=
  psImp (ps_asg he hg hs hw h1) fun Dn σ H ⟨M, H0, env, E, p⟩ => ⟨M, H0, env, E, liftE p fun d v H0' H' g r p => by
    split at p
    · rename_i env' ht
      exact ⟨M, H0', env, d, env', g.e, r, ht, fun σ' _ E' => p σ' H0' H' (Same.refl _) E'⟩
    · exact p.elim⟩

/-! ### what is walked -/
def Yd (K : PySem.W.Frag) (H0 H1 : Hp) (x : V) (H2 : Hp) (d : D) : Prop :=
  (H2 = H1 ∧ Rep K H0 x d) ∨ ∃ T vs ds, H1 T = none ∧ H2 = upd H1 T (.tup vs) ∧ x = .ref T ∧ d = .tup ds ∧ ds.length ≤ sizeLine ∧ RepAll K H0 vs ds
def Feeds (K : PySem.W.Frag) (H0 Hs : Hp) (J : It) (ds : List D) : Prop :=
  ds.length ≤ sizeLine ∧ ∃ (Gd : Hp → Prop) (Y : Nat → Hp → V → Hp → Prop), Walk J ds.length Gd Y ∧ (∀ H1, Same Hs H1 → Gd H1) ∧ ∀ i H1 x H2 d, Gd H1 → ds[i]? = some d → Y i H1 x H2 → Yd K H0 H1 x H2 d
def PostI (K : PySem.W.Frag) (W : WX) (ξ : Str → Value) (M : Fm ξ) (σ : L2.St) (env : En) (c : Bool) (H0 H : Hp) (R' : It → Hp → Prop) : R (List D) → Prop
  | .ok ds => ∀ J H0' H', Gr K M σ env H0 H H0' H' → Feeds K H0' (if c = true then H0' else H') J ds → R' J H'
  | .exc x => ∀ H0' H', Gr K M σ env H0 H H0' H' → W (ξ x) none σ H'
  | .bad => False
def tDI (K : PySem.W.Frag) (W : WX) (ξ : Str → Value) (c : Bool) (F : En → R (List D)) : TI := fun σ H R' => ∃ M H0 env, EnvAt K M H0 H σ env ∧ PostI K W ξ M σ env c H0 H R' (F env)
abbrev DI (X : Cx) (W : WX) (ξ : Str → Value) (c : Bool) (tg iter : Expr) (F : En → R (List D)) : Prop := PI X tg iter (tDI X.K W ξ c F)
theorem piImp {tg iter : Expr} {t t' : TI} (h : PI X tg iter t) (hi : ∀ σ H R', t' σ H R' → t σ H R') : PI X tg iter t' := ⟨fun pins s σ H R' I w => h.run pins s σ H R' I (hi _ _ _ w)⟩
theorem liftI {x : R (List D)} {k : List D → Out} {R' : It → Hp → Prop} (p : PostS K W ξ M H0 Dn (liftO x env k)) (h : ∀ ds J H0' H', Gr K M σ env H0 H H0' H' → Feeds K H0' (if c = true then H0' else H') J ds → PostS K W ξ M H0' Dn (k ds) → R' J H') : PostI K W ξ M σ env c H0 H R' x := by
  cases x with
  | ok ds => exact fun J H0' H' g f => h ds J H0' H' g f (p.weak g.s0)
  | exc x => exact fun H0' H' g => p σ H0' H' g.s0 g.e
  | bad => exact p

/-! ### for -/
def forO (T : D → En → R En) (B : En → Out) : List D → En → Out
  | [], env => .nx env
  | d :: ds, env => match T d env with
    | .ok e1 => (match B e1 with
      | .nx e => forO T B ds e
      | .ct e => forO T B ds e
      | .bk e => .nx e
      | o => o)
    | _ => .bad
def sFor (I : En → R (List D)) (T : D → En → R En) (B : En → Out) : En → Out := fun env => liftO (I env) env fun ds => forO T B ds env
theorem ds_for {tg iter : Expr} {F : En → R (List D)} {ts : List Nat} {T : D → En → R En} (hp : PassesOwn (model X.prog X.w) X.A X.env X.xe) (hi : DI X W ξ true tg iter F) (hg : DGt X ξ tg ts T) (hb : DSs X W ξ body B) (hc : X.calm = true := by rfl)
    (hs : ∀ x, foldedSetIterable iter X.env x = pure x := by intro _; rfl) : DS X W ξ (.For tg iter body [] pos) (sFor F T B) :=
  psImp (ps_for hp hc hi hg hb hs) fun Dn σ H ⟨M, H0, env, E, p⟩ => ⟨M, H0, env, E, liftI p fun ds J H1 H2 g ⟨_, Gd, Y, wk, hGd, hY⟩ p1 => by
    rw [if_pos rfl] at hGd
    refine for_it wk (fun i σ' H' => ∃ H0' env', Same H1 H0' ∧ EnvAt X.K M H0' H' σ' env' ∧ PostS X.K W ξ M H0' Dn (forO T B (ds.drop i) env')) ⟨H1, env, Same.refl _, g.e, p1⟩
      (fun i σ' H' _ ⟨H0', env', s, E', _⟩ => hGd H' (s.trans E'.same)) (fun i x σ' H' H'' hi ⟨H0', env', s, E', p'⟩ y => ?_) fun σ' H' ⟨H0', env', s, E', p'⟩ => ?_
    · obtain ⟨d, hd⟩ : ∃ d, ds[i]? = some d := ⟨ds[i], by simp [hi]⟩
      have hdrop : ds.drop i = d :: ds.drop (i + 1) := by
        rw [List.drop_eq_getElem_cons hi]
        rw [List.getElem?_eq_getElem hi] at hd
        cases hd; rfl
      rw [hdrop] at p'
      unfold forO at p'
      have fin : ∀ {H02 : Hp}, Same H0' H02 → EnvAt X.K M H02 H'' σ' env' → Rep X.K H02 x d → tDG X.K ξ ts T x σ' H'' fun σ2 H2 => tS X.K W ξ B { Dn with
          nx := fun σ' H' => ∃ H0' env', Same H1 H0' ∧ EnvAt X.K M H0' H' σ' env' ∧ PostS X.K W ξ M H0' Dn (forO T B (ds.drop (i + 1)) env'),
          ct := fun σ' H' => ∃ H0' env', Same H1 H0' ∧ EnvAt X.K M H0' H' σ' env' ∧ PostS X.K W ξ M H0' Dn (forO T B (ds.drop (i + 1)) env'), bk := Dn.nx } σ2 H2 := by
        intro H02 s2 E2 r
        split at p'
        · rename_i e1 he1
          refine ⟨M, H02, env', d, e1, E2, r, he1, fun σ2 _ E3 => ⟨M, H02, e1, E3, ?_⟩⟩
          split at p'
          · rename_i e ho
            rw [ho]
            exact fun σ3 H03 H3 s3 E4 => ⟨H03, e, (s.trans s2).trans s3, E4, p'.weak (s2.trans s3)⟩
          · rename_i e ho
            rw [ho]
            exact fun σ3 H03 H3 s3 E4 => ⟨H03, e, (s.trans s2).trans s3, E4, p'.weak (s2.trans s3)⟩
          · rename_i e ho
            rw [ho]
            exact fun σ3 H03 H3 s3 E4 => p' σ3 H03 H3 (s2.trans s3) E4
          · rename_i o h1 h2 h3
            have p2 := p'.weak s2
            revert p2
            cases ho : B e1 with
            | nx e => exact absurd ho (h1 e)
            | ct e => exact absurd ho (h2 e)
            | bk e => exact absurd ho (h3 e)
            | rt d e => exact fun p2 => p2
            | exc x e => exact fun p2 => p2
            | bad => exact fun p2 => p2
        · exact p'.elim
      rcases hY i H' x H'' d (hGd H' (s.trans E'.same)) hd y with ⟨e1, r⟩ | ⟨T', vs, ds', hT, e1, e2, e3, hz, r⟩
      · subst e1
        exact fin (Same.refl _) E' (r.mono s)
      · subst e1 e2 e3
        have n := E'.new (o := .tup vs) hT
        exact fin n.s0 n.e (.tup upd_same hz (r.mono (s.trans n.s0)))
    · rw [List.drop_length] at p'
      exact p' σ' H0' H' (Same.refl _) E'⟩

/-! ### while -/
def whileO (C : En → R Bool) (B : En → Out) : Nat → En → Out
  | 0, _ => .bad
  | n + 1, env => liftO (C env) env fun k => if k = true then (match B env with
      | .nx e => whileO C B n e
      | .ct e => whileO C B n e
      | .bk e => .nx e
      | o => o) else .nx env
def sWhile (C : En → R Bool) (B : En → Out) (n : Nat) : En → Out := fun env => whileO C B n env
theorem ds_while {C : En → R Bool} (hp : PassesOwn (model X.prog X.w) X.A X.env X.xe) (hc : DT X W ξ e C) (hb : DSs X W ξ body B) (n : Nat) : DS X W ξ (.While e body [] pos) (sWhile C B n) :=
  psImp (ps_while hp hc hb) fun Dn σ H ⟨M, H0, env, E, p⟩ => by
    refine ⟨fun m σ' H' => ∃ H0' env', EnvAt X.K M H0' H' σ' env' ∧ PostS X.K W ξ M H0' Dn (whileO C B m env'), ⟨n, H0, env, E, p⟩, fun m σ1 H1 ⟨H01, env1, E1, p1⟩ => ?_⟩
    cases m with
    | zero => exact p1.elim
    | succ m =>
      unfold whileO at p1
      refine ⟨M, H01, env1, E1, liftT p1 fun k H02 H2 g p2 => ?_⟩
      cases k with
      | false =>
        rw [if_neg Bool.false_ne_true] at p2 ⊢
        exact p2 σ1 H02 H2 (Same.refl _) g.e
      | true =>
        rw [if_pos rfl] at p2 ⊢
        refine ⟨fun σ' H' => ∃ H0' env', EnvAt X.K M H0' H' σ' env' ∧ PostS X.K W ξ M H0' Dn (whileO C B m env'), fun σ' H' h => ⟨m, Nat.lt_succ_self m, h⟩, M, H02, env1, g.e, ?_⟩
        split at p2
        · rename_i e ho
          rw [ho]
          exact fun σ3 H03 H3 s3 E4 => ⟨H03, e, E4, p2.weak s3⟩
        · rename_i e ho
          rw [ho]
          exact fun σ3 H03 H3 s3 E4 => ⟨H03, e, E4, p2.weak s3⟩
        · rename_i e ho
          rw [ho]
          exact p2
        · rename_i o h1 h2 h3
          revert p2
          cases ho : B env1 with
          | nx e => exact absurd ho (h1 e)
          | ct e => exact absurd ho (h2 e)
          | bk e => exact absurd ho (h3 e)
          | rt d e => exact fun p2 => p2
          | exc x e => exact fun p2 => p2
          | bad => exact fun p2 => p2

/-! ### raise -/
theorem ds_raise {x : Str} {C : Addr} (tk : Takes X W) (he : PMk X e (fun _ H Q => Q (.ref C) none H)) (hx : ξ x = .ref C) (hc : X.calm = true := by rfl) : DS X W ξ (.Raise (some e) none pos) (sRaise x) :=
  psImp (ps_raise hc tk he) fun Dn σ H ⟨M, H0, env, E, p⟩ => by
    have := p σ H0 H (Same.refl _) E
    rw [hx] at this
    exact this
end

/-! ### defs -/
def runB (m : Nat) (G : En → Out) (ds : List D) : R D := match G (ds.map Slot.d ++ List.replicate m .u) with
  | .rt d _ => .ok d
  | .nx _ => .ok .non
  | .exc x _ => .exc x
  | _ => .bad
section
variable {P : Program} {w : World} {K : PySem.W.Frag} {mg : Str → Option Value} {base : Heap} {ξ : Str → Value}
theorem fn_d {x qual : Str} {st : Stmt} {f : Addr} {fd : FuncData} {N ps : List Str} {k : Nat} {F : List D → R D} {G : En → Out} (Fn : Fun K x qual st f fd) (S : FnScope N ps (defScope st))
    (hl : ∀ ds, ds.length ≠ ps.length → F ds = .bad) (hF : ∀ ds, ds.length = ps.length → F ds = runB (N.length - ps.length) G ds)
    (hbody : ∀ (cdv : Value) (A : Around) (outer : List Env) (s : Shared) (H : Hp) (E : XK), Room k (A.deeper (envOfC qual (defScope st) s.heap.objs.size f cdv)) →
      DSs (cxOf (L2.CX P w) P w K mg base N qual (defScope st) f cdv A outer s H E) (fun cls d _ H => E cls d H) ξ (defBody st) G) : FnOk P w K mg base (L2.CX P w) (k + 1) f fd ps (spD K ξ F) := by
  have len : ∀ vs H Q E, spD K ξ F vs H Q E → vs.length = ps.length := fun vs H Q E ⟨ds, H0, _, r, p⟩ => by
    rw [r.length]
    apply Decidable.byContradiction
    intro h
    rw [hl ds h] at p
    exact p
  refine Fn.okX S len fun cdv A outer s H vs Q E hr ⟨ds, H0, s0, r, p⟩ => ?_
  refine ⟨_, hbody cdv A outer s H E hr, ?_⟩
  have hlen : ds.length = ps.length := by rw [← r.length]; exact len vs H Q E ⟨ds, H0, s0, r, p⟩
  rw [hF ds hlen] at p
  have hpl : ps.length ≤ N.length := by have := congrArg List.length S.pre; rw [List.length_take] at this; omega
  let M : Fm ξ := ⟨H, fun a => H a ≠ none ∧ H0 a = none, fun _ => 0, fun _ => none⟩
  have gets : ∀ (i : Nat) (x : Slot), (ds.map Slot.d ++ List.replicate (N.length - ps.length) Slot.u)[i]? = some x → (∃ d, ds[i]? = some d ∧ x = Slot.d d) ∨ x = Slot.u := fun (i : Nat) (x : Slot) h => by
    by_cases hi : i < ds.length
    · rw [List.getElem?_append_left (by simpa using hi), List.getElem?_map] at h
      cases e : ds[i]? with
      | none => rw [e] at h; cases h
      | some d => rw [e] at h; cases h; exact .inl ⟨d, rfl, rfl⟩
    · rw [List.getElem?_append_right (by simpa using hi), List.getElem?_replicate] at h
      split at h
      · cases h; exact .inr rfl
      · cases h
  have noOwn : ∀ i a, ¬ Owns (L2.start N vs) (ds.map Slot.d ++ List.replicate (N.length - ps.length) Slot.u) i a := fun i a ⟨_, sl, h1, h2⟩ => by
    rcases gets i sl h1 with ⟨d, _, e⟩ | e
    · subst e; cases h2
    · subst e; cases h2
  have E0 : EnvAt K M H0 H (L2.start N vs) (ds.map Slot.d ++ List.replicate (N.length - ps.length) .u) := by
    refine ⟨s0, Same.refl _, fun a h => ⟨h.2, h.1⟩, ?_, fun i sl h => ?_, fun i j a h => absurd h (noOwn i a), fun a i _ => noOwn i a, fun i n k t h => ?_⟩
    · unfold L2.start
      rw [List.length_append, List.length_append, List.length_map, List.length_map, List.length_replicate, List.length_replicate, r.length, hlen]
    · rcases gets i sl h with ⟨d, hd, e⟩ | e
      · subst e
        obtain ⟨v, hv, rv⟩ := r.get hd
        refine ⟨v, ?_, rv⟩
        have hi : i < vs.length := (List.getElem?_eq_some_iff.mp hv).1
        unfold L2.start
        rw [List.getElem?_append_left (by simpa using hi), List.getElem?_map, hv]; rfl
      · subst e; trivial
    · rcases gets i _ h with ⟨d, _, e⟩ | e <;> cases e
  refine ⟨M, H0, _, E0, ?_⟩
  have nog : ∀ {H0' : Hp}, (∀ a, M.N a → H0' a = none) → ∀ a, H a ≠ none → H0 a = none → H0' a = none := fun h a h1 h2 => h a ⟨h1, h2⟩
  unfold runB at p
  revert p
  cases G (ds.map Slot.d ++ List.replicate (N.length - ps.length) .u) with
  | nx e => exact fun p σ' H0' H' s E' => p .non H0' H' s E'.fr E'.same (nog fun a h => (E'.nogo a h).1) .non
  | rt d e => exact fun p v H0' H' s R' => p v H0' H' s R'.fr R'.same (nog R'.nogo) R'.rep
  | exc x e => exact fun p σ' H0' H' s E' => p H0' H' s E'.fr E'.same (nog fun a h => (E'.nogo a h).1)
  | bk e => exact fun p => p.elim
  | ct e => exact fun p => p.elim
  | bad => exact fun p => p.elim
end
end Dx

/-! The data layer, part I: what is walked. -/
namespace Dx
open PySem PySem.Spec PyProof.Rows L2

/-! ### enumerate(v), v a list, a tuple, a text -/
set_option maxHeartbeats 1000000 in
theorem meets_enumB {v : Value} {o : Obj} {H : Heap → Prop} (B : Begins v o H) :
    Meets (Builtin.«enumerate.__new__» ⟨[.type "enumerate", v], []⟩) (fun _ R s => H s.heap ∧
      R (.ok (.ret (.ref (s.heap.push o).objs.size))) { s with heap := (s.heap.push o).push { cls := .type "enumerate", data := .fields #[.none, .bool false, .ref s.heap.objs.size, rawInt 0, .none, .none] } }) :=
  .of_wp fun prog w A R s h => by
    obtain ⟨hp, g, d, tk, os⟩ := s; obtain ⟨h1, h⟩ := h
    have hsub := sub_enumerate
    have q1 : ∀ {A' : Around} {E : Value → Shared → Prop} {Q : Value → Shared → Prop}, Q (.ref hp.objs.size) ⟨hp.push o, g, d, tk, os⟩ → wpAny (model prog w) A' (pyIter v) Q E ⟨hp, g, d, tk, os⟩ :=
      fun q => B.iter prog w _ _ ⟨hp, g, d, tk, os⟩ _ h1 q
    wp_walk using q1
    refine wpAny_stack_any fun st => wpAny_pure ?_
    split
    · rename_i c _ _ _ _ _
      cases (c == Value.type "enumerate")
      · wp_walk using q1
        exact ⟨_, rfl, h⟩
      · wp_walk using q1
        exact ⟨_, rfl, h⟩
    · wp_walk using q1
      exact ⟨_, rfl, h⟩
theorem call_enumB {prog : Program} {w : World} {A : Around} {E : Value → Shared → Prop} {s : Shared} {v : Value} {o : Obj} {H : Heap → Prop} {Q : Value → Shared → Prop} (B : Begins v o H) (h1 : H s.heap)
    (h : ∀ h', IsEnum h' (s.heap.objs.size + 1) s.heap.objs.size 0 .none → h'.get? s.heap.objs.size = some o → h'.objs.size = s.heap.objs.size + 2 →
      (∀ b o, s.heap.get? b = some o → h'.get? b = some o) → Q (.ref (s.heap.objs.size + 1)) { s with heap := h' }) :
    wpAny (model prog w) A (call (.type "enumerate") [v]) Q E s := by
  refine callType_new F.called_enumerate (by decide) (F.typeCall_enumerate_1 _) (F.newCall_enumerate_1 _) (fun obj => F.args_object_init_2 obj _) F.entry_enumerate_new
    (meets_enumB B) ⟨h1, ?_⟩
  have hz : (s.heap.push o).objs.size = s.heap.objs.size + 1 := Heap.size_push ..
  show _ ∧ _
  rw [hz]
  have he : IsEnum ((s.heap.push o).push { cls := .type "enumerate", data := .fields #[.none, .bool false, .ref s.heap.objs.size, rawInt 0, .none, .none] }) (s.heap.objs.size + 1) s.heap.objs.size 0 .none := by
    have := Heap.get?_push_size (s.heap.push o) (o := { cls := .type "enumerate", data := .fields #[.none, .bool false, .ref s.heap.objs.size, rawInt 0, .none, .none] }) rfl
    rw [hz] at this; exact this
  refine ⟨⟨_, he, rfl⟩, h _ he (Heap.get?_push_of_some _ (Heap.get?_push_size _ B.free)) (by rw [Heap.size_push, hz]) fun b o x => Heap.get?_push_of_some _ (Heap.get?_push_of_some _ x)⟩

/-- pairs of a place and the item there: src, what the heap tells of the source -/
def ItE (n : Nat) (src : Hp → Prop) (P : Nat → V → Prop) : It :=
  ⟨fun i H => i < n ∧ src H, fun i H v H' => ∃ T x, v = .ref T ∧ H T = none ∧ H' = upd H T (.tup [.int (i : Nat), x]) ∧ P i x, fun i H => n ≤ i ∧ src H⟩
section
variable {P : Program} {w : World} {K : PySem.W.Frag} {elts : List Expr} {kk : Nat} {tpos : Pos}
theorem turn_enumG {n : Nat} {src : Hp → Prop} {Pv : Nat → V → Prop} {e it : Addr} {iterAt : Nat → Heap → Prop}
    (objI : ∀ i h, iterAt i h → ∃ o, h.get? it = some o ∧ ∀ v, o.data ≠ .cell v)
    (keepI : ∀ i h h', iterAt i h → (∀ o, h.get? it = some o → h'.get? it = some o) → iterAt i h')
    (draw : ∀ (X : Cx) (pins : List (Addr × Obj)) (s : Shared) (σ : L2.St) (H : Hp), X.prog = P → X.w = w → X.K = K → X.calm = true → Inv X pins σ H s → src H → H it = none → H e = none → ∀ i, iterAt i s.heap → (∃ o, s.heap.get? e = some o) → ∃ (fp : List Addr) (Pu : Nat → Value → Prop) (St : Nat → Heap → Prop),
      Draws P w X.A.in1 it fp n Pu St ∧ e ∉ fp ∧ St i s.heap ∧ (∀ j h, St j h → iterAt j h) ∧ ∀ u, Pu i u → ∃ v, RelV v u ∧ Pv i v)
    (hne : e ≠ it) : Turn P w K (.Tuple elts kk tpos) (ItE n src Pv) [e, it] e (fun i h => i ≤ n ∧ (∃ old, IsEnum h e it ((i : Nat) : Int) old) ∧ iterAt i h) where
  mem := by simp
  obj := fun i h st b hb => by
    obtain ⟨_, ⟨old, he⟩, hi⟩ := st
    have e' : b = e ∨ b = it := by simpa using hb
    rcases e' with z | z
    · rw [z]; exact ⟨_, he, fun v q => nomatch q⟩
    · rw [z]; exact objI i h hi
  keep := fun i h h' st k => let ⟨hn, ⟨old, he⟩, hi⟩ := st; ⟨hn, ⟨old, k e (by simp) _ he⟩, keepI i h h' hi fun o q => k it (by simp) o q⟩
  item := by
    intro X hP hw hK hc i pins s σ H E I hf st hg
    obtain ⟨hn, ⟨old, he⟩, hit⟩ := st
    obtain ⟨hlt, hsrc⟩ := hg
    obtain ⟨fp, Pu, St, D, hef, hst, hof, hrel⟩ := draw X pins s σ H hP hw hK hc I hsrc (hf it (by simp)).1 (hf e (by simp)).1 i hit ⟨_, he⟩
    subst hP hw hK
    have hel : e < s.heap.objs.size := Heap.lt_size he
    obtain ⟨oi, hoi, _⟩ := objI i _ hit
    have hil : it < s.heap.objs.size := Heap.lt_size hoi
    refine wpAny_pyNext_enum_itemC D he hst hlt hne hef fun x h' tk hPx ho hst' hT hsz hk => ?_
    obtain ⟨v, rv, pv⟩ := hrel x hPx
    refine ⟨_, rfl, wpAny_letOwnedTupleGo_enum (s := { s with heap := h', toks := tk + 1 }) ho fun h'' he' sb => ?_⟩
    have hT2 : h''.get? s.heap.objs.size = some { cls := .type "tuple", data := .seq #[.int i tk, x] } := (sb.2 _ (Nat.ne_of_gt hel)).trans hT
    have new : ObjOk X.prog X.w (upd H s.heap.objs.size (.tup [.int (i : Nat), v])) h'' s.heap.objs.size (.tup [.int (i : Nat), v]) :=
      ⟨by show 2 ≤ sizeLine; decide, [.int i tk, x], .cons ⟨_, rfl⟩ (.cons rv .nil), ⟨_, hT2, rfl, _, rfl⟩⟩
    have I1 : Inv X pins σ (upd H s.heap.objs.size (.tup [.int (i : Nat), v])) { s with heap := h'', toks := tk + 1 } :=
      I.turnedNew (ch := [e, it]) (fun b ob hb q => (sb.2 b (fun z => hb (by simp [z]))).trans (hk b ob (fun z => hb (by simp [z])) (fun z => hb (by simp [z])) q)) hf (Nat.le_refl _) new
    refine ⟨.ref s.heap.objs.size, _, I1, rfl, ⟨_, v, rfl, I.hok.fresh (Nat.le_refl _), rfl, pv⟩, ⟨hlt, ⟨x, ?_⟩, keepI _ _ _ (hof _ _ hst') fun o q => (sb.2 it (Ne.symm hne)).trans q⟩, fun b hb => ?_⟩
    · have e1 : ((i + 1 : Nat) : Int) = (i : Int) + 1 := by omega
      rw [e1]; exact he'
    · have hb' : b < s.heap.objs.size := by
        have e' : b = e ∨ b = it := by simpa using hb
        rcases e' with z | z
        · rw [z]; exact hel
        · rw [z]; exact hil
      rw [upd_ne (Nat.ne_of_lt hb')]
      exact (hf b hb).1
  done := by
    intro X hP hw hK hc i pins s σ H E I hf st hg
    obtain ⟨hn, ⟨old, he⟩, hit⟩ := st
    obtain ⟨hge, hsrc⟩ := hg
    have hin : i = n := Nat.le_antisymm hn hge
    obtain ⟨fp, Pu, St, D, hef, hst, hof, hrel⟩ := draw X pins s σ H hP hw hK hc I hsrc (hf it (by simp)).1 (hf e (by simp)).1 i hit ⟨_, he⟩
    subst hP hw hK hin
    obtain ⟨f0, f1, f2, f3, f4, f5⟩ := hf it (by simp)
    exact wpAny_pyNext_enum_endD D he hst fun h' eb => ⟨rfl, I.turned (t' := s.toks) (fun b o hb q => eb b o hb q) f0 f1 f3 f4 f5⟩
  self := fun A i s Q E st h => let ⟨_, ⟨_, he⟩, _⟩ := st; wpAny_pyIter_enum he h
end
section
variable {X : Cx} {W : WX} {ξ : Str → Value} {e e2 tg : Expr} {c : Bool} {pos p tpos : Pos} {elts : List Expr} {kk : Nat} {f g : En → R D}
variable {K : PySem.W.Frag} {M : Fm ξ} {σ : L2.St} {env : En} {H0 H : Hp}
/-- enumerate(e): a tuple, a text -/
def iEnumT (te : TE) : TI := fun σ H R' => te σ H fun v H1 => (∃ a vs, v = .ref a ∧ H1 a = some (.tup vs) ∧ R' (ItE vs.length (fun H => H a = some (.tup vs)) (fun i x => vs[i]? = some x)) H1) ∨
  (∃ z, v = .str z ∧ R' (ItE z.cps.size (fun _ => True) (fun i x => ∃ c, z.cps[i]? = some c ∧ x = .str ⟨#[c]⟩)) H1)
theorem pi_enumT {te : TE} (hg : Gl X "enumerate") (hm : X.mg "enumerate" = none) (he : PE X e te) (hs : starEach [e] X.env = (false, eval e X.env) :: starEach [] X.env := by rfl) :
    PI X (.Tuple elts kk tpos) (.Call (.Name "enumerate" p) [e] [] pos) (iEnumT te) := by
  refine ⟨fun pins s σ H R' I h => ?_⟩
  refine Call_ (ld_blt I hg hm boot_enumerate (PyProof.Rows.callWith_type1 (args_cons (thn (he.run pins s σ H _ I h) fun u s1 ⟨v, H1, I1, r1, q1⟩ => args_nil ?_) hs) hs rfl))
  have fin : ∀ {o : Obj} {Hb : Heap → Prop} {n : Nat} {src : Hp → Prop} {Pv : Nat → V → Prop} {iterAt : Addr → Nat → Heap → Prop}, Begins u o Hb → Hb s1.heap →
      (∀ e it, e ≠ it → Turn X.prog X.w X.K (.Tuple elts kk tpos) (ItE n src Pv) [e, it] e (fun i h => i ≤ n ∧ (∃ old, IsEnum h e it ((i : Nat) : Int) old) ∧ iterAt it i h)) →
      (∀ it h, h.get? it = some o → iterAt it 0 h) → R' (ItE n src Pv) H1 →
      wpAny (model X.prog X.w) X.A (call (.type "enumerate") [u]) (fun v s1 => wpAny (model X.prog X.w) X.A (pyIter v) (PIE X pins σ (.Tuple elts kk tpos) R') X.xe s1) X.xe s1 := by
    intro o Hb n src Pv iterAt B hb T hat q
    refine call_enumB B hb fun h' he hit hsz hk => wpAny_pyIter_enum he ?_
    have I2 : Inv X pins σ H1 { s1 with heap := h' } := I1.kept (t' := s1.toks) hk
    refine ⟨s1.heap.objs.size + 1, [s1.heap.objs.size + 1, s1.heap.objs.size], _, _, H1, rfl, I2, T (s1.heap.objs.size + 1) s1.heap.objs.size (Nat.succ_ne_self _), ⟨Nat.zero_le _, ⟨.none, he⟩, hat _ _ hit⟩, fun b hb => ?_, q⟩
    have e' : b = s1.heap.objs.size + 1 ∨ b = s1.heap.objs.size := by simpa using hb
    have hle : s1.heap.objs.size ≤ b := by
      rcases e' with z | z
      · rw [z]; exact Nat.le_add_right _ _
      · rw [z]; exact Nat.le_refl _
    exact I1.fpOk hle (I1.hok.fresh hle)
  rcases q1 with ⟨a, vs, rfl, ha, q⟩ | ⟨z, rfl, q⟩
  · obtain rfl : u = Value.ref a := r1
    obtain ⟨its, rv, pt, _⟩ := I1.tuple (SqT.of ha)
    refine fin (iterAt := fun it i h => h.IsTupleIter it a i) (begins_tuple a its.toArray) (show s1.heap.IsTuple a its.toArray from pt) (fun e it hne => ?_) (fun it h hit => ⟨_, hit, rfl, rfl⟩) q
    refine turn_enumG (fun i h ⟨o, h1, h2, h3⟩ => ⟨o, h1, fun v z => by rw [h3] at z; cases z⟩) (fun i h h' st k => st.at k) (fun X' pins' s' σ' H' hP hw hK hc I' hsrc hit0 he0 i hit he' => ?_) hne
    obtain ⟨its', rv', pt', _⟩ := I'.tuple (SqT.of hsrc)
    have hta : a ≠ it := fun z => by rw [z, hit0] at hsrc; cases hsrc
    have hea : e ≠ a := fun z => by rw [← z, he0] at hsrc; cases hsrc
    have hl : its'.toArray.size = vs.length := by rw [List.size_toArray, rv'.length]
    refine ⟨[it, a], fun i v => its'.toArray[i]? = some v, fun i h => h.IsTupleIter it a i ∧ h.IsTuple a its'.toArray, ?_, ?_, ⟨hit, show s'.heap.IsTuple a its'.toArray from pt'⟩, fun j h st => st.1, fun u hu => ?_⟩
    · rw [← hl]
      exact Draws.tuple (show X'.A.in1.handled = none from I'.ok.hd hc) it a hta its'.toArray
    · intro hm
      have : e = it ∨ e = a := by simpa using hm
      rcases this with z | z
      · exact hne z
      · exact hea z
    · have hi : i < its'.toArray.size := (Array.getElem?_eq_some_iff.mp hu).1
      obtain ⟨v, hv⟩ : ∃ v, vs[i]? = some v := ⟨vs[i]'(by omega), by simp [hl ▸ hi]⟩
      obtain ⟨u', hu', ru⟩ := rv'.get hv
      have : u' = u := by
        have h2 : its'[i]? = some u := by simpa using hu
        rw [hu'] at h2; cases h2; rfl
      exact ⟨v, this ▸ ru, hv⟩
  · obtain ⟨t, rfl⟩ := r1
    refine fin (iterAt := fun it i h => h.IsStrIter it (strIterType z) z t i) (begins_text z t) trivial (fun e it hne => ?_) (fun it h hit => ⟨_, hit, rfl, rfl⟩) q
    refine turn_enumG (fun i h ⟨o, h1, h2, h3⟩ => ⟨o, h1, fun v z => by rw [h3] at z; cases z⟩) (fun i h h' ⟨o, h1, h2⟩ k => ⟨o, k o h1, h2⟩) (fun X' pins' s' σ' H' hP hw hK hc I' hsrc hit0 he0 i hit he' => ?_) hne
    refine ⟨[it], _, _, Draws.text (show X'.A.in1.handled = none from I'.ok.hd hc) it z t, by simpa using hne, hit, fun j h st => st, fun u ⟨c, u', hc', hu'⟩ => ?_⟩
    exact ⟨.str ⟨#[c]⟩, ⟨u', hu'⟩, c, hc', rfl⟩
theorem walk_E {n : Nat} {src : Hp → Prop} {P : Nat → V → Prop} : Walk (ItE n src P) n src (fun i H v H' => ∃ T x, v = .ref T ∧ H T = none ∧ H' = upd H T (.tup [.int (i : Nat), x]) ∧ P i x) :=
  ⟨fun _ _ hi q => ⟨hi, q⟩, fun _ q => ⟨Nat.le_refl _, q⟩, fun _ _ _ _ _ _ y => y⟩

/-! ### the forms, over data -/
theorem PostI.weak {x : R (List D)} {R' : It → Hp → Prop} {H0' H' : Hp} (g : Gr K M σ env H0 H H0' H') (p : PostI K W ξ M σ env c H0 H R' x) : PostI K W ξ M σ env c H0' H' R' x := by
  cases x with
  | ok ds => exact fun J H02 H2 g2 f => p J H02 H2 (g.trans g2) f
  | exc x => exact fun H02 H2 g2 => p H02 H2 (g.trans g2)
  | bad => exact p
theorem wishI {R' : It → Hp → Prop} : Wish K W ξ M σ env (fun H0 H => PostI K W ξ M σ env c H0 H R') := ⟨PostI.weak, fun p => p, fun p => p⟩
def charsD (z : Str) : List D := z.cps.toList.map fun c => D.str ⟨#[c]⟩
theorem charsD_get {z : Str} {i : Nat} {d : D} (h : (charsD z)[i]? = some d) : ∃ c, z.cps[i]? = some c ∧ d = .str ⟨#[c]⟩ := by
  unfold charsD at h
  rw [List.getElem?_map] at h
  cases e : z.cps.toList[i]? with
  | none => rw [e] at h; cases h
  | some c => rw [e] at h; cases h; exact ⟨c, by simpa using e, rfl⟩
theorem charsD_len (z : Str) : (charsD z).length = z.cps.size := by unfold charsD; simp
theorem charsD_rep {z : Str} (hz : sOk z = true) {c : Nat} {i : Nat} (h : z.cps[i]? = some c) : Rep K H0 (.str ⟨#[c]⟩) (.str ⟨#[c]⟩) :=
  .str _ (strOk_get hz (by rw [← Array.getElem?_toList] at h; exact List.mem_of_getElem? h))
def itemsR : D → R (List D)
  | .lst xs => .ok xs
  | .tup xs => .ok xs
  | .str z => .ok (charsD z)
  | .frz ns => if ns.length ≤ sizeLine then .ok (ns.map D.int) else .bad
  | _ => .bad
/-- a list's place: frozen, or owned -/
theorem RepX.lstAt {v : V} {xs : List D} (r : RepX c K H0 H v (.lst xs)) (s : Same H0 H) : ∃ a vs, v = .ref a ∧ (if c = true then H0 else H) a = some (.lst vs) ∧ H a = some (.lst vs) ∧ RepAll K H0 vs xs := by
  cases c with
  | true =>
    cases r with | lst h _ r => exact ⟨_, _, rfl, h, s _ _ h, r⟩
  | false =>
    obtain ⟨a, vs, e, h, r⟩ := RepX.lst r s
    exact ⟨a, vs, e, h, h, r⟩
def iSeq (K : PySem.W.Frag) (te : TE) : TI := fun σ H R' => te σ H fun v H1 => (∃ a vs, v = .ref a ∧ SqL K H1 a vs ∧ R' (Itl K a) H1) ∨ (∃ a vs, v = .ref a ∧ SqT K H1 a vs ∧ R' (Itt K a) H1) ∨ (∃ z, v = .str z ∧ R' (Its z) H1)
theorem pi_seq {te : TE} (he : PE X e te) : PI X tg e (iSeq X.K te) := by
  refine ⟨fun pins s σ H R' I h => ?_⟩
  refine thn (he.run pins s σ H _ I h) fun v s1 ⟨x, H1, I1, r1, q1⟩ => ?_
  rcases q1 with ⟨a, vs, e, hq, q⟩ | ⟨a, vs, e, hq, q⟩ | ⟨z, ex, q⟩
  · subst e
    cases r1
    obtain ⟨its, rv, p, hz⟩ := I1.list hq
    refine wpAny_pyIter_list p.isList ?_
    refine ⟨s1.heap.objs.size, [s1.heap.objs.size], _, _, H1, rfl, I1.kept (t' := s1.toks) fun b o e => Heap.get?_push_of_some _ e, turn_list a _, ⟨_, Heap.get?_push_size _ rfl, rfl, rfl⟩, fun b hb => ?_, q⟩
    have e : b = s1.heap.objs.size := by simpa using hb
    subst e
    exact I1.fpOk (Nat.le_refl _) (I1.hok.fresh (Nat.le_refl _))
  · subst e
    cases r1
    obtain ⟨its, rv, p, hz⟩ := I1.tuple hq
    refine wpAny_pyIter_tuple (show s1.heap.IsTuple a its.toArray from p) ?_
    refine ⟨s1.heap.objs.size, [s1.heap.objs.size], _, _, H1, rfl, I1.kept (t' := s1.toks) fun b o e => Heap.get?_push_of_some _ e, turn_tuple a _, ⟨_, Heap.get?_push_size _ rfl, rfl, rfl⟩, fun b hb => ?_, q⟩
    have e : b = s1.heap.objs.size := by simpa using hb
    subst e
    exact I1.fpOk (Nat.le_refl _) (I1.hok.fresh (Nat.le_refl _))
  · subst ex
    obtain ⟨t, rfl⟩ := r1
    cases ha : z.cps.all (· < 128)
    · exact wpAny_pyIter_wide ha (pi_one (tk := s1.toks) I1 _ (turn_str _ z t "str_iterator" (.inr rfl)) ⟨_, Heap.get?_push_size _ rfl, rfl, rfl⟩ q)
    · exact wpAny_pyIter_ascii ha (pi_one (tk := s1.toks) I1 _ (turn_str _ z t "str_ascii_iterator" (.inl rfl)) ⟨_, Heap.get?_push_size _ rfl, rfl, rfl⟩ q)
theorem feeds_list {a : Addr} {vs : List V} {xs : List D} {Hs : Hp} (h : Hs a = some (.lst vs)) (z : xs.length ≤ sizeLine) (r : RepAll K H0 vs xs) : Feeds K H0 Hs (Itl K a) xs :=
  ⟨z, _, _, by rw [← r.length]; exact walk_list (xs := vs), fun H1 s => SqL.of (s _ _ h), fun i H1 x H2 d _ hd y => by
    obtain ⟨v, hv, rv⟩ := r.get hd
    have := y.2
    rw [hv] at this
    cases this
    exact .inl ⟨y.1, rv⟩⟩
theorem feeds_tup {a : Addr} {vs : List V} {xs : List D} {Hs : Hp} (h : Hs a = some (.tup vs)) (z : xs.length ≤ sizeLine) (r : RepAll K H0 vs xs) : Feeds K H0 Hs (Itt K a) xs :=
  ⟨z, _, _, by rw [← r.length]; exact walk_tup (xs := vs), fun H1 s => SqT.of (s _ _ h), fun i H1 x H2 d _ hd y => by
    obtain ⟨v, hv, rv⟩ := r.get hd
    have := y.2
    rw [hv] at this
    cases this
    exact .inl ⟨y.1, rv⟩⟩
theorem feeds_str {z : Str} {Hs : Hp} (hz : sOk z = true) : Feeds K H0 Hs (Its z) (charsD z) :=
  ⟨by rw [charsD_len, sizeLine_eq]; exact of_decide_eq_true (Bool.and_eq_true_iff.mp hz).2, _, _, by rw [charsD_len]; exact walk_str (z := z), fun _ _ => trivial, fun i H1 x H2 d _ hd y => by
    obtain ⟨c, hc, e⟩ := charsD_get hd
    obtain ⟨y1, c', hc', e'⟩ := y
    rw [hc] at hc'; cases hc'
    subst e e'
    exact .inl ⟨y1, charsD_rep hz hc⟩⟩
theorem ifSame {H1 : Hp} (s : Same H0 H) (h : Same (if c = true then H0 else H) H1) : Same H0 H1 := by
  cases c with
  | true => exact h
  | false => exact s.trans h
theorem di_seq (he : DE X W ξ c e f) : DI X W ξ c tg e (eUn itemsR f) :=
  piImp (pi_seq he) fun σ H R' ⟨M, H0, env, E, p⟩ => ⟨M, H0, env, E, bindE wishI p fun d v H1 H2 g r p1 => by
    unfold itemsR at p1
    split at p1
    · have z := r.lstLen
      obtain ⟨a, vs, rfl, h1, h2, r2⟩ := r.lstAt g.e.same
      exact .inl ⟨a, vs, rfl, SqL.of h2, p1 _ H1 H2 (.refl g.e) (feeds_list h1 z r2)⟩
    · have z := r.tupLen
      obtain ⟨a, vs, rfl, h1, r2⟩ := r.tup
      refine .inr (.inl ⟨a, vs, rfl, SqT.of (g.e.same _ _ h1), p1 _ H1 H2 (.refl g.e) (feeds_tup ?_ z r2)⟩)
      cases c with
      | true => exact h1
      | false => exact g.e.same _ _ h1
    · exact .inr (.inr ⟨_, r.str, p1 _ H1 H2 (.refl g.e) (feeds_str r.sok)⟩)
    · split at p1
      · rename_i ns hz
        obtain ⟨a, e1, hq⟩ := RepX.frz r g.e.same
        subst e1
        refine .inl ⟨a, _, rfl, hq, p1 _ H1 H2 (.refl g.e) ⟨by rw [List.length_map]; exact hz, _, _, by rw [List.length_map]; exact (List.length_map V.int (as := ns)) ▸ walk_list (xs := ns.map V.int), fun H3 s => ?_, fun i H3 x H4 d _ hd y => ?_⟩⟩
        · cases c with
          | true =>
            cases r with | frz hq' => exact s.seq hq'
          | false => exact s.seq hq
        · have r2 : RepAll X.K H1 (ns.map V.int) (ns.map D.int) := repAll_ints ns
          obtain ⟨v, hv, rv⟩ := r2.get hd
          have := y.2
          rw [hv] at this
          cases this
          exact .inl ⟨y.1, rv⟩
      · exact p1.elim
    · exact p1.elim⟩
def pairs0 (xs : List D) : List D := xs.zipIdx.map fun p => .tup [.int (p.2 : Nat), p.1]
theorem pairs0_get {xs : List D} {i : Nat} {d : D} (h : (pairs0 xs)[i]? = some d) : ∃ x, xs[i]? = some x ∧ d = .tup [.int (i : Nat), x] := by
  unfold pairs0 at h
  rw [List.getElem?_map, List.getElem?_zipIdx] at h
  cases e : xs[i]? with
  | none => rw [e] at h; cases h
  | some x => rw [e] at h; cases h; exact ⟨x, rfl, by simp⟩
def fEn (A : En → R D) : En → R (List D) := fun env => A env >>= fun d => (match d with | .lst xs => R.ok xs | _ => R.bad) >>= fun xs => .ok (pairs0 xs)
def fEnT (A : En → R D) : En → R (List D) := fun env => A env >>= fun d => (match d with | .tup xs => R.ok xs | .str z => R.ok (charsD z) | _ => R.bad) >>= fun xs => .ok (pairs0 xs)
theorem di_enum (hm : X.mg "enumerate" = none) (he : DE X W ξ c e f) (hg : Gl X "enumerate" := by rfl) (hs : starEach [e] X.env = [(false, eval e X.env)] := by rfl) : DI X W ξ c (.Tuple elts kk tpos) (.Call (.Name "enumerate" p) [e] [] pos) (fEn f) :=
  piImp (pi_enum hg hm (pa_cons he pa_nil hs) hs) fun σ H R' ⟨M, H0, env, E, p⟩ => ⟨M, H0, env, E, bindE wishI p fun d v H1 H2 g r p1 => by
    split at p1
    · have z := r.lstLen
      obtain ⟨a, vs, rfl, h1, h2, r2⟩ := r.lstAt g.e.same
      refine ⟨a, vs, rfl, SqL.of h2, p1 _ H1 H2 (.refl g.e) ⟨by unfold pairs0; rw [List.length_map, List.length_zipIdx]; exact z, _, _, by unfold pairs0; rw [List.length_map, List.length_zipIdx, ← r2.length]; exact walk_enum (xs := vs), fun H3 s => SqL.of (s _ _ h1), fun i H3 x H4 d _ hd y => ?_⟩⟩
      obtain ⟨T, x1, x2, e1, e2, e3, e4, e5⟩ := y
      obtain ⟨y, hy, e6⟩ := pairs0_get hd
      obtain ⟨v, hv, rv⟩ := r2.get hy
      replace e5 : vs[i]? = some x2 := e5
      replace e4 : some (V.int (i : Nat)) = some x1 := e4
      rw [hv] at e5
      cases e5; cases e4
      exact .inr ⟨T, _, _, e2, e3, e1, e6, (by show 2 ≤ sizeLine; decide), .cons (.int _) (.cons rv .nil)⟩
    · exact p1.elim⟩
/-- enumerate of a tuple or a text -/
theorem di_enumT (hm : X.mg "enumerate" = none) (he : DE X W ξ c e f) (hg : Gl X "enumerate" := by rfl) (hs : starEach [e] X.env = (false, eval e X.env) :: starEach [] X.env := by rfl) : DI X W ξ c (.Tuple elts kk tpos) (.Call (.Name "enumerate" p) [e] [] pos) (fEnT f) :=
  piImp (pi_enumT hg hm he hs) fun σ H R' ⟨M, H0, env, E, p⟩ => ⟨M, H0, env, E, bindE wishI p fun d v H1 H2 g r p1 => by
    split at p1
    · have z := r.tupLen
      obtain ⟨a, vs, rfl, h1, r2⟩ := r.tup
      refine .inl ⟨a, vs, rfl, g.e.same _ _ h1, p1 _ H1 H2 (.refl g.e) ⟨by unfold pairs0; rw [List.length_map, List.length_zipIdx]; exact z, _, _, by unfold pairs0; rw [List.length_map, List.length_zipIdx, ← r2.length]; exact walk_E, fun H3 s => ifSame g.e.same s _ _ h1, fun i H3 x H4 d _ hd y => ?_⟩⟩
      obtain ⟨T, x1, e1, e2, e3, e5⟩ := y
      obtain ⟨y, hy, e6⟩ := pairs0_get hd
      obtain ⟨v, hv, rv⟩ := r2.get hy
      rw [hv] at e5
      cases e5
      exact .inr ⟨T, _, _, e2, e3, e1, e6, (by show 2 ≤ sizeLine; decide), .cons (.int _) (.cons rv .nil)⟩
    · refine .inr ⟨_, r.str, p1 _ H1 H2 (.refl g.e) ⟨by unfold pairs0; rw [List.length_map, List.length_zipIdx, charsD_len]; exact r.slen, _, _, by unfold pairs0; rw [List.length_map, List.length_zipIdx, charsD_len]; exact walk_E, fun _ _ => trivial, fun i H3 x H4 d _ hd y => ?_⟩⟩
      obtain ⟨T, x1, e1, e2, e3, c, hc, e5⟩ := y
      obtain ⟨y, hy, e6⟩ := pairs0_get hd
      obtain ⟨c', hc', e7⟩ := charsD_get hy
      rw [hc] at hc'; cases hc'
      subst e5 e7
      exact .inr ⟨T, _, _, e2, e3, e1, e6, (by show 2 ≤ sizeLine; decide), .cons (.int _) (.cons (charsD_rep r.sok hc) .nil)⟩
    · exact p1.elim⟩
def rngD (lo : Int) (n : Nat) : List D := (List.range n).map fun i => .int (lo + (i : Nat))
theorem rngD_get {lo : Int} {n i : Nat} {d : D} (h : (rngD lo n)[i]? = some d) : d = .int (lo + (i : Nat)) := by
  unfold rngD at h
  rw [List.getElem?_map] at h
  cases e : (List.range n)[i]? with
  | none => rw [e] at h; cases h
  | some j =>
    rw [e] at h
    cases h
    rw [List.getElem?_range (by
      have := (List.getElem?_eq_some_iff.mp e).1
      simpa using this)] at e
    cases e; rfl
theorem feeds_rng {lo : Int} {n : Nat} {Hs : Hp} (hz : n ≤ 16777216) : Feeds K H0 Hs (Itr lo n) (rngD lo n) :=
  ⟨by unfold rngD; rw [List.length_map, List.length_range, sizeLine_eq]; exact hz, _, _, by unfold rngD; rw [List.length_map, List.length_range]; exact walk_range, fun _ _ => trivial, fun i H1 x H2 d _ hd y => by
    rw [rngD_get hd, y.2]
    exact .inl ⟨y.1, .int _⟩⟩
def range1R (d : D) : R (List D) := match d with
  | .int j => if -16777216 ≤ j ∧ j ≤ 16777216 then .ok (rngD 0 j.toNat) else .bad
  | _ => .bad
def range2R (d d2 : D) : R (List D) := match d, d2 with
  | .int i, .int j => if -8388608 ≤ i ∧ i ≤ 8388608 ∧ -8388608 ≤ j ∧ j ≤ 8388608 then .ok (rngD i (j - i).toNat) else .bad
  | _, _ => .bad
theorem di_range1 {c1 : Bool} (hm : X.mg "range" = none) (ha : DE X W ξ c1 e f) (hg : Gl X "range" := by rfl) (hs : starEach [e] X.env = [(false, eval e X.env)] := by rfl) : DI X W ξ c tg (.Call (.Name "range" p) [e] [] pos) (eUn range1R f) :=
  piImp (pi_range1 hg hm (pa_cons ha pa_nil hs) hs) fun σ H R' ⟨M, H0, env, E, p⟩ => ⟨M, H0, env, E, bindE wishI p fun d v H1 H2 g r p1 => by
    unfold range1R at p1
    split at p1
    · split at p1
      · rename_i h
        exact ⟨_, by rw [RepX.int r], by omega, by omega, p1 _ H1 H2 (.refl g.e) (feeds_rng (by omega))⟩
      · exact p1.elim
    · exact p1.elim⟩
def fRng2 (A B : En → R D) : En → R (List D) := fun env => A env >>= fun x => B env >>= fun y => range2R x y
theorem di_range2 {c1 c2 : Bool} (hm : X.mg "range" = none) (ha : DE X W ξ c1 e f) (hb : DE X W ξ c2 e2 g) (hg : Gl X "range" := by rfl) (hs : starEach [e, e2] X.env = [(false, eval e X.env), (false, eval e2 X.env)] := by rfl) (hs2 : starEach [e2] X.env = [(false, eval e2 X.env)] := by rfl) :
    DI X W ξ c tg (.Call (.Name "range" p) [e, e2] [] pos) (fRng2 f g) :=
  piImp (pi_range2 hg hm (pa_cons ha (pa_cons hb pa_nil hs2) (by rw [hs, hs2])) hs hs2) fun σ H R' ⟨M, H0, env, E, p⟩ => ⟨M, H0, env, E, bindE wishI p fun d v H1 H2 g r p1 => ⟨M, H1, env, g.e, bindE wishI p1 fun d2 v2 H3 H4 g2 r2 p2 => by
    unfold range2R at p2
    split at p2
    · split at p2
      · rename_i h
        exact ⟨_, _, by rw [RepX.int r, RepX.int r2], by omega, p2 _ H3 H4 (.refl g2.e) (feeds_rng (by omega))⟩
      · exact p2.elim
    · exact p2.elim⟩⟩
end
end Dx

/-! The data layer, part J: list comprehensions. -/
namespace Dx
open PySem PySem.Spec PyProof.Rows L2

/-- what a comprehension makes: T the target, C the test, F the element -/
def compO (T : D → En → R En) (C : En → R Bool) (F : En → R D) (env : En) : List D → R (List D)
  | [] => .ok []
  | d :: ds => match T d env with
    | .ok e1 => (match C e1 with
      | .ok true => (match F e1 with
        | .ok x => compO T C F env ds >>= fun xs => .ok (x :: xs)
        | _ => .bad)
      | .ok false => compO T C F env ds
      | _ => .bad)
    | _ => .bad
def wipeE (env : En) (vs : List Nat) : En := vs.foldr (fun i e => e.set i .u) env
abbrev W0 : WX := fun _ _ _ _ => False

section
variable {K : PySem.W.Frag} {ξ : Str → Value} {M : Fm ξ} {σ : L2.St} {env : En} {H0 H H0' H' : Hp}
theorem EnvAt.wipe (E : EnvAt K M H0 H σ env) : ∀ vs : List Nat, EnvAt K M H0 H (L2.wipe σ vs) (wipeE env vs)
  | [] => E
  | v :: vs => (E.wipe vs).unset v
/-- with one address more that is not to be read -/
def Fm.plus (M : Fm ξ) (D : Addr) : Fm ξ := ⟨M.G, fun a => M.N a ∨ a = D, M.T, M.R⟩
theorem EnvAt.plus (E : EnvAt K M H0 H σ env) {Da : Addr} {o : HO} (n : NewAt M σ env H0 H Da o) : EnvAt K (M.plus Da) H0 H σ env := by
  refine ⟨E.same, E.fr, fun a h => ?_, E.len, fun i s h => ?_, E.sep, fun a j h => ?_, E.tg⟩
  · rcases h with h | h
    · exact E.nogo a h
    · subst h; exact ⟨n.h0, fun z => by have q := n.at_; rw [z] at q; cases q⟩
  · have q := E.slot i s h
    cases s with
    | u => trivial
    | d x => exact q
    | ol xs => exact q
    | od xs => exact q
    | ex => exact q
    | tr n k t => exact q
  · rcases h with h | h
    · exact E.ng a j h
    · subst h; exact n.w j
theorem EnvAt.minus {Da : Addr} (E : EnvAt K (M.plus Da) H0 H σ env) : EnvAt K M H0 H σ env :=
  ⟨E.same, E.fr, fun a h => E.nogo a (.inl h), E.len, fun i s h => by
    have q := E.slot i s h
    cases s with
    | u => trivial
    | d x => exact q
    | ol xs => exact q
    | od xs => exact q
    | ex => exact q
    | tr n k t => exact q, E.sep, fun a j h => E.ng a j (.inl h), E.tg⟩
/-- the list at Da is lengthened -/
theorem EnvAt.app {Da : Addr} (E : EnvAt K (M.plus Da) H0 H σ env) (hg : M.G Da = none) (o : HO) : EnvAt K (M.plus Da) H0 (upd H Da o) σ env := by
  have h0 := (E.nogo Da (.inr rfl)).1
  refine ⟨fun b u e => ?_, fun b u e => ?_, fun a h => ⟨(E.nogo a h).1, ?_⟩, E.len, fun i s h => ?_, E.sep, E.ng, E.tg⟩
  · rw [upd_ne (ne_of_none e h0)]; exact E.same _ _ e
  · rw [upd_ne (ne_of_none e hg)]; exact E.fr _ _ e
  · by_cases hb : a = Da
    · subst hb; rw [upd_same]; intro z; cases z
    · rw [upd_ne hb]; exact (E.nogo a h).2
  · have q := E.slot i s h
    have ne : ∀ {a}, σ[i]? = some (some (.ref a)) → s.own = true → a ≠ Da := fun {a} e o z => by
      subst z; exact E.ng a i (.inr rfl) ⟨e, s, h, o⟩
    cases s with
    | u => trivial
    | d x => exact q
    | ol xs => obtain ⟨a, vs, e, z0, zg, ha, r⟩ := q; exact ⟨a, vs, e, z0, zg, by rw [upd_ne (ne e rfl)]; exact ha, r⟩
    | od xs => obtain ⟨a, vs, e, z0, zg, ha, r⟩ := q; exact ⟨a, vs, e, z0, zg, by rw [upd_ne (ne e rfl)]; exact ha, r⟩
    | ex => exact q
    | tr n k t => exact q
theorem wipe_idem (σ : L2.St) : ∀ vs : List Nat, ∀ i ∈ vs, (L2.wipe σ vs).set i none = L2.wipe σ vs
  | [], i, h => by cases h
  | v :: vs, i, h => by
    show ((L2.wipe σ vs).set v none).set i none = (L2.wipe σ vs).set v none
    by_cases e : i = v
    · subst e; rw [List.set_set]
    · have : i ∈ vs := by
        rcases List.mem_cons.mp h with z | z
        · exact absurd z e
        · exact z
      rw [List.set_comm _ _ (Ne.symm e), wipe_idem σ vs i this]
theorem wipe_sub (σ σ' : L2.St) (ts vs : List Nat) (hs : ∀ i ∈ ts, i ∈ vs) (h : L2.wipe σ' ts = L2.wipe σ ts) : L2.wipe σ' vs = L2.wipe σ vs := by
  have key : ∀ (τ : L2.St) (us : List Nat), (∀ i ∈ us, i ∈ vs) → L2.wipe (L2.wipe τ us) vs = L2.wipe τ vs := by
    intro τ us hus
    have sw : ∀ (τ : L2.St) (i : Nat), i ∈ vs → L2.wipe (τ.set i none) vs = L2.wipe τ vs := by
      intro τ i hi
      have h1 : ∀ (ws : List Nat) (τ : L2.St), L2.wipe (τ.set i none) ws = (L2.wipe τ ws).set i none := by
        intro ws
        induction ws with
        | nil => intro τ; rfl
        | cons u ws ih =>
          intro τ
          show (L2.wipe (τ.set i none) ws).set u none = ((L2.wipe τ ws).set u none).set i none
          rw [ih]
          by_cases e : i = u
          · subst e; rfl
          · rw [List.set_comm _ _ e]
      rw [h1, wipe_idem τ vs i hi]
    induction us generalizing τ with
    | nil => rfl
    | cons u us ih =>
      show L2.wipe ((L2.wipe τ us).set u none) vs = _
      rw [sw _ u (hus u (by simp)), ih τ fun i hi => hus i (by simp [hi])]
  rw [← key σ' ts hs, h, key σ ts hs]
theorem wipe_wipe (σ : L2.St) (vs : List Nat) : L2.wipe (L2.wipe σ vs) vs = L2.wipe σ vs := by
  have : ∀ us : List Nat, (∀ i ∈ us, i ∈ vs) → L2.wipe (L2.wipe σ vs) us = L2.wipe σ vs := by
    intro us
    induction us with
    | nil => intro _; rfl
    | cons u us ih =>
      intro h
      show (L2.wipe (L2.wipe σ vs) us).set u none = _
      rw [ih fun i hi => h i (by simp [hi]), wipe_idem σ vs u (h u (by simp))]
  exact this vs fun _ h => h
end

section
variable {X : Cx} {W : WX} {ξ : Str → Value} {elt tg iter : Expr} {ifs : List Expr} {scope : Scope} {own : List (Str × Nat)} {pos pos' : Pos} {c : Bool}
variable {Fi : En → R (List D)} {T : D → En → R En} {C : En → R Bool} {F : En → R D} {ts : List Nat}
abbrev DTs (X : Cx) (W : WX) (ξ : Str → Value) (ifs : List Expr) (C : En → R Bool) : Prop := PTs X ifs (tDT X.K W ξ C)
def tTrue : En → R Bool := fun _ => .ok true
theorem dts_nil : DTs X W ξ [] tTrue := ⟨fun pins s σ H Q I ⟨M, H0, env, E, p⟩ => pts_nil.run pins s σ H Q I (p H0 H (.refl E))⟩
theorem dts_one {e : Expr} (h : DT X W ξ e C) : DTs X W ξ [e] C := pts_one h
/-- the loop of a comprehension -/
theorem lc_loop {K : PySem.W.Frag} {Wo : WX} {M : Fm ξ} {σ : L2.St} {env : En} {H0 H : Hp} {Q : VK} (vs : List Nat) (hts : ∀ i ∈ ts, i ∈ vs) {J : It} {ds : List D} (E : EnvAt K M H0 H σ env) (fd : Feeds K H0 (if c = true then H0 else H) J ds)
    (p : PostF K Wo ξ M σ env H0 H Q (compO T C F (wipeE env vs) ds)) :
    ∀ Da, H Da = none → ∃ W : Nat → Nat → Hp → Prop, (∃ m, W 0 m (upd H Da (.lst []))) ∧ ∀ i m H, W i m H →
      (J.stop i H ∧ Q (.ref Da) H) ∨ (J.go i H ∧ ∃ Nx : Hp → Prop, (∀ H', Nx H' → ∃ m', m' < m ∧ W (i + 1) m' H') ∧ ∀ x H', J.yld i H x H' → tDG K ξ ts T x (wipe σ vs) H' fun σ2 H2 => wipe σ2 vs = wipe σ vs ∧ tDT K W0 ξ C σ2 H2 fun b H3 =>
        if b = true then tD K W0 ξ true F σ2 H3 fun y H4 => ∃ acc, H4 Da = some (.lst acc) ∧ acc.length < sizeLine ∧ Nx (upd H4 Da (.lst (acc ++ [y]))) else Nx H3) := by
  intro Da hDa
  obtain ⟨hlen, Gd, Y, wk, hGd, hY⟩ := fd
  obtain ⟨g0, n0⟩ := E.newAt (o := .lst []) hDa
  have hg : M.G Da = none := n0.g
  have ifS : ∀ {H1 H01 : Hp}, Same H0 H01 → Same H01 H1 → Same H H1 → Gd H1 := fun a b cc => hGd _ (by
    cases c with
    | true => exact a.trans b
    | false => exact cc)
  refine lc_it (g := tDG K ξ ts T) (tt := tDT K W0 ξ C) (te := tD K W0 ξ true F) wk (fun i H1 => ∃ H01 acc done, Same H0 H01 ∧ Same H H1 ∧ EnvAt K (M.plus Da) H01 H1 σ env ∧ H1 Da = some (.lst acc) ∧ RepAll K H01 acc done ∧ acc.length ≤ i ∧ (∀ a, H a ≠ none → H0 a = none → H01 a = none) ∧
      (∃ rest, compO T C F (wipeE env vs) (ds.drop i) = .ok rest ∧ compO T C F (wipeE env vs) ds = .ok (done ++ rest)))
    ?_ (fun i H1 _ ⟨H01, acc, done, s0, s, E1, _⟩ => ifS s0 E1.same s) (fun i x H1 H2 hi ⟨H01, acc, done, s0, s, E1, hacc, racc, hal, hnew, rest, hrest, hall⟩ y => ?_) fun H1 ⟨H01, acc, done, s0, s, E1, hacc, racc, hal, hnew, rest, hrest, hall⟩ => ?_
  · cases h : compO T C F (wipeE env vs) ds with
    | ok xs => exact ⟨H0, [], [], Same.refl _, same_upd hDa, g0.e.plus n0, upd_same, .nil, Nat.le_refl _, fun _ _ z => z, xs, by rw [List.drop_zero]; exact h, rfl⟩
    | exc x =>
      exfalso
      have : ∀ l, compO T C F (wipeE env vs) l ≠ .exc x := by
        intro l
        induction l with
        | nil => intro z; cases z
        | cons d l ih =>
          intro z
          unfold compO at z
          split at z
          · split at z
            · split at z
              · cases hl : compO T C F (wipeE env vs) l with
                | ok xs => rw [hl] at z; cases z
                | exc y => rw [hl] at z; cases z; exact ih hl
                | bad => rw [hl] at z; cases z
              · cases z
            · exact ih z
            · cases z
          · cases z
      exact this ds h
    | bad => rw [h] at p; exact p.elim
  · obtain ⟨d, hd⟩ : ∃ d, ds[i]? = some d := ⟨ds[i], by simp [hi]⟩
    have hdrop : ds.drop i = d :: ds.drop (i + 1) := by
      rw [List.drop_eq_getElem_cons hi]
      rw [List.getElem?_eq_getElem hi] at hd
      cases hd; rfl
    rw [hdrop] at hrest
    unfold compO at hrest
    have fin : ∀ {H02 : Hp}, Gr K (M.plus Da) σ env H01 H1 H02 H2 → Rep K H02 x d → tDG K ξ ts T x (wipe σ vs) H2 fun σ2 H2 => wipe σ2 vs = wipe σ vs ∧ tDT K W0 ξ C σ2 H2 fun b H3 =>
        if b = true then tD K W0 ξ true F σ2 H3 fun y H4 => ∃ acc, H4 Da = some (.lst acc) ∧ acc.length < sizeLine ∧ (∃ H01 acc' done, Same H0 H01 ∧ Same H (upd H4 Da (.lst (acc ++ [y]))) ∧ EnvAt K (M.plus Da) H01 (upd H4 Da (.lst (acc ++ [y]))) σ env ∧ (upd H4 Da (.lst (acc ++ [y]))) Da = some (.lst acc') ∧ RepAll K H01 acc' done ∧ acc'.length ≤ i + 1 ∧ (∀ a, H a ≠ none → H0 a = none → H01 a = none) ∧
          (∃ rest, compO T C F (wipeE env vs) (ds.drop (i + 1)) = .ok rest ∧ compO T C F (wipeE env vs) ds = .ok (done ++ rest)))
        else (∃ H01 acc done, Same H0 H01 ∧ Same H H3 ∧ EnvAt K (M.plus Da) H01 H3 σ env ∧ H3 Da = some (.lst acc) ∧ RepAll K H01 acc done ∧ acc.length ≤ i + 1 ∧ (∀ a, H a ≠ none → H0 a = none → H01 a = none) ∧
          (∃ rest, compO T C F (wipeE env vs) (ds.drop (i + 1)) = .ok rest ∧ compO T C F (wipeE env vs) ds = .ok (done ++ rest))) := by
      intro H02 g2 r
      split at hrest
      · rename_i e1 he1
        refine ⟨M.plus Da, H02, wipeE env vs, d, e1, g2.e.wipe vs, r, he1, fun σ2 hw E3 => ⟨?_, ?_⟩⟩
        · rw [wipe_sub _ _ ts vs hts hw, wipe_wipe]
        · refine ⟨M.plus Da, H02, e1, E3, ?_⟩
          have back : ∀ {H03 H3 : Hp}, Gr K (M.plus Da) σ2 e1 H02 H2 H03 H3 → Gr K (M.plus Da) σ env H01 H1 H03 H3 := fun {H03 H3} g3 =>
            g2.trans ⟨g3.s0, g3.s, g2.e.grow g3.s0 g3.s g3.e.same g3.n, g3.n⟩
          split at hrest
          · rename_i hC
            rw [hC]
            intro H03 H3 g3
            rw [if_pos rfl]
            split at hrest
            · rename_i x' hF
              refine ⟨M.plus Da, H03, e1, g3.e, ?_⟩
              rw [hF]
              intro v H04 H4 g4 rv
              have gg : Gr K (M.plus Da) σ env H01 H1 H04 H4 := (back g3).trans ⟨g4.s0, g4.s, (back g3).e.grow g4.s0 g4.s g4.e.same g4.n, g4.n⟩
              have rv : Rep K H04 v x' := rv
              refine ⟨acc, gg.s _ _ hacc, by have := hlen; omega, ?_⟩
              cases hl : compO T C F (wipeE env vs) (ds.drop (i + 1)) with
              | ok xs =>
                rw [hl] at hrest
                cases hrest
                have s4 : Same H (upd H4 Da (.lst (acc ++ [v]))) := fun b o e => by
                  rw [upd_ne (ne_of_none e hDa)]; exact gg.s _ _ (s _ _ e)
                refine ⟨H04, acc ++ [v], done ++ [x'], s0.trans gg.s0, s4, gg.e.app hg _, upd_same, (racc.mono gg.s0).snoc rv, by simp; omega, fun a h1 h2 => gg.n a (fun z => h1 (s.free z)) (hnew a h1 h2), xs, rfl, ?_⟩
                rw [hall]; simp
              | exc x => rw [hl] at hrest; cases hrest
              | bad => rw [hl] at hrest; cases hrest
            · cases hrest
          · rename_i hC
            rw [hC]
            intro H03 H3 g3
            rw [if_neg Bool.false_ne_true]
            have gg := back g3
            exact ⟨H03, acc, done, s0.trans gg.s0, s.trans gg.s, gg.e, gg.s _ _ hacc, racc.mono gg.s0, by omega, fun a h1 h2 => gg.n a (fun z => h1 (s.free z)) (hnew a h1 h2), rest, hrest, hall⟩
          · cases hrest
      · cases hrest
    rcases hY i H1 x H2 d (ifS s0 E1.same s) hd y with ⟨e1, r⟩ | ⟨T', ws, ds', hT, e1, e2, e3, hz, r⟩
    · subst e1
      exact fin (Gr.refl E1) (r.mono s0)
    · subst e1 e2 e3
      have n := E1.new (o := .tup ws) hT
      exact fin n (.tup upd_same hz (r.mono (s0.trans n.s0)))
  · rw [List.drop_length] at hrest
    cases hrest
    rw [List.append_nil] at hall
    rw [hall] at p
    have hd0 : H01 Da = none := (E1.nogo Da (.inr rfl)).1
    refine p Da acc H01 H1 ⟨s0, s, E1.minus, hnew⟩ hDa ⟨hacc, hd0, hg, n0.n, n0.w⟩ ⟨?_, racc⟩
    rw [← racc.length]
    exact Nat.le_trans hal hlen
theorem compI {K : PySem.W.Frag} {M : Fm ξ} {σ : L2.St} {env : En} {H0 H : Hp} {Q : VK} {R' : It → Hp → Prop} {x : R (List D)} {k : List D → R (List D)} (p : PostF K W ξ M σ env H0 H Q (x >>= k))
    (h : ∀ ds J H0' H', Gr K M σ env H0 H H0' H' → Feeds K H0' (if c = true then H0' else H') J ds → PostF K W ξ M σ env H0' H' Q (k ds) → R' J H') : PostI K W ξ M σ env c H0 H R' x := by
  cases x with
  | ok ds => exact fun J H0' H' g f => h ds J H0' H' g f (PostF.weak g p)
  | exc x => exact fun H0' H' g => p H0' H' g
  | bad => exact p
theorem lc_imp {K : PySem.W.Frag} (hts : ∀ i ∈ ts, i ∈ own.map (·.2)) : ∀ σ H Q, tDF K W ξ (fun env => Fi env >>= fun ds => compO T C F (wipeE env (own.map (·.2))) ds) σ H Q → tLc (tDI K W ξ c Fi) (tDG K ξ ts T) (tDT K W0 ξ C) (tD K W0 ξ true F) (own.map (·.2)) σ H Q :=
  fun σ H Q ⟨M, H0, env, E, p⟩ => ⟨M, H0, env, E, compI p fun ds J H1 H2 g f p1 => lc_loop (own.map (·.2)) hts g.e f p1⟩
/-- [elt for tg in iter if ..] -/
def eComp (I : En → R (List D)) (T : D → En → R En) (C : En → R Bool) (F : En → R D) (own : List Nat) : En → R (List D) := fun env => I env >>= fun ds => compO T C F (wipeE env own) ds
theorem df_lc (hN : X.N.Nodup) (hi : DI X W ξ c tg iter Fi) (ok : blkC X.N X.env.scope scope own = true) (hg : ∀ (s : Shared) (H : Hp) (C : Addr) (cl : List (Str × Addr)) (fp : List Addr), DGt (X.blk s H scope (compEnvC scope cl C X.env) fp) ξ tg ts T)
    (ht : ∀ (s : Shared) (H : Hp) (Ca : Addr) (cl : List (Str × Addr)) (fp : List Addr), DTs (X.blk s H scope (compEnvC scope cl Ca X.env) fp) W0 ξ ifs C)
    (he : ∀ (s : Shared) (H : Hp) (C : Addr) (cl : List (Str × Addr)) (fp : List Addr), DE (X.blk s H scope (compEnvC scope cl C X.env) fp) W0 ξ true elt F)
    (hts : ∀ i ∈ ts, i ∈ own.map (·.2) := by decide) (hc : X.calm = true := by rfl) (hs : ∀ x, foldedSetIterable iter X.env x = pure x := by intro _; rfl) :
    DF X W ξ (.ListComp elt [⟨tg, iter, ifs, 0⟩] scope pos) (eComp Fi T C F (own.map (·.2))) :=
  peImp (pe_lc hc hN hi (blkOk_by ok) hg ht he hs) (lc_imp hts)
theorem ds_lcG {i : Nat} {y : Str} {py : Pos} {spos : Pos} (hN : X.N.Nodup) (hi : DI X W ξ c tg iter Fi) (ok : blkC X.N X.env.scope scope own = true) (hg : ∀ (s : Shared) (H : Hp) (C : Addr) (cl : List (Str × Addr)) (fp : List Addr), DGt (X.blk s H scope (compEnvC scope cl C X.env) fp) ξ tg ts T)
    (ht : ∀ (s : Shared) (H : Hp) (Ca : Addr) (cl : List (Str × Addr)) (fp : List Addr), DTs (X.blk s H scope (compEnvC scope cl Ca X.env) fp) W0 ξ ifs C)
    (he : ∀ (s : Shared) (H : Hp) (C : Addr) (cl : List (Str × Addr)) (fp : List Addr), DE (X.blk s H scope (compEnvC scope cl C X.env) fp) W0 ξ true elt F)
    (hts : ∀ i ∈ ts, i ∈ own.map (·.2) := by decide) (hc : X.calm = true := by rfl) (hs : ∀ x, foldedSetIterable iter X.env x = pure x := by intro _; rfl) (hy : X.N[i]? = some y := by rfl) (hyl : X.env.scope.names.lookup y = some .local := by rfl)
    (hsw : swapsWith (.ListComp elt [⟨tg, iter, ifs, 0⟩] scope pos) (some (.Name y py)) spos.line X.env = pure true := by exact sw_true rfl rfl rfl (by decide +kernel)) :
    PS X (.Assign [.Name y py] (.ListComp elt [⟨tg, iter, ifs, 0⟩] scope pos) spos) (tAsg (tDF X.K W ξ (eComp Fi T C F (own.map (·.2)))) (gName i)) :=
  psImp (ps_setLc hc hN hy hyl hsw hi (blkOk_by ok) hg ht he hs) fun Dn σ H h => lc_imp hts σ H _ h
end
end Dx

/-! The data layer, part K: built-in functions, methods. -/
namespace Dx
open PySem PySem.Spec PyProof.Rows L2
section
variable {X : Cx} {W : WX} {ξ : Str → Value} {e a b : Expr} {es : List Expr} {c c1 c2 c3 : Bool} {pos p : Pos} {fa fb : En → R D} {Fs : En → R (List D)} {x : Str}
variable {K : PySem.W.Frag} {M : Fm ξ} {σ : L2.St} {env : En} {H0 H : Hp} {Q : VK}
/-- a built-in function by values -/
def CbD (X : Cx) (W : WX) (ξ : Str → Value) (f : Value) (g : List D → R D) : Prop := ∃ r : List V → Hp → VK → Prop, CallR X f r ∧
  ∀ {c : Bool} {M : Fm ξ} {σ : L2.St} {env : En} {H0 H : Hp} {Q : VK} {vs : List V} {ds : List D}, EnvAt X.K M H0 H σ env → RepXs X.K c H0 H vs ds → PostE X.K W ξ M σ env true H0 H Q (g ds) → r vs H Q
theorem de_callB {id : String} {g : List D → R D} (h : CbD X W ξ (.builtin id) g) (hm : X.mg x = none) (hv : bootBuiltins x = some (.builtin id)) (ha : DA X W ξ c (e :: es) Fs) (hg : Gl X x := by rfl) (hn : x ≠ "__name__" := by decide) (hdb : (x == ("__debug__" : Str)) = false := by decide)
    (he : starEach (e :: es) X.env = (false, eval e X.env) :: starEach es X.env := by rfl) (hpl : (backTo pos (starEach es X.env)).any (·.1) = false := by rfl) : DE X W ξ true (.Call (.Name x p) (e :: es) [] pos) (eUn g Fs) := by
  obtain ⟨r, hc, hr⟩ := h
  exact peImp (pe_callB hc hg hm hv ha hn hdb he hpl) fun σ H Q ⟨M, H0, env, E, p⟩ => ⟨M, H0, env, E, bindA wishE p fun ds vs H1 H2 g r p1 => hr g.e r p1⟩
theorem de_callTy {T : String} {g : List D → R D} (h : CbD X W ξ (.type T) g) (hm : X.mg x = none) (hv : bootBuiltins x = some (.type T)) (ha : DA X W ξ c (e :: es) Fs) (hg : Gl X x := by rfl) (hn : x ≠ "__name__" := by decide) (hdb : (x == ("__debug__" : Str)) = false := by decide)
    (he : starEach (e :: es) X.env = (false, eval e X.env) :: starEach es X.env := by rfl) (hpl : (backTo pos (starEach es X.env)).any (·.1) = false := by rfl) : DE X W ξ true (.Call (.Name x p) (e :: es) [] pos) (eUn g Fs) := by
  obtain ⟨r, hc, hr⟩ := h
  exact peImp (pe_callTy hc hg hm hv ha hn hdb he hpl) fun σ H Q ⟨M, H0, env, E, p⟩ => ⟨M, H0, env, E, bindA wishE p fun ds vs H1 H2 g r p1 => hr g.e r p1⟩
theorem x1 {vs : List V} {d : D} (r : RepXs K c H0 H vs [d]) : ∃ v, vs = [v] ∧ RepX c K H0 H v d := by
  cases r with
  | cons r t => cases t; exact ⟨_, rfl, r⟩
theorem x2 {vs : List V} {d e : D} (r : RepXs K c H0 H vs [d, e]) : ∃ v w, vs = [v, w] ∧ RepX c K H0 H v d ∧ RepX c K H0 H w e := by
  cases r with
  | cons r t => cases t with | cons r2 t => cases t; exact ⟨_, _, rfl, r, r2⟩

def lenR : List D → R D
  | [.lst xs] => .ok (.int xs.length)
  | [.tup xs] => .ok (.int xs.length)
  | [.str z] => .ok (.int z.length)
  | [.frz ns] => .ok (.int ns.length)
  | [.dic kvs] => .ok (.int kvs.length)
  | _ => .bad
theorem RepKv.length {vs : List (Key × V)} {xs : List (Key × D)} (r : RepKv K H vs xs) : vs.length = xs.length := by
  induction vs generalizing xs with
  | nil => cases r; rfl
  | cons v vs ih => cases r with | cons _ _ t => simp [ih t]
theorem call_lenDR : CallR X (.builtin "len") (fun xs H Q => ∃ a kvs, xs = [V.ref a] ∧ Rd H a (.dK kvs) ∧ Q (.int kvs.length) H) := by
  intro pins s σ H xs us Q I r h
  obtain ⟨a, kvs, rfl, ha, q⟩ := h
  obtain ⟨u, rfl, ru⟩ := vals1 r
  cases ru
  exact d_len I ha fun t s' I' => ⟨.int kvs.length, H, I', ⟨t, rfl⟩, q⟩
theorem cb_len : CbD X W ξ (.builtin "len") lenR := ⟨_, CallR.or call_len_seq (CallR.or call_len_str call_lenDR), fun {c M σ env H0 H Q vs ds} E r p => by
  unfold lenR at p
  split at p
  · obtain ⟨v, rfl, r0⟩ := x1 r
    obtain ⟨a, ws, rfl, h, q⟩ := RepX.lst r0 E.same
    exact .inl ⟨a, ws, rfl, .inl (SqL.of h), by rw [q.length]; exact post_ok E p (.int _)⟩
  · obtain ⟨v, rfl, r0⟩ := x1 r
    obtain ⟨a, ws, rfl, h, q⟩ := RepX.tup r0
    exact .inl ⟨a, ws, rfl, .inr (SqT.of (E.same _ _ h)), by rw [q.length]; exact post_ok E p (.int _)⟩
  · obtain ⟨v, rfl, r0⟩ := x1 r
    exact .inr (.inl ⟨_, by rw [RepX.str r0], RepX.slen r0, post_ok E p (.int _)⟩)
  · obtain ⟨v, rfl, r0⟩ := x1 r
    obtain ⟨a, rfl, h⟩ := RepX.frz r0 E.same
    exact .inl ⟨a, _, rfl, .inl h, by rw [List.length_map]; exact post_ok E p (.int _)⟩
  · obtain ⟨v, rfl, r0⟩ := x1 r
    obtain ⟨a, ws, rfl, h, q⟩ := RepX.dic r0 E.same
    exact .inr (.inr ⟨a, ws, rfl, h, by rw [q.length]; exact post_ok E p (.int _)⟩)
  · exact p.elim⟩
def absR : List D → R D
  | [.int i] => .ok (.int (if i < 0 then -i else i))
  | _ => .bad
theorem cb_abs : CbD X W ξ (.builtin "abs") absR := ⟨_, call_abs, fun {c M σ env H0 H Q vs ds} E r p => by
  unfold absR at p
  split at p
  · obtain ⟨v, rfl, r0⟩ := x1 r
    exact ⟨_, by rw [RepX.int r0], post_ok E p (.int _)⟩
  · exact p.elim⟩
def max2R : List D → R D
  | [.int i, .int j] => .ok (.int (if j > i then j else i))
  | _ => .bad
def min2R : List D → R D
  | [.int i, .int j] => .ok (.int (if j < i then j else i))
  | _ => .bad
theorem cb_max2 (hc : X.calm = true := by rfl) : CbD X W ξ (.builtin "max") max2R := ⟨_, call_max2 hc, fun {c M σ env H0 H Q vs ds} E r p => by
  unfold max2R at p
  split at p
  · obtain ⟨v, w, rfl, r0, r2⟩ := x2 r
    exact ⟨_, _, by rw [RepX.int r0, RepX.int r2], post_ok E p (.int _)⟩
  · exact p.elim⟩
theorem cb_min2 (hc : X.calm = true := by rfl) : CbD X W ξ (.builtin "min") min2R := ⟨_, call_min2 hc, fun {c M σ env H0 H Q vs ds} E r p => by
  unfold min2R at p
  split at p
  · obtain ⟨v, w, rfl, r0, r2⟩ := x2 r
    exact ⟨_, _, by rw [RepX.int r0, RepX.int r2], post_ok E p (.int _)⟩
  · exact p.elim⟩
def int1R : List D → R D
  | [.int i] => .ok (.int i)
  | [.bl k] => .ok (.int (if k then 1 else 0))
  | _ => .bad
theorem cb_int1 : CbD X W ξ (.type "int") int1R := ⟨_, call_int1, fun {c M σ env H0 H Q vs ds} E r p => by
  unfold int1R at p
  split at p
  · obtain ⟨v, rfl, r0⟩ := x1 r
    exact .inl ⟨_, by rw [RepX.int r0], post_ok E p (.int _)⟩
  · obtain ⟨v, rfl, r0⟩ := x1 r
    exact .inr ⟨_, by rw [RepX.bl r0], post_ok E p (.int _)⟩
  · exact p.elim⟩
/-- tuple(..), list(..) of a list or a tuple -/
def tupleR : List D → R D
  | [.lst xs] => .ok (.tup xs)
  | [.tup xs] => .ok (.tup xs)
  | _ => .bad
def listR : List D → R D
  | [.lst xs] => .ok (.lst xs)
  | [.tup xs] => .ok (.lst xs)
  | _ => .bad
theorem cb_tuple : CbD X W ξ (.type "tuple") tupleR := ⟨_, call_tuple_of, fun {c M σ env H0 H Q vs ds} E r p => by
  unfold tupleR at p
  split at p
  · obtain ⟨v, rfl, r0⟩ := x1 r
    have z := RepX.lstLen r0
    obtain ⟨a, ws, rfl, h, q⟩ := RepX.lst r0 E.same
    exact ⟨a, ws, rfl, .inl ⟨SqL.of h, new_tup E p z q⟩⟩
  · obtain ⟨v, rfl, r0⟩ := x1 r
    have z := RepX.tupLen r0
    obtain ⟨a, ws, rfl, h, q⟩ := RepX.tup r0
    exact ⟨a, ws, rfl, .inr ⟨SqT.of (E.same _ _ h), post_ok E p (.tup h z q)⟩⟩
  · exact p.elim⟩
theorem cb_list : CbD X W ξ (.type "list") listR := ⟨_, call_list_of, fun {c M σ env H0 H Q vs ds} E r p => by
  unfold listR at p
  split at p
  · obtain ⟨v, rfl, r0⟩ := x1 r
    have z := RepX.lstLen r0
    obtain ⟨a, ws, rfl, h, q⟩ := RepX.lst r0 E.same
    exact ⟨a, ws, rfl, .inl (SqL.of h), new_lst E p z q⟩
  · obtain ⟨v, rfl, r0⟩ := x1 r
    have z := RepX.tupLen r0
    obtain ⟨a, ws, rfl, h, q⟩ := RepX.tup r0
    exact ⟨a, ws, rfl, .inr (SqT.of (E.same _ _ h)), new_lst E p z q⟩
  · exact p.elim⟩

/-! ### sorted -/
def intsOf : List D → Option (List Int)
  | [] => some []
  | .int i :: xs => (intsOf xs).map (i :: ·)
  | _ :: _ => none
def strsOf : List D → Option (List Str)
  | [] => some []
  | .str i :: xs => (strsOf xs).map (i :: ·)
  | _ :: _ => none
theorem intsOf_eq : ∀ {xs : List D} {ns : List Int}, intsOf xs = some ns → xs = ns.map D.int
  | [], _, h => by cases h; rfl
  | .int i :: xs, ns, h => by
    unfold intsOf at h
    cases e : intsOf xs with
    | none => rw [e] at h; cases h
    | some ms => rw [e] at h; cases h; rw [intsOf_eq e]; rfl
  | .non :: _, _, h => by cases h
  | .bl _ :: _, _, h => by cases h
  | .str _ :: _, _, h => by cases h
  | .tup _ :: _, _, h => by cases h
  | .lst _ :: _, _, h => by cases h
  | .dic _ :: _, _, h => by cases h
  | .frz _ :: _, _, h => by cases h
  | .opq :: _, _, h => by cases h
theorem strsOf_eq : ∀ {xs : List D} {ns : List Str}, strsOf xs = some ns → xs = ns.map D.str
  | [], _, h => by cases h; rfl
  | .str i :: xs, ns, h => by
    unfold strsOf at h
    cases e : strsOf xs with
    | none => rw [e] at h; cases h
    | some ms => rw [e] at h; cases h; rw [strsOf_eq e]; rfl
  | .non :: _, _, h => by cases h
  | .bl _ :: _, _, h => by cases h
  | .int _ :: _, _, h => by cases h
  | .tup _ :: _, _, h => by cases h
  | .lst _ :: _, _, h => by cases h
  | .dic _ :: _, _, h => by cases h
  | .frz _ :: _, _, h => by cases h
  | .opq :: _, _, h => by cases h
theorem intsOf_map (ns : List Int) : intsOf (ns.map D.int) = some ns := by
  induction ns with
  | nil => rfl
  | cons n ns ih => simp [intsOf, ih]
theorem strsOf_map (ns : List Str) : strsOf (ns.map D.str) = some ns := by
  induction ns with
  | nil => rfl
  | cons n ns ih => simp [strsOf, ih]
/-- insertion sort -/
def insBy {α : Type} (le : α → α → Bool) (x : α) : List α → List α
  | [] => [x]
  | y :: ys => if le x y then x :: y :: ys else y :: insBy le x ys
def sortBy {α : Type} (le : α → α → Bool) : List α → List α
  | [] => []
  | x :: xs => insBy le x (sortBy le xs)
theorem insBy_perm {α : Type} (le : α → α → Bool) (x : α) : ∀ ys : List α, (insBy le x ys).Perm (x :: ys)
  | [] => .refl _
  | y :: ys => by
    unfold insBy
    split
    · exact .refl _
    · exact ((insBy_perm le x ys).cons y).trans (.swap x y ys)
theorem sortBy_perm {α : Type} (le : α → α → Bool) : ∀ xs : List α, (sortBy le xs).Perm xs
  | [] => .refl _
  | x :: xs => (insBy_perm le x _).trans ((sortBy_perm le xs).cons x)
theorem insBy_sorted {α : Type} {le : α → α → Bool} (tot : ∀ x y, le x y = false → le y x = true) (tr : ∀ x y z, le x y = true → le y z = true → le x z = true) (x : α) : ∀ {ys : List α}, ys.Pairwise (fun a b => le a b = true) → (insBy le x ys).Pairwise (fun a b => le a b = true)
  | [], _ => by simp [insBy]
  | y :: ys, h => by
    unfold insBy
    rw [List.pairwise_cons] at h
    split
    · rename_i hxy
      rw [List.pairwise_cons]
      refine ⟨fun z hz => ?_, List.pairwise_cons.mpr h⟩
      rcases List.mem_cons.mp hz with e | hz
      · subst e; exact hxy
      · exact tr _ _ _ hxy (h.1 z hz)
    · rename_i hxy
      rw [List.pairwise_cons]
      refine ⟨fun z hz => ?_, insBy_sorted tot tr x h.2⟩
      rcases List.mem_cons.mp ((insBy_perm le x ys).mem_iff.mp hz) with e | hz
      · subst e; exact tot _ _ (by simpa using hxy)
      · exact h.1 z hz
theorem sortBy_sorted {α : Type} {le : α → α → Bool} (tot : ∀ x y, le x y = false → le y x = true) (tr : ∀ x y z, le x y = true → le y z = true → le x z = true) : ∀ xs : List α, (sortBy le xs).Pairwise (fun a b => le a b = true)
  | [] => .nil
  | x :: xs => insBy_sorted tot tr x (sortBy_sorted tot tr xs)
theorem sorted_one {α : Type} {r : α → α → Prop} (anti : ∀ x y, r x y → r y x → x = y) : ∀ {xs ys : List α}, xs.Perm ys → xs.Pairwise r → ys.Pairwise r → xs = ys
  | [], ys, h, _, _ => by rw [h.nil_eq]
  | x :: xs, [], h, _, _ => by have := h.length_eq; simp at this
  | x :: xs, y :: ys, h, h1, h2 => by
    rw [List.pairwise_cons] at h1 h2
    have e : x = y := by
      have hx : x ∈ y :: ys := h.mem_iff.mp (by simp)
      have hy : y ∈ x :: xs := h.mem_iff.mpr (by simp)
      rcases List.mem_cons.mp hx with e | hx
      · exact e
      · rcases List.mem_cons.mp hy with e | hy
        · exact e.symm
        · exact anti x y (h1.1 y hy) (h2.1 x hx)
    subst e
    rw [sorted_one anti (List.perm_cons x |>.mp h) h1.2 h2.2]
def leI (i j : Int) : Bool := decide (i ≤ j)
def leS (x y : Str) : Bool := !ltCps y.cps.toList x.cps.toList
abbrev sortI : List Int → List Int := sortBy leI
abbrev sortS : List Str → List Str := sortBy leS
end
end Dx

/-! The data layer, part K2: sums, sorts, methods of lists. -/
namespace Dx
open PySem PySem.Spec PyProof.Rows L2
section
variable {X : Cx} {W : WX} {ξ : Str → Value} {e a b o : Expr} {es : List Expr} {c c1 c2 c3 : Bool} {pos p apos : Pos} {fa fb fo : En → R D} {Fs : En → R (List D)} {x : Str}
variable {K : PySem.W.Frag} {M : Fm ξ} {σ : L2.St} {env : En} {H0 H : Hp} {Q : VK}
theorem R.assoc {α β γ : Type} (x : R α) (f : α → R β) (g : β → R γ) : ((x >>= f) >>= g) = (x >>= fun a => f a >>= g) := by cases x <;> rfl
def blsOf : List D → Option (List Bool)
  | [] => some []
  | .bl i :: xs => (blsOf xs).map (i :: ·)
  | _ :: _ => none
theorem blsOf_eq : ∀ {xs : List D} {ns : List Bool}, blsOf xs = some ns → xs = ns.map D.bl
  | [], _, h => by cases h; rfl
  | .bl i :: xs, ns, h => by
    unfold blsOf at h
    cases e : blsOf xs with
    | none => rw [e] at h; cases h
    | some ms => rw [e] at h; cases h; rw [blsOf_eq e]; rfl
  | .non :: _, _, h => by cases h
  | .str _ :: _, _, h => by cases h
  | .int _ :: _, _, h => by cases h
  | .tup _ :: _, _, h => by cases h
  | .lst _ :: _, _, h => by cases h
  | .dic _ :: _, _, h => by cases h
  | .frz _ :: _, _, h => by cases h
theorem blsOf_map (ns : List Bool) : blsOf (ns.map D.bl) = some ns := by
  induction ns with
  | nil => rfl
  | cons n ns ih => simp [blsOf, ih]
def sumR : List D → R D
  | [.lst xs] => (match intsOf xs with
    | some ns => .ok (.int ns.sum)
    | none => .bad)
  | _ => .bad
def allR : List D → R D
  | [.lst xs] => (match blsOf xs with
    | some ns => .ok (.bl (ns.all id))
    | none => .bad)
  | _ => .bad
def anyR : List D → R D
  | [.lst xs] => (match blsOf xs with
    | some ns => .ok (.bl (ns.any id))
    | none => .bad)
  | _ => .bad
theorem cb_sum (hc : X.calm = true := by rfl) : CbD X W ξ (.builtin "sum") sumR := ⟨_, cr_sum hc, fun {c M σ env H0 H Q vs ds} E r p => by
  unfold sumR at p
  split at p
  · split at p
    · rename_i ns hn
      obtain ⟨v, rfl, r0⟩ := x1 r
      obtain ⟨a, ws, rfl, h, q⟩ := RepX.lst r0 E.same
      rw [intsOf_eq hn] at q
      rw [q.ints] at h
      exact ⟨a, ns, rfl, SqL.of h, post_ok E p (.int _)⟩
    · exact p.elim
  · exact p.elim⟩
theorem cb_all (hc : X.calm = true := by rfl) : CbD X W ξ (.builtin "all") allR := ⟨_, cr_all hc, fun {c M σ env H0 H Q vs ds} E r p => by
  unfold allR at p
  split at p
  · split at p
    · rename_i ns hn
      obtain ⟨v, rfl, r0⟩ := x1 r
      obtain ⟨a, ws, rfl, h, q⟩ := RepX.lst r0 E.same
      rw [blsOf_eq hn] at q
      rw [q.bls] at h
      exact ⟨a, ns, rfl, SqL.of h, post_ok E p (.bl _)⟩
    · exact p.elim
  · exact p.elim⟩
theorem cb_any (hc : X.calm = true := by rfl) : CbD X W ξ (.builtin "any") anyR := ⟨_, cr_any hc, fun {c M σ env H0 H Q vs ds} E r p => by
  unfold anyR at p
  split at p
  · split at p
    · rename_i ns hn
      obtain ⟨v, rfl, r0⟩ := x1 r
      obtain ⟨a, ws, rfl, h, q⟩ := RepX.lst r0 E.same
      rw [blsOf_eq hn] at q
      rw [q.bls] at h
      exact ⟨a, ns, rfl, SqL.of h, post_ok E p (.bl _)⟩
    · exact p.elim
  · exact p.elim⟩

/-! ### sorted -/
theorem leI_tot (x y : Int) (h : leI x y = false) : leI y x = true := by
  unfold leI at *
  have := of_decide_eq_false h
  exact decide_eq_true (by omega)
theorem leI_tr (x y z : Int) (h : leI x y = true) (h' : leI y z = true) : leI x z = true := by
  unfold leI at *
  have := of_decide_eq_true h
  have := of_decide_eq_true h'
  exact decide_eq_true (by omega)
theorem sortI_one {ns ms : List Int} (hp : ns.Perm ms) (h : ns.Pairwise (· ≤ ·)) : ns = sortI ms :=
  sorted_one (r := fun a b => leI a b = true) (fun x y a b => by have := of_decide_eq_true a; have := of_decide_eq_true b; omega) (hp.trans (sortBy_perm leI ms).symm) (h.imp fun a => decide_eq_true a) (sortBy_sorted leI_tot leI_tr ms)
theorem ltc_irr : ∀ a : List Nat, ltCps a a = false
  | [] => rfl
  | x :: xs => by simp [ltCps, ltc_irr xs]
theorem leS_iff (x y : Str) : leS x y = true ↔ ¬ (y.cps.toList < x.cps.toList) := by
  unfold leS
  rw [ltCps_eq]
  simp
theorem leS_tot (x y : Str) (h : leS x y = false) : leS y x = true := by
  rw [leS_iff]
  have h2 : ¬ leS x y = true := by rw [h]; exact Bool.false_ne_true
  rw [leS_iff, Classical.not_not] at h2
  exact List.lt_asymm h2
theorem leS_tr (x y z : Str) (h : leS x y = true) (h' : leS y z = true) : leS x z = true := by
  rw [leS_iff] at *
  intro q
  exact (List.le_trans (show x.cps.toList ≤ y.cps.toList from h) (show y.cps.toList ≤ z.cps.toList from h')) q
theorem leS_anti (x y : Str) (h : leS x y = true) (h' : leS y x = true) : x = y := by
  rw [leS_iff] at *
  exact Str.ext' (Array.toList_inj.mp (List.le_antisymm (show x.cps.toList ≤ y.cps.toList from h) (show y.cps.toList ≤ x.cps.toList from h')))
theorem sortedS_pw : ∀ {xs : List Str}, PyProof.Rows.sortedS xs = true → xs.Pairwise (fun a b => leS a b = true)
  | [], _ => .nil
  | [x], _ => by simp
  | x :: y :: r, h => by
    have h : (!ltCps y.cps.toList x.cps.toList && risingS y r) = true := h
    rw [Bool.and_eq_true] at h
    have ih := sortedS_pw (xs := y :: r) h.2
    rw [List.pairwise_cons] at ih ⊢
    have hxy : leS x y = true := h.1
    refine ⟨fun z hz => ?_, List.pairwise_cons.mpr ih⟩
    rcases List.mem_cons.mp hz with e | hz
    · subst e; exact hxy
    · exact leS_tr _ _ _ hxy (ih.1 z hz)
theorem sortS_one {ns ms : List Str} (hp : ns.Perm ms) (h : PyProof.Rows.sortedS ns = true) : ns = sortS ms :=
  sorted_one (r := fun a b => leS a b = true) leS_anti (hp.trans (sortBy_perm leS ms).symm) (sortedS_pw h) (sortBy_sorted leS_tot leS_tr ms)
theorem repAll_strs {ss : List Str} (h : ∀ x ∈ ss, sOk x = true) : RepAll K H (ss.map V.str) (ss.map D.str) := by
  induction ss with
  | nil => exact .nil
  | cons s ss ih => exact .cons (.str s (h s (by simp))) (ih fun x hx => h x (by simp [hx]))
theorem RepAll.sok {vs : List V} {ss : List Str} (r : RepAll K H vs (ss.map D.str)) : ∀ x ∈ ss, sOk x = true := by
  induction ss generalizing vs with
  | nil => intro x h; cases h
  | cons s ss ih =>
    cases r with
    | cons r t =>
      intro x h
      rcases List.mem_cons.mp h with e | h
      · subst e; cases r with | str _ q => exact q
      · exact ih t x h
def sortedR : List D → R D
  | [.lst xs] => (match intsOf xs with
    | some ns => .ok (.lst ((sortI ns).map .int))
    | none => (match strsOf xs with
      | some ss => if ss.length < 64 then .ok (.lst ((sortS ss).map .str)) else .bad
      | none => .bad))
  | _ => .bad
theorem cb_sorted : CbD X W ξ (.builtin "sorted") sortedR := ⟨_, CallR.or cr_sortedI cr_sortedS, fun {c M σ env H0 H Q vs ds} E r p => by
  unfold sortedR at p
  split at p
  · obtain ⟨v, rfl, r0⟩ := x1 r
    have z := RepX.lstLen r0
    obtain ⟨a, ws, rfl, h, q⟩ := RepX.lst r0 E.same
    split at p
    · rename_i ns hn
      rw [intsOf_eq hn] at q z
      rw [q.ints] at h
      refine .inl ⟨a, ns, rfl, SqL.of h, fun ns' p' hp hs => ?_⟩
      have e := sortI_one hp hs
      rw [← e] at p
      refine new_lst E p ?_ (repAll_ints ns') p'
      rw [List.length_map] at z ⊢
      rw [hp.length_eq]; exact z
    · split at p
      · rename_i ss hn
        split at p
        · rename_i h64
          rw [strsOf_eq hn] at q z
          have sk := q.sok
          rw [q.strs] at h
          refine .inr ⟨a, ss, rfl, SqL.of h, h64, fun ys p' hp hs => ?_⟩
          have e := sortS_one hp hs
          rw [← e] at p
          refine new_lst E p ?_ (repAll_strs fun x hx => sk x (hp.mem_iff.mp hx)) p'
          rw [List.length_map] at z ⊢
          rw [hp.length_eq]; exact z
        · exact p.elim
      · exact p.elim
  · exact p.elim⟩

/-! ### methods of lists -/
def lstyR : D → R D
  | .lst xs => .ok (.lst xs)
  | _ => .bad
theorem lst_ty {xs : List D} {v : V} (r : RepX c K H0 H v (.lst xs)) (s : Same H0 H) : tyV K "list" v H := by
  obtain ⟨a, ws, rfl, h, _⟩ := RepX.lst r s
  exact .inl ⟨rfl, ws, SqL.of h⟩
/-- l.index(y) -/
def idxOf : List D → D → Option Nat
  | [], _ => none
  | x :: xs, d => if eqD x d = true then some 0 else (idxOf xs d).map (· + 1)
def indexR : D → List D → R D
  | .lst xs, [d] => if dle 64 d && dle 64 (.lst xs) then (match idxOf xs d with
    | some j => .ok (.int j)
    | none => .bad) else .bad
  | _, _ => .bad
theorem idxOf_py : ∀ {xs : List D} {d : D} {j : Nat}, idxOf xs d = some j → ∃ z, (toPys xs)[j]? = some z ∧ PyData.eqv z (toPy d) = true ∧ ∀ (m : Nat) (z' : PyData), m < j → (toPys xs)[m]? = some z' → PyData.eqv z' (toPy d) = false
  | [], _, _, h => by cases h
  | x :: xs, d, j, h => by
    unfold idxOf at h
    rw [toPys]
    split at h
    · rename_i he
      cases h
      exact ⟨toPy x, rfl, by rw [eqv_toPy]; exact he, fun m z' hm => absurd hm (by omega)⟩
    · rename_i he
      obtain ⟨k, hk, rfl⟩ := Option.map_eq_some_iff.mp h
      obtain ⟨z, h1, h2, h3⟩ := idxOf_py hk
      refine ⟨z, by simpa using h1, h2, fun m z' hm hz => ?_⟩
      cases m with
      | zero => simp at hz; subst hz; rw [eqv_toPy]; simpa using he
      | succ m => exact h3 m z' (by omega) (by simpa using hz)
def eMeth (ty : D → R D) (A : En → R D) (As : En → R (List D)) (g : D → List D → R D) : En → R D := fun env => A env >>= ty >>= fun d => As env >>= g d
theorem de_index (hu : X.A.units + 65 < cLine) (ho : DE X W ξ c o fo) (ha : DA X W ξ c1 [e] Fs)
    (hbase : attributeBase o "index" X.env (eval o X.env) = eval o X.env := by rfl)
    (hfew : ((backTo pos (starEach [e] X.env)).all (fun x => !x.1) && (backToKw pos (keywordEach [] X.env)).all (fun x => x.1.isSome)
      && decide ([e].length + ([] : List Keyword).length + (if ([] : List Keyword).isEmpty then 0 else 1) < 30)) = true := by rfl)
    (hline : (apos.endLine == pos.line) = true := by rfl) (hs : starEach (e :: []) X.env = (false, eval e X.env) :: starEach [] X.env := by rfl) (hplain : (backTo pos (starEach [] X.env)).any (·.1) = false := by rfl) :
    DE X W ξ true (.Call (.Attribute o "index" apos) [e] [] pos) (eMeth lstyR fo Fs indexR) := by
  refine peImp (pe_bm F.plainAttrs_list F.slot_list_index F.type_list_index (mt_indexD hu) ho ha hbase hfew hline hs hplain) fun σ H Q ⟨M, H0, env, E, p⟩ => ⟨M, H0, env, E, ?_⟩
  have p : PostE X.K W ξ M σ env true H0 H Q (fo env >>= fun d => lstyR d >>= fun d => Fs env >>= indexR d) := by
    have p : PostE X.K W ξ M σ env true H0 H Q ((fo env >>= lstyR) >>= fun d => Fs env >>= indexR d) := p
    rw [R.assoc] at p
    exact p
  refine bindE wishE p fun d v H1 H2 g r p1 => ?_
  unfold lstyR at p1
  split at p1
  · rename_i xs
    have p1 : PostE X.K W ξ M σ env true H1 H2 Q (Fs env >>= indexR (.lst xs)) := p1
    refine ⟨lst_ty r g.e.same, M, H1, env, g.e, bindA wishE p1 fun ds vs H3 H4 g2 r2 p2 => ?_⟩
    unfold indexR at p2
    split at p2
    · rename_i xs' d' he
      cases he
      split at p2
      · rename_i hd
        rw [Bool.and_eq_true] at hd
        split at p2
        · rename_i j hj
          obtain ⟨w, rfl, r3⟩ := x1 r2
          obtain ⟨q1, s1⟩ := rep_shaped hd.1 (RepX.rep r3 g2.e.same)
          obtain ⟨q2, s2⟩ := rep_shaped hd.2 (RepX.rep (RepX.mono r g2.s0 g2.s) g2.e.same)
          obtain ⟨a, ws, rfl, _, _⟩ := RepX.lst r g.e.same
          obtain ⟨z, h1, h2, h3⟩ := idxOf_py hj
          simp only [toPy] at q2 s2
          exact ⟨a, w, toPy d', toPys xs, j, z, rfl, rfl, q2, q1, s2, s1, h1, h2, h3, post_ok g2.e p2 (.int _)⟩
        · exact p2.elim
      · exact p2.elim
    · exact p2.elim
  · exact p1.elim

/-! ### the lists of a def's own -/
def appO (i : Nat) (env : En) (d : D) : Out := match env[i]? with
  | some (.ol xs) => if xs.length < sizeLine then .nx (env.set i (.ol (xs ++ [d]))) else .bad
  | _ => .bad
def extO (i : Nat) (env : En) (d : D) : Out := match env[i]?, d with
  | some (.ol xs), .lst ys => if xs.length + ys.length ≤ sizeLine then .nx (env.set i (.ol (xs ++ ys))) else .bad
  | _, _ => .bad
def popO (i : Nat) (env : En) (k : D → En → Out) : Out := match env[i]? with
  | some (.ol xs) => (match xs.getLast? with
    | some d => k d (env.set i (.ol xs.dropLast))
    | none => .bad)
  | _ => .bad
def tgO (T : D → En → R En) (d : D) (e : En) : Out := match T d e with
  | .ok e => .nx e
  | _ => .bad
def revO (i : Nat) (env : En) : Out := match env[i]? with
  | some (.ol xs) => .nx (env.set i (.ol xs.reverse))
  | _ => .bad
def sMeth (i : Nat) (A : En → R D) (g : Nat → En → D → Out) : En → Out := fun env => match env[i]? with | some (.ol _) => liftO (A env) env (g i env) | _ => .bad
def sPop (i : Nat) (T : D → En → R En) : En → Out := fun env => popO i env (tgO T)
theorem ownL (E : EnvAt K M H0 H σ env) {i : Nat} {xs : List D} (h : env[i]? = some (.ol xs)) : ∃ a vs, σ[i]? = some (some (.ref a)) ∧ H0 a = none ∧ M.G a = none ∧ H a = some (.lst vs) ∧ xs.length ≤ sizeLine ∧ RepAll K H0 vs xs ∧ Owns σ env i a := by
  obtain ⟨a, vs, e, h0, hg, ha, z, r⟩ := E.slot i _ h
  exact ⟨a, vs, e, h0, hg, ha, z, r, e, _, h, rfl⟩
theorem EnvAt.mutL (E : EnvAt K M H0 H σ env) {i : Nat} {a : Addr} {xs ys : List D} {ws : List V} (h : env[i]? = some (.ol xs)) (e : σ[i]? = some (some (.ref a))) (hz : ys.length ≤ sizeLine) (r : RepAll K H0 ws ys) : EnvAt K M H0 (upd H a (.lst ws)) σ (env.set i (.ol ys)) := by
  obtain ⟨a', vs, e', h0, hg, ha, z, r0, ow⟩ := ownL E h
  rw [e] at e'
  cases e'
  exact E.mutate ow rfl ⟨a, ws, rfl, h0, hg, upd_same, hz, r⟩
section
variable {i : Nat} {l : Str} {lpos : Pos}
theorem ds_append (hl : PE X (.Name l lpos) (tVar i)) (he : DE X W ξ true e fa)
    (hbase : attributeBase (.Name l lpos) "append" X.env (eval (.Name l lpos) X.env) = eval (.Name l lpos) X.env := by rfl)
    (hfew : ((backTo p (starEach [e] X.env)).all (fun x => !x.1) && (backToKw p (keywordEach [] X.env)).all (fun x => x.1.isSome)
      && decide ([e].length + ([] : List Keyword).length + (if ([] : List Keyword).isEmpty then 0 else 1) < 30)) = true := by rfl)
    (hline : (apos.endLine == p.line) = true := by rfl) (hs : starEach (e :: []) X.env = (false, eval e X.env) :: starEach [] X.env := by rfl) (hplain : (backTo p (starEach [] X.env)).any (·.1) = false := by rfl)
    (hsw : swapsWith (.Call (.Attribute (.Name l lpos) "append" apos) [e] [] p) none pos.line X.env = pure false := by rfl) :
    DS X W ξ (.Expr (.Call (.Attribute (.Name l lpos) "append" apos) [e] [] p) pos) (sMeth i fa appO) :=
  psImp (ps_expr (pe_bm F.plainAttrs_list F.slot_list_append F.type_list_append mt_append hl (pa_cons he pa_nil hs) hbase hfew hline hs hplain) hsw) fun Dn σ H ⟨M, H0, env, E, p⟩ => by
    have p : PostS X.K W ξ M H0 Dn (match env[i]? with | some (.ol _) => liftO (fa env) env (appO i env) | _ => .bad) := p
    split at p
    · rename_i xs hi
      obtain ⟨a, vs, e1, h0, hg, ha, z, r, ow⟩ := ownL E hi
      refine ⟨_, e1, .inl ⟨rfl, vs, SqL.of ha⟩, M, H0, env, E, liftE p fun d v H1 H2 g rv p1 => ?_⟩
      unfold appO at p1
      rw [hi] at p1
      simp only at p1
      split at p1
      · rename_i hz
        have r' := r.mono g.s0
        refine ⟨a, vs, v, rfl, rfl, g.s _ _ ha, by rw [r.length]; exact hz, ?_⟩
        exact p1 σ H1 _ (Same.refl _) (g.e.mutL hi e1 (by simp; omega) (r'.snoc rv))
      · exact p1.elim
    · exact p.elim
theorem ds_extend (hl : PE X (.Name l lpos) (tVar i)) (he : DE X W ξ true e fa)
    (hbase : attributeBase (.Name l lpos) "extend" X.env (eval (.Name l lpos) X.env) = eval (.Name l lpos) X.env := by rfl)
    (hfew : ((backTo p (starEach [e] X.env)).all (fun x => !x.1) && (backToKw p (keywordEach [] X.env)).all (fun x => x.1.isSome)
      && decide ([e].length + ([] : List Keyword).length + (if ([] : List Keyword).isEmpty then 0 else 1) < 30)) = true := by rfl)
    (hline : (apos.endLine == p.line) = true := by rfl) (hs : starEach (e :: []) X.env = (false, eval e X.env) :: starEach [] X.env := by rfl) (hplain : (backTo p (starEach [] X.env)).any (·.1) = false := by rfl)
    (hsw : swapsWith (.Call (.Attribute (.Name l lpos) "extend" apos) [e] [] p) none pos.line X.env = pure false := by rfl) :
    DS X W ξ (.Expr (.Call (.Attribute (.Name l lpos) "extend" apos) [e] [] p) pos) (sMeth i fa extO) :=
  psImp (ps_expr (pe_bm F.plainAttrs_list F.slot_list_extend F.type_list_extend mt_extend hl (pa_cons he pa_nil hs) hbase hfew hline hs hplain) hsw) fun Dn σ H ⟨M, H0, env, E, p⟩ => by
    have p : PostS X.K W ξ M H0 Dn (match env[i]? with | some (.ol _) => liftO (fa env) env (extO i env) | _ => .bad) := p
    split at p
    · rename_i xs hi
      obtain ⟨a, vs, e1, h0, hg, ha, z, r, ow⟩ := ownL E hi
      refine ⟨_, e1, .inl ⟨rfl, vs, SqL.of ha⟩, M, H0, env, E, liftE p fun d v H1 H2 g rv p1 => ?_⟩
      unfold extO at p1
      rw [hi] at p1
      split at p1
      · rename_i xs' ys he2
        cases he2
        split at p1
        · rename_i hz
          have r' := r.mono g.s0
          obtain ⟨b, ws, rfl, hb, rb⟩ := RepX.lst rv g.e.same
          have hbr : RepAll X.K H1 ws ys := rb
          refine ⟨a, b, vs, ws, rfl, rfl, g.s _ _ ha, hb, by rw [r.length, rb.length]; exact hz, ?_⟩
          exact p1 σ H1 _ (Same.refl _) (g.e.mutL hi e1 (by simp; omega) (r'.append hbr))
        · exact p1.elim
      · exact p1.elim
    · exact p.elim
/-- x = l.pop() -/
theorem ds_popTo {tg : Expr} {ts : List Nat} {T : D → En → R En} (hl : PE X (.Name l lpos) (tVar i)) (hg : DGt X ξ tg ts T)
    (hbase : attributeBase (.Name l lpos) "pop" X.env (eval (.Name l lpos) X.env) = eval (.Name l lpos) X.env := by rfl) (hline : (apos.endLine == p.line) = true := by rfl)
    (hs : swapsWithSole [tg] (.Call (.Attribute (.Name l lpos) "pop" apos) [] [] p) pos.line X.env = pure false := by rfl) (hw : swappedStores [tg] (.Call (.Attribute (.Name l lpos) "pop" apos) [] [] p) X.env = pure none := by rfl) (h1 : (assignEach [tg] X.env).map (·.2) = [assign tg X.env] := by rfl) :
    DS X W ξ (.Assign [tg] (.Call (.Attribute (.Name l lpos) "pop" apos) [] [] p) pos) (sPop i T) :=
  psImp (ps_asg (pe_bm0 F.plainAttrs_list F.slot_list_pop F.type_list_pop mt_pop hl hbase hline) hg hs hw h1) fun Dn σ H ⟨M, H0, env, E, p⟩ => by
    have p : PostS X.K W ξ M H0 Dn (popO i env (tgO T)) := p
    unfold popO at p
    split at p
    · rename_i xs hi
      split at p
      · rename_i d hd
        unfold tgO at p
        split at p
        · rename_i e2 ht
          obtain ⟨a, vs, e1, h0, hg, ha, z, r, ow⟩ := ownL E hi
          rw [List.getLast?_eq_getElem?] at hd
          obtain ⟨v, hv, rv⟩ := r.get hd
          refine ⟨_, e1, .inl ⟨rfl, vs, SqL.of ha⟩, a, vs, v, rfl, rfl, ha, by rw [r.length]; exact hv, ?_⟩
          have rd : RepAll X.K H0 vs.dropLast xs.dropLast := by
            rw [List.dropLast_eq_take, List.dropLast_eq_take, r.length]; exact r.take _
          have zd : xs.dropLast.length ≤ sizeLine := by rw [List.length_dropLast]; omega
          exact ⟨M, H0, _, d, e2, E.mutL hi e1 zd rd, rv, ht, fun σ' _ E' => p σ' H0 _ (Same.refl _) E'⟩
        · exact p.elim
      · exact p.elim
    · exact p.elim
end
end
end Dx

/-! The data layer, part L: the words of what a def computes; new lists; what the written part says. -/
namespace Dx
open PySem PySem.Spec PyProof.Rows L2

/-- a def of n parameters and m more names -/
def defR (n m : Nat) (G : En → Out) (ds : List D) : R D := if ds.length = n then runB m G ds else .bad

theorem roomU1 {A : Around} {k : Nat} (r : Room k A) : A.units + 1 < cLine := by have := r.un; omega
theorem roomU64 {A : Around} {k : Nat} (r : Room k A) : A.units + 64 < cLine := by have := r.un; omega
theorem roomU65 {A : Around} {k : Nat} (r : Room k A) : A.units + 65 < cLine := by have := r.un; omega

section
variable {X : Cx} {W : WX} {ξ : Str → Value} {e a b o : Expr} {es : List Expr} {c c1 c2 c3 : Bool} {pos p apos : Pos} {fa fb fo : En → R D} {Fs : En → R (List D)} {x : Str} {st : Stmt}
variable {K : PySem.W.Frag} {M : Fm ξ} {σ : L2.St} {env : En} {H0 H : Hp} {Q : VK}
theorem newF {vs : List V} {xs : List D} (E : EnvAt K M H0 H σ env) (p : PostF K W ξ M σ env H0 H Q (.ok xs)) (z : xs.length ≤ sizeLine) (r : RepAll K H0 vs xs) : ∀ q, H q = none → Q (.ref q) (upd H q (.lst vs)) := fun q hq => by
  obtain ⟨g2, n⟩ := E.newAt (o := .lst vs) hq
  exact p q vs _ _ g2 hq n ⟨z, r⟩
def revF : D → R (List D)
  | .lst xs => .ok xs.reverse
  | _ => .bad
theorem df_rev {k : Nat} {p1 p2 p3 : Pos} (ha : DE X W ξ c1 a fa) : DF X W ξ (.Subscript a (.Slice none none (some (.UnaryOp .USub (.Constant (.int 1) k p1) p2)) p3) pos) (eUn revF fa) :=
  peImp (pe_revL ha) fun σ H Q ⟨M, H0, env, E, p⟩ => ⟨M, H0, env, E, bindE wishF p fun d1 x H1 H2 g1 r1 p1 => by
    unfold revF at p1
    split at p1
    · have z1 := r1.lstLen
      obtain ⟨q1, vs, rfl, h1, r3⟩ := r1.lst g1.e.same
      exact ⟨_, _, rfl, SqL.of h1, newF g1.e p1 (by rw [List.length_reverse]; exact z1) r3.reverse⟩
    · exact p1.elim⟩
theorem ds_setFDG {i : Nat} {fs : En → R (List D)} (h : PS X st (tAsg (tDF X.K W ξ fs) (gName i))) : DS X W ξ st (sSetFD i fs) :=
  psImp h fun Dn σ H ⟨M, H0, env, E, p⟩ => ⟨M, H0, env, E, liftF p fun d q vs H0' H' g hq n r p => by
    obtain ⟨s0, E'⟩ := n.frz0 g.e
    exact p _ _ H' s0 (E'.set i (.lst upd_same r.1 (r.2.mono s0)))⟩
end

/-! ### what the written part says -/
structure FnF (K : PySem.W.Frag) (mg : Str → Option Value) (x : Str) (st : Stmt) (ps : List Str) where
  f : Addr
  fd : FuncData
  Fn : Fun K x x st f fd
  m : mg x = some (.ref f)
  b : Binds K fd ps []
structure ExF (K : PySem.W.Frag) (mg : Str → Option Value) (x : Str) where
  C : Addr
  q : PySem.W.excIn K C [.type "ValueError", .type "Exception", .type "BaseException", .type "object"] "ValueError.__new__" = true
  m : mg x = some (.ref C)
  k : PySem.W.keepIn K (.ref C) = true
  s : PySem.W.subIn K (.ref C) (.type "BaseException") = some true
  t : PySem.W.typeIn K (.ref C) = some (.type "type")
section
variable {P : Program} {w : World} {K : PySem.W.Frag} {mg : Str → Option Value} {base : Heap} {ξ : Str → Value}
theorem fn_bad {x qual : Str} {st : Stmt} {f : Addr} {fd : FuncData} {N ps : List Str} {k : Nat} (Fn : Fun K x qual st f fd) (S : FnScope N ps (defScope st)) : FnOk P w K mg base (L2.CX P w) (k + 1) f fd ps (spD K ξ fun _ => .bad) :=
  Fn.okX S (fun _ _ _ _ ⟨_, _, _, _, p⟩ => p.elim) fun _ _ _ _ _ _ _ _ _ ⟨_, _, _, _, p⟩ => p.elim
end
end Dx
namespace Dx
open PySem PySem.Spec PyProof.Rows L2
/-- the law's promise -/
def spLaw (K : PySem.W.Frag) : Sp := fun vs H Q _ => ∃ (a : Addr) (ns : List Int), vs = [.ref a] ∧ SqL K H a (ns.map V.int) ∧ ns.length ≤ 63 ∧ ∀ H', Q (.bl true) H'
theorem law_imp {K : PySem.W.Frag} {ξ : Str → Value} {F : List D → R D} (h : ∀ ns : List Int, ns.length ≤ 63 → F [.frz ns] = .ok (.bl true)) : ∀ vs H Q E, spLaw K vs H Q E → spD K ξ F vs H Q E := fun vs H Q E ⟨a, ns, e, hs, hl, q⟩ => by
  subst e
  refine ⟨[.frz ns], H, Same.refl _, .cons (.frz hs) .nil, ?_⟩
  rw [h ns hl]
  intro v H0' H' _ _ _ _ r
  cases r
  exact q H'
end Dx

/-! The data layer, part K3: dicts, isinstance. -/
namespace Dx
open PySem PySem.Spec PyProof.Rows L2
section
variable {X : Cx} {W : WX} {ξ : Str → Value} {e f a b o : Expr} {es : List Expr} {c c1 c2 c3 : Bool} {pos p apos cpos : Pos} {fa fb fo : En → R D} {Fs : En → R (List D)} {x : Str}
variable {K : PySem.W.Frag} {M : Fm ξ} {σ : L2.St} {env : En} {H0 H : Hp} {Q : VK}

/-! ### d.get(k), d.get(k, x) -/
def dictyR : D → R D
  | .dic kvs => .ok (.dic kvs)
  | _ => .bad
def getR (d y : D) : R D := match d with
  | .dic kvs => (match keyOf y with
    | some k => .ok ((valD kvs k).getD .non)
    | none => .bad)
  | _ => .bad
def get2R (d y z : D) : R D := match d with
  | .dic kvs => (match keyOf y with
    | some k => .ok ((valD kvs k).getD z)
    | none => .bad)
  | _ => .bad
def eGet (A B : En → R D) : En → R D := fun env => A env >>= dictyR >>= fun d => B env >>= fun y => getR d y
def eGet2 (A B C : En → R D) : En → R D := fun env => A env >>= dictyR >>= fun d => B env >>= fun y => C env >>= fun z => get2R d y z
theorem de_get1 (hu : X.A.units + 1 < cLine) (ho : DE X W ξ c o fo) (he : DE X W ξ c1 e fa)
    (h1 : attributeBase o "get" X.env (eval o X.env) = eval o X.env := by rfl)
    (h2 : ((backTo cpos (starEach [e] X.env)).all (fun x => !x.1) && (backToKw cpos (keywordEach [] X.env)).all (fun x => x.1.isSome)
      && decide (([e] : List Expr).length + ([] : List Keyword).length + (if ([] : List Keyword).isEmpty then 0 else 1) < 30)) = true := by rfl)
    (h3 : (apos.endLine == cpos.line) = true := by rfl) (h4 : backTo cpos (starEach [e] X.env) = [(false, eval e X.env)] := by rfl) :
    DE X W ξ true (.Call (.Attribute o "get" apos) [e] [] cpos) (eGet fo fa) :=
  peImp (pe_dget1 hu ho he ⟨h1, h2, h3, h4⟩) fun σ H Q ⟨M, H0, env, E, p⟩ => ⟨M, H0, env, E, by
    have p : PostE X.K W ξ M σ env true H0 H Q ((fo env >>= dictyR) >>= fun d => fa env >>= fun y => getR d y) := p
    rw [R.assoc] at p
    refine bindE wishE p fun d v H1 H2 g r p1 => ?_
    unfold dictyR at p1
    split at p1
    · rename_i kvs
      have p1 : PostE X.K W ξ M σ env true H1 H2 Q (fa env >>= fun y => getR (.dic kvs) y) := p1
      obtain ⟨q, vs, rfl, hq, rk⟩ := RepX.dic r g.e.same
      refine ⟨q, rfl, .inl ⟨vs, hq⟩, M, H1, env, g.e, bindE wishE p1 fun d2 y H3 H4 g2 r2 p2 => ?_⟩
      have p2 : PostE X.K W ξ M σ env true H3 H4 Q (match keyOf d2 with | some k => .ok ((valD kvs k).getD .non) | none => .bad) := p2
      split at p2
      · rename_i k hk
        obtain ⟨ey, _⟩ := keyOf_v hk r2
        refine ⟨valV vs k, by rw [ey]; exact DGetR (rdSame g2.s hq), ?_⟩
        have rk := rk.mono g2.s0
        rcases rk.val k with ⟨z1, z2⟩ | ⟨v, x', z1, z2, z3⟩
        · rw [z1]; rw [z2] at p2; exact post_ok g2.e p2 .non
        · rw [z1]; rw [z2] at p2; exact post_ok g2.e p2 z3
      · exact p2.elim
    · exact p1.elim⟩
theorem de_get2 (hu : X.A.units + 1 < cLine) (ho : DE X W ξ c o fo) (he : DE X W ξ c1 e fa) (hf : DE X W ξ true f fb)
    (h1 : attributeBase o "get" X.env (eval o X.env) = eval o X.env := by rfl)
    (h2 : ((backTo cpos (starEach [e, f] X.env)).all (fun x => !x.1) && (backToKw cpos (keywordEach [] X.env)).all (fun x => x.1.isSome)
      && decide (([e, f] : List Expr).length + ([] : List Keyword).length + (if ([] : List Keyword).isEmpty then 0 else 1) < 30)) = true := by rfl)
    (h3 : (apos.endLine == cpos.line) = true := by rfl) (h4 : backTo cpos (starEach [e, f] X.env) = [(false, eval e X.env), (false, eval f X.env)] := by rfl) :
    DE X W ξ true (.Call (.Attribute o "get" apos) [e, f] [] cpos) (eGet2 fo fa fb) :=
  peImp (pe_dget2 hu ho he hf ⟨h1, h2, h3, h4⟩) fun σ H Q ⟨M, H0, env, E, p⟩ => ⟨M, H0, env, E, by
    have p : PostE X.K W ξ M σ env true H0 H Q ((fo env >>= dictyR) >>= fun d => fa env >>= fun y => fb env >>= fun z => get2R d y z) := p
    rw [R.assoc] at p
    refine bindE wishE p fun d v H1 H2 g r p1 => ?_
    unfold dictyR at p1
    split at p1
    · rename_i kvs
      have p1 : PostE X.K W ξ M σ env true H1 H2 Q (fa env >>= fun y => fb env >>= fun z => get2R (.dic kvs) y z) := p1
      obtain ⟨q, vs, rfl, hq, rk⟩ := RepX.dic r g.e.same
      refine ⟨q, rfl, .inl ⟨vs, hq⟩, M, H1, env, g.e, bindE wishE p1 fun d2 y H3 H4 g2 r2 p2 => ⟨M, H3, env, g2.e, bindE wishE p2 fun d3 z H5 H6 g3 r3 p3 => ?_⟩⟩
      have p3 : PostE X.K W ξ M σ env true H5 H6 Q (match keyOf d2 with | some k => .ok ((valD kvs k).getD d3) | none => .bad) := p3
      split at p3
      · rename_i k hk
        obtain ⟨ey, _⟩ := keyOf_v hk r2
        refine ⟨valV vs k, by rw [ey]; exact DGetR (rdSame g3.s (rdSame g2.s hq)), ?_⟩
        have rk := (rk.mono g2.s0).mono g3.s0
        rcases rk.val k with ⟨z1, z2⟩ | ⟨v, x', z1, z2, z3⟩
        · rw [z1]; rw [z2] at p3; exact post_ok g3.e p3 r3
        · rw [z1]; rw [z2] at p3; exact post_ok g3.e p3 z3
      · exact p3.elim
    · exact p1.elim⟩

/-! ### d[k] = v, the dict a def's own -/
def putD (kvs : List (Key × D)) (k : Key) (v : D) : List (Key × D) :=
  if (kvs.any fun kv => decide (kv.1 = k)) = true then kvs.map (fun kv => if kv.1 = k then (kv.1, v) else kv) else kvs ++ [(k, v)]
theorem RepKv.any {vs : List (Key × V)} {xs : List (Key × D)} (r : RepKv K H vs xs) (k : Key) : (vs.any fun kv => decide (kv.1 = k)) = (xs.any fun kv => decide (kv.1 = k)) := by
  induction vs generalizing xs with
  | nil => cases r; rfl
  | cons v vs ih => cases r with | cons h r t => rw [List.any_cons, List.any_cons, ih t]
theorem RepKv.append {vs ws : List (Key × V)} {xs ys : List (Key × D)} (r : RepKv K H vs xs) (q : RepKv K H ws ys) : RepKv K H (vs ++ ws) (xs ++ ys) := by
  induction vs generalizing xs with
  | nil => cases r; exact q
  | cons v vs ih => cases r with | cons h a t => exact .cons h a (ih t)
theorem RepKv.put {vs : List (Key × V)} {xs : List (Key × D)} {k : Key} {v : V} {d : D} (r : RepKv K H vs xs) (hk : keyOk k = true) (q : Rep K H v d) : RepKv K H (putK vs k v) (putD xs k d) := by
  have e := r.any k
  unfold putK putD
  rw [e]
  split
  · clear e
    rename_i h
    clear h
    induction vs generalizing xs with
    | nil => cases r; exact .nil
    | cons w vs ih =>
      cases r with
      | @cons k' w' _ y' ys h a t =>
        rw [List.map_cons, List.map_cons]
        by_cases z : k' = k
        · rw [if_pos z, if_pos z]; exact .cons h q (ih t)
        · rw [if_neg z, if_neg z]; exact .cons h a (ih t)
  · exact r.append (.cons hk q .nil)
def putO (i : Nat) (y v : D) (env : En) : Out := match env[i]?, keyOf y with
  | some (.od kvs), some k => if kvs.length < sizeLine then .nx (env.set i (.od (putD kvs k v))) else .bad
  | _, _ => .bad
def sPut (i : Nat) (B V : En → R D) : En → Out := fun env => match env[i]? with
  | some (.od _) => liftO (V env) env fun v => liftO (B env) env fun y => putO i y v env
  | _ => .bad
theorem ds_put {i : Nat} {l : Str} {lpos pos' : Pos} (hu : X.A.units + 1 < cLine) (hl : PE X (.Name l lpos) (tVar i)) (he : DE X W ξ c1 e fa) (hv : DE X W ξ true f fb)
    (hs : swapsWith f (some (.Subscript (.Name l lpos) e pos')) pos.line X.env = pure false := by rfl) :
    DS X W ξ (.Assign [.Subscript (.Name l lpos) e pos'] f pos) (sPut i fa fb) :=
  psImp (ps_dput hu hl he hv hs) fun Dn σ H ⟨M, H0, env, E, p⟩ => by
    have p : PostS X.K W ξ M H0 Dn (match env[i]? with | some (.od _) => liftO (fb env) env fun v => liftO (fa env) env fun y => putO i y v env | _ => .bad) := p
    split at p
    · rename_i kvs hi
      obtain ⟨a, vs, e1, h0, hg, ha, r⟩ := E.slot i _ hi
      have ow : Owns σ env i a := ⟨e1, _, hi, rfl⟩
      refine ⟨M, H0, env, E, liftE p fun d v H1 H2 g rv p1 => ⟨_, e1, M, H1, env, g.e, liftE p1 fun d2 y H3 H4 g2 ry p2 => ?_⟩⟩
      unfold putO at p2
      split at p2
      · rename_i kvs' k hi' hk
        rw [hi] at hi'
        cases hi'
        split at p2
        · rename_i hz
          obtain ⟨ey, ok⟩ := keyOf_v hk ry
          have s := g.s.trans g2.s
          have r' := (r.mono g.s0).mono g2.s0
          have rv' : Rep X.K H3 v d := Rep.mono g2.s0 rv
          have h0' : H3 a = none := by
            have := g.n a (by rw [ha]; intro z; cases z) h0
            exact g2.n a (by rw [g.s _ _ ha]; intro z; cases z) this
          refine ⟨a, _, rfl, by rw [ey]; exact DPut.k (s _ _ ha) (by rw [r'.length]; exact hz), ?_⟩
          refine p2 σ H3 _ (Same.refl _) (g2.e.mutate ow rfl ?_)
          exact ⟨a, _, rfl, h0', hg, upd_same, r'.put ok rv'⟩
        · exact p2.elim
      · exact p2.elim
    · exact p.elim

/-! ### isinstance(x, T) -/
def tyD : D → String
  | .non => "NoneType"
  | .bl _ => "bool"
  | .int _ => "int"
  | .str _ => "str"
  | .tup _ => "tuple"
  | .lst _ => "list"
  | .dic _ => "dict"
  | .frz _ => "list"
  | .opq => "list"
def isTy (T : String) (d : D) : Bool := tyD d == T || (T == "int" && tyD d == "bool")
def isFrz : D → Bool
  | .frz _ => true
  | .opq => true
  | _ => false
def isiR (T : String) (d : D) : R D := if (T = "int" ∨ T = "bool" ∨ T = "str" ∨ T = "tuple") ∧ isFrz d = false then .ok (.bl (isTy T d)) else .bad
theorem kit_b (K : PySem.W.Frag) (T : String) (d : D) (h : T = "int" ∨ T = "bool" ∨ T = "str" ∨ T = "tuple") : PySem.W.kitOne K (.type (tyD d)) (.type T) = some (isTy T d) := by
  rcases h with rfl | rfl | rfl | rfl <;> cases d <;> (show _ = _) <;> first | rfl | kernel_rfl | with_unfolding_all rfl
theorem tyx {v : V} {d : D} (E : EnvAt K M H0 H σ env) (hf : isFrz d = false) (r : RepX c K H0 H v d) : TyX K H v (.type (tyD d)) := by
  have r := r.rep E.same
  cases r with
  | non => exact .base .non
  | bl b => exact .base (.bl b)
  | int i => exact .base (.int i)
  | str s _ => exact .base (.str s)
  | tup h _ _ => exact .base (.tup h)
  | lst h _ _ => exact .base (.lst h)
  | dic h _ =>
    rcases h with h | ⟨o, h⟩
    · exact .base (.dK h)
    · exact .fDict h
  | frz h => cases hf
  | opq a => cases hf
theorem de_isi {T : String} {t : Str} {p2 : Pos} (hm : X.mg "isinstance" = none) (ht : X.mg t = none) (hv : bootBuiltins t = some (.type T)) (he : DE X W ξ c e fa) (hg : Gl X "isinstance" := by rfl) (hgt : Gl X t := by rfl)
    (hnt : t ≠ "__name__" := by decide) (hdt : (t == ("__debug__" : Str)) = false := by decide)
    (hs1 : starEach [.Name t p2] X.env = (false, eval (.Name t p2) X.env) :: starEach [] X.env := by rfl)
    (hs : starEach (e :: [.Name t p2]) X.env = (false, eval e X.env) :: starEach [.Name t p2] X.env := by rfl) (hpl : (backTo pos (starEach [.Name t p2] X.env)).any (·.1) = false := by rfl) :
    DE X W ξ true (.Call (.Name "isinstance" p) [e, .Name t p2] [] pos) (eUn (isiR T) fa) := by
  have hT : PE X (.Name t p2) (tC (.ty T)) := pe_bltn hgt ht hv rfl hnt hdt
  exact peImp (pe_callB call_isi hg hm (by decide +kernel) (pa_cons he (pa_cons hT pa_nil hs1) hs) (by decide) (by decide) hs hpl) fun σ H Q ⟨M, H0, env, E, p⟩ => ⟨M, H0, env, E, bindE wishE p fun d v H1 H2 g r p1 => by
    unfold isiR at p1
    split at p1
    · rename_i hT
      exact ⟨v, .ty T, .type (tyD d), .type T, isTy T d, rfl, .ty T, tyx g.e hT.2 r, kit_b _ T d hT.1, post_ok g.e p1 (.bl _)⟩
    · exact p1.elim⟩
end
end Dx
namespace Dx
open PySem PySem.Spec PyProof.Rows L2
section
variable {X : Cx} {W : WX} {ξ : Str → Value} {pos : Pos} {x : Str}
/-! ### names of the module -/
theorem de_gint {i : Int} (h : ∃ t, X.mg x = some (.int i t)) (hg : Gl X x := by rfl) (hd : (x == ("__debug__" : Str)) = false := by decide) : DE X W ξ true (.Name x pos) (eC (.int i)) := by
  obtain ⟨t, hm⟩ := h
  exact de_c (pe_glob (v := .int i) hg hm ⟨t, rfl⟩ hd) fun _ => .int i
theorem de_gstr {z : Str} (h : ∃ t, X.mg x = some (.str z t)) (hz : sOk z = true := by decide +kernel) (hg : Gl X x := by rfl) (hd : (x == ("__debug__" : Str)) = false := by decide) : DE X W ξ true (.Name x pos) (eC (.str z)) := by
  obtain ⟨t, hm⟩ := h
  exact de_c (pe_glob (v := .str z) hg hm ⟨t, rfl⟩ hd) fun _ => .str z hz
end
end Dx

/-! The data layer, part K4: reversed, pairs sorted. -/
namespace Dx
open PySem PySem.Spec PyProof.Rows L2
section
variable {X : Cx} {W : WX} {ξ : Str → Value} {e a b o tg : Expr} {es : List Expr} {c c1 c2 c3 : Bool} {pos p : Pos} {fa fb fo : En → R D} {Fs : En → R (List D)} {x : Str}
variable {K : PySem.W.Frag} {M : Fm ξ} {σ : L2.St} {env : En} {H0 H : Hp} {Q : VK}

/-! ### for x in reversed(l) -/
def revI : D → R (List D)
  | .lst xs => .ok xs.reverse
  | _ => .bad
theorem di_rev (hm : X.mg "reversed" = none) (he : DE X W ξ c e fa) (hg : Gl X "reversed" := by rfl) (hs : starEach [e] X.env = (false, eval e X.env) :: starEach [] X.env := by rfl) :
    DI X W ξ c tg (.Call (.Name "reversed" p) [e] [] pos) (eUn revI fa) :=
  piImp (RT.pi_revA hg hm he hs) fun σ H R' ⟨M, H0, env, E, p⟩ => ⟨M, H0, env, E, bindE wishI p fun d v H1 H2 g r p1 => by
    unfold revI at p1
    split at p1
    · have z := r.lstLen
      obtain ⟨a, vs, rfl, h1, h2, r2⟩ := r.lstAt g.e.same
      refine ⟨a, vs, rfl, .inl ⟨SqL.of h2, p1 _ H1 H2 (.refl g.e) ⟨by rw [List.length_reverse]; exact z, _, _, by rw [List.length_reverse, ← r2.length]; exact walk_rev (xs := vs), fun H3 s => SqL.of (s _ _ h1), fun i H3 x H4 d _ hd y => ?_⟩⟩⟩
      have hi : i < vs.reverse.length := by
        have := (List.getElem?_eq_some_iff.mp hd).1
        rw [List.length_reverse] at this ⊢
        rw [r2.length]; exact this
      obtain ⟨v, hv, rv⟩ := r2.reverse.get hd
      have := y.2
      rw [List.getElem?_reverse (by rw [List.length_reverse] at hi; exact hi)] at hv
      rw [hv] at this
      cases this
      exact .inl ⟨y.1, rv⟩
    · exact p1.elim⟩

/-! ### sorted(..) of pairs -/
def pairsOf : List D → Option (List (Int × Int))
  | [] => some []
  | .tup [.int i, .int j] :: xs => (pairsOf xs).map ((i, j) :: ·)
  | _ :: _ => none
def pairD0 (p : Int × Int) : D := .tup [.int p.1, .int p.2]
theorem pairsOf_map (ps : List (Int × Int)) : pairsOf (ps.map pairD0) = some ps := by
  induction ps with
  | nil => rfl
  | cons p ps ih =>
    rw [List.map_cons]
    unfold pairD0 pairsOf
    unfold pairD0 at ih
    rw [ih]
    rfl
theorem pairsOf_eq : ∀ {xs : List D} {ps : List (Int × Int)}, pairsOf xs = some ps → xs = ps.map pairD0
  | [], _, h => by cases h; rfl
  | x :: xs, ps, h => by
    unfold pairsOf at h
    split at h
    · cases h; rename_i e; cases e
    · rename_i i j ys e
      injection e with e1 e2
      subst e1 e2
      obtain ⟨qs, hq, rfl⟩ := Option.map_eq_some_iff.mp h
      rw [pairsOf_eq hq]
      rfl
    · cases h
def leP (p q : Int × Int) : Bool := decide (p.1 < q.1) || (decide (p.1 = q.1) && decide (p.2 ≤ q.2))
abbrev sortP : List (Int × Int) → List (Int × Int) := sortBy leP
theorem leP_tot (x y : Int × Int) (h : leP x y = false) : leP y x = true := by
  unfold leP at *
  simp only [Bool.or_eq_false_iff, Bool.and_eq_false_iff, decide_eq_false_iff_not, Bool.or_eq_true, Bool.and_eq_true, decide_eq_true_eq] at *
  omega
theorem leP_tr (x y z : Int × Int) (h : leP x y = true) (h' : leP y z = true) : leP x z = true := by
  unfold leP at *
  simp only [Bool.or_eq_true, Bool.and_eq_true, decide_eq_true_eq] at *
  omega
theorem leP_anti (x y : Int × Int) (h : leP x y = true) (h' : leP y x = true) : x = y := by
  unfold leP at *
  simp only [Bool.or_eq_true, Bool.and_eq_true, decide_eq_true_eq] at *
  apply Prod.ext <;> omega
def pairV (H : Hp) (v : V) : Int × Int := match v with
  | .ref t => (match H t with
    | some (.tup [.int i, .int j]) => (i, j)
    | _ => (0, 0))
  | _ => (0, 0)
theorem rep_pair {p : Int × Int} {v : V} (r : Rep K H v (pairD0 p)) : ∃ t, v = .ref t ∧ H t = some (.tup [.int p.1, .int p.2]) ∧ pairV H v = p := by
  unfold pairD0 at r
  cases r with
  | @tup t vs _ h _ r =>
    cases r with
    | cons a r =>
      cases r with
      | cons b r =>
        cases r
        cases a
        cases b
        exact ⟨t, rfl, h, by show (match H t with | some (HO.tup [V.int i, V.int j]) => (i, j) | _ => (0, 0)) = p; rw [h]⟩
theorem reps_pair : ∀ {ps : List (Int × Int)} {vs : List V}, RepAll K H vs (ps.map pairD0) → vs.map (pairV H) = ps ∧ ∀ v ∈ vs, ∃ t, v = .ref t ∧ H t = some (.tup [.int (pairV H v).1, .int (pairV H v).2])
  | [], _, r => by cases r; exact ⟨rfl, fun _ h => by cases h⟩
  | p :: ps, _, r => by
    rw [List.map_cons] at r
    cases r with
    | @cons v vs _ _ a r =>
      obtain ⟨t, e1, e2, e3⟩ := rep_pair a
      obtain ⟨q1, q2⟩ := reps_pair r
      refine ⟨by rw [List.map_cons, e3, q1], fun w hw => ?_⟩
      rcases List.mem_cons.mp hw with e | hw
      · subst e; exact ⟨t, e1, by rw [e3]; exact e2⟩
      · exact q2 w hw
theorem pair_reps (hz : 2 ≤ sizeLine) : ∀ {vs : List V}, (∀ v ∈ vs, ∃ t, v = .ref t ∧ H t = some (.tup [.int (pairV H v).1, .int (pairV H v).2])) → RepAll K H vs ((vs.map (pairV H)).map pairD0)
  | [], _ => .nil
  | v :: vs, h => by
    obtain ⟨t, e1, e2⟩ := h v List.mem_cons_self
    refine .cons ?_ (pair_reps hz fun w hw => h w (List.mem_cons_of_mem _ hw))
    unfold pairD0
    rw [e1] at e2 ⊢
    exact .tup e2 hz (.cons (.int _) (.cons (.int _) .nil))
def sortedPR : List D → R D
  | [.lst xs] => (match pairsOf xs with
    | some ps => .ok (.lst ((sortP ps).map pairD0))
    | none => .bad)
  | _ => .bad
theorem cb_sortedP : CbD X W ξ (.builtin "sorted") sortedPR := ⟨_, cr_sortedPO, fun {c M σ env H0 H Q vs ds} E r p => by
  unfold sortedPR at p
  split at p
  · obtain ⟨v, rfl, r0⟩ := x1 r
    have z := RepX.lstLen r0
    obtain ⟨a, ws, rfl, h, q⟩ := RepX.lst r0 E.same
    split at p
    · rename_i ps hn
      rw [pairsOf_eq hn] at q z
      obtain ⟨q1, q2⟩ := reps_pair q
      have q2' : ∀ x ∈ ws, ∃ t, x = .ref t ∧ H t = some (.tup [.int (pairV H0 x).1, .int (pairV H0 x).2]) := fun x hx => by
        obtain ⟨t, e1, e2⟩ := q2 x hx
        exact ⟨t, e1, E.same _ _ e2⟩
      refine ⟨a, ws, pairV H0, rfl, SqL.of h, q2', fun ys p' hs hb => ?_⟩
      have e : ys.map (pairV H0) = sortP ps := by
        refine sorted_one (r := fun a b => leP a b = true) leP_anti (((hb.perm.map (pairV H0)).trans (q1 ▸ .refl _)).trans (sortBy_perm leP ps).symm) ?_ (sortBy_sorted leP_tot leP_tr ps)
        rw [List.pairwise_map]
        refine hs.imp fun {x y} hxy => ?_
        have hxy : SrtO.lexB (pairV H0 y) (pairV H0 x) = false := hxy
        have nl : ¬ ((pairV H0 y).1 < (pairV H0 x).1 ∨ ((pairV H0 y).1 = (pairV H0 x).1 ∧ (pairV H0 y).2 < (pairV H0 x).2)) := fun z => by
          rw [SrtO.lexB_iff.mpr z] at hxy; cases hxy
        unfold leP
        simp only [Bool.or_eq_true, Bool.and_eq_true, decide_eq_true_eq]
        omega
      have rr : RepAll X.K H0 ys ((sortP ps).map pairD0) := by
        rw [← e]
        exact pair_reps (by rw [sizeLine_eq]; omega) fun v hv => q2 v (hb.perm.mem_iff.mp hv)
      refine new_lst E p ?_ rr p'
      rw [List.length_map] at z ⊢
      rw [(sortBy_perm leP ps).length_eq]; exact z
    · exact p.elim
  · exact p.elim⟩
end
end Dx

/-! The data layer, part K5: dict displays, list(dict), sorted(dict), list(range(n)), pop of a dict. -/
namespace Dx
open PySem PySem.Spec PyProof.Rows L2
section
variable {X : Cx} {W : WX} {ξ : Str → Value} {e a b o tg k v : Expr} {es vs : List Expr} {ks : List (Option Expr)} {c c1 c2 c3 : Bool} {pos p apos : Pos} {fa fb fo : En → R D} {Fs : En → R (List D)} {Fp : En → R (List (Key × D))} {x : Str}
variable {K : PySem.W.Frag} {M : Fm ξ} {σ : L2.St} {env : En} {H0 H : Hp} {Q : VK}

/-! ### {k: v, ..} -/
def PostP (K : PySem.W.Frag) (W : WX) (ξ : Str → Value) (M : Fm ξ) (σ : L2.St) (env : En) (H0 H : Hp) (Q : List (V × V) → Hp → Prop) : R (List (Key × D)) → Prop
  | .ok ds => ∀ kvs H0' H', Gr K M σ env H0 H H0' H' → RepKv K H0' kvs ds → Q (kvs.map fun kv => (kV kv.1, kv.2)) H'
  | .exc x => ∀ H0' H', Gr K M σ env H0 H H0' H' → W (ξ x) none σ H'
  | .bad => False
theorem PostP.weak {x : R (List (Key × D))} {Q : List (V × V) → Hp → Prop} {H0' H' : Hp} (g : Gr K M σ env H0 H H0' H') (p : PostP K W ξ M σ env H0 H Q x) : PostP K W ξ M σ env H0' H' Q x := by
  cases x with
  | ok d => exact fun v H02 H2 g2 r => p v H02 H2 (g.trans g2) r
  | exc x => exact fun H02 H2 g2 => p H02 H2 (g.trans g2)
  | bad => exact p
theorem wishP {Q : List (V × V) → Hp → Prop} : Wish K W ξ M σ env (fun H0 H => PostP K W ξ M σ env H0 H Q) := ⟨PostP.weak, fun p => p, fun p => p⟩
theorem bindP {β : Type} {P : Hp → Hp → R β → Prop} (w : Wish K W ξ M σ env P) {x : R (List (Key × D))} {k : List (Key × D) → R β} {Q1 : List (V × V) → Hp → Prop} (p : P H0 H (x >>= k)) (h : ∀ a kvs H0' H', Gr K M σ env H0 H H0' H' → RepKv K H0' kvs a → P H0' H' (k a) → Q1 (kvs.map fun kv => (kV kv.1, kv.2)) H') : PostP K W ξ M σ env H0 H Q1 x := by
  cases x with
  | ok d => exact fun v H0' H' g r => h d v H0' H' g r (w.weak g p)
  | exc x => exact fun H0' H' g => w.exc p H0' H' g
  | bad => exact w.bad p
/-- the pairs of a display -/
structure DPs (X : Cx) (W : WX) (ξ : Str → Value) (pos : Pos) (keys : List (Option Expr)) (values : List Expr) (F : En → R (List (Key × D))) : Prop where
  ex : ∃ trs, PPs X pos keys values trs ∧ ∀ (σ : L2.St) (H : Hp) (Q : List (V × V) → Hp → Prop) (M : Fm ξ) (H0 : Hp) (env : En), EnvAt X.K M H0 H σ env → PostP X.K W ξ M σ env H0 H Q (F env) → tPairs trs σ H Q
def pNil : En → R (List (Key × D)) := fun _ => .ok []
def kvR (y v : D) (r : List (Key × D)) : R (List (Key × D)) := match keyOf y with
  | some k => .ok ((k, v) :: r)
  | none => .bad
def pCons (A B : En → R D) (F : En → R (List (Key × D))) : En → R (List (Key × D)) := fun env => A env >>= fun y => B env >>= fun v => F env >>= fun r => kvR y v r
theorem dps_nil : DPs X W ξ pos [] [] pNil := ⟨[], pps_nil, fun σ H Q M H0 env E p => p [] H0 H (.refl E) .nil⟩
theorem dps_cons (hk : DE X W ξ c1 k fa) (hv : DE X W ξ true v fb) (hr : DPs X W ξ pos ks vs Fp) : DPs X W ξ pos (some k :: ks) (v :: vs) (pCons fa fb Fp) := by
  obtain ⟨trs, h, q⟩ := hr
  refine ⟨_, pps_cons hk hv h, fun σ H Q M H0 env E p => ?_⟩
  have p : PostP X.K W ξ M σ env H0 H Q (fa env >>= fun y => fb env >>= fun v => Fp env >>= fun r => kvR y v r) := p
  refine ⟨M, H0, env, E, bindE wishP p fun y vy H1 H2 g1 r1 p1 => ⟨M, H1, env, g1.e, bindE wishP p1 fun d vd H3 H4 g2 r2 p2 => q σ H4 _ M H3 env g2.e (bindP wishP p2 fun ds kvs H5 H6 g3 r3 p3 => ?_)⟩⟩
  unfold kvR at p3
  split at p3
  · rename_i k hk'
    obtain ⟨ey, ok⟩ := keyOf_v hk' r1
    subst ey
    exact p3 ((k, vd) :: kvs) H5 H6 (.refl g3.e) (.cons ok (Rep.mono g3.s0 r2) r3)
  · exact p3.elim
def mergeD (more : List (Key × D)) : List (Key × D) := more.foldl (fun acc kv => putD acc kv.1 kv.2) []
theorem merge_rep {kvs : List (Key × V)} {ds : List (Key × D)} {us : List (Key × V)} {es : List (Key × D)} (r : RepKv K H kvs ds) (r0 : RepKv K H us es) : RepKv K H (kvs.foldl (fun acc kv => putK acc kv.1 kv.2) us) (ds.foldl (fun acc kv => putD acc kv.1 kv.2) es) := by
  induction kvs generalizing ds us es with
  | nil => cases r; exact r0
  | cons v vs ih => cases r with | cons h a t => rw [List.foldl_cons, List.foldl_cons]; exact ih t (r0.put h a)
def dispR (ds : List (Key × D)) : R (List (Key × D)) := if ds.length ≤ 15 then .ok (mergeD ds) else .bad
def kDisp (F : En → R (List (Key × D))) : En → R (List (Key × D)) := fun env => F env >>= dispR
theorem dk_disp (h : DPs X W ξ pos ks vs Fp) (h0 : ks ≠ [] := by intro z; cases z) (hall : ks.all (·.isSome) = true := by rfl) (hl : ks.length = vs.length := by rfl) (h15 : ks.length ≤ 15 := by decide) : DK X W ξ (.Dict ks vs pos) (kDisp Fp) := by
  obtain ⟨trs, h, q⟩ := h
  refine peImp (pe_disp h hall hl h0 h15) fun σ H Q ⟨M, H0, env, E, p⟩ q0 hq => ?_
  have p : PostK X.K W ξ M σ env H0 H Q (Fp env >>= dispR) := p
  obtain ⟨g, n⟩ := E.newAt (o := .dK []) hq
  have back : ∀ {H0' H' : Hp}, Gr X.K (M.plus q0) σ env H0 (upd H q0 (.dK [])) H0' H' → Gr X.K M σ env H0 H H0' H' := fun {H0' H'} g2 =>
    ⟨g2.s0, g.s.trans g2.s, g2.e.minus, fun a h1 h2 => g2.n a (fun z => h1 (g.s.free z)) h2⟩
  refine q σ _ _ (M.plus q0) H0 env (g.e.plus n) ?_
  cases hF : Fp env with
  | bad => rw [hF] at p; exact p.elim
  | exc x => rw [hF] at p; exact fun H0' H' g2 => p H0' H' (back g2)
  | ok ds =>
    rw [hF] at p
    intro kvs H1 H2 g2 r
    have p : PostK X.K W ξ M σ env H0 H Q (if ds.length ≤ 15 then .ok (mergeD ds) else .bad) := p
    split at p
    · rename_i hz
      have hat : H2 q0 = some (.dK []) := g2.s _ _ n.at_
      have h00 : H1 q0 = none := (g2.e.nogo q0 (.inr rfl)).1
      refine ⟨hat, kvs, rfl, by rw [r.length]; exact hz, ?_⟩
      have gb := back g2
      refine p q0 (mergeK [] kvs) H1 _ ⟨gb.s0, fun b u e => ?_, (g2.e.app n.g _).minus, gb.n⟩ hq ⟨upd_same, h00, n.g, n.n, n.w⟩ (merge_rep r .nil)
      rw [upd_ne (ne_of_none e hq)]
      exact gb.s _ _ e
    · exact p.elim

/-! ### list(d), sorted(d) -/
def keyD : Key → D
  | .inl i => .int i
  | .inr s => .str s
def keysI : List (Key × D) → Option (List Int)
  | [] => some []
  | (.inl i, _) :: r => (keysI r).map (i :: ·)
  | _ :: _ => none
def listDR : List D → R D
  | [.dic kvs] => if kvs.length ≤ sizeLine then .ok (.lst (kvs.map fun kv => keyD kv.1)) else .bad
  | _ => .bad
def sortedDIR : List D → R D
  | [.dic kvs] => (match keysI kvs with
    | some ks => if ks.length < 64 then .ok (.lst ((sortI ks).map .int)) else .bad
    | none => .bad)
  | _ => .bad
theorem keys_rep : ∀ {vs : List (Key × V)} {kvs : List (Key × D)}, RepKv K H vs kvs → RepAll K H0 (vs.map fun kv => kV kv.1) (kvs.map fun kv => keyD kv.1)
  | _, _, .nil => .nil
  | _, _, .cons (k := k) h _ t => .cons (by cases k with
    | inl i => exact .int i
    | inr s => exact .str s h) (keys_rep t)
theorem keysI_eq : ∀ {vs : List (Key × V)} {kvs : List (Key × D)} {ks : List Int}, RepKv K H vs kvs → keysI kvs = some ks → vs.map (·.1) = ks.map Sum.inl
  | _, _, _, .nil, h => by cases h; rfl
  | _, _, ks, .cons (k := k) _ _ t, h => by
    cases k with
    | inl i =>
      obtain ⟨q, hq, rfl⟩ := Option.map_eq_some_iff.mp h
      rw [List.map_cons, List.map_cons, keysI_eq t hq]
    | inr s => cases h
theorem cb_listDK (hc : X.calm = true := by rfl) : CbD X W ξ (.type "list") listDR := ⟨_, call_listD hc, fun {c M σ env H0 H Q vs ds} E r p => by
  unfold listDR at p
  split at p
  · obtain ⟨v, rfl, r0⟩ := x1 r
    split at p
    · rename_i hz
      obtain ⟨a, ws, rfl, h, q⟩ := RepX.dic r0 E.same
      exact ⟨a, ws, rfl, h, new_lst E p (by rw [List.length_map]; exact hz) (keys_rep q)⟩
    · exact p.elim
  · exact p.elim⟩
theorem cb_sortedDI (hc : X.calm = true := by rfl) : CbD X W ξ (.builtin "sorted") sortedDIR := ⟨_, call_sortedDI hc, fun {c M σ env H0 H Q vs ds} E r p => by
  unfold sortedDIR at p
  split at p
  · obtain ⟨v, rfl, r0⟩ := x1 r
    split at p
    · rename_i ks hk
      split at p
      · rename_i h64
        obtain ⟨a, ws, rfl, h, q⟩ := RepX.dic r0 E.same
        refine ⟨a, ws, ks, rfl, h, keysI_eq q hk, h64, fun ns' p' hp hs => ?_⟩
        have e := sortI_one hp hs
        rw [← e] at p
        refine new_lst E p ?_ (repAll_ints ns') p'
        rw [List.length_map, hp.length_eq, sizeLine_eq]; omega
      · exact p.elim
    · exact p.elim
  · exact p.elim⟩

/-! ### list(range(n)) -/
def rangeLR : D → R (List D)
  | .int n => if 0 ≤ n ∧ n ≤ 16777216 then .ok ((List.range n.toNat).map fun i => .int (i : Nat)) else .bad
  | _ => .bad
theorem rg_rep : ∀ (n : Nat), RepAll K H (rgV 0 (n : Nat)) ((List.range n).map fun i => .int (i : Nat)) := fun n => by
  have e : rgV 0 (n : Nat) = (List.range n).map fun i => V.int (i : Nat) := by
    unfold rgV
    have : ((n : Int) - 0).toNat = n := by omega
    rw [this]
    exact List.map_congr_left fun i _ => by rw [Int.zero_add]
  rw [e]
  induction List.range n with
  | nil => exact .nil
  | cons i l ih => exact .cons (.int _) ih
theorem df_listRg {p1 p2 q1 q2 : Pos} (hm : X.mg "list" = none) (hm2 : X.mg "range" = none) (ha : DE X W ξ c a fa) (hc : X.calm = true := by rfl) (hg : Gl X "list" := by rfl) (hg2 : Gl X "range" := by rfl)
    (na : starEach [a] X.env = (false, eval a X.env) :: starEach [] X.env := by rfl)
    (nb : starEach [.Call (.Name "range" p2) [a] [] q2] X.env = (false, eval (.Call (.Name "range" p2) [a] [] q2) X.env) :: starEach [] X.env := by rfl) :
    DF X W ξ (.Call (.Name "list" p1) [.Call (.Name "range" p2) [a] [] q2] [] q1) (eUn rangeLR fa) :=
  peImp (pe_listRg hc hg hm (prg_1 hg2 hm2 ha na) nb) fun σ H Q ⟨M, H0, env, E, p⟩ => ⟨M, H0, env, E, bindE wishF p fun d v H1 H2 g r p1 => by
    unfold rangeLR at p1
    split at p1
    · rename_i n
      split at p1
      · rename_i hz
        refine ⟨n, r.int, ?_, ?_⟩
        · exact RgOk.of_le (by omega) hz.2 (by omega) hz.1
        · have e : rgV 0 n = rgV 0 (n.toNat : Nat) := by
            unfold rgV
            have : ((n.toNat : Int) - 0).toNat = (n - 0).toNat := by omega
            rw [this]
          rw [e]
          exact newF g.e p1 (by rw [List.length_map, List.length_range, sizeLine_eq]; omega) (rg_rep _)
      · exact p1.elim
    · exact p1.elim⟩
end
end Dx
namespace Dx
open PySem PySem.Spec PyProof.Rows L2
section
variable {X : Cx} {W : WX} {ξ : Str → Value} {e : Expr} {c : Bool} {pos p apos : Pos} {fa : En → R D}
variable {K : PySem.W.Frag} {M : Fm ξ} {σ : L2.St} {env : En} {H0 H : Hp}
/-! ### d.pop(k), the dict a def's own -/
def dropD (kvs : List (Key × D)) (k : Key) : List (Key × D) := kvs.filter fun kv => decide (kv.1 ≠ k)
theorem RepKv.drop {vs : List (Key × V)} {xs : List (Key × D)} {k : Key} (r : RepKv K H vs xs) : RepKv K H (dropK vs k) (dropD xs k) := by
  unfold dropD dropK
  induction vs generalizing xs with
  | nil => cases r; exact .nil
  | cons v vs ih =>
    cases r with
    | @cons k' v' _ y ys h a t =>
      rw [List.filter_cons, List.filter_cons]
      by_cases z : k' = k
      · rw [if_neg (by simp [z]), if_neg (by simp [z])]; exact ih t
      · rw [if_pos (by simp [z]), if_pos (by simp [z])]; exact .cons h a (ih t)
def popKO (i : Nat) (y : D) (env : En) : Out := match env[i]?, keyOf y with
  | some (.od kvs), some k => (match valD kvs k with
    | some _ => .nx (env.set i (.od (dropD kvs k)))
    | none => .bad)
  | _, _ => .bad
def sPopK (i : Nat) (B : En → R D) : En → Out := fun env => match env[i]? with
  | some (.od _) => liftO (B env) env fun y => popKO i y env
  | _ => .bad
theorem ds_popK {i : Nat} {l : Str} {lpos : Pos} (hl : PE X (.Name l lpos) (tVar i)) (he : DE X W ξ c e fa)
    (h1 : attributeBase (.Name l lpos) "pop" X.env (eval (.Name l lpos) X.env) = eval (.Name l lpos) X.env := by rfl)
    (h2 : ((backTo p (starEach [e] X.env)).all (fun x => !x.1) && (backToKw p (keywordEach [] X.env)).all (fun x => x.1.isSome)
      && decide (([e] : List Expr).length + ([] : List Keyword).length + (if ([] : List Keyword).isEmpty then 0 else 1) < 30)) = true := by rfl)
    (h3 : (apos.endLine == p.line) = true := by rfl) (h4 : backTo p (starEach [e] X.env) = [(false, eval e X.env)] := by rfl)
    (hsw : swapsWith (.Call (.Attribute (.Name l lpos) "pop" apos) [e] [] p) none pos.line X.env = pure false := by rfl) :
    DS X W ξ (.Expr (.Call (.Attribute (.Name l lpos) "pop" apos) [e] [] p) pos) (sPopK i fa) :=
  psImp (ps_expr (pe_dpop1 hl he ⟨h1, h2, h3, h4⟩) hsw) fun Dn σ H ⟨M, H0, env, E, p⟩ => by
    have p : PostS X.K W ξ M H0 Dn (match env[i]? with | some (.od _) => liftO (fa env) env fun y => popKO i y env | _ => .bad) := p
    split at p
    · rename_i kvs hi
      obtain ⟨a, vs, e1, h0, hg, ha, r⟩ := E.slot i _ hi
      have ow : Owns σ env i a := ⟨e1, _, hi, rfl⟩
      refine ⟨_, e1, a, rfl, ?_, M, H0, env, E, liftE p fun d v H1 H2 g rv p1 => ?_⟩
      · exact .inl ⟨vs, .inl ha⟩
      · unfold popKO at p1
        split at p1
        · rename_i kvs' k hi' hk
          rw [hi] at hi'
          cases hi'
          split at p1
          · rename_i x hx
            obtain ⟨ey, ok⟩ := keyOf_v hk rv
            have r' := r.mono g.s0
            rcases r'.val k with ⟨z1, z2⟩ | ⟨v', x', z1, z2, z3⟩
            · rw [z2] at hx; cases hx
            · refine ⟨vs, k, v', g.s _ _ ha, ey, z1, ?_⟩
              have h0' : H1 a = none := by
                exact g.n a (by rw [ha]; intro z; cases z) h0
              refine p1 σ H1 _ (Same.refl _) (g.e.mutate ow rfl ?_)
              exact ⟨a, _, rfl, h0', hg, upd_same, r'.drop⟩
          · exact p1.elim
        · exact p1.elim
    · exact p.elim
end
end Dx
namespace Dx
open PySem PySem.Spec PyProof.Rows L2
section
variable {X : Cx} {W : WX} {ξ : Str → Value} {pos p : Pos} {k : Nat} {f : Addr} {fd : FuncData} {ps : List Str} {F : List D → R D} {x : Str}
/-! ### f() -/
theorem de_call0 (G : FnOk X.prog X.w X.K X.mg X.base (L2.CX X.prog X.w) k f fd ps (spD X.K ξ F)) (tk : Takes X W) (hr : Room k X.A) (hm : X.mg x = some (.ref f)) (hk : PySem.W.keepIn X.K (.ref f) = true) (hb : Binds X.K fd ps [])
    (hg : Gl X x := by rfl) (hdb : (x == ("__debug__" : Str)) = false := by decide) :
    DE X W ξ true (.Call (.Name x p) [] [] pos) (eUn F aNil) :=
  ⟨fun pins s σ H Q I ⟨M, H0, env, E, p1⟩ => by
    refine wpAny_Call_Name_kw (ld_glob I hg hm ?_ hdb)
    exact PySem.W.callWith_K0 I.kIn hk (run_fnS (us := []) (vs := []) G hr hb (passAt tk σ) I .nil ⟨[], H0, E.same, .nil, callPost (H0' := H0) (H' := H) E p1⟩)⟩
end
end Dx

/-! The data layer: dict(pairs). -/
namespace Dx
open PySem PySem.Spec PyProof.Rows L2
def kvsOf : List D → Option (List (Key × D))
  | [] => some []
  | .tup [k, v] :: xs => match keyOf k with
    | some key => (kvsOf xs).map ((key, v) :: ·)
    | none => none
  | _ => none
section
variable {K : PySem.W.Frag} {H0 H : Hp}
theorem key_rep {k : D} {key : Key} {v : V} (r : Rep K H0 v k) (h : keyOf k = some key) : v = kV key ∧ keyOk key = true := by
  cases k with
  | int i => cases h; cases r; exact ⟨rfl, rfl⟩
  | str s => cases h; cases r with | str _ h => exact ⟨rfl, h⟩
  | _ => cases h
theorem pairs_rep (s : Same H0 H) : ∀ {vs : List V} {xs : List D} {kvs : List (Key × D)}, RepAll K H0 vs xs → kvsOf xs = some kvs → ∃ (ps : List Addr) (ws : List (Key × V)), vs = ps.map V.ref ∧ Paired (fun p kv => SqT K H p [kV kv.1, kv.2]) ps ws ∧ RepKv K H0 ws kvs
  | _, _, kvs, .nil, h => by cases h; exact ⟨[], [], rfl, .nil, .nil⟩
  | _, x :: xs, kvs, .cons r t, h => by
    unfold kvsOf at h
    split at h
    · rename_i e; cases e
    · rename_i k v xs' e
      cases e
      split at h
      · rename_i key hk
        obtain ⟨q, hq, rfl⟩ := Option.map_eq_some_iff.mp h
        obtain ⟨ps, ws, e1, e2, e3⟩ := pairs_rep s t hq
        cases r with
        | tup ha z rr =>
          cases rr with
          | cons r1 rr =>
            cases rr with
            | cons r2 rr =>
              cases rr
              obtain ⟨e4, hko⟩ := key_rep r1 hk
              subst e4
              exact ⟨_ :: ps, (key, _) :: ws, by rw [e1]; rfl, .cons (SqT.of (s _ _ ha)) e2, .cons hko r2 e3⟩
      · cases h
    · cases h
end
def dictPR : List D → R D
  | [.lst xs] => (match kvsOf xs with
    | some kvs => .ok (.dic (mergeD kvs))
    | none => .bad)
  | _ => .bad
section
variable {X : Cx} {W : WX} {ξ : Str → Value}
theorem cb_dictP (hc : X.calm = true := by rfl) : CbD X W ξ (.type "dict") dictPR := ⟨_, call_dictP hc, fun {c M σ env H0 H Q vs ds} E r p => by
  unfold dictPR at p
  split at p
  · obtain ⟨v, rfl, r0⟩ := x1 r
    split at p
    · rename_i kvs hk
      obtain ⟨a, ws, rfl, h, q⟩ := RepX.lst r0 E.same
      obtain ⟨ps, us, e1, e2, e3⟩ := pairs_rep E.same q hk
      subst e1
      exact ⟨a, ps, us, rfl, .of h, e2, post_new E p fun q0 hq => .dic (.inl upd_same) ((merge_rep e3 .nil).mono (same_upd (E.same.free hq)))⟩
    · exact p.elim
  · exact p.elim⟩
end
end Dx

/-! Sets of like keys: how they grow, how they are made of a list or a text. -/
namespace Sx
open PySem PySem.Spec PyProof.Rows L2
section
variable {P : Program} {w : World} {κ : Type} [DecidableEq κ]
/-- an entry that holds the key its value tells -/
structure Gd (knd : PySem.KeyKind P w κ) (rd : Value → κ) (x : Int × Value) : Prop where
  is : knd.is (rd x.2) x.2 = true
  hs : x.1 = knd.hash (rd x.2)
  sc : x.2.scannable = true
variable {knd : PySem.KeyKind P w κ} {rd : Value → κ}
def SetG (knd : PySem.KeyKind P w κ) (rd : Value → κ) (hp : Heap) (a : Addr) (S : κ → Bool) (n : Nat) : Prop :=
  ∃ ob el epo tb, hp.get? a = some ob ∧ ob.ExactSet ∧ ob.data = .set el epo tb ∧ (∀ x ∈ el.toList, Gd knd rd x) ∧ (el.toList.map fun x => rd x.2).Nodup ∧ (∀ k, S k = true ↔ k ∈ el.toList.map fun x => rd x.2) ∧
    el.size < scanBound ∧ tb.fits el.size = true ∧ el.size = n ∧ Ris tb.place.toList ∧ (w.params.followText "set-order" = true ∨ tb.led = true)
theorem SetG.at {hp hp' : Heap} {a : Addr} {S : κ → Bool} {n : Nat} (g : SetG knd rd hp a S n) (k : ∀ o, hp.get? a = some o → hp'.get? a = some o) : SetG knd rd hp' a S n := by
  obtain ⟨ob, el, epo, tb, h1, r⟩ := g
  exact ⟨ob, el, epo, tb, k ob h1, r⟩
theorem SetG.congr {hp : Heap} {a : Addr} {S S' : κ → Bool} {n m : Nat} (g : SetG knd rd hp a S n) (e : ∀ k, S' k = S k) (en : n = m) : SetG knd rd hp a S' m := by
  have : S' = S := funext e
  subst this en; exact g
theorem gd_is {x : Int × Value} (g : Gd knd rd x) (k : κ) : knd.is k x.2 = true ↔ rd x.2 = k := ⟨fun q => knd.inj _ _ _ g.is q, fun q => q ▸ g.is⟩
theorem gd_els {l : List (Int × Value)} (g : ∀ x ∈ l, Gd knd rd x) : ElemsOf knd l := fun x hx => ⟨⟨_, (g x hx).is, (g x hx).hs⟩, (g x hx).sc⟩
theorem gd_mem {l : List (Int × Value)} (g : ∀ x ∈ l, Gd knd rd x) (k : κ) : (k ∈ l.map fun x => rd x.2) ↔ ∃ x ∈ l, knd.is k x.2 = true := by
  rw [List.mem_map]
  exact ⟨fun ⟨x, h1, h2⟩ => ⟨x, h1, (gd_is (g x h1) k).mpr h2⟩, fun ⟨x, h1, h2⟩ => ⟨x, h1, (gd_is (g x h1) k).mp h2⟩⟩
variable {A : Around} {E : Value → Shared → Prop} {s : Shared} {a : Addr} {S : κ → Bool} {n : Nat}
theorem add_tail {rl : Bool → Sem Unit} (hrl : ∀ (b : Bool) (s₁ : Shared) (Z : Unit → Shared → Prop), Z () s₁ → wpAny (model P w) A (rl b) Z E s₁)
    {ob : Obj} {el : Array (Int × Value)} {epo : Nat} {tb : SetTable} (h1 : s.heap.get? a = some ob) (h2 : ob.ExactSet) (h3 : ob.data = .set el epo tb)
    {el1 : Array (Int × Value)} {tb2 : SetTable} {S' : κ → Bool} (g1 : ∀ x ∈ el1.toList, Gd knd rd x) (nd1 : (el1.toList.map fun x => rd x.2).Nodup) (m1 : ∀ k, S' k = true ↔ k ∈ el1.toList.map fun x => rd x.2)
    (b1 : el1.size < scanBound) (f2 : tb2.fits el1.size = true) (r2 : Ris tb2.place.toList) (l2 : w.params.followText "set-order" = true ∨ tb2.led = true) {wd : Bool} {Z : Option Bool → Shared → Prop}
    (fin : ∀ hp', Heap.SameBut a s.heap hp' → SetG knd rd hp' a S' el1.size → Z (some true) { s with heap := hp' }) :
    wpAny (model P w) A (do
        storeSet a el1 tb2
        if (!wd && tb2.tooFull) = true then do
            rl (relayAll tb2 el1 (SetTable.grown el1.size)).2.2
            storeSet a (relayAll tb2 el1 (SetTable.grown el1.size)).1 (relayAll tb2 el1 (SetTable.grown el1.size)).2.1
            pure (some true)
          else pure (some true)) Z E s := by
  refine wpAny_bind (wpAny_storeSet_of h1 h3 ?_ (fits_of_scanBound b1))
  have at1 := store_at (es' := el1) (t' := tb2) h1 h3
  have sb := Heap.SameBut.update s.heap a (Obj.putSet el1 tb2)
  split
  · have q1 := relayAll_perm tb2 el1 (SetTable.grown el1.size)
    have q2 := relayAll_fits tb2 el1 (SetTable.grown el1.size)
    have q3 := relayAll_ris tb2 el1 (SetTable.grown el1.size)
    have q4 := relayAll_led tb2 el1 (SetTable.grown el1.size)
    generalize relayAll tb2 el1 (SetTable.grown el1.size) = Y at q1 q2 q3 q4 ⊢
    obtain ⟨el2, tb3, gv⟩ := Y
    dsimp only at q1 q2 q3 q4 ⊢
    have sz2 : el2.size = el1.size := by rw [← Array.length_toList, q1.length_eq, Array.length_toList]
    have b2 : el2.size < scanBound := by rw [sz2]; exact b1
    refine wpAny_bind (hrl _ _ _ ?_)
    refine wpAny_bind (wpAny_storeSet_of at1 rfl ?_ (fits_of_scanBound b2))
    have at2 := store_at (es' := el2) (t' := tb3) at1 rfl
    have pm : (el2.toList.map fun x => rd x.2).Perm (el1.toList.map fun x => rd x.2) := q1.map _
    exact wpAny_pure (fin _ (sb.trans (Heap.SameBut.update _ a _)) ⟨_, el2, _, tb3, at2, h2, rfl, fun x hx => g1 x (q1.mem_iff.mp hx), pm.nodup_iff.mpr nd1, fun k => (m1 k).trans pm.mem_iff.symm, b2, q2, sz2, q3, l2.imp id fun z => by rw [q4]; exact z⟩)
  · exact wpAny_pure (fin _ sb ⟨_, el1, _, tb2, at1, h2, rfl, g1, nd1, m1, b1, f2, rfl, r2, l2⟩)
theorem add_hashed {k : κ} {v : Value} {Z : Bool → Shared → Prop} (gk : Gd knd rd (knd.hash k, v)) (ek : rd v = k) (g : SetG knd rd s.heap a S n) (room : n + 1 < scanBound)
    (fin : ∀ hp', Heap.SameBut a s.heap hp' → SetG knd rd hp' a (fun j => S j || decide (j = k)) (if S k = true then n else n + 1) → Z (!S k) { s with heap := hp' }) :
    wpAny (model P w) A (setAddHashed a v (knd.hash k)) Z E s := by
  obtain ⟨ob, el, epo, tb, h1, h2, h3, g0, nd, mm, b0, f0, e0, r0, l0⟩ := g
  have kv : knd.is k v = true := by have := gk.is; rw [ek] at this; exact this
  have vs : v.scannable = true := gk.sc
  have els : ElemsOf knd el.toList := gd_els g0
  unfold setAddHashed setAddHashedIn
  refine wpAny_holding (wpAny_bind (wpAny_setState_of h1 h3 f0 ?_))
  dsimp only
  rw [byScan_of vs b0 els]
  simp only [↓reduceIte]
  unfold setAddByScan
  refine wpAny_bind ?_
  refine wpAny_bind (wpAny_rule ?_)
  refine wpAny_bind (wpAny_setScan_of kv h1 h3 f0 els ?_)
  cases fi : List.findIdx? (fun x => knd.is k x.2) el.toList with
  | some j =>
    dsimp only
    obtain ⟨hj, pj, _⟩ := List.findIdx?_eq_some_iff_getElem.mp fi
    have Sk : S k = true := (mm k).mpr ((gd_mem g0 k).mpr ⟨el.toList[j], List.getElem_mem hj, pj⟩)
    refine wpAny_pure (wpAny_pure ?_)
    have q := fin s.heap (Heap.SameBut.refl a s.heap) ⟨ob, el, epo, tb, h1, h2, h3, g0, nd, fun i => by
      rw [Bool.or_eq_true, decide_eq_true_eq, ← mm i]
      exact ⟨fun z => z.elim id (fun e => e ▸ Sk), .inl⟩, b0, f0, by rw [if_pos Sk]; exact e0, r0, l0⟩
    rw [Sk] at q
    exact q
  | none =>
    dsimp only
    have nk : k ∉ el.toList.map fun x => rd x.2 := fun z => by
      obtain ⟨x, hx, q⟩ := (gd_mem g0 k).mp z
      have c := List.findIdx?_eq_none_iff.mp fi x hx
      rw [q] at c; cases c
    have Sk : S k = false := by
      cases q : S k with
      | false => rfl
      | true => exact absurd ((mm k).mp q) nk
    have rules : ∀ (b : Bool) {s₁ : Shared} {Z' : Unit → Shared → Prop}, Z' () s₁ → wpAny (model P w) A (match b with | true => rule "set.scan.the-table-gave-way" | false => pure ()) Z' E s₁ :=
      fun b s₁ Z' q => by cases b <;> first | exact wpAny_pure q | exact wpAny_rule q
    have p1 := layNew_perm tb el (knd.hash k) v
    have p2 := layNew_fits tb el (knd.hash k) v
    have p3 := layNew_ris tb el (knd.hash k) v r0
    have p4 := layNew_led tb el (knd.hash k) v
    generalize layNew tb el (knd.hash k) v = Y at p1 p2 p3 p4 ⊢
    obtain ⟨el1, tb1, wd, gv⟩ := Y
    dsimp only at p1 p2 p3 p4 ⊢
    rw [Array.toList_push] at p1
    have pc : el1.toList.Perm ((knd.hash k, v) :: el.toList) := p1.trans (List.perm_append_singleton _ _)
    have pk : (el1.toList.map fun x => rd x.2).Perm (k :: el.toList.map fun x => rd x.2) := by
      have := pc.map fun x : Int × Value => rd x.2
      rw [List.map_cons] at this
      simp only [ek] at this
      exact this
    have g1 : ∀ x ∈ el1.toList, Gd knd rd x := fun x hx => by
      rcases List.mem_cons.mp (pc.mem_iff.mp hx) with z | z
      · rw [z]; exact gk
      · exact g0 x z
    have nd1 := pk.nodup_iff.mpr (List.nodup_cons.mpr ⟨nk, nd⟩)
    have m1 : ∀ i, (S i || decide (i = k)) = true ↔ i ∈ el1.toList.map fun x => rd x.2 := fun i => by
      rw [Bool.or_eq_true, decide_eq_true_eq, mm i, pk.mem_iff, List.mem_cons]
      exact Or.comm
    have sz1 : el1.size = n + 1 := by rw [← Array.length_toList, pc.length_eq, List.length_cons, Array.length_toList, e0]
    have b1 : el1.size < scanBound := by rw [sz1]; exact room
    have l1 : w.params.followText "set-order" = true ∨ tb1.led = true := l0.imp id fun z => by rw [p4]; exact z
    have fin1 : ∀ hp', Heap.SameBut a s.heap hp' → SetG knd rd hp' a (fun j => S j || decide (j = k)) el1.size → Z true { s with heap := hp' } := fun hp' sb g' => by
      have q := fin hp' sb
      rw [Sk] at q
      rw [sz1] at g'
      exact q g'
    refine wpAny_bind (rules _ ?_)
    split
    · refine wpAny_bind ?_
      rw [hashByValue_scannable 8 vs]
      refine wpAny_pure ?_
      refine add_tail ?_ h1 h2 h3 g1 nd1 m1 b1 ?_ ?_ ?_ ?_
      · intro b s₁ Z' q; cases b <;> first | exact wpAny_pure q | exact wpAny_rule q
      · first | (split <;> first | exact p2 | exact SetTable.fits_plain_off p2) | exact p2
      · first | (split <;> exact p3) | exact p3
      · first | (split <;> exact l1) | exact l1
      · intro hp' sb g'; dsimp only; exact wpAny_pure (fin1 hp' sb g')
    · refine wpAny_bind (wpAny_pure ?_)
      simp only [↓reduceIte]
      refine add_tail ?_ h1 h2 h3 g1 nd1 m1 b1 p2 p3 l1 ?_
      · intro b s₁ Z' q; cases b <;> first | exact wpAny_pure q | exact wpAny_rule q
      · intro hp' sb g'; dsimp only; exact wpAny_pure (fin1 hp' sb g')
end
/-- the keys met so far, and how many -/
def metS {κ : Type} [DecidableEq κ] (ks : List κ) : κ → Bool := fun k => decide (k ∈ ks)
def metN {κ : Type} [DecidableEq κ] : List κ → Nat
  | [] => 0
  | k :: ks => if k ∈ ks then metN ks else metN ks + 1
section
variable {P : Program} {w : World} {κ : Type} [DecidableEq κ] {knd : PySem.KeyKind P w κ} {rd : Value → κ}
variable {A : Around} {R : Result → Shared → Prop} {I : Addr} {fp wr : List Addr} {G : Array GenState → Array GenState → Prop} {n : Nat} {Pv : Nat → Value → Prop} {St : Nat → Shared → Prop}
theorem metN_le : ∀ ks : List κ, metN ks ≤ ks.length
  | [] => Nat.le_refl _
  | k :: ks => by unfold metN; have := metN_le ks; split <;> simp <;> omega
/-- the loop of set.update, over anything that is walked -/
theorem upd_loop (W : WalksS P w A.in1 I fp wr G n Pv St) (a : Addr) (ha : a ∉ fp) (ks : List κ) (hl : ks.length = n)
    (hv : ∀ (i : Nat) (v : Value) (k : κ), Pv i v → ks[i]? = some k → Gd knd rd (knd.hash k, v) ∧ rd v = k ∧ knd.is k v = true) (hb : n + 1 < scanBound) :
    ∀ (m i : Nat) (s : Shared), n - i = m → i ≤ n → St i s → SetG knd rd s.heap a (metS (ks.take i).reverse) (metN (ks.take i).reverse) →
      (∀ s', Moved (a :: wr) G s s' → SetG knd rd s'.heap a (metS ks.reverse) (metN ks.reverse) → R (.ok (.ret .none)) s') →
      codeAny (model P w) A (.builtin "set.update.loop" ⟨[.ref a, .ref I], []⟩) R s := by
  have aw : a ∉ wr := fun z => ha (W.sub _ z)
  have sub : ∀ b ∈ wr, b ∈ a :: wr := fun b z => List.mem_cons_of_mem _ z
  intro m
  induction m with
  | zero =>
    intro i s hm hi st g fin
    have : i = n := by omega
    subst this
    refine codeAny_builtin F.entry_set_update_loop ?_
    rw [Around.under_plainId F.plain_set_update_loop _]
    show wpAny _ A.in1 (pyNext (.ref I) >>= _) _ _ s
    refine wpAny_bind (W.done s _ _ st fun s' mv => ?_)
    show wpAny _ A.in1 (ret Value.none) _ _ s'
    refine wpAny_pure (fin s' (mv.mono sub) ?_)
    rw [List.take_of_length_le (Nat.le_of_eq hl)] at g
    exact g.at fun o e => mv.heap a o aw e
  | succ m ih =>
    intro i s hm hi st g fin
    have lt : i < n := by omega
    refine codeAny_builtin F.entry_set_update_loop ?_
    rw [Around.under_plainId F.plain_set_update_loop _]
    show wpAny _ A.in1 (pyNext (.ref I) >>= _) _ _ s
    refine wpAny_bind (W.item i s _ _ lt st fun v s' pv st' mv => ?_)
    have hk : ks[i]? = some ks[i] := List.getElem?_eq_getElem (by omega)
    obtain ⟨gk, ek, ik⟩ := hv i v _ pv hk
    have g' : SetG knd rd s'.heap a (metS (ks.take i).reverse) (metN (ks.take i).reverse) := g.at fun o e => mv.heap a o aw e
    show wpAny _ A.in1 (holding [v] (setAdd a v) >>= _) _ _ s'
    refine wpAny_bind (wpAny_holding ?_)
    unfold setAdd
    refine wpAny_holding ?_
    refine wpAny_bind (knd.pyHash ik ?_)
    have few : metN (ks.take i).reverse + 1 < scanBound := by
      have := metN_le (ks.take i).reverse
      rw [List.length_reverse, List.length_take] at this; omega
    refine add_hashed (s := { s' with toks := s'.toks + 1 }) gk ek g' few fun hp' sb g2 => ?_
    have tk : (ks.take (i + 1)).reverse = ks[i] :: (ks.take i).reverse := by
      rw [List.take_succ, hk]; simp
    have g3 : SetG knd rd hp' a (metS (ks.take (i + 1)).reverse) (metN (ks.take (i + 1)).reverse) := g2.congr (fun k => by
      rw [tk]; unfold metS
      by_cases h1 : k = ks[i] <;> by_cases h2 : k ∈ (ks.take i).reverse <;> simp [h1, h2]) (by
      rw [tk]
      show (if decide (ks[i] ∈ (ks.take i).reverse) = true then metN (ks.take i).reverse else metN (ks.take i).reverse + 1) = if ks[i] ∈ (ks.take i).reverse then metN (ks.take i).reverse else metN (ks.take i).reverse + 1
      by_cases h2 : ks[i] ∈ (ks.take i).reverse
      · rw [if_pos h2, if_pos (decide_eq_true h2)]
      · rw [if_neg h2, if_neg (fun z => h2 (of_decide_eq_true z))])
    refine wpAny_pure ⟨plainId_quiet F.plain_set_update_loop _, ih (i + 1) _ (by omega) lt (W.frame _ s' _ _ st' (Nat.le_succ _) fun b hb' o e => ?_) g3 fun s'' mv2 g4 => ?_⟩
    · rw [sb.2 b (fun z : b = a => ha (by rw [← z]; exact hb'))]; exact e
    · refine fin s'' (Moved.trans W.gtrans ((mv.mono sub).then_heap (Nat.le_succ _) fun b o hb' e => ?_) mv2) g4
      rw [sb.2 b (fun z : b = a => hb' (by rw [z]; exact List.mem_cons_self))]; exact e
end
end Sx

set_option maxHeartbeats 8000000
/-! Sets made of a list. -/
namespace Sx
open PySem PySem.Spec PyProof.Rows L2
section
variable {P : Program} {w : World} {κ : Type} [DecidableEq κ] {knd : PySem.KeyKind P w κ} {rd : Value → κ}
variable {A : Around} {E : Value → Shared → Prop} {s : Shared}
/-- an empty set, as the world lays it -/
def setObj0 (w : World) : Obj := { cls := .type "set", dict := none, data := .set #[] 0 (.fresh 0 0 (!w.params.followText "set-order")) }
theorem setG_fresh (hp : Heap) : SetG knd rd (hp.push (setObj0 w)) hp.objs.size (metS []) (metN ([] : List κ)) :=
  ⟨_, #[], 0, _, Heap.get?_push_size _ rfl, ⟨rfl, rfl, rfl⟩, rfl, (fun e he => by simp at he), (by simp), (fun k => by simp [metS]), (by decide), (by rfl), rfl, List.Pairwise.nil, by
    show _ ∨ (!w.params.followText "set-order") = true
    cases w.params.followText "set-order"
    · exact .inr rfl
    · exact .inl rfl⟩
theorem code_new1 (v : Value) {Z : Value → Shared → Prop} (fin : Z (.ref s.heap.objs.size) { s with heap := s.heap.push (setObj0 w) }) :
    codeAny (model P w) A (.call (.builtin "set.__new__") ⟨[.type "set", v], []⟩) (wants Z E) s := by
  refine codeAny_of_tree ?_
  show wpAny _ A.in1 (checkBuiltinCall "set.__new__" ⟨[.type "set", v], []⟩ >>= fun _ => again (.builtin "set.__new__" ⟨[.type "set", v], []⟩)) _ _ s
  refine wpAny_bind (wpAny_of_eq (F.newCall_set_1 v) (wpAny_pure ⟨plainId_quiet F.plain_set_new _, codeAny_builtin F.entry_set_new ?_⟩))
  rw [Around.under_plainId F.plain_set_new _]
  unfold Builtin.«set.__new__» Builtin.Frozenset.newClass
  have sub := sub_set_self
  obtain ⟨hp, gs, dr, tk, os⟩ := s
  dsimp only
  wp_walk
  refine wpAny_askSetting (wpAny_pure ?_)
  dsimp only
  simp only [newObj]
  refine wpAny_bind (wpAny_alloc (wpAny_pure ?_))
  exact wpAny_pure fin
/-- what an own init of a new set leaves -/
structure Filled (knd : PySem.KeyKind P w κ) (rd : Value → κ) (s0 : Shared) (ks : List κ) (s' : Shared) : Prop where
  ex : ∃ hp tk, s' = { s0 with heap := hp, toks := tk } ∧ SetG knd rd hp s0.heap.objs.size (metS ks.reverse) (metN ks.reverse) ∧ ∀ b o, b < s0.heap.objs.size → s0.heap.get? b = some o → hp.get? b = some o
theorem call_set1 {v : Value} {ks : List κ} {Z : Value → Shared → Prop}
    (init : ∀ (A1 : Around) (Q1 : PySem.Fin → Shared → Prop) (E1 : Value → Shared → Prop), A1.handled = A.handled → (∀ s', Filled knd rd s ks s' → Q1 (.done (.ret .none)) s') → wpAny (model P w) A1 (Builtin.«set.__init__» ⟨[.ref s.heap.objs.size, v], []⟩) Q1 E1 { s with heap := s.heap.push (setObj0 w) })
    (fin : ∀ s', Filled knd rd s ks s' → Z (.ref s.heap.objs.size) s') : wpAny (model P w) A (call (.type "set") [v]) Z E s := by
  obtain ⟨c, tl, mro⟩ := F.called_set.mro
  have made := F.called_set.made
  have sub := F.called_set.sub
  refine wpAny_call (codeAny_of_tree ?_)
  show wpAny _ _ (callAny (.type "set") _) _ _ _
  refine wpAny_pure ⟨Code.quiet_builtin _ (by decide +kernel), codeAny_builtin F.entry_type_call ?_⟩
  rw [Around.under_plain (weight_type_call_type "set" [v] []) rfl]
  have nt := F.called_set.notType
  have cc := F.called_set.canCreate
  have tc := F.typeCall_set_1 v
  repeat (any_goals (first | assumption | wp_step))
  refine codeAny_mono (code_new1 v (E := E) (Z := fun ob s₁ => ob = .ref s.heap.objs.size ∧ s₁ = { s with heap := s.heap.push (setObj0 w) }) ⟨rfl, rfl⟩) fun r s₁ hr => ?_
  cases r with
  | error e => exact hr
  | ok fl =>
    cases fl with
    | ret ob =>
      obtain ⟨rfl, rfl⟩ := hr
      have at0 : (s.heap.push (setObj0 w)).get? s.heap.objs.size = some (setObj0 w) := Heap.get?_push_size _ rfl
      have ty : Shared.TypeIs { s with heap := s.heap.push (setObj0 w) } (.ref s.heap.objs.size) "set" := ⟨_, at0, rfl⟩
      have li := F.called_set.init.lookup
      have bi := F.called_set.init.bind (.ref s.heap.objs.size)
      repeat (any_goals (first | assumption | wp_step))
      refine codeAny_mono (codeAny_call_builtin (R := wants (fun r s₂ => r = .none ∧ Filled knd rd s ks s₂) E) F.called_set.init.plain F.entry_set_init (check_set_init_1 ty ?_)) fun r₂ s₂ hr₂ => ?_
      · exact init A.in1.in1 _ _ (by simp) fun s' hf => ⟨rfl, hf⟩
      · cases r₂ with
        | error e => exact hr₂
        | ok fl₂ =>
          cases fl₂ with
          | ret r =>
            obtain ⟨rfl, hf⟩ := hr₂
            repeat (any_goals (first | assumption | wp_step))
            exact fin _ hf
          | _ => exact hr₂.elim
    | _ => exact hr.elim
/-- a list of values that are keys -/
theorem call_setL {l : Addr} {items : Array Value} {ks : List κ} {Z : Value → Shared → Prop} (hh : A.handled = none) (hl : s.heap.IsList l items) (hn : ks.length = items.size)
    (hv : ∀ (i : Nat) (v : Value) (k : κ), items[i]? = some v → ks[i]? = some k → Gd knd rd (knd.hash k, v) ∧ rd v = k ∧ knd.is k v = true) (hb : items.size + 1 < scanBound)
    (fin : ∀ s', Filled knd rd s ks s' → Z (.ref s.heap.objs.size) s') : wpAny (model P w) A (call (.type "set") [.ref l]) Z E s := by
  refine call_set1 (ks := ks) (fun A1 Q1 E1 hA done => ?_) fin
  obtain ⟨ob, h1, h2, cn, h3⟩ := hl
  obtain ⟨c1, d1, da, sl⟩ := ob
  simp only at h2 h3
  subst h2; subst h3
  have at0 : (s.heap.push (setObj0 w)).get? s.heap.objs.size = some (setObj0 w) := Heap.get?_push_size _ rfl
  have at1 : (s.heap.push (setObj0 w)).get? l = some { cls := .type "list", dict := d1, data := .seq items cn, slots := sl } := Heap.get?_push_of_some _ h1
  have s1 := F.sub_list_set
  have s2 := F.sub_list_frozenset
  have ne : (Value.type "list" == Value.type "dict") = false := by decide
  have isl : (s.heap.push (setObj0 w)).IsList l items := ⟨_, at1, rfl, cn, rfl⟩
  unfold Builtin.«set.__init__» noKeywords Builtin.Frozenset.updateFrom
  generalize hIt : pyIter = It
  wp_walk
  subst hIt
  refine wpAny_pyIter_list isl ?_
  refine wpAny_bind (wpAny_runValue ?_)
  have lt : l < s.heap.objs.size := Heap.lt_size h1
  have sz : (s.heap.push (setObj0 w)).objs.size = s.heap.objs.size + 1 := size_push' _ _
  have h3 : A1.in1.handled = none := by simp [hA, hh]
  have neI : l ≠ (s.heap.push (setObj0 w)).objs.size := by rw [sz]; exact Nat.ne_of_lt (Nat.lt_succ_of_lt lt)
  have nfp : s.heap.objs.size ∉ [(s.heap.push (setObj0 w)).objs.size, l] := by
    rw [sz]; simp only [List.mem_cons, List.mem_singleton, List.not_mem_nil, or_false, not_or]; exact ⟨Nat.ne_of_lt (Nat.lt_succ_self _), Nat.ne_of_gt lt⟩
  refine upd_loop (knd := knd) (rd := rd) (Walks.list h3 _ l neI items).toS s.heap.objs.size nfp ks hn hv hb items.size 0 _ (by omega) (Nat.zero_le _) ⟨⟨_, Heap.get?_push_size _ rfl, rfl, rfl⟩, isl.push _⟩ ?g0 ?end_
  case g0 => exact (setG_fresh (P := P) (knd := knd) (rd := rd) s.heap).at fun o e => Heap.get?_push_of_some _ e
  case end_ =>
    intro s' mv g
    obtain ⟨hp, gs, dr, tk, os⟩ := s'
    have e1 : gs = s.gens := mv.gens
    have e2 : dr = s.drawn := mv.drawn
    have e3 : os = s.os := mv.os
    subst e1; subst e2; subst e3
    show wpAny _ _ _ _ _ _
    refine wpAny_pure ?_
    show wpAny _ _ (ret Value.none) _ _ _
    refine wpAny_pure (done _ ⟨hp, tk, rfl, g, fun b o hb' e => ?_⟩)
    refine mv.heap b o ?_ (Heap.get?_push_of_some _ (Heap.get?_push_of_some _ e))
    rw [sz]
    simp only [List.mem_cons, List.mem_singleton, List.not_mem_nil, or_false, not_or]
    exact ⟨Nat.ne_of_lt hb', Nat.ne_of_lt (Nat.lt_succ_of_lt hb')⟩
end
end Sx

set_option maxHeartbeats 8000000
/-! Sets of a text's signs; sets as values; their length; sorted. -/
namespace Sx
open PySem PySem.Spec PyProof.Rows L2
section
variable {P : Program} {w : World} {A : Around} {E : Value → Shared → Prop} {s : Shared}
def rdI : Value → Int
  | .int k _ => k
  | _ => 0
def rdS : Value → Str
  | .str k _ => k
  | _ => Str.empty
theorem gdI (k : Int) (t : Tok) : Gd (intKind P w) rdI ((intKind P w).hash k, .int k t) ∧ rdI (.int k t) = k ∧ (intKind P w).is k (.int k t) = true := ⟨⟨intKind_is P w k t, rfl, rfl⟩, rfl, intKind_is P w k t⟩
theorem gdS (k : Str) (t : Tok) : Gd (PySem.strKind P w) rdS ((PySem.strKind P w).hash k, .str k t) ∧ rdS (.str k t) = k ∧ (PySem.strKind P w).is k (.str k t) = true := ⟨⟨PySem.Froz.is_str k t, rfl, rfl⟩, rfl, PySem.Froz.is_str k t⟩
theorem chr_at {x : Str} {i : Nat} {k : Str} (h : (x.cps.toList.map fun c => (⟨#[c]⟩ : Str))[i]? = some k) : ∃ c, x.cps[i]? = some c ∧ k = ⟨#[c]⟩ := by
  rw [List.getElem?_map, Array.getElem?_toList] at h
  cases q : x.cps[i]? with
  | none => rw [q] at h; cases h
  | some c => rw [q] at h; cases h; exact ⟨c, rfl, rfl⟩
/-- the signs of a text -/
theorem call_setT {x : Str} {t : Tok} {Z : Value → Shared → Prop} (hh : A.handled = none) (hb : x.cps.size + 1 < scanBound)
    (fin : ∀ s', Filled (PySem.strKind P w) rdS s (x.cps.toList.map fun c => (⟨#[c]⟩ : Str)) s' → Z (.ref s.heap.objs.size) s') : wpAny (model P w) A (call (.type "set") [.str x t]) Z E s := by
  refine call_set1 (ks := x.cps.toList.map fun c => (⟨#[c]⟩ : Str)) (fun A1 Q1 E1 hA done => ?_) fin
  have at0 : (s.heap.push (setObj0 w)).get? s.heap.objs.size = some (setObj0 w) := Heap.get?_push_size _ rfl
  have s1 := F.sub_str_set
  have s2 := F.sub_str_frozenset
  have ne : (Value.type "str" == Value.type "dict") = false := by decide
  unfold Builtin.«set.__init__» noKeywords Builtin.Frozenset.updateFrom
  generalize hIt : pyIter = It
  wp_walk
  subst hIt
  refine wpAny_pyIter_strU ?_
  refine wpAny_bind (wpAny_runValue ?_)
  have sz : (s.heap.push (setObj0 w)).objs.size = s.heap.objs.size + 1 := size_push' _ _
  have h3 : A1.in1.handled = none := by simp [hA, hh]
  have nfp : s.heap.objs.size ∉ [(s.heap.push (setObj0 w)).objs.size] := by
    rw [sz]; simp only [List.mem_singleton]; exact Nat.ne_of_lt (Nat.lt_succ_self _)
  have hl : (x.cps.toList.map fun c => (⟨#[c]⟩ : Str)).length = x.cps.size := by rw [List.length_map, Array.length_toList]
  have hv : ∀ (i : Nat) (v : Value) (k : Str), SignAt x i v → (x.cps.toList.map fun c => (⟨#[c]⟩ : Str))[i]? = some k → Gd (PySem.strKind P w) rdS ((PySem.strKind P w).hash k, v) ∧ rdS v = k ∧ (PySem.strKind P w).is k v = true := by
    rintro i v k ⟨c, u, h1, rfl⟩ h2
    obtain ⟨c', h4, rfl⟩ := chr_at h2
    rw [h1] at h4; cases h4
    exact gdS _ _
  have fin2 : ∀ (wr : List Addr) (s' : Shared), wr = [(s.heap.push (setObj0 w)).objs.size] → ∀ {y : Obj}, Moved (s.heap.objs.size :: wr) (fun a b => b = a) { s with heap := (s.heap.push (setObj0 w)).push y } s' →
      SetG (PySem.strKind P w) rdS s'.heap s.heap.objs.size (metS (x.cps.toList.map fun c => (⟨#[c]⟩ : Str)).reverse) (metN (x.cps.toList.map fun c => (⟨#[c]⟩ : Str)).reverse) → Q1 (.done (.ret .none)) s' := by
    intro wr s' ewr y mv g
    subst ewr
    obtain ⟨hp, gs, dr, tk, os⟩ := s'
    have e1 : gs = s.gens := mv.gens
    have e2 : dr = s.drawn := mv.drawn
    have e3 : os = s.os := mv.os
    subst e1; subst e2; subst e3
    refine done _ ⟨hp, tk, rfl, g, fun b o hb' e => ?_⟩
    refine mv.heap b o ?_ (Heap.get?_push_of_some _ (Heap.get?_push_of_some _ e))
    rw [sz]
    simp only [List.mem_cons, List.mem_singleton, List.not_mem_nil, or_false, not_or]
    exact ⟨Nat.ne_of_lt hb', Nat.ne_of_lt (Nat.lt_succ_of_lt hb')⟩
  have g0 : ∀ y : Obj, SetG (PySem.strKind P w) rdS ((s.heap.push (setObj0 w)).push y) s.heap.objs.size (metS ((x.cps.toList.map fun c => (⟨#[c]⟩ : Str)).take 0).reverse) (metN ((x.cps.toList.map fun c => (⟨#[c]⟩ : Str)).take 0).reverse) :=
    fun y => (setG_fresh (P := P) (knd := PySem.strKind P w) (rd := rdS) s.heap).at fun o e => Heap.get?_push_of_some _ e
  cases ha : x.cps.all (· < 128)
  · have et : strIterType x = "str_iterator" := by unfold strIterType; rw [ha]; rfl
    refine upd_loop (knd := PySem.strKind P w) (rd := rdS) (Walks.strWide h3 _ x t).toS s.heap.objs.size nfp _ hl hv hb x.cps.size 0 _ (by omega) (Nat.zero_le _) ?_ (g0 _) fun s' mv g => ?_
    · rw [et]; exact ⟨_, Heap.get?_push_size _ rfl, rfl, rfl⟩
    · show wpAny _ _ _ _ _ _
      refine wpAny_pure ?_
      show wpAny _ _ (ret Value.none) _ _ _
      exact wpAny_pure (fin2 _ s' rfl mv g)
  · have et : strIterType x = "str_ascii_iterator" := by unfold strIterType; rw [ha]; rfl
    refine upd_loop (knd := PySem.strKind P w) (rd := rdS) (Walks.strAscii h3 _ x t).toS s.heap.objs.size nfp _ hl hv hb x.cps.size 0 _ (by omega) (Nat.zero_le _) ?_ (g0 _) fun s' mv g => ?_
    · rw [et]; exact ⟨_, Heap.get?_push_size _ rfl, rfl, rfl⟩
    · show wpAny _ _ _ _ _ _
      refine wpAny_pure ?_
      show wpAny _ _ (ret Value.none) _ _ _
      exact wpAny_pure (fin2 _ s' rfl mv g)
end
end Sx

set_option maxHeartbeats 8000000
/-! len(set(..)), sorted(set(..)). -/
namespace Sx
open PySem PySem.Spec PyProof.Rows L2
section
variable {P : Program} {w : World} {A : Around} {E : Value → Shared → Prop} {s : Shared} {κ : Type} [DecidableEq κ] {knd : PySem.KeyKind P w κ} {rd : Value → κ} {a : Addr} {S : κ → Bool} {n : Nat}
/-- the members of a set, as values -/
structure Mem (knd : PySem.KeyKind P w κ) (rd : Value → κ) (S : κ → Bool) (n : Nat) (vs : List Value) : Prop where
  nd : (vs.map rd).Nodup
  mem : ∀ k, k ∈ vs.map rd ↔ S k = true
  len : vs.length = n
  is : ∀ v ∈ vs, knd.is (rd v) v = true
/-- sorted of a set, by the sort of a list of its members -/
theorem sorted_by {Zo : List Value → Array Value → Prop} {Z : Value → Shared → Prop} (g : SetG knd rd s.heap a S n) (hh : A.handled = none) (h64 : n < 64)
    (srt : ∀ (s1 : Shared) (vs : List Value) (A1 : Around) (Q1 : PySem.Fin → Shared → Prop) (E1 : Value → Shared → Prop) (l : Addr), Mem knd rd S n vs → s1.heap.get? l = some (seqObj "list" vs.toArray 0) →
      (∀ out : Array Value, Zo vs out → Q1 (.done (.ret .none)) { s1 with heap := sortedHeap s1.heap l vs out }) → wpAny (model P w) A1 (Builtin.«list.sort» ⟨[.ref l], []⟩) Q1 E1 s1)
    (fin : ∀ s' p (vs : List Value) (out : Array Value) (c : Nat), (∀ b o, s.heap.get? b = some o → s'.heap.get? b = some o) → s'.gens = s.gens → s'.os = s.os → s.heap.objs.size ≤ p →
      s'.heap.get? p = some (seqObj "list" out c) → Mem knd rd S n vs → Zo vs out → Z (.ref p) s') :
    wpAny (model P w) A (call (.builtin "sorted") [.ref a]) Z E s := by
  obtain ⟨ob, el, epo, tb, h1, h2, h3, g0, nd, mm, b0, f0, e0, r0, l0⟩ := g
  refine Calls.call_function_entry kind_sorted plain_sorted entry_sorted (args_sorted1 _) ?_
  unfold Builtin.«sorted»
  refine wpAny_bind (m := checkCount "sorted" 1 1 _) (wpAny_pure ?_)
  refine wpAny_bind (collect_set (A := A.in1) hh ⟨ob, h1, h2.1, h3⟩ f0 b0 r0 l0 fun s1 vs k1 z1 g1 o1 pm => ?_)
  have pk : (vs.map rd).Perm (el.toList.map fun x => rd x.2) := by
    have q := pm.map rd
    rw [List.map_map] at q
    exact q
  have mem : Mem knd rd S n vs := ⟨pk.nodup_iff.mpr nd, fun k => by rw [pk.mem_iff, ← mm k], by rw [pm.length_eq, List.length_map, Array.length_toList]; exact e0, fun v hv => by
    obtain ⟨x, hx, q⟩ := List.mem_map.mp (pm.mem_iff.mp hv)
    rw [← q]; exact (g0 x hx).is⟩
  refine wpAny_bind (wpAny_newList ?_ (by rw [mem.len, sizeLine_eq]; omega))
  have at1 : (s1.heap.push (seqObj "list" vs.toArray 0)).get? s1.heap.objs.size = some (seqObj "list" vs.toArray 0) := Heap.get?_push_size _ rfl
  refine wpAny_bind (wpAny_holding (wpAny_call_entry slot_list_sort ⟨_, at1, rfl⟩ entry_list_sort (srt _ vs _ _ _ _ mem at1 fun out zo => ⟨_, rfl, ?_⟩) (args_list_sort _)))
  obtain ⟨c, hc⟩ := sortedHeap_at (vs := vs) (out := out) at1
  refine wpAny_pure ⟨_, rfl, fin _ s1.heap.objs.size vs out c (fun b u e => ?_) g1 o1 z1 hc mem zo⟩
  have q := k1 b u e
  have lt := Heap.lt_size q
  show (sortedHeap (s1.heap.push (seqObj "list" vs.toArray 0)) s1.heap.objs.size vs out).get? b = some u
  rw [sortedHeap_old (Nat.ne_of_lt lt) (by rw [size_push']; exact Nat.lt_succ_of_lt lt)]
  exact Heap.get?_push_of_some _ q
end
section
variable {P : Program} {w : World} {A : Around} {E : Value → Shared → Prop} {s : Shared} {a : Addr} {n : Nat}
theorem ints_rd : ∀ vs : List Value, (∀ v ∈ vs, (intKind P w).is (rdI v) v = true) → IntsAre vs (vs.map rdI)
  | [], _ => .nil
  | v :: vs, h => by
    have h1 := h v List.mem_cons_self
    cases v with
    | int k t => exact .cons k t (ints_rd vs fun u hu => h u (List.mem_cons_of_mem _ hu))
    | _ => cases h1
theorem strs_rd : ∀ vs : List Value, (∀ v ∈ vs, (PySem.strKind P w).is (rdS v) v = true) → StrsAre vs (vs.map rdS)
  | [], _ => .nil
  | v :: vs, h => by
    have h1 := h v List.mem_cons_self
    cases v with
    | str k t => exact .cons k t (strs_rd vs fun u hu => h u (List.mem_cons_of_mem _ hu))
    | _ => cases h1
end
/-- like things told once -/
def nub {κ : Type} [DecidableEq κ] : List κ → List κ
  | [] => []
  | k :: ks => if k ∈ ks then nub ks else k :: nub ks
theorem nub_mem {κ : Type} [DecidableEq κ] (k : κ) : ∀ ks : List κ, k ∈ nub ks ↔ k ∈ ks
  | [] => Iff.rfl
  | x :: ks => by
    unfold nub
    split
    · rename_i h
      rw [nub_mem k ks, List.mem_cons]
      exact ⟨.inr, fun z => z.elim (fun e => e ▸ h) id⟩
    · rw [List.mem_cons, List.mem_cons, nub_mem k ks]
theorem nub_nd {κ : Type} [DecidableEq κ] : ∀ ks : List κ, (nub ks).Nodup
  | [] => List.nodup_nil
  | x :: ks => by
    unfold nub
    split
    · exact nub_nd ks
    · rename_i h
      exact List.nodup_cons.mpr ⟨fun z => h ((nub_mem x ks).mp z), nub_nd ks⟩
theorem nub_len {κ : Type} [DecidableEq κ] : ∀ ks : List κ, (nub ks).length = metN ks
  | [] => rfl
  | x :: ks => by unfold nub metN; split <;> simp [nub_len ks]
theorem nd_perm {κ : Type} [DecidableEq κ] {l m : List κ} (h1 : l.Nodup) (h2 : m.Nodup) (h : ∀ k, k ∈ l ↔ k ∈ m) : l.Perm m := (List.perm_ext_iff_of_nodup h1 h2).mpr h
theorem metN_rev {κ : Type} [DecidableEq κ] (ks : List κ) : metN ks.reverse = (nub ks).length := by
  rw [← nub_len]
  exact (nd_perm (nub_nd _) (nub_nd _) fun k => by rw [nub_mem, nub_mem, List.mem_reverse]).length_eq
/-- a set that is made and not changed -/
def SetH {P : Program} {w : World} {κ : Type} [DecidableEq κ] (knd : PySem.KeyKind P w κ) (rd : Value → κ) (a : Addr) (ks : List κ) : HO := .ext fun h => SetG knd rd h a (metS ks.reverse) (metN ks.reverse)
section
variable {X : Cx} {κ : Type} [DecidableEq κ] {knd : PySem.KeyKind X.prog X.w κ} {rd : Value → κ}
theorem setH_ok {H : Hp} {h : Heap} {a : Addr} {ks : List κ} (g : SetG knd rd h a (metS ks.reverse) (metN ks.reverse)) : ObjOk X.prog X.w H h a (SetH knd rd a ks) := by
  have ⟨o, _, _, _, ho, _⟩ := g
  exact ⟨g, ⟨o, ho⟩, fun h1 h2 p k => SetG.at p k⟩
theorem setH_get {pins : List (Addr × Obj)} {σ : L2.St} {H : Hp} {s : Shared} {a : Addr} {ks : List κ} (I : Inv X pins σ H s) (ha : H a = some (SetH knd rd a ks)) : SetG knd rd s.heap a (metS ks.reverse) (metN ks.reverse) := (I.hok a _ ha).1
theorem laid_set {pins : List (Addr × Obj)} {σ : L2.St} {H : Hp} {s s' : Shared} {ks : List κ} {Q : VK} (I : Inv X pins σ H s) (f : Filled knd rd s ks s') (q : ∀ p, H p = none → Q (.ref p) (upd H p (SetH knd rd p ks))) :
    EP X pins σ Q (.ref s.heap.objs.size) s' := by
  obtain ⟨hp, tk, rfl, g, k⟩ := f
  exact ⟨.ref _, upd H s.heap.objs.size (SetH knd rd s.heap.objs.size ks), I.laid (t' := tk) (fun b u e => k b u (Heap.lt_size e) e) (Nat.le_refl _) (setH_ok g), rfl, q _ (I.hok.fresh (Nat.le_refl _))⟩
theorem cr_setLI (hc : X.calm = true) : CallR X (.type "set") (fun xs H Q => ∃ (l : Addr) (ns : List Int), xs = [.ref l] ∧ SqL X.K H l (ns.map V.int) ∧ ns.length < 4000 ∧ ∀ p, H p = none → Q (.ref p) (upd H p (SetH (intKind X.prog X.w) rdI p ns))) := by
  intro pins s σ H xs us Q I r h
  obtain ⟨l, ns, rfl, hq, hb, q⟩ := h
  rw [Vals.ref1 r]
  obtain ⟨its, rv, pl, _⟩ := I.list hq
  have hi := rv.ints
  have hl : ns.length = its.toArray.size := by rw [List.size_toArray]; exact (IntsAre.length hi).symm
  refine call_setL (knd := intKind X.prog X.w) (rd := rdI) (I.ok.hd hc) pl.isList hl (fun i v k h1 h2 => ?_) (by rw [← hl]; unfold scanBound; omega) fun s' f => laid_set I f q
  obtain ⟨t, e⟩ := IntsAre.int_at hi i v (by simpa using h1)
  rw [e, List.getD_eq_getElem?_getD, h2]
  exact gdI k t
theorem cr_setLS (hc : X.calm = true) : CallR X (.type "set") (fun xs H Q => ∃ (l : Addr) (ns : List Str), xs = [.ref l] ∧ SqL X.K H l (ns.map V.str) ∧ ns.length < 4000 ∧ ∀ p, H p = none → Q (.ref p) (upd H p (SetH (PySem.strKind X.prog X.w) rdS p ns))) := by
  intro pins s σ H xs us Q I r h
  obtain ⟨l, ns, rfl, hq, hb, q⟩ := h
  rw [Vals.ref1 r]
  obtain ⟨its, rv, pl, _⟩ := I.list hq
  have hi : StrsAre its ns := strsAre_of rv
  have hl : ns.length = its.toArray.size := by rw [List.size_toArray]; exact (StrsAre.length hi).symm
  refine call_setL (knd := PySem.strKind X.prog X.w) (rd := rdS) (I.ok.hd hc) pl.isList hl (fun i v k h1 h2 => ?_) (by rw [← hl]; unfold scanBound; omega) fun s' f => laid_set I f q
  obtain ⟨t, e⟩ := SS.strs_at hi i v (by simpa using h1)
  rw [e, List.getD_eq_getElem?_getD, h2]
  exact gdS k t
theorem cr_setT (hc : X.calm = true) : CallR X (.type "set") (fun xs H Q => ∃ x : Str, xs = [.str x] ∧ x.cps.size < 4000 ∧ ∀ p, H p = none → Q (.ref p) (upd H p (SetH (PySem.strKind X.prog X.w) rdS p (x.cps.toList.map fun c => (⟨#[c]⟩ : Str))))) := by
  intro pins s σ H xs us Q I r h
  obtain ⟨x, rfl, hb, q⟩ := h
  cases r with
  | cons r1 r2 =>
    cases r2
    obtain ⟨t, rfl⟩ := r1
    exact call_setT (I.ok.hd hc) (by unfold scanBound; omega) fun s' f => laid_set I f q
theorem cr_lenSet : CallR X (.builtin "len") (fun xs H Q => ∃ (a : Addr) (ks : List κ), xs = [.ref a] ∧ H a = some (SetH knd rd a ks) ∧ Q (.int ((nub ks).length : Nat)) H) := by
  intro pins s σ H xs us Q I r h
  obtain ⟨a, ks, rfl, ha, q⟩ := h
  rw [Vals.ref1 r]
  obtain ⟨ob, el, epo, tb, h1, h2, h3, g0, nd, mm, b0, f0, e0, r0, l0⟩ := setH_get I ha
  have e1 : el.size = (nub ks).length := e0.trans (metN_rev ks)
  refine call_len_set h1 h2 h3 f0 (by have : scanBound < 2 ^ 62 := by decide
                                      omega) ⟨.int (nub ks).length, H, (I.tok _).tok _, ⟨_, by rw [e1]⟩, q⟩
theorem cr_sortedSI (hc : X.calm = true) : CallR X (.builtin "sorted") (fun xs H Q => ∃ (a : Addr) (ks : List Int), xs = [.ref a] ∧ H a = some (SetH (intKind X.prog X.w) rdI a ks) ∧ (nub ks).length < 64 ∧
    ∀ (ns : List Int) (p : Addr), ns.Perm (nub ks) → ns.Pairwise (· ≤ ·) → H p = none → Q (.ref p) (upd H p (.lst (ns.map V.int)))) := by
  intro pins s σ H xs us Q I r h
  obtain ⟨a, ks, rfl, ha, h64, q⟩ := h
  rw [Vals.ref1 r]
  have g := setH_get I ha
  refine sorted_by (Zo := fun vs out => ∃ ns' : List Int, IntsAre out.toList ns' ∧ ns'.Perm (vs.map rdI) ∧ ns'.Pairwise (· ≤ ·)) g (I.ok.hd hc) (by rw [metN_rev]; exact h64)
    (fun s1 vs A1 Q1 E1 l mem at1 done => list_sort_tree at1 (ints_rd vs mem.is) (by rw [mem.len, metN_rev]; exact h64) fun out ns' i1 i2 i3 => done out ⟨ns', i1, i2, i3⟩) fun s' p vs out c k g1 o1 hp hg mem ⟨ns', i1, i2, i3⟩ => ?_
  have pm : ns'.Perm (nub ks) := i2.trans (nd_perm mem.nd (nub_nd ks) fun k => by
    rw [mem.mem k, nub_mem]; unfold metS; rw [decide_eq_true_iff, List.mem_reverse])
  have hlen : (ns'.map V.int).length ≤ sizeLine := by rw [List.length_map, pm.length_eq, sizeLine_eq]; omega
  have hn : H p = none := I.hok.fresh hp
  have J : Inv X pins σ (upd H p (.lst (ns'.map V.int))) { s with heap := s'.heap, gens := s'.gens, drawn := s'.drawn, toks := s'.toks } :=
    I.call (ch := []) (Un.laid k hp hn) (I.hok.laid k hp ⟨hlen, out.toList, c, vals_of_ints i1, hg⟩) (by rw [g1]; exact I.bare) (fun _ z => nomatch z)
  have e : s' = { s with heap := s'.heap, gens := s'.gens, drawn := s'.drawn, toks := s'.toks } := by
    cases s'; cases s; cases o1; rfl
  rw [e]
  exact ⟨.ref p, _, J, rfl, q ns' p pm i3 hn⟩
theorem cr_sortedSS (hc : X.calm = true) : CallR X (.builtin "sorted") (fun xs H Q => ∃ (a : Addr) (ks : List Str), xs = [.ref a] ∧ H a = some (SetH (PySem.strKind X.prog X.w) rdS a ks) ∧ (nub ks).length < 64 ∧
    ∀ (ns : List Str) (p : Addr), ns.Perm (nub ks) → sortedS ns = true → H p = none → Q (.ref p) (upd H p (.lst (ns.map V.str)))) := by
  intro pins s σ H xs us Q I r h
  obtain ⟨a, ks, rfl, ha, h64, q⟩ := h
  rw [Vals.ref1 r]
  have g := setH_get I ha
  refine sorted_by (Zo := fun vs out => ∃ ns' : List Str, StrsAre out.toList ns' ∧ ns'.Perm (vs.map rdS) ∧ sortedS ns' = true) g (I.ok.hd hc) (by rw [metN_rev]; exact h64)
    (fun s1 vs A1 Q1 E1 l mem at1 done => by
      have hS := strs_rd vs mem.is
      refine list_sort_treeK PyProof.Rows.strKind_oneLt at1 hS.keysOf (fun v₁ v₂ rest e => keyKind_strs (by rw [← e]; exact hS)) (by rw [mem.len, metN_rev]; exact h64) fun st' hp hs => ?_
      obtain ⟨ss', i1, i2, i3⟩ := sorted_out_str hS hp hs
      exact done _ ⟨ss', i1, i2, i3⟩) fun s' p vs out c k g1 o1 hp hg mem ⟨ns', i1, i2, i3⟩ => ?_
  have pm : ns'.Perm (nub ks) := i2.trans (nd_perm mem.nd (nub_nd ks) fun k => by
    rw [mem.mem k, nub_mem]; unfold metS; rw [decide_eq_true_iff, List.mem_reverse])
  have hlen : (ns'.map V.str).length ≤ sizeLine := by rw [List.length_map, pm.length_eq, sizeLine_eq]; omega
  have hn : H p = none := I.hok.fresh hp
  have J : Inv X pins σ (upd H p (.lst (ns'.map V.str))) { s with heap := s'.heap, gens := s'.gens, drawn := s'.drawn, toks := s'.toks } :=
    I.call (ch := []) (Un.laid k hp hn) (I.hok.laid k hp ⟨hlen, out.toList, c, vals_of_strs i1, hg⟩) (by rw [g1]; exact I.bare) (fun _ z => nomatch z)
  have e : s' = { s with heap := s'.heap, gens := s'.gens, drawn := s'.drawn, toks := s'.toks } := by
    cases s'; cases s; cases o1; rfl
  rw [e]
  exact ⟨.ref p, _, J, rfl, q ns' p pm i3 hn⟩
end
end Sx

/-! The data layer: len(set(e)), sorted(set(e)). -/
namespace Dx
open PySem PySem.Spec PyProof.Rows L2 Sx
def chrs (z : Str) : List Str := z.cps.toList.map fun c => ⟨#[c]⟩
def lenSetR (d : D) : R D := match d with
  | .lst xs => if xs.length < 4000 then (match intsOf xs with
    | some ns => .ok (.int ((nub ns).length : Nat))
    | none => (match strsOf xs with
      | some ss => .ok (.int ((nub ss).length : Nat))
      | none => .bad)) else .bad
  | .str z => if z.cps.size < 4000 then .ok (.int ((nub (chrs z)).length : Nat)) else .bad
  | _ => .bad
def sortedSetR (d : D) : R D := match d with
  | .lst xs => if xs.length < 4000 then (match intsOf xs with
    | some ns => if (nub ns).length < 64 then .ok (.lst ((sortI (nub ns)).map .int)) else .bad
    | none => (match strsOf xs with
      | some ss => if (nub ss).length < 64 then .ok (.lst ((sortS (nub ss)).map .str)) else .bad
      | none => .bad)) else .bad
  | .str z => if z.cps.size < 4000 then (if (nub (chrs z)).length < 64 then .ok (.lst ((sortS (nub (chrs z))).map .str)) else .bad) else .bad
  | _ => .bad
section
variable {X : Cx} {W : WX} {ξ : Str → Value} {a : Expr} {c : Bool} {fa : En → R D} {p p2 q pos : Pos} {K : PySem.W.Frag} {M : Fm ξ} {σ : L2.St} {env : En} {H0 H : Hp}
theorem grow_set (E : EnvAt K M H0 H σ env) {p : Addr} {o : HO} (h : H p = none) : EnvAt K M H0 (upd H p o) σ env := by
  have s : Same H (upd H p o) := same_upd h
  exact E.grow (Same.refl _) s (E.same.trans s) fun _ _ z => z
theorem gr_set (E : EnvAt K M H0 H σ env) {p : Addr} {o : HO} (h : H p = none) : Gr K M σ env H0 H H0 (upd H p o) := ⟨Same.refl _, same_upd h, grow_set E h, fun _ _ z => z⟩
theorem sok_chr {z : Str} (h : sOk z = true) : ∀ x ∈ chrs z, sOk x = true := by
  intro x hx
  unfold chrs at hx
  rw [List.mem_map] at hx
  obtain ⟨n, hn, rfl⟩ := hx
  unfold sOk at *
  rw [Bool.and_eq_true] at *
  refine ⟨?_, decide_eq_true (by show 1 ≤ 16777216; decide)⟩
  have h1 := h.1
  unfold PyData.strOk at *
  rw [Array.all_eq_true'] at h1
  have := h1 n (by simpa using hn)
  simpa using this
theorem de_lenSet (hm : X.mg "len" = none) (hm2 : X.mg "set" = none) (ha : DE X W ξ c a fa) (hc : X.calm = true := by rfl) (hg : Gl X "len" := by rfl) (hg2 : Gl X "set" := by rfl)
    (na : starEach [a] X.env = (false, eval a X.env) :: starEach [] X.env := by rfl) (nb : starEach [.Call (.Name "set" p2) [a] [] q] X.env = (false, eval (.Call (.Name "set" p2) [a] [] q) X.env) :: starEach [] X.env := by rfl)
    (pl : (backTo q (starEach [] X.env)).any (·.1) = false := by rfl) (pl2 : (backTo pos (starEach [] X.env)).any (·.1) = false := by rfl) :
    DE X W ξ true (.Call (.Name "len" p) [.Call (.Name "set" p2) [a] [] q] [] pos) (eUn lenSetR fa) :=
  peImp (pe_callB (CallR.or (cr_lenSet (knd := intKind X.prog X.w) (rd := rdI)) (cr_lenSet (knd := PySem.strKind X.prog X.w) (rd := rdS))) hg hm (by decide +kernel)
    (pa_cons (pe_callTy (CallR.or (cr_setLI hc) (CallR.or (cr_setLS hc) (cr_setT hc))) hg2 hm2 (by decide +kernel) (pa_cons ha pa_nil na) (by decide) (by decide) na pl) pa_nil nb) (by decide) (by decide) nb pl2)
    fun σ H Q ⟨M, H0, env, E, p⟩ => ⟨M, H0, env, E, bindE wishE p fun d v H1 H2 g r p1 => by
      unfold lenSetR at p1
      split at p1
      · split at p1
        · rename_i xs hz
          obtain ⟨l, vs, rfl, h, rr⟩ := r.lst g.e.same
          split at p1
          · rename_i ns hn
            rw [intsOf_eq hn] at rr hz
            rw [rr.ints] at h
            exact .inl ⟨l, ns, rfl, SqL.of h, by simpa using hz, fun p hp => .inl ⟨p, ns, rfl, upd_same, p1 _ _ _ (gr_set g.e hp) (.of (.int _))⟩⟩
          · split at p1
            · rename_i ss hn
              rw [strsOf_eq hn] at rr hz
              rw [rr.strs] at h
              exact .inr (.inl ⟨l, ss, rfl, SqL.of h, by simpa using hz, fun p hp => .inr ⟨p, ss, rfl, upd_same, p1 _ _ _ (gr_set g.e hp) (.of (.int _))⟩⟩)
            · exact p1.elim
        · exact p1.elim
      · split at p1
        · rename_i z hz
          exact .inr (.inr ⟨z, by rw [r.str], hz, fun p hp => .inr ⟨p, chrs z, rfl, upd_same, p1 _ _ _ (gr_set g.e hp) (.of (.int _))⟩⟩)
        · exact p1.elim
      · exact p1.elim⟩
theorem de_sortedSet (hm : X.mg "sorted" = none) (hm2 : X.mg "set" = none) (ha : DE X W ξ c a fa) (hc : X.calm = true := by rfl) (hg : Gl X "sorted" := by rfl) (hg2 : Gl X "set" := by rfl)
    (na : starEach [a] X.env = (false, eval a X.env) :: starEach [] X.env := by rfl) (nb : starEach [.Call (.Name "set" p2) [a] [] q] X.env = (false, eval (.Call (.Name "set" p2) [a] [] q) X.env) :: starEach [] X.env := by rfl)
    (pl : (backTo q (starEach [] X.env)).any (·.1) = false := by rfl) (pl2 : (backTo pos (starEach [] X.env)).any (·.1) = false := by rfl) :
    DE X W ξ true (.Call (.Name "sorted" p) [.Call (.Name "set" p2) [a] [] q] [] pos) (eUn sortedSetR fa) :=
  peImp (pe_callB (CallR.or (cr_sortedSI hc) (cr_sortedSS hc)) hg hm (by decide +kernel)
    (pa_cons (pe_callTy (CallR.or (cr_setLI hc) (CallR.or (cr_setLS hc) (cr_setT hc))) hg2 hm2 (by decide +kernel) (pa_cons ha pa_nil na) (by decide) (by decide) na pl) pa_nil nb) (by decide) (by decide) nb pl2)
    fun σ H Q ⟨M, H0, env, E, p⟩ => ⟨M, H0, env, E, bindE wishE p fun d v H1 H2 g r p1 => by
      have fS : ∀ (ss : List Str), (∀ x ∈ ss, sOk x = true) → PostE X.K W ξ M σ env true H1 H2 Q (if (nub ss).length < 64 then .ok (.lst ((sortS (nub ss)).map .str)) else .bad) → ∀ p, H2 p = none → (nub ss).length < 64 ∧ ∀ (ys : List Str) (p3 : Addr), ys.Perm (nub ss) → sortedS ys = true → upd H2 p (SetH (PySem.strKind X.prog X.w) rdS p ss) p3 = none → Q (.ref p3) (upd (upd H2 p (SetH (PySem.strKind X.prog X.w) rdS p ss)) p3 (.lst (ys.map V.str))) := by
        intro ss sk p1 p hp
        split at p1
        · rename_i h64
          refine ⟨h64, fun ys p3 pm hs hn => ?_⟩
          have e := sortS_one pm hs
          rw [← e] at p1
          refine new_lst (grow_set g.e hp) (PostE.weak (gr_set g.e hp) p1) ?_ (repAll_strs fun x hx => sk x ((nub_mem x ss).mp (pm.mem_iff.mp hx))) p3 hn
          rw [List.length_map, pm.length_eq, sizeLine_eq]; omega
        · exact p1.elim
      unfold sortedSetR at p1
      split at p1
      · split at p1
        · rename_i xs hz
          obtain ⟨l, vs, rfl, h, rr⟩ := r.lst g.e.same
          split at p1
          · rename_i ns hn
            rw [intsOf_eq hn] at rr hz
            rw [rr.ints] at h
            refine .inl ⟨l, ns, rfl, SqL.of h, by simpa using hz, fun p hp => .inl ⟨p, ns, rfl, upd_same, ?_⟩⟩
            split at p1
            · rename_i h64
              refine ⟨h64, fun ns' p3 pm hs hn => ?_⟩
              have e := sortI_one pm hs
              rw [← e] at p1
              refine new_lst (grow_set g.e hp) (PostE.weak (gr_set g.e hp) p1) ?_ (repAll_ints ns') p3 hn
              rw [List.length_map, pm.length_eq, sizeLine_eq]; omega
            · exact p1.elim
          · split at p1
            · rename_i ss hn
              rw [strsOf_eq hn] at rr hz
              have sk := rr.sok
              rw [rr.strs] at h
              exact .inr (.inl ⟨l, ss, rfl, SqL.of h, by simpa using hz, fun p hp => .inr ⟨p, ss, rfl, upd_same, fS ss sk p1 p hp⟩⟩)
            · exact p1.elim
        · exact p1.elim
      · split at p1
        · rename_i z hz
          exact .inr (.inr ⟨z, by rw [r.str], hz, fun p hp => .inr ⟨p, chrs z, rfl, upd_same, fS (chrs z) (sok_chr r.sok) p1 p hp⟩⟩)
        · exact p1.elim
      · exact p1.elim⟩
end
end Dx

/-! zip of lists, tuples, texts in any mix. -/
namespace Dx
open PySem PySem.Spec PyProof.Rows L2

/-- a source that an iterator of its own draws from -/
structure ZSrc (P : Program) (w : World) (K : PySem.W.Frag) (n : Nat) (src : Hp → Prop) (Pv : Nat → V → Prop) (iterAt : Addr → Nat → Heap → Prop) : Prop where
  obj : ∀ it i h, iterAt it i h → ∃ o, h.get? it = some o ∧ ∀ v, o.data ≠ .cell v
  keep : ∀ it i h h', iterAt it i h → (∀ o, h.get? it = some o → h'.get? it = some o) → iterAt it i h'
  draw : ∀ (X : Cx) (pins : List (Addr × Obj)) (s : Shared) (σ : L2.St) (H : Hp), X.prog = P → X.w = w → X.K = K → X.calm = true → Inv X pins σ H s → src H → ∀ it, H it = none → ∀ i, iterAt it i s.heap →
    ∃ (m : List Addr) (Pu : Nat → Value → Prop) (St : Nat → Heap → Prop), Draws P w X.A.in1 it (it :: m) n Pu St ∧ (∀ b ∈ m, H b ≠ none) ∧ St i s.heap ∧ (∀ j h, St j h → iterAt it j h) ∧ ∀ j u, Pu j u → ∃ v, RelV v u ∧ Pv j v
def ItZ (n1 n2 : Nat) (s1 s2 : Hp → Prop) (P1 P2 : Nat → V → Prop) : It :=
  ⟨fun i H => i < min n1 n2 ∧ s1 H ∧ s2 H, fun i H v H' => ∃ T x y, v = .ref T ∧ H T = none ∧ H' = upd H T (.tup [x, y]) ∧ P1 i x ∧ P2 i y, fun i H => min n1 n2 ≤ i ∧ s1 H ∧ s2 H⟩
theorem walk_Z {n1 n2 : Nat} {s1 s2 : Hp → Prop} {P1 P2 : Nat → V → Prop} : Walk (ItZ n1 n2 s1 s2 P1 P2) (min n1 n2) (fun H => s1 H ∧ s2 H) (fun i H v H' => ∃ T x y, v = .ref T ∧ H T = none ∧ H' = upd H T (.tup [x, y]) ∧ P1 i x ∧ P2 i y) :=
  ⟨fun _ _ hi q => ⟨hi, q⟩, fun _ q => ⟨Nat.le_refl _, q⟩, fun _ _ _ _ _ _ y => y⟩
section
variable {P : Program} {w : World} {K : PySem.W.Frag} {elts : List Expr} {kk : Nat} {tpos : Pos} {n1 n2 : Nat} {s1 s2 : Hp → Prop} {P1 P2 : Nat → V → Prop} {at1 at2 : Addr → Nat → Heap → Prop}
theorem turn_zipG (Z1 : ZSrc P w K n1 s1 P1 at1) (Z2 : ZSrc P w K n2 s2 P2 at2) {z TI TO i1 i2 : Addr} (hd : [z, TI, TO, i1, i2].Nodup) :
    Turn P w K (.Tuple elts kk tpos) (ItZ n1 n2 s1 s2 P1 P2) [z, TI, TO, i1, i2] z (fun i h => i ≤ min n1 n2 ∧ IsZip h z TI TO .none ∧ IsTupOf2 h TI (.ref i1) (.ref i2) ∧ (∃ x y, IsTupOf2 h TO x y) ∧ at1 i1 i h ∧ at2 i2 i h) := by
  have sepL : ∀ {X : Cx} {pins : List (Addr × Obj)} {H : Hp} {m1 m2 : List Addr}, (∀ b ∈ [z, TI, TO, i1, i2], FpOk X pins H b) → (∀ b ∈ m1, H b ≠ none) → (∀ b ∈ m2, H b ≠ none) → ZipSep2 z TI TO i1 i2 (i1 :: m1) (i2 :: m2) := by
    intro X pins H m1 m2 hf h1 h2
    have hz : ∀ b ∈ [z, TI, TO, i1, i2], b ∉ m1 ∧ b ∉ m2 := fun b hb => ⟨fun q => h1 b q (hf b hb).1, fun q => h2 b q (hf b hb).1⟩
    have nz : ∀ {b : Addr} {m : List Addr} {i : Addr}, b ≠ i → b ∉ m → b ∉ (i :: m) := fun {b m i} a c q => by
      rcases List.mem_cons.mp q with q | q
      · exact a q
      · exact c q
    simp only [List.nodup_cons, List.mem_cons, List.not_mem_nil, or_false, not_or, List.nodup_nil, and_true, not_false_eq_true] at hd
    obtain ⟨⟨a1, a2, a3, a4⟩, ⟨a5, a6, a7⟩, ⟨a8, a9⟩, a10⟩ := hd
    exact ⟨Ne.symm a1, Ne.symm a2, a5, a6, List.mem_cons_self .., nz a3 (hz z (by simp)).1, nz a8 (hz TO (by simp)).1, a7, List.mem_cons_self .., nz a4 (hz z (by simp)).2, nz a9 (hz TO (by simp)).2, nz a10 (hz i1 (by simp)).2, nz (Ne.symm a10) (hz i2 (by simp)).1⟩
  refine ⟨by simp, fun i h st b hb => ?_, fun i h h' st k => ?_, ?_, ?_, fun A i s Q E st h => wpAny_pyIter_zip st.2.1 h⟩
  · obtain ⟨_, hz, hTI, ⟨x, y, hTO⟩, h1, h2⟩ := st
    have e' : b = z ∨ b = TI ∨ b = TO ∨ b = i1 ∨ b = i2 := by simpa using hb
    rcases e' with q | q | q | q | q
    · rw [q]; exact ⟨_, hz, fun v q => nomatch q⟩
    · rw [q]; exact ⟨_, hTI, fun v q => nomatch q⟩
    · rw [q]; exact ⟨_, hTO, fun v q => nomatch q⟩
    · rw [q]; exact Z1.obj _ _ _ h1
    · rw [q]; exact Z2.obj _ _ _ h2
  · obtain ⟨hn, hz, hTI, ⟨x, y, hTO⟩, h1, h2⟩ := st
    exact ⟨hn, k z (by simp) _ hz, k TI (by simp) _ hTI, ⟨x, y, k TO (by simp) _ hTO⟩, Z1.keep _ _ _ _ h1 fun o q => k i1 (by simp) o q, Z2.keep _ _ _ _ h2 fun o q => k i2 (by simp) o q⟩
  · intro X hP hw hK hc i pins s σ H E I hf st hg
    obtain ⟨hn, hz, hTI, ⟨x, y, hTO⟩, h1, h2⟩ := st
    obtain ⟨hi, q1, q2⟩ := hg
    obtain ⟨m1, Pu1, St1, D1, hm1, hst1, back1, rel1⟩ := Z1.draw X pins s σ H hP hw hK hc I q1 i1 (hf i1 (by simp)).1 i h1
    obtain ⟨m2, Pu2, St2, D2, hm2, hst2, back2, rel2⟩ := Z2.draw X pins s σ H hP hw hK hc I q2 i2 (hf i2 (by simp)).1 i h2
    subst hP hw hK
    have S := sepL hf hm1 hm2
    have W := WalksT.zipD2 S D1 D2
    have lt : ∀ b ∈ [z, TI, TO, i1, i2], b < s.heap.objs.size := by
      intro b hb
      have e' : b = z ∨ b = TI ∨ b = TO ∨ b = i1 ∨ b = i2 := by simpa using hb
      rcases e' with q | q | q | q | q
      · rw [q]; exact Heap.lt_size hz
      · rw [q]; exact Heap.lt_size hTI
      · rw [q]; exact Heap.lt_size hTO
      · rw [q]; obtain ⟨_, e, _⟩ := Z1.obj _ _ _ h1; exact Heap.lt_size e
      · rw [q]; obtain ⟨_, e, _⟩ := Z2.obj _ _ _ h2; exact Heap.lt_size e
    have wr : ∀ b, b ∉ [z, TI, TO, i1, i2] → b ∉ [z, TO, i1, i2] := fun b hb q => hb (by
      have e' : b = z ∨ b = TO ∨ b = i1 ∨ b = i2 := by simpa using q
      rcases e' with q | q | q | q <;> simp [q])
    refine W.item i s _ _ hi ⟨hz, hTI, ⟨x, y, hTO⟩, hst1, hst2⟩ fun T vals h' tk hPt hTle hT hMid hk => ⟨_, rfl, ?_⟩
    refine W.go elts kk tpos i T { s with heap := h', toks := tk } _ _ hMid fun h'' hst' hk' => ?_
    obtain ⟨u1, u2, hu1, hu2, ev⟩ := hPt
    obtain ⟨v1, rv1, pv1⟩ := rel1 i u1 hu1
    obtain ⟨v2, rv2, pv2⟩ := rel2 i u2 hu2
    obtain ⟨o, ho, hcls, nn, hdat⟩ := hT
    have hT2 : h''.get? T = some o := hk' _ _ (W.apart i T h' hMid) ho
    have new : ObjOk X.prog X.w (upd H T (.tup [v1, v2])) h'' T (.tup [v1, v2]) :=
      ⟨by show 2 ≤ sizeLine; decide, [u1, u2], .cons rv1 (.cons rv2 .nil), ⟨o, hT2, hcls, nn, by rw [hdat, ev]⟩⟩
    have I1 : Inv X pins σ (upd H T (.tup [v1, v2])) { s with heap := h'', toks := tk } :=
      I.turnedNew (ch := [z, TI, TO, i1, i2]) (fun b ob hb q => hk' b ob (wr b hb) (hk b ob (wr b hb) q)) hf hTle new
    obtain ⟨z', TI', TO', st1', st2'⟩ := hst'
    refine ⟨.ref T, _, I1, rfl, ⟨T, v1, v2, rfl, I.hok.fresh hTle, rfl, pv1, pv2⟩, ⟨hi, z', TI', TO', back1 _ _ st1', back2 _ _ st2'⟩, fun b hb => ?_⟩
    have := lt b hb
    rw [upd_ne (show b ≠ T from fun e => by rw [e] at this; exact absurd hTle (Nat.not_le_of_lt this))]
    exact (hf b hb).1
  · intro X hP hw hK hc i pins s σ H E I hf st hg
    obtain ⟨hn, hz, hTI, ⟨x, y, hTO⟩, h1, h2⟩ := st
    obtain ⟨hi, q1, q2⟩ := hg
    have hin : i = min n1 n2 := Nat.le_antisymm hn hi
    obtain ⟨m1, Pu1, St1, D1, hm1, hst1, back1, rel1⟩ := Z1.draw X pins s σ H hP hw hK hc I q1 i1 (hf i1 (by simp)).1 i h1
    obtain ⟨m2, Pu2, St2, D2, hm2, hst2, back2, rel2⟩ := Z2.draw X pins s σ H hP hw hK hc I q2 i2 (hf i2 (by simp)).1 i h2
    subst hP hw hK hin
    have S := sepL hf hm1 hm2
    have W := WalksT.zipD2 S D1 D2
    have wr : ∀ b, b ∉ [z, TI, TO, i1, i2] → b ∉ [z, TO, i1, i2] := fun b hb q => hb (by
      have e' : b = z ∨ b = TO ∨ b = i1 ∨ b = i2 := by simpa using q
      rcases e' with q | q | q | q <;> simp [q])
    exact W.done s _ _ ⟨hz, hTI, ⟨x, y, hTO⟩, hst1, hst2⟩ fun h' tk hk => ⟨rfl, I.turnedL (t' := tk) (ch := [z, TI, TO, i1, i2]) (fun c o hb q => hk c o (wr c hb) q) hf⟩

/-- the three sources -/
theorem zsrc_list (a : Addr) (vs : List V) : ZSrc P w K vs.length (fun H => H a = some (.lst vs)) (fun i x => vs[i]? = some x) (fun it i h => h.IsListIter it a i) :=
  ⟨fun it i h st => by
    have st : h.IsListIter it a i := st
    obtain ⟨o, h1, h2, h3⟩ := st
    exact ⟨o, h1, fun v z => by rw [h3] at z; cases z⟩, fun it i h h' st k => by
    have st : h.IsListIter it a i := st
    exact Heap.IsListIter.at st k, fun X pins s σ H hP hw hK hc I hsrc it hit0 i hit => by
    subst hP hw hK
    obtain ⟨its, rv, pt, _⟩ := I.list (SqL.of hsrc)
    have hta : a ≠ it := fun z => by rw [z, hit0] at hsrc; cases hsrc
    have hl : its.toArray.size = vs.length := by rw [List.size_toArray, rv.length]
    refine ⟨[a], fun i v => its.toArray[i]? = some v, fun i h => h.IsListIter it a i ∧ h.IsList a its.toArray, ?_, fun b hb => ?_, ⟨hit, pt.isList⟩, fun j h st => st.1, fun j u hu => ?_⟩
    · rw [← hl]
      exact Draws.list (show X.A.in1.handled = none from I.ok.hd hc) it a hta its.toArray
    · have : b = a := by simpa using hb
      rw [this, hsrc]; intro z; cases z
    · have hj : j < its.toArray.size := (Array.getElem?_eq_some_iff.mp hu).1
      obtain ⟨v, hv⟩ : ∃ v, vs[j]? = some v := ⟨vs[j]'(by omega), by simp [hl ▸ hj]⟩
      obtain ⟨u', hu', ru⟩ := rv.get hv
      have : u' = u := by
        have h2 : its[j]? = some u := by simpa using hu
        rw [hu'] at h2; cases h2; rfl
      exact ⟨v, this ▸ ru, hv⟩⟩
theorem zsrc_tup (a : Addr) (vs : List V) : ZSrc P w K vs.length (fun H => H a = some (.tup vs)) (fun i x => vs[i]? = some x) (fun it i h => h.IsTupleIter it a i) :=
  ⟨fun it i h st => by
    have st : h.IsTupleIter it a i := st
    obtain ⟨o, h1, h2, h3⟩ := st
    exact ⟨o, h1, fun v z => by rw [h3] at z; cases z⟩, fun it i h h' st k => by
    have st : h.IsTupleIter it a i := st
    exact Heap.IsTupleIter.at st k, fun X pins s σ H hP hw hK hc I hsrc it hit0 i hit => by
    subst hP hw hK
    obtain ⟨its, rv, pt, _⟩ := I.tuple (SqT.of hsrc)
    have hta : a ≠ it := fun z => by rw [z, hit0] at hsrc; cases hsrc
    have hl : its.toArray.size = vs.length := by rw [List.size_toArray, rv.length]
    refine ⟨[a], fun i v => its.toArray[i]? = some v, fun i h => h.IsTupleIter it a i ∧ h.IsTuple a its.toArray, ?_, fun b hb => ?_, ⟨hit, pt⟩, fun j h st => st.1, fun j u hu => ?_⟩
    · rw [← hl]
      exact Draws.tuple (show X.A.in1.handled = none from I.ok.hd hc) it a hta its.toArray
    · have : b = a := by simpa using hb
      rw [this, hsrc]; intro z; cases z
    · have hj : j < its.toArray.size := (Array.getElem?_eq_some_iff.mp hu).1
      obtain ⟨v, hv⟩ : ∃ v, vs[j]? = some v := ⟨vs[j]'(by omega), by simp [hl ▸ hj]⟩
      obtain ⟨u', hu', ru⟩ := rv.get hv
      have : u' = u := by
        have h2 : its[j]? = some u := by simpa using hu
        rw [hu'] at h2; cases h2; rfl
      exact ⟨v, this ▸ ru, hv⟩⟩
theorem zsrc_str (z : Str) (t : Tok) : ZSrc P w K z.cps.size (fun _ => True) (fun i x => ∃ c, z.cps[i]? = some c ∧ x = .str ⟨#[c]⟩) (fun it i h => h.IsStrIter it (strIterType z) z t i) where
  obj := by
    intro it i h st
    obtain ⟨o, h1, h2, h3⟩ := st
    exact ⟨o, h1, fun v z => by rw [h3] at z; cases z⟩
  keep := by
    intro it i h h' st k
    obtain ⟨o, h1, h2⟩ := st
    exact ⟨o, k o h1, h2⟩
  draw := by
    intro X pins s σ H hP hw hK hc I hsrc it hit0 i hit
    subst hP hw hK
    refine ⟨[], fun i v => ∃ c u, z.cps[i]? = some c ∧ v = .str ⟨#[c]⟩ u, fun i h => h.IsStrIter it (strIterType z) z t i, Draws.text (show X.A.in1.handled = none from I.ok.hd hc) it z t, (by intro b hb; simp at hb), hit, fun j h st => st, ?_⟩
    rintro j u ⟨c, u', hc', hu'⟩
    exact ⟨.str ⟨#[c]⟩, ⟨u', hu'⟩, c, hc', rfl⟩
end

/-- what is zipped: a list, a tuple, a text; read as it stands in the heap -/
def ZV (H : Hp) (v : V) (n : Nat) (src : Hp → Prop) (Pv : Nat → V → Prop) : Prop :=
  (∃ a vs, v = .ref a ∧ H a = some (.lst vs) ∧ n = vs.length ∧ (src = fun H => H a = some (.lst vs)) ∧ Pv = fun i x => vs[i]? = some x) ∨
  (∃ a vs, v = .ref a ∧ H a = some (.tup vs) ∧ n = vs.length ∧ (src = fun H => H a = some (.tup vs)) ∧ Pv = fun i x => vs[i]? = some x) ∨
  (∃ z, v = .str z ∧ n = z.cps.size ∧ (src = fun _ => True) ∧ Pv = fun i x => ∃ c, z.cps[i]? = some c ∧ x = .str ⟨#[c]⟩)
section
variable {X : Cx} {W : WX} {ξ : Str → Value} {e e2 tg : Expr} {c c1 c2 : Bool} {pos p tpos : Pos} {elts : List Expr} {kk : Nat} {f g : En → R D}
variable {K : PySem.W.Frag} {M : Fm ξ} {σ : L2.St} {env : En} {H0 H : Hp}
theorem ZV.begins {pins : List (Addr × Obj)} {s : Shared} {v : V} {u : Value} {n : Nat} {src : Hp → Prop} {Pv : Nat → V → Prop} (I : Inv X pins σ H s) (r : RelV v u) (z : ZV H v n src Pv) :
    ∃ (o : Obj) (Hb : Heap → Prop) (iterAt : Addr → Nat → Heap → Prop), Begins u o Hb ∧ Hb s.heap ∧ ZSrc X.prog X.w X.K n src Pv iterAt ∧ ∀ it h, h.get? it = some o → iterAt it 0 h := by
  rcases z with ⟨a, vs, rfl, ha, rfl, rfl, rfl⟩ | ⟨a, vs, rfl, ha, rfl, rfl, rfl⟩ | ⟨z, rfl, rfl, rfl, rfl⟩
  · obtain rfl : u = Value.ref a := r
    obtain ⟨its, rv, pt, _⟩ := I.list (SqL.of ha)
    exact ⟨_, _, _, begins_list a its.toArray, pt.isList, zsrc_list a vs, fun it h hit => ⟨_, hit, rfl, rfl⟩⟩
  · obtain rfl : u = Value.ref a := r
    obtain ⟨its, rv, pt, _⟩ := I.tuple (SqT.of ha)
    exact ⟨_, _, _, begins_tuple a its.toArray, pt, zsrc_tup a vs, fun it h hit => ⟨_, hit, rfl, rfl⟩⟩
  · obtain ⟨t, rfl⟩ := r
    exact ⟨_, _, _, begins_text z t, trivial, zsrc_str z t, fun it h hit => ⟨_, hit, rfl, rfl⟩⟩
def iZipG (ta : TA) : TI := fun σ H R => ta σ H fun vs H1 => ∃ v1 v2 n1 n2 s1 s2 P1 P2, vs = [v1, v2] ∧ ZV H1 v1 n1 s1 P1 ∧ ZV H1 v2 n2 s2 P2 ∧ R (ItZ n1 n2 s1 s2 P1 P2) H1
theorem pi_zipG {ta : TA} (hg : Gl X "zip") (hm : X.mg "zip" = none) (ha : PA X [e, e2] ta)
    (hs : starEach [e, e2] X.env = (false, eval e X.env) :: starEach [e2] X.env := by rfl) (hpl : (backTo pos (starEach [e2] X.env)).any (·.1) = false := by rfl) :
    PI X (.Tuple elts kk tpos) (.Call (.Name "zip" p) [e, e2] [] pos) (iZipG ta) := by
  refine ⟨fun pins s σ H R I h => ?_⟩
  refine Call_ (ld_blt I hg hm PyProof.Rows.boot_zip (PyProof.Rows.callWith_type1 (thn (ha.run pos pins s σ H _ I h) fun us s1 ⟨vs, H1, I1, r1, q1⟩ => ?_) hs hpl))
  obtain ⟨v1, v2, n1, n2, q1', q2', P1, P2, ex, z1, z2, q⟩ := q1
  subst ex
  cases r1 with
  | cons r rr =>
    cases rr with
    | cons r' rr =>
      cases rr
      obtain ⟨o1, Hb1, at1, B1, hb1, S1, a1⟩ := z1.begins I1 r
      obtain ⟨o2, Hb2, at2, B2, hb2, S2, a2⟩ := z2.begins I1 r'
      refine zip_begins2 B1 B2 hb1 hb2 fun h' hz hTI hTO h1 h2 hsz hk => wpAny_pyIter_zip hz ?_
      have I2 : Inv X pins σ H1 { s1 with heap := h' } := I1.kept (t' := s1.toks) hk
      refine ⟨s1.heap.objs.size + 4, [s1.heap.objs.size + 4, s1.heap.objs.size + 2, s1.heap.objs.size + 3, s1.heap.objs.size, s1.heap.objs.size + 1], _, _, H1, rfl, I2, turn_zipG S1 S2 ?_, ⟨Nat.zero_le _, hz, hTI, ⟨_, _, hTO⟩, a1 _ _ h1, a2 _ _ h2⟩, fun b hb => ?_, q⟩
      · simp only [List.nodup_cons, List.mem_cons, List.not_mem_nil, or_false, not_or, List.nodup_nil, and_true, not_false_eq_true]
        refine ⟨⟨?_, ?_, ?_, ?_⟩, ⟨?_, ?_, ?_⟩, ⟨?_, ?_⟩, ?_⟩ <;> (show (_ : Nat) ≠ _) <;> omega
      · have hle : s1.heap.objs.size ≤ b := by
          have e' : b = s1.heap.objs.size + 4 ∨ b = s1.heap.objs.size + 2 ∨ b = s1.heap.objs.size + 3 ∨ b = s1.heap.objs.size ∨ b = s1.heap.objs.size + 1 := by simpa using hb
          rcases e' with z | z | z | z | z
          · rw [z]; exact Nat.le_add_right _ _
          · rw [z]; exact Nat.le_add_right _ _
          · rw [z]; exact Nat.le_add_right _ _
          · rw [z]; exact Nat.le_refl _
          · rw [z]; exact Nat.le_add_right _ _
        exact I1.fpOk hle (I1.hok.fresh hle)

def itsD : D → R (List D)
  | .lst xs => .ok xs
  | .tup xs => .ok xs
  | .str z => .ok (charsD z)
  | _ => .bad
def pairs2 (xs ys : List D) : List D := (xs.zip ys).map fun p => .tup [p.1, p.2]
def fZip (A B : En → R D) : En → R (List D) := fun env => A env >>= fun x => B env >>= fun y => itsD x >>= fun xs => itsD y >>= fun ys => .ok (pairs2 xs ys)
/-- a source, by data -/
theorem zv_of {v : V} {d : D} {xs : List D} (E : EnvAt K M H0 H σ env) (r : RepX c K H0 H v d) (h : itsD d = .ok xs) :
    ∃ n src Pv, ZV H v n src Pv ∧ n = xs.length ∧ n ≤ sizeLine ∧ (∀ H1, Same (if c = true then H0 else H) H1 → src H1) ∧ ∀ i x dd, Pv i x → xs[i]? = some dd → Rep K H0 x dd := by
  unfold itsD at h
  split at h
  · cases h
    have z := r.lstLen
    obtain ⟨a, vs, rfl, h1, h2, r2⟩ := r.lstAt E.same
    refine ⟨_, _, _, .inl ⟨a, vs, rfl, h2, rfl, rfl, rfl⟩, r2.length, r2.length ▸ z, fun H1 s => s _ _ h1, fun i x dd hx hd => ?_⟩
    obtain ⟨v, hv, rv⟩ := r2.get hd
    replace hx : vs[i]? = some x := hx
    rw [hv] at hx; cases hx; exact rv
  · cases h
    have z := r.tupLen
    obtain ⟨a, vs, rfl, h1, r2⟩ := r.tup
    refine ⟨_, _, _, .inr (.inl ⟨a, vs, rfl, E.same _ _ h1, rfl, rfl, rfl⟩), r2.length, r2.length ▸ z, fun H1 s => ?_, fun i x dd hx hd => ?_⟩
    · exact ifSame E.same s _ _ h1
    · obtain ⟨v, hv, rv⟩ := r2.get hd
      replace hx : vs[i]? = some x := hx
      rw [hv] at hx; cases hx; exact rv
  · rename_i z
    cases h
    have zz : z.cps.size ≤ sizeLine := by rw [sizeLine_eq]; exact of_decide_eq_true (Bool.and_eq_true_iff.mp r.sok).2
    refine ⟨_, _, _, .inr (.inr ⟨z, r.str, rfl, rfl, rfl⟩), (charsD_len z).symm, zz, fun _ _ => trivial, fun i x dd hx hd => ?_⟩
    obtain ⟨c', hc, e⟩ := charsD_get hd
    obtain ⟨c2, hc2, e2⟩ := hx
    rw [hc] at hc2; cases hc2
    subst e e2
    exact charsD_rep r.sok hc
  · cases h
theorem pairs2_get {xs ys : List D} {i : Nat} {d : D} (h : (pairs2 xs ys)[i]? = some d) : ∃ x y, xs[i]? = some x ∧ ys[i]? = some y ∧ d = .tup [x, y] := by
  unfold pairs2 at h
  rw [List.getElem?_map] at h
  cases e : (xs.zip ys)[i]? with
  | none => rw [e] at h; cases h
  | some q =>
    rw [e] at h; cases h
    have := List.getElem?_zip_eq_some.mp e
    exact ⟨q.1, q.2, this.1, this.2, rfl⟩
theorem di_zip (hm : X.mg "zip" = none) (ha : DE X W ξ c1 e f) (hb : DE X W ξ c2 e2 g) (hg : Gl X "zip" := by rfl)
    (hs : starEach [e, e2] X.env = (false, eval e X.env) :: starEach [e2] X.env := by rfl) (hs2 : starEach [e2] X.env = (false, eval e2 X.env) :: starEach [] X.env := by rfl) (hpl : (backTo pos (starEach [e2] X.env)).any (·.1) = false := by rfl) :
    DI X W ξ (c1 && c2) (.Tuple elts kk tpos) (.Call (.Name "zip" p) [e, e2] [] pos) (fZip f g) :=
  piImp (pi_zipG hg hm (pa_cons ha (pa_cons hb pa_nil hs2) hs) hs hpl) fun σ H R' ⟨M, H0, env, E, p⟩ => ⟨M, H0, env, E, bindE wishI p fun d1 x H1 H2 g1 r1 p1 => ⟨M, H1, env, g1.e, bindE wishI p1 fun d2 y H3 H4 g2 r2 p2 => by
    replace r1 := r1.mono g2.s0 g2.s
    replace E := g2.e
    cases e1 : itsD d1 with
    | exc q => exfalso; revert e1; unfold itsD; split <;> simp
    | bad => rw [e1] at p2; exact p2.elim
    | ok xs =>
      rw [e1] at p2
      cases e2 : itsD d2 with
      | exc q => exfalso; revert e2; unfold itsD; split <;> simp
      | bad => rw [e2] at p2; exact p2.elim
      | ok ys =>
        rw [e2] at p2
        obtain ⟨n1, s1, P1, z1, l1, k1, f1, q1⟩ := zv_of E r1 e1
        obtain ⟨n2, s2, P2, z2, l2, k2, f2, q2⟩ := zv_of E r2 e2
        have hl : (pairs2 xs ys).length = min n1 n2 := by unfold pairs2; rw [List.length_map, List.length_zip, l1, l2]
        have fd : Feeds X.K H3 (if (c1 && c2) = true then H3 else H4) (ItZ n1 n2 s1 s2 P1 P2) (pairs2 xs ys) := by
          refine ⟨by rw [hl]; omega, fun H => s1 H ∧ s2 H, fun i H v H' => ∃ T x y, v = .ref T ∧ H T = none ∧ H' = upd H T (.tup [x, y]) ∧ P1 i x ∧ P2 i y, by rw [hl]; exact walk_Z, fun H5 s => ⟨f1 H5 ?_, f2 H5 ?_⟩, fun i H5 v H6 d _ hd yy => ?_⟩
          · revert s; cases c1 <;> cases c2 <;> simp only [Bool.true_and, Bool.false_and, if_true, if_false, Bool.false_eq_true] <;> first | exact fun s => s | exact fun s => E.same.trans s
          · revert s; cases c1 <;> cases c2 <;> simp only [Bool.true_and, Bool.false_and, if_true, if_false, Bool.false_eq_true] <;> first | exact fun s => s | exact fun s => E.same.trans s
          · obtain ⟨T, a, b, ea, hT, eH, pa, pb⟩ := yy
            obtain ⟨da, db, ha', hb', ed⟩ := pairs2_get hd
            exact .inr ⟨T, _, _, hT, eH, ea, ed, (by show 2 ≤ sizeLine; decide), .cons (q1 i a da pa ha') (.cons (q2 i b db pb hb') .nil)⟩
        exact ⟨x, y, n1, n2, s1, s2, P1, P2, rfl, z1, z2, p2 _ H3 H4 (.refl E) fd⟩⟩⟩
end
end Dx

/-! The data layer, part K8: texts (join, split, str, int), count, walks of dicts. -/
namespace Dx
open PySem PySem.Spec PyProof.Rows L2
section
variable {X : Cx} {W : WX} {ξ : Str → Value} {e f a b o : Expr} {es : List Expr} {c c1 c2 c3 : Bool} {pos p apos cpos : Pos} {fa fb fo : En → R D} {Fs : En → R (List D)} {x : Str}
variable {K : PySem.W.Frag} {M : Fm ξ} {σ : L2.St} {env : En} {H0 H : Hp} {Q : VK}

/-! ### sep.join(xs) -/
def itsLT : D → Option (List D)
  | .lst xs => some xs
  | .tup xs => some xs
  | _ => none
def joinR (s l : D) : R D := match s, (itsLT l).bind strsOf with
  | .str a, some ys => if (ys.map (·.length)).sum + ys.length * a.length ≤ 16777216 ∧ sOk (Txt.join a ys) = true then .ok (.str (Txt.join a ys)) else .bad
  | _, _ => .bad
def strR : D → R D
  | .str a => .ok (.str a)
  | _ => .bad
def eJoin (A B : En → R D) : En → R D := fun env => A env >>= strR >>= fun x => B env >>= fun y => joinR x y
theorem de_join (ho : DE X W ξ c o fo) (he : DE X W ξ c1 e fa) (hs : starEach [e] X.env = [(false, eval e X.env)] := by rfl) (hbase : attributeBase o "join" X.env (eval o X.env) = eval o X.env := by rfl) (hline : (apos.endLine == pos.line) = true := by rfl) :
    DE X W ξ true (.Call (.Attribute o "join" apos) [e] [] pos) (eJoin fo fa) :=
  peImp (pe_join ho he hs hbase hline) fun σ H Q ⟨M, H0, env, E, p⟩ => ⟨M, H0, env, E, by
    have p : PostE X.K W ξ M σ env true H0 H Q ((fo env >>= strR) >>= fun d => fa env >>= fun y => joinR d y) := p
    rw [R.assoc] at p
    refine bindE wishE p fun d1 x H1 H2 g1 r1 p1 => ?_
    unfold strR at p1
    split at p1
    · rename_i a
      have p1 : PostE X.K W ξ M σ env true H1 H2 Q (fa env >>= fun y => joinR (.str a) y) := p1
      refine ⟨⟨_, r1.str⟩, M, H1, env, g1.e, bindE wishE p1 fun d2 y H3 H4 g2 r2 p2 => ?_⟩
      unfold joinR at p2
      split at p2
      · rename_i a' ys ha hys
        cases ha
        split at p2
        · rename_i hz
          have key : ∃ q, y = .ref q ∧ (SqL X.K H4 q (ys.map V.str) ∨ SqT X.K H4 q (ys.map V.str)) := by
            cases d2 with
            | lst xs =>
              obtain ⟨q, vs, rfl, h1, r3⟩ := r2.lst g2.e.same
              have e := strsOf_eq (show strsOf xs = some ys from hys)
              subst e
              rw [RepAll.strs r3] at h1
              exact ⟨q, rfl, .inl (SqL.of h1)⟩
            | tup xs =>
              obtain ⟨q, vs, rfl, h1, r3⟩ := r2.tup
              have e := strsOf_eq (show strsOf xs = some ys from hys)
              subst e
              rw [RepAll.strs r3] at h1
              exact ⟨q, rfl, .inr (SqT.of (g2.e.same _ _ h1))⟩
            | _ => cases hys
          obtain ⟨q, rfl, hq⟩ := key
          exact ⟨a, q, ys, r1.str, rfl, hq, hz.1, post_ok g2.e p2 (.str _ hz.2)⟩
        · exact p2.elim
      · exact p2.elim
    · exact p1.elim⟩

/-! ### s.split(sep) -/
def splitR (s t : D) : R (List D) := match s, t with
  | .str a, .str b => if (b.length == 0) = false ∧ a.length + 2 ≤ sizeLine ∧ (Txt.split a b).length ≤ sizeLine ∧ (Txt.split a b).all sOk = true then .ok ((Txt.split a b).map D.str) else .bad
  | _, _ => .bad
def eSplit (A B : En → R D) : En → R (List D) := fun env => A env >>= strR >>= fun x => B env >>= fun y => splitR x y
theorem df_split (ho : DE X W ξ c o fo) (he : DE X W ξ c1 e fa) (hs : starEach [e] X.env = [(false, eval e X.env)] := by rfl) (hbase : attributeBase o "split" X.env (eval o X.env) = eval o X.env := by rfl) (hline : (apos.endLine == pos.line) = true := by rfl) :
    DF X W ξ (.Call (.Attribute o "split" apos) [e] [] pos) (eSplit fo fa) :=
  peImp (pe_split ho he hs hbase hline) fun σ H Q ⟨M, H0, env, E, p⟩ => ⟨M, H0, env, E, by
    have p : PostF X.K W ξ M σ env H0 H Q ((fo env >>= strR) >>= fun d => fa env >>= fun y => splitR d y) := p
    rw [R.assoc] at p
    refine bindE wishF p fun d1 x H1 H2 g1 r1 p1 => ?_
    unfold strR at p1
    split at p1
    · rename_i a
      have p1 : PostF X.K W ξ M σ env H1 H2 Q (fa env >>= fun y => splitR (.str a) y) := p1
      refine ⟨⟨_, r1.str⟩, M, H1, env, g1.e, bindE wishF p1 fun d2 y H3 H4 g2 r2 p2 => ?_⟩
      unfold splitR at p2
      split at p2
      · rename_i a' b ha
        cases ha
        split at p2
        · rename_i hz
          refine ⟨_, b, r1.str, by rw [r2.str], hz.1, hz.2.1, fun q hq => ?_⟩
          obtain ⟨g3, n⟩ := g2.e.newAt (o := .lst ((Txt.split _ b).map V.str)) hq
          exact p2 q _ _ _ g3 hq n ⟨by rw [List.length_map]; exact hz.2.2.1, repAll_strs fun z hzm => List.all_eq_true.mp hz.2.2.2 z hzm⟩
        · exact p2.elim
      · exact p2.elim
    · exact p1.elim⟩

/-! ### str(x), int(x) -/
def strOfI (i : Int) : Str := Str.ofString (toString i)
def str1R : List D → R D
  | [.int i] => if i.natAbs.log2 < 1920 ∧ sOk (strOfI i) = true then .ok (.str (strOfI i)) else .bad
  | [.str a] => .ok (.str a)
  | _ => .bad
theorem cb_str1 : CbD X W ξ (.type "str") str1R := ⟨_, CallR.or call_str_int SkE.call_str_str, fun {c M σ env H0 H Q vs ds} E r p => by
  unfold str1R at p
  split at p
  · obtain ⟨v, rfl, r0⟩ := x1 r
    split at p
    · rename_i hz
      exact .inl ⟨_, by rw [RepX.int r0], hz.1, post_ok E p (.str _ hz.2)⟩
    · exact p.elim
  · obtain ⟨v, rfl, r0⟩ := x1 r
    exact .inr ⟨_, by rw [RepX.str r0], post_ok E p (.str _ (RepX.sok r0))⟩
  · exact p.elim⟩
def intTR : List D → R D
  | [.str a] => (match PySem.intText? a with
    | some n => if a.length ≤ 640 then .ok (.int n) else .bad
    | none => .bad)
  | _ => .bad
theorem cb_intT : CbD X W ξ (.type "int") intTR := ⟨_, call_int_str, fun {c M σ env H0 H Q vs ds} E r p => by
  unfold intTR at p
  split at p
  · obtain ⟨v, rfl, r0⟩ := x1 r
    split at p
    · rename_i n hn
      split at p
      · rename_i hz
        exact ⟨_, n, by rw [RepX.str r0], hn, hz, post_ok E p (.int _)⟩
      · exact p.elim
    · exact p.elim
  · exact p.elim⟩

/-! ### xs.count(y) -/
theorem mt_lcountF : MtR X "list.count" (fun x xs H Q => ∃ a ys y, x = .ref a ∧ xs = [y] ∧ SqL X.K H a ys ∧ flatV y = true ∧ ys.all flatV = true ∧ Q (.int ((ys.countP fun z => eqV z y) : Nat)) H) := by
  intro pins s σ H x xs v us Q I rx rxs h
  obtain ⟨a, ys, y, rfl, rfl, hs, fy, fys, q⟩ := h
  cases rx
  cases rxs with
  | cons ry rt =>
    rename_i uy ut
    cases rt
    obtain ⟨its, rv, ⟨⟨cls, dd, data, sl⟩, n, ho, hc, hdn, hd⟩, hlen⟩ := I.list hs
    simp only at hc hd
    subst hc hd
    refine call_meets PySem.F.slot_list_count ⟨_, ho, rfl⟩ PySem.F.entry_list_count (PySem.F.args_list_count_2 _ _)
      (SeqAt.list_countAt a its.toArray n dd sl uy (eqU y)) ⟨ho, fun u' hu' => mem_eqAt ry fy rv fys u' (by simpa using hu'), ?_⟩
    have ec : ∀ {ys : List V} {its : List Value}, Vals ys its → ys.all flatV = true → its.countP (eqU y) = ys.countP fun z => eqV z y := by
      intro ys its rv
      induction rv with
      | nil => intro _; rfl
      | @cons z u zs us r t ih =>
        intro hf
        rw [List.all_cons, Bool.and_eq_true] at hf
        rw [List.countP_cons, List.countP_cons, ih hf.2, eqU_of r hf.1]
    refine ⟨.int ((ys.countP fun z => eqV z y) : Nat), H, I.tok _, ⟨s.toks, ?_⟩, q⟩
    show Value.int ((its.toArray.toList.countP (eqU y) : Nat) : Int) s.toks = _
    rw [← ec rv fys]
def countR : D → List D → R D
  | .lst xs, [d] => if scal0 d && xs.all scal0 then .ok (.int ((xs.countP fun z => eqD z d) : Nat)) else .bad
  | _, _ => .bad
theorem scal_count {d : D} {v : V} (h : scal0 d = true) (r : Rep K H v d) : ∀ {xs : List D} {vs : List V}, xs.all scal0 = true → RepAll K H vs xs → (vs.countP fun z => eqV z v) = xs.countP fun z => eqD z d
  | _, _, _, .nil => rfl
  | _, _, h', .cons q t => by
    rw [List.all_cons, Bool.and_eq_true] at h'
    rw [List.countP_cons, List.countP_cons, scal_count h r h'.2 t, scal_eq h'.1 h q r]
theorem de_count (ho : DE X W ξ c o fo) (ha : DA X W ξ c1 [e] Fs)
    (hbase : attributeBase o "count" X.env (eval o X.env) = eval o X.env := by rfl)
    (hfew : ((backTo pos (starEach [e] X.env)).all (fun x => !x.1) && (backToKw pos (keywordEach [] X.env)).all (fun x => x.1.isSome)
      && decide ([e].length + ([] : List Keyword).length + (if ([] : List Keyword).isEmpty then 0 else 1) < 30)) = true := by rfl)
    (hline : (apos.endLine == pos.line) = true := by rfl) (hs : starEach (e :: []) X.env = (false, eval e X.env) :: starEach [] X.env := by rfl) (hplain : (backTo pos (starEach [] X.env)).any (·.1) = false := by rfl) :
    DE X W ξ true (.Call (.Attribute o "count" apos) [e] [] pos) (eMeth lstyR fo Fs countR) := by
  refine peImp (pe_bm F.plainAttrs_list F.slot_list_count F.type_list_count mt_lcountF ho ha hbase hfew hline hs hplain) fun σ H Q ⟨M, H0, env, E, p⟩ => ⟨M, H0, env, E, ?_⟩
  have p : PostE X.K W ξ M σ env true H0 H Q (fo env >>= fun d => lstyR d >>= fun d => Fs env >>= countR d) := by
    have p : PostE X.K W ξ M σ env true H0 H Q ((fo env >>= lstyR) >>= fun d => Fs env >>= countR d) := p
    rw [R.assoc] at p
    exact p
  refine bindE wishE p fun d v H1 H2 g r p1 => ?_
  unfold lstyR at p1
  split at p1
  · rename_i xs
    have p1 : PostE X.K W ξ M σ env true H1 H2 Q (Fs env >>= countR (.lst xs)) := p1
    refine ⟨lst_ty r g.e.same, M, H1, env, g.e, bindA wishE p1 fun ds vs H3 H4 g2 r2 p2 => ?_⟩
    unfold countR at p2
    split at p2
    · rename_i xs' d' he
      cases he
      split at p2
      · rename_i hd
        rw [Bool.and_eq_true] at hd
        obtain ⟨w, rfl, r3⟩ := x1 r2
        have q1 := RepX.rep r3 g2.e.same
        obtain ⟨a, ws, rfl, h1, r4⟩ := RepX.lst (RepX.mono r g2.s0 g2.s) g2.e.same
        have r4 := r4.mono g2.e.same
        refine ⟨a, ws, w, rfl, rfl, SqL.of h1, scal_flat hd.1 q1, scal_all hd.2 r4, ?_⟩
        rw [scal_count hd.1 q1 hd.2 r4]
        exact post_ok g2.e p2 (.int _)
      · exact p2.elim
    · exact p2.elim
  · exact p1.elim
end
end Dx
namespace Dx
open PySem PySem.Spec PyProof.Rows L2
/-! ### for k in d, d a dict of the def's own, not changed within -/
section
variable {K : PySem.W.Frag} {ξ : Str → Value} {M : Fm ξ} {σ : L2.St} {env : En} {H0 H : Hp}
mutual
theorem Rep.lock {a : Addr} {u o : HO} (h : H a = some u) (hk : ∃ kvs od, (u = .dK kvs ∧ o = .frz od (.dK kvs)) ∨ (u = .frz od (.dK kvs) ∧ o = .dK kvs)) : ∀ {v : V} {d : D}, Rep K H v d → Rep K (upd H a o) v d
  | _, _, .non => .non
  | _, _, .bl b => .bl b
  | _, _, .int i => .int i
  | _, _, .str x h => .str x h
  | _, _, .tup (a := b) q z r => .tup (by
      have hne : b ≠ a := fun e => by
        subst e; rw [h] at q; cases q
        obtain ⟨_, _, ⟨e, _⟩ | ⟨e, _⟩⟩ := hk <;> cases e
      rw [upd_ne hne]; exact q) z (RepAll.lock h hk r)
  | _, _, .lst (a := b) q z r => .lst (by
      have hne : b ≠ a := fun e => by
        subst e; rw [h] at q; cases q
        obtain ⟨_, _, ⟨e, _⟩ | ⟨e, _⟩⟩ := hk <;> cases e
      rw [upd_ne hne]; exact q) z (RepAll.lock h hk r)
  | _, _, .dic (a := b) q r => .dic (by
      by_cases e : b = a
      · subst e
        unfold Rd at q ⊢
        rw [h] at q
        rw [upd_same]
        obtain ⟨kvs, od, ⟨e1, e2⟩ | ⟨e1, e2⟩⟩ := hk
        · subst e1 e2
          rcases q with q | ⟨_, q⟩
          · cases q; exact .inr ⟨_, rfl⟩
          · cases q
        · subst e1 e2
          rcases q with q | ⟨_, q⟩
          · cases q
          · cases q; exact .inl rfl
      · unfold Rd at q ⊢
        rw [upd_ne e]; exact q) (RepKv.lock h hk r)
  | _, _, .opq b => .opq b
  | _, _, .frz (a := b) q => .frz (by
      rcases q with q | q
      · refine .inl ?_
        by_cases e : b = a
        · subst e
          exfalso
          unfold Rd at q
          rw [h] at q
          obtain ⟨kvs, od, ⟨e1, e2⟩ | ⟨e1, e2⟩⟩ := hk
          · subst e1; rcases q with q | ⟨_, q⟩ <;> cases q
          · subst e1; rcases q with q | ⟨_, q⟩ <;> cases q
        · unfold Rd at q ⊢
          rw [upd_ne e]; exact q
      · exact .inr q)
theorem RepAll.lock {a : Addr} {u o : HO} (h : H a = some u) (hk : ∃ kvs od, (u = .dK kvs ∧ o = .frz od (.dK kvs)) ∨ (u = .frz od (.dK kvs) ∧ o = .dK kvs)) : ∀ {vs : List V} {xs : List D}, RepAll K H vs xs → RepAll K (upd H a o) vs xs
  | _, _, .nil => .nil
  | _, _, .cons r t => .cons (Rep.lock h hk r) (RepAll.lock h hk t)
theorem RepKv.lock {a : Addr} {u o : HO} (h : H a = some u) (hk : ∃ kvs od, (u = .dK kvs ∧ o = .frz od (.dK kvs)) ∨ (u = .frz od (.dK kvs) ∧ o = .dK kvs)) : ∀ {vs : List (Key × V)} {xs : List (Key × D)}, RepKv K H vs xs → RepKv K (upd H a o) vs xs
  | _, _, .nil => .nil
  | _, _, .cons e r t => .cons e (Rep.lock h hk r) (RepKv.lock h hk t)
end
end
end Dx

/-! The data layer, part K9: walks of dicts. -/
namespace Dx
open PySem PySem.Spec PyProof.Rows L2
section
variable {K : PySem.W.Frag} {ξ : Str → Value} {M : Fm ξ} {σ : L2.St} {env : En} {H0 H H0' H' : Hp}
theorem EnvAt.unlock {a : Addr} {od : Obj} {vs : List (Key × V)} (E : EnvAt K M H0 H σ env) (h : H0 a = some (.frz od (.dK vs))) (hn : ¬ M.N a) (hg : M.G a = none) : EnvAt K M (upd H0 a (.dK vs)) (upd H a (.dK vs)) σ env := by
  have hk : ∃ kvs od', ((HO.frz od (.dK vs) : HO) = .dK kvs ∧ (HO.dK vs : HO) = .frz od' (.dK kvs)) ∨ ((HO.frz od (.dK vs) : HO) = .frz od' (.dK kvs) ∧ (HO.dK vs : HO) = .dK kvs) := ⟨vs, od, .inr ⟨rfl, rfl⟩⟩
  have ne : ∀ {b}, H0 b = none → b ≠ a := fun {b} e z => by subst z; rw [h] at e; cases e
  refine ⟨fun b u e => ?_, fun b u e => ?_, fun b hb => ?_, E.len, fun i s hs => ?_, E.sep, E.ng, E.tg⟩
  · by_cases hb : b = a
    · subst hb; rw [upd_same] at e ⊢; exact e
    · rw [upd_ne hb] at e ⊢; exact E.same _ _ e
  · rw [upd_ne (ne_of_none e hg)]; exact E.fr _ _ e
  · obtain ⟨z1, z2⟩ := E.nogo b hb
    have := ne z1
    rw [upd_ne this, upd_ne this]; exact ⟨z1, z2⟩
  · have q := E.slot i s hs
    cases s with
    | u => trivial
    | d x => obtain ⟨v, e, r⟩ := q; exact ⟨v, e, r.lock h hk⟩
    | ol xs => obtain ⟨b, vs', e, k0, kg, kb, z, r⟩ := q; exact ⟨b, vs', e, by rw [upd_ne (ne k0)]; exact k0, kg, by rw [upd_ne (ne k0)]; exact kb, z, r.lock h hk⟩
    | od xs => obtain ⟨b, vs', e, k0, kg, kb, r⟩ := q; exact ⟨b, vs', e, by rw [upd_ne (ne k0)]; exact k0, kg, by rw [upd_ne (ne k0)]; exact kb, r.lock h hk⟩
    | ex => exact q
    | tr n k t => exact ⟨q.1, q.2.1, q.2.2.map fun _ _ r => r.lock h hk⟩
theorem EnvAt.lock {a : Addr} {od : Obj} {i : Nat} {kvs : List (Key × D)} {vs : List (Key × V)} (E : EnvAt K M H0 H σ env) (hi : env[i]? = some (.od kvs)) (hs : σ[i]? = some (some (.ref a))) (h0 : H0 a = none) (hg : M.G a = none) (r : RepKv K H0 vs kvs) :
    EnvAt K M (upd H0 a (.frz od (.dK vs))) (upd H a (.frz od (.dK vs))) σ (env.set i (.d (.dic kvs))) := by
  have hw : Owns σ env i a := ⟨hs, _, hi, rfl⟩
  have hlt : i < env.length := (List.getElem?_eq_some_iff.mp hi).1
  have s0 : Same H0 (upd H0 a (.frz od (.dK vs))) := same_upd h0
  have key : ∀ b j, Owns σ (env.set i (.d (.dic kvs))) j b → j ≠ i ∧ Owns σ env j b := fun b j ⟨k1, s3, k2, k3⟩ => by
    by_cases hij : i = j
    · subst hij
      rw [List.getElem?_set_self hlt] at k2; cases k2; cases k3
    · rw [List.getElem?_set_ne hij] at k2
      exact ⟨Ne.symm hij, k1, s3, k2, k3⟩
  refine ⟨fun b u e => ?_, fun b u e => ?_, fun b hb => ?_, by rw [List.length_set]; exact E.len, fun j s2 h2 => ?_, fun j l b hj hl => E.sep j l b (key b j hj).2 (key b l hl).2, fun b j hb ho => E.ng b j hb (key b j ho).2, tg_set E.tg (by intro _ _ _ z; cases z)⟩
  · by_cases hb : b = a
    · subst hb; rw [upd_same] at e ⊢; exact e
    · rw [upd_ne hb] at e ⊢; exact E.same _ _ e
  · rw [upd_ne (ne_of_none e hg)]; exact E.fr _ _ e
  · obtain ⟨z1, z2⟩ := E.nogo b hb
    have : b ≠ a := fun z => by subst z; exact E.ng b i hb hw
    rw [upd_ne this, upd_ne this]; exact ⟨z1, z2⟩
  · by_cases hij : i = j
    · subst hij
      rw [List.getElem?_set_self hlt] at h2; cases h2
      exact ⟨.ref a, hs, .dic (.inr ⟨od, upd_same⟩) (r.mono s0)⟩
    · rw [List.getElem?_set_ne hij] at h2
      have q := E.slot j s2 h2
      have ne : ∀ {b}, σ[j]? = some (some (.ref b)) → s2.own = true → b ≠ a := fun {b} e o' z => by
        subst z; exact hij (E.sep i j b hw ⟨e, s2, h2, o'⟩)
      cases s2 with
      | u => trivial
      | d x => obtain ⟨v, e, r⟩ := q; exact ⟨v, e, r.mono s0⟩
      | ol xs => obtain ⟨b, vs, e, k0, kg, kb, z, r⟩ := q; exact ⟨b, vs, e, by rw [upd_ne (ne e rfl)]; exact k0, kg, by rw [upd_ne (ne e rfl)]; exact kb, z, r.mono s0⟩
      | od xs => obtain ⟨b, vs, e, k0, kg, kb, r⟩ := q; exact ⟨b, vs, e, by rw [upd_ne (ne e rfl)]; exact k0, kg, by rw [upd_ne (ne e rfl)]; exact kb, r.mono s0⟩
      | ex => exact q
      | tr n k t => exact ⟨q.1, q.2.1, q.2.2.mono s0⟩
end
section
variable {X : Cx} {W : WX} {ξ : Str → Value} {body : List Stmt} {B : En → Out} {pos npos : Pos}
def sForK (i : Nat) (T : D → En → R En) (B : En → Out) : En → Out := fun env => match env[i]? with
  | some (.od kvs) => forO T B (kvs.map fun kv => keyD kv.1) (env.set i (.d (.dic kvs)))
  | _ => .bad
def lockEnds (a : Addr) (od : Obj) (u : HO) (D : Ends) : Ends := ⟨fun σ' H' => H' a = some (.frz od u) ∧ D.nx σ' (upd H' a u), fun v H' => H' a = some (.frz od u) ∧ D.rt v (upd H' a u), fun σ' H' => H' a = some (.frz od u) ∧ D.bk σ' (upd H' a u), fun σ' H' => H' a = some (.frz od u) ∧ D.ct σ' (upd H' a u)⟩
theorem lockPost {K : PySem.W.Frag} {M : Fm ξ} {H0 : Hp} {Dn : Ends} {o : Out} {a : Addr} {od : Obj} {vs : List (Key × V)} (h0 : H0 a = none) (hn : ¬ M.N a) (hg : M.G a = none) (p : PostS K W ξ M H0 Dn o) :
    PostS K W ξ M (upd H0 a (.frz od (.dK vs))) (lockEnds a od (.dK vs) Dn) o := by
  have s0 : Same H0 (upd H0 a (.frz od (.dK vs))) := same_upd h0
  have at0 : ∀ {H0' : Hp}, Same (upd H0 a (.frz od (.dK vs))) H0' → H0' a = some (.frz od (.dK vs)) := fun s => s _ _ upd_same
  have s1 : ∀ {H0' : Hp}, Same (upd H0 a (.frz od (.dK vs))) H0' → Same H0 (upd H0' a (.dK vs)) := fun s b u e => by
    rw [upd_ne (ne_of_none e h0)]; exact s _ _ (s0 _ _ e)
  cases o with
  | nx e => exact fun σ' H0' H' s E => ⟨E.same _ _ (at0 s), p σ' _ _ (s1 s) (E.unlock (at0 s) hn hg)⟩
  | bk e => exact fun σ' H0' H' s E => ⟨E.same _ _ (at0 s), p σ' _ _ (s1 s) (E.unlock (at0 s) hn hg)⟩
  | ct e => exact fun σ' H0' H' s E => ⟨E.same _ _ (at0 s), p σ' _ _ (s1 s) (E.unlock (at0 s) hn hg)⟩
  | exc x e => exact fun σ' H0' H' s E => p σ' H0' H' (s0.trans s) E
  | bad => exact p
  | rt d e =>
    intro v H0' H' s r
    have h := at0 s
    refine ⟨r.same _ _ h, p v (upd H0' a (.dK vs)) (upd H' a (.dK vs)) (s1 s) ⟨fun b u e => ?_, fun b u e => ?_, fun b hb => ?_, r.rep.lock h ⟨vs, od, .inr ⟨rfl, rfl⟩⟩⟩⟩
    · by_cases hb : b = a
      · subst hb; rw [upd_same] at e ⊢; exact e
      · rw [upd_ne hb] at e ⊢; exact r.same _ _ e
    · rw [upd_ne (ne_of_none e hg)]; exact r.fr _ _ e
    · have := r.nogo b hb
      have : b ≠ a := fun z => hn (z ▸ hb)
      rw [upd_ne this]; exact r.nogo b hb
theorem ds_forK {tg : Expr} {ts : List Nat} {T : D → En → R En} {i : Nat} {l : Str} (hp : PassesOwn (model X.prog X.w) X.A X.env X.xe) (hl : PE X (.Name l npos) (tVar i)) (hg : DGt X ξ tg ts T) (hb : DSs X W ξ body B) (hc : X.calm = true := by rfl)
    (hs : ∀ x, foldedSetIterable (.Name l npos) X.env x = pure x := by intro _; rfl) : DS X W ξ (.For tg (.Name l npos) body [] pos) (sForK i T B) :=
  psImp (ps_lock (ps_for hp hc (pi_keys hl) hg hb hs)) fun Dn0 σ H ⟨M, H0, env, E, p⟩ => by
    unfold sForK at p
    cases hi : env[i]? with
    | none => rw [hi] at p; exact p.elim
    | some s =>
      rw [hi] at p
      cases s with
      | u => exact p.elim
      | d x => exact p.elim
      | ol x => exact p.elim
      | ex => exact p.elim
      | tr n k t => exact p.elim
      | od kvs =>
        obtain ⟨a, vs, ea, h0, hg0, ha, rk⟩ := E.slot i _ hi
        have hn : ¬ M.N a := fun z => E.ng a i z ⟨ea, _, hi, rfl⟩
        refine ⟨a, .dK vs, ha, trivial, fun od => ?_⟩
        have E1 := E.lock (od := od) hi ea h0 hg0 rk
        have p : PostS X.K W ξ M H0 Dn0 (forO T B (kvs.map fun kv => keyD kv.1) (env.set i (.d (.dic kvs)))) := p
        have p1 := lockPost (od := od) (vs := vs) h0 hn hg0 p
        generalize hds : (kvs.map fun kv => keyD kv.1) = ds at p1
        have hln : vs.length = ds.length := by rw [← hds, List.length_map]; exact rk.length
        generalize hH1 : upd H0 a (.frz od (.dK vs)) = H1 at E1 p1
        have h1 : H1 a = some (.frz od (.dK vs)) := by rw [← hH1]; exact upd_same
        have rk1 : RepAll X.K H1 (vs.map fun kv => kV kv.1) ds := by rw [← hds]; exact keys_rep rk
        refine ⟨.ref a, ea, a, od, rfl, .inl ⟨vs, upd_same, ?_⟩⟩
        have wk := walk_keys (d := a) (o := od) (kvs := vs)
        rw [hln] at wk
        refine for_it (D := lockEnds a od (.dK vs) Dn0) wk (fun i σ' H' => ∃ H0' env', Same H1 H0' ∧ EnvAt X.K M H0' H' σ' env' ∧ PostS X.K W ξ M H0' (lockEnds a od (.dK vs) Dn0) (forO T B (ds.drop i) env')) ⟨H1, _, Same.refl _, E1, p1⟩
          (fun i σ' H' _ ⟨H0', env', s, E', _⟩ => E'.same _ _ (s _ _ h1)) (fun i x σ' H' H'' hi ⟨H0', env', s, E', p'⟩ y => ?_) fun σ' H' ⟨H0', env', s, E', p'⟩ => ?_
        · obtain ⟨d, hd⟩ : ∃ d, ds[i]? = some d := ⟨ds[i], by simp [hi]⟩
          have hdrop : ds.drop i = d :: ds.drop (i + 1) := by
            rw [List.drop_eq_getElem_cons hi]
            rw [List.getElem?_eq_getElem hi] at hd
            cases hd; rfl
          rw [hdrop] at p'
          unfold forO at p'
          obtain ⟨e1, k, v, hkv, ex⟩ := y
          subst e1
          have r : Rep X.K H0' x d := by
            obtain ⟨v', hv', rv⟩ := rk1.get hd
            rw [List.getElem?_map, hkv] at hv'
            cases hv'
            rw [ex]; exact rv.mono s
          split at p'
          · rename_i e1 he1
            refine ⟨M, H0', env', d, e1, E', r, he1, fun σ2 _ E3 => ⟨M, H0', e1, E3, ?_⟩⟩
            split at p'
            · rename_i e ho
              rw [ho]
              exact fun σ3 H03 H3 s3 E4 => ⟨H03, e, s.trans s3, E4, p'.weak s3⟩
            · rename_i e ho
              rw [ho]
              exact fun σ3 H03 H3 s3 E4 => ⟨H03, e, s.trans s3, E4, p'.weak s3⟩
            · rename_i e ho
              rw [ho]
              exact fun σ3 H03 H3 s3 E4 => p' σ3 H03 H3 s3 E4
            · rename_i o h1 h2 h3
              have p2 := p'
              revert p2
              cases ho : B e1 with
              | nx e => exact absurd ho (h1 e)
              | ct e => exact absurd ho (h2 e)
              | bk e => exact absurd ho (h3 e)
              | rt d e => exact fun p2 => p2
              | exc x e => exact fun p2 => p2
              | bad => exact fun p2 => p2
          · exact p'.elim
        · rw [List.drop_length] at p'
          exact p' σ' H0' H' (Same.refl _) E'
end
end Dx
namespace Dx
open PySem PySem.Spec PyProof.Rows L2
section
variable {X : Cx} {W : WX} {ξ : Str → Value} {body : List Stmt} {B : En → Out} {pos npos : Pos}
def keysR : D → R (List D)
  | .dic kvs => .ok (kvs.map fun kv => keyD kv.1)
  | _ => .bad
/-- only where slot i has a dict of its own -/
def sOwnK (i : Nat) (G : En → Out) : En → Out := fun env => match env[i]? with
  | some (.od _) => G env
  | _ => .bad
theorem ds_forW {tg : Expr} {ts : List Nat} {T : D → En → R En} {i : Nat} {l : Str} (hp : PassesOwn (model X.prog X.w) X.A X.env X.xe) (hl : PE X (.Name l npos) (tVar i)) (hg : DGt X ξ tg ts T) (hb : DSs X W ξ body B) (hc : X.calm = true := by rfl)
    (hs : ∀ x, foldedSetIterable (.Name l npos) X.env x = pure x := by intro _; rfl) : DS X W ξ (.For tg (.Name l npos) body [] pos) (sOwnK i (sFrz i (sFor (eUn keysR (getD' i)) T B))) :=
  psImp (ds_forK hp hl hg hb hc hs) fun Dn σ H ⟨M, H0, env, E, p⟩ => ⟨M, H0, env, E, by
    have key : ∀ o, sOwnK i (sFrz i (sFor (eUn keysR (getD' i)) T B)) env = o → o ≠ .bad → sForK i T B env = o := by
      intro o ho hb
      subst ho
      unfold sOwnK at hb ⊢
      unfold sForK
      cases hi : env[i]? with
      | none => rfl
      | some s =>
        cases s with
        | u => rfl
        | d x => rfl
        | ol x => rfl
        | ex => rfl
        | tr n k t => rfl
        | od kvs =>
          have hlt : i < env.length := (List.getElem?_eq_some_iff.mp hi).1
          show forO T B (kvs.map fun kv => keyD kv.1) (env.set i (.d (.dic kvs))) = sFor (eUn keysR (getD' i)) T B (frz i env)
          have hf : frz i env = env.set i (.d (.dic kvs)) := by unfold frz; rw [hi]; first | done | rfl
          rw [hf]
          have hg : getD' i (env.set i (.d (.dic kvs))) = .ok (.dic kvs) := by unfold getD'; rw [List.getElem?_set_self hlt]
          show _ = liftO (getD' i (env.set i (.d (.dic kvs))) >>= keysR) _ _
          rw [hg]
          first | done | rfl
    by_cases hb : sOwnK i (sFrz i (sFor (eUn keysR (getD' i)) T B)) env = .bad
    · rw [hb] at p; exact p.elim
    · rw [key _ rfl hb]; exact p⟩
end
end Dx

/-! The data layer, part KA: a text none or one time. -/
namespace Dx
open PySem PySem.Spec PyProof.Rows L2
def mulSR (a b : D) : R D := match a, b with
  | .str s, .int n => if n = 0 then .ok (.str "") else if n = 1 then .ok (.str s) else .bad
  | _, _ => .bad
theorem op_mulS {X : Cx} : OpR X (binaryOp .Mult) (fun x y H Q => ∃ i n, x = V.str i ∧ y = V.int n ∧ ((n = 0 ∧ Q (.str "") H) ∨ (n = 1 ∧ Q (.str i) H))) := by
  intro pins s σ H x y v u Q I rx ry h
  obtain ⟨i, n, rfl, rfl, h⟩ := h
  obtain ⟨t, rfl⟩ := rx
  obtain ⟨t', rfl⟩ := ry
  rcases h with ⟨rfl, q⟩ | ⟨rfl, q⟩
  · exact PySem.P.mul_str_none (by decide) (by decide) ⟨.str "", H, I.tok _, ⟨_, rfl⟩, q⟩
  · refine PySem.P.mul_str (by decide) (fun _ h => by simp at h) (fun _ h => by simp at h) ?_
    rw [if_neg (by decide), if_pos (by simp)]
    exact ⟨.str i, H, I, ⟨_, rfl⟩, q⟩
section
variable {X : Cx} {W : WX} {ξ : Str → Value} {a b : Expr} {c1 c2 : Bool} {pos : Pos} {fa fb : En → R D}
theorem de_mulS (ha : DE X W ξ c1 a fa) (hb : DE X W ξ c2 b fb) : DE X W ξ true (.BinOp a .Mult b pos) (eBin mulSR fa fb) :=
  de_op op_mulS ha hb fun {M σ env H0 H Q x y d1 d2} E r1 r2 p => by
    unfold mulSR at p
    split at p
    · split at p
      · rename_i h; exact ⟨_, _, r1.str, r2.int, .inl ⟨h, post_ok E p (.str _ (by decide +kernel))⟩⟩
      · split at p
        · rename_i h; exact ⟨_, _, r1.str, r2.int, .inr ⟨h, post_ok E p (.str _ r1.sok)⟩⟩
        · exact p.elim
    · exact p.elim
end
end Dx

/-! What the defs compute. -/
namespace Dn
open PySem PySem.Spec PyProof.Rows L2 Dx
/-! ### is_within : slots ['thing', 'low', 'high'] -/
def g_is_within : En → Out := (sRet (eAnd (eUn (isiR "int") (getD' 0)) (eAnd (eUn notR (eUn (isiR "bool") (getD' 0))) (eChain leR leR (getD' 1) (getD' 0) (getD' 2)))))
def den_is_within : List D → R D := defR 3 0 g_is_within
/-! ### is_name : slots ['thing', 'sign'] -/
def g_is_name : En → Out := (sRet (eAnd (eUn (isiR "str") (getD' 0)) (eAnd (eChain leR leR (eC (.int 1)) (eUn lenR (aCons (getD' 0) aNil)) (eC (.int 3))) (eUn allR (aCons (eOfF (eComp (eUn itemsR (getD' 0)) (nameT 1) tTrue (eBin inR (getD' 1) (eC (.str "abcdefghijklmnopqrstuvwxyz"))) [1])) aNil)))))
def den_is_name : List D → R D := defR 1 1 g_is_name
/-! ### are_marks : slots ['thing', 'sign', 'one', 'other'] -/
def g_are_marks : En → Out := (sSeq (sIf (tOr (tNot (tVal (eUn (isiR "str") (getD' 0)))) (tNot (tVal (eUn allR (aCons (eOfF (eComp (eUn itemsR (getD' 0)) (nameT 1) tTrue (eBin inR (getD' 1) (eC (.str "cfhl"))) [1])) aNil)))))
  (sRet (eC (.bl false)))
  sNil)
  (sRet (eUn allR (aCons (eOfF (eComp (fZip (getD' 0) (eSlice (getD' 0) (eUn optR (eC (.int 1))) oNone)) (tupT [2, 3]) tTrue (eBin ltR (getD' 2) (getD' 3)) [2, 3])) aNil))))
def den_are_marks : List D → R D := defR 1 3 g_are_marks
/-! ### is_box : slots ['thing', 'at', 'size'] -/
def g_is_box : En → Out := (sSeq (sIf (tOr (tNot (tVal (eUn (isiR "tuple") (getD' 0)))) (tOr (tBin neR (eUn lenR (aCons (getD' 0) aNil)) (eC (.int 7))) (tOr (tNot (tVal (eUn den_is_name (aCons (eBin ixR (getD' 0) (eC (.int 0))) aNil)))) (tNot (tVal (eUn den_are_marks (aCons (eBin ixR (getD' 0) (eC (.int 6))) aNil)))))))
  (sRet (eC (.bl false)))
  sNil)
  (sSeq (sIf (tOr (tNot (tVal (eUn (isiR "str") (eBin ixR (getD' 0) (eC (.int 1)))))) (tNot (tVal (eUn allR (aCons (eOfF (eComp (eUn itemsR (eSlice (getD' 0) (eUn optR (eC (.int 2))) (eUn optR (eC (.int 4))))) (nameT 1) tTrue (eUn den_is_within (aCons (getD' 1) (aCons (eBin subR (eC (.int 0)) (eC (.int 20))) (aCons (eC (.int 20)) aNil)))) [1])) aNil)))))
  (sRet (eC (.bl false)))
  sNil)
  (sRet (eUn allR (aCons (eOfF (eComp (eUn itemsR (eSlice (getD' 0) (eUn optR (eC (.int 4))) (eUn optR (eC (.int 6))))) (nameT 2) tTrue (eUn den_is_within (aCons (getD' 2) (aCons (eC (.int 0)) (aCons (eC (.int 20)) aNil)))) [2])) aNil)))))
def den_is_box : List D → R D := defR 1 2 g_is_box
/-! ### is_scene : slots ['thing', 'names', 'box', 'at'] -/
def g_is_scene : En → Out := (sSeq (sIf (tOr (tNot (tVal (eUn (isiR "tuple") (getD' 0)))) (tOr (tBin gtR (eUn lenR (aCons (getD' 0) aNil)) (eC (.int 12))) (tNot (tVal (eUn allR (aCons (eOfF (eComp (eUn itemsR (getD' 0)) (nameT 2) tTrue (eUn den_is_box (aCons (getD' 2) aNil)) [2])) aNil))))))
  (sRet (eC (.bl false)))
  sNil)
  (sSeq (sSet 1 (eOfF (eComp (eUn itemsR (getD' 0)) (nameT 2) tTrue (eBin ixR (getD' 2) (eC (.int 0))) [2])))
  (sSeq (sIf (tBin ltR (eUn lenSetR (getD' 1)) (eUn lenR (aCons (getD' 1) aNil)))
  (sRet (eC (.bl false)))
  sNil)
  (sRet (eUn allR (aCons (eOfF (eComp (fEnT (getD' 0)) (tupT [3, 2]) tTrue (eOr (eBin eqR (eBin ixR (getD' 2) (eC (.int 1))) (eC (.str ""))) (eBin inR (eBin ixR (getD' 2) (eC (.int 1))) (eSlice (getD' 1) oNone (eUn optR (getD' 3))))) [3, 2])) aNil))))))
def den_is_scene : List D → R D := defR 1 3 g_is_scene
/-! ### _law_cell : slots ['_law_script', '_law_k'] -/
def g__law_cell : En → Out := (sSeq (sIf (tBin eqR (getD' 0) (eOfF (eUn lstR aNil)))
  (sRet (eBin mulR (eC (.int 7)) (getD' 1)))
  sNil)
  (sRet (eBin addR (eBin ixR (getD' 0) (eBin modR (getD' 1) (eUn lenR (aCons (getD' 0) aNil)))) (eBin mulR (eC (.int 6553)) (eBin divR (getD' 1) (eUn lenR (aCons (getD' 0) aNil)))))))
def den__law_cell : List D → R D := defR 2 0 g__law_cell
/-! ### _law_drawn : slots ['_law_script', '_law_k', '_law_many', '_law_cell_here'] -/
def g__law_drawn : En → Out := (sSeq (sSet 3 (eBin modR (eBin addR (eBin mulR (eBin modR (eUn den__law_cell (aCons (getD' 0) (aCons (getD' 1) aNil))) (eC (.int 2147483563))) (eC (.int 69069))) (eBin mulR (eC (.int 104723)) (eBin addR (getD' 1) (eC (.int 1))))) (eC (.int 2147483563))))
  (sSeq (sSet 3 (eBin modR (eBin addR (eBin mulR (getD' 3) (getD' 3)) (eBin divR (getD' 3) (eC (.int 3)))) (eC (.int 2147483399))))
  (sRet (eBin modR (eBin divR (eBin modR (eBin addR (eBin mulR (getD' 3) (getD' 3)) (eBin divR (getD' 3) (eC (.int 7)))) (eC (.int 2147483647))) (eC (.int 11))) (getD' 2)))))
def den__law_drawn : List D → R D := defR 3 1 g__law_drawn
/-! ### _law_scene : slots ['_law_script', '_law_at', '_law_found', '_law_turn', '_law_k', '_law_here', '_law_around', '_law_places', '_law_sizes', '_law_marks', '_law_j', '_law_sign', '_law_name', '_law_box_here'] -/
def g__law_scene : En → Out := (sSeq (sSet 2 (eUn tupR aNil))
  (sSeq (sSet 3 (eUn den__law_drawn (aCons (getD' 0) (aCons (eBin addR (getD' 1) (eC (.int 1))) (aCons (eC (.int 8)) aNil)))))
  (sSeq (sFor (eUn range1R (eUn den__law_drawn (aCons (getD' 0) (aCons (getD' 1) (aCons (eC (.int 8)) aNil))))) (nameT 4)
  (sEnd [4, 5, 6, 7, 8, 9, 10, 11, 12] (sSeq (sSet 5 (eBin addR (eBin addR (getD' 1) (eC (.int 3))) (eBin mulR (eC (.int 9)) (getD' 4))))
  (sSeq (sSet 6 (eBin ixR (eBin addR (eOfF (eUn lstR (aCons (eC (.str "")) aNil))) (eOfF (eComp (eUn itemsR (getD' 2)) (nameT 13) tTrue (eBin ixR (getD' 13) (eC (.int 0))) [13]))) (eUn den__law_drawn (aCons (getD' 0) (aCons (getD' 5) (aCons (eBin addR (getD' 4) (eC (.int 1))) aNil))))))
  (sSeq (sSetFD 7 (eComp (eUn range1R (eC (.int 2))) (nameT 10) tTrue (eBin subR (eUn den__law_drawn (aCons (getD' 0) (aCons (eBin addR (eBin addR (getD' 5) (eC (.int 1))) (getD' 10)) (aCons (eC (.int 9)) aNil)))) (eC (.int 3))) [10]))
  (sSeq (sSetFD 8 (eComp (eUn range1R (eC (.int 2))) (nameT 10) tTrue (eUn den__law_drawn (aCons (getD' 0) (aCons (eBin addR (eBin addR (getD' 5) (eC (.int 3))) (getD' 10)) (aCons (eC (.int 9)) aNil)))) [10]))
  (sSeq (sSet 9 (eC (.str "")))
  (sSeq (sFor (fEnT (eC (.str "cfhl"))) (tupT [10, 11])
  (sEnd [10, 11] (sIf (tBin eqR (eUn den__law_drawn (aCons (getD' 0) (aCons (eBin addR (eBin addR (getD' 5) (eC (.int 5))) (getD' 10)) (aCons (eBin ixR (eOfF (eUn lstR (aCons (eC (.int 4)) (aCons (eC (.int 2)) (aCons (eC (.int 9)) (aCons (eC (.int 6)) aNil)))))) (getD' 10)) aNil)))) (eC (.int 0)))
  (sSet 9 (eBin addR (getD' 9) (getD' 11)))
  sNil)))
  (sSeq (sSet 12 (eBin ixR (eC (.str "dbgahcfe")) (eBin modR (eBin addR (getD' 4) (getD' 3)) (eC (.int 8)))))
  (sSet 2 (eBin addR (getD' 2) (eUn tupR (aCons (eBin addR (eBin addR (eUn tupR (aCons (getD' 12) (aCons (getD' 6) aNil))) (eUn tupleR (aCons (eBin addR (getD' 7) (getD' 8)) aNil))) (eUn tupR (aCons (getD' 9) aNil))) aNil)))))))))))))
  (sRet (getD' 2)))))
def den__law_scene : List D → R D := defR 2 12 g__law_scene
/-! ### _law_box : slots ['_law_scene_here', '_law_name', '_law_box_here'] -/
def g__law_box : En → Out := (sRet (eBin ixR (eOfF (eComp (eUn itemsR (getD' 0)) (nameT 2) (tBin eqR (eBin ixR (getD' 2) (eC (.int 0))) (getD' 1)) (getD' 2) [2])) (eC (.int 0))))
def den__law_box : List D → R D := defR 2 1 g__law_box
/-! ### _law_path : slots ['_law_scene_here', '_law_name', '_law_found'] -/
def g__law_path : En → Out := (sSeq (sSet 2 (eOfF (eUn lstR (aCons (getD' 1) aNil))))
  (sSeq (sWhile (tBin neR (eBin ixR (eUn den__law_box (aCons (getD' 0) (aCons (eBin ixR (getD' 2) (eC (.int 0))) aNil))) (eC (.int 1))) (eC (.str "")))
  (sSet 2 (eBin addR (eOfF (eUn lstR (aCons (eBin ixR (eUn den__law_box (aCons (getD' 0) (aCons (eBin ixR (getD' 2) (eC (.int 0))) aNil))) (eC (.int 1))) aNil))) (getD' 2))) 4096)
  (sRet (getD' 2))))
def den__law_path : List D → R D := defR 2 1 g__law_path
/-! ### _law_painted : slots ['_law_scene_here', '_law_around', '_law_found', '_law_box_here'] -/
def g__law_painted (self : List D → R D) : En → Out := (sSeq (sSet 2 (eOfF (eUn lstR aNil)))
  (sSeq (sFor (eUn itemsR (getD' 0)) (nameT 3)
  (sEnd [3] (sIf (tBin eqR (eBin ixR (getD' 3) (eC (.int 1))) (getD' 1))
  (sSet 2 (eBin addR (eBin addR (getD' 2) (eOfF (eUn lstR (aCons (eBin ixR (getD' 3) (eC (.int 0))) aNil)))) (eUn self (aCons (getD' 0) (aCons (eBin ixR (getD' 3) (eC (.int 0))) aNil)))))
  sNil)))
  (sRet (getD' 2))))
def den__law_painted_n : Nat → List D → R D
  | 0 => fun _ => .bad
  | k + 1 => defR 2 2 (g__law_painted (den__law_painted_n k))
def den__law_painted : List D → R D := den__law_painted_n 9
/-! ### _law_odd : slots ['_law_number', '_law_some'] -/
def g__law_odd : En → Out := (sSeq (sSet 1 (eOfF (eUn lstR (aCons (eUn negR (eC (.int 1))) (aCons (eC (.int 0)) (aCons (eC (.int 1)) (aCons (eC (.int 20)) (aCons (eC (.int 21)) (aCons (eUn negR (eC (.int 20))) (aCons (eUn negR (eC (.int 21))) (aCons (eC (.bl true)) (aCons (eC .non) (aCons (eC (.str "")) (aCons (eC (.str "a")) (aCons (eC (.str "abcd")) (aCons (eC (.str "A")) (aCons (eC (.str "cf")) (aCons (eC (.str "fc")) (aCons (eC (.str "cc")) (aCons (eC (.str "x")) (aCons (eUn tupR aNil) (aCons (eOfF (eUn lstR aNil)) aNil))))))))))))))))))))))
  (sRet (eBin ixR (eBin addR (getD' 1) (eOfF (eUn lstR (aCons (eUn tupR (aCons (eC (.str "a")) (aCons (eC (.str "")) (aCons (eC (.int 0)) (aCons (eC (.int 0)) (aCons (eC (.int 1)) (aCons (eC (.int 1)) (aCons (eC (.str "")) aNil)))))))) aNil)))) (eBin modR (getD' 0) (eC (.int 20))))))
def den__law_odd : List D → R D := defR 1 1 g__law_odd
/-! ### _law_spoilt : slots ['_law_thing', '_law_number', '_law_deep', '_law_at', '_law_part'] -/
def g__law_spoilt (self : List D → R D) : En → Out := (sSeq (sEnd [3, 4] (sIf (tAnd (tBin gtR (getD' 2) (eC (.int 0))) (tAnd (tVal (eUn (isiR "tuple") (getD' 0))) (tAnd (tBin gtR (eUn lenR (aCons (getD' 0) aNil)) (eC (.int 0))) (tBin gtR (eBin modR (getD' 1) (eC (.int 7))) (eC (.int 0))))))
  (sSeq (sSet 3 (eBin modR (eBin divR (getD' 1) (eC (.int 7))) (eUn lenR (aCons (getD' 0) aNil))))
  (sSeq (sSet 4 (eUn self (aCons (eBin ixR (getD' 0) (getD' 3)) (aCons (eBin divR (getD' 1) (eC (.int 91))) (aCons (eBin subR (getD' 2) (eC (.int 1))) aNil)))))
  (sRet (eBin addR (eBin addR (eSlice (getD' 0) oNone (eUn optR (getD' 3))) (eUn tupR (aCons (getD' 4) aNil))) (eSlice (getD' 0) (eUn optR (eBin addR (getD' 3) (eC (.int 1)))) oNone)))))
  sNil))
  (sSeq (sIf (tAnd (tVal (eUn (isiR "tuple") (getD' 0))) (tAnd (tBin gtR (eUn lenR (aCons (getD' 0) aNil)) (eC (.int 0))) (tBin eqR (eBin modR (eBin divR (getD' 1) (eC (.int 7))) (eC (.int 2))) (eC (.int 0)))))
  (sRet (eBin ixR (eOfF (eUn lstR (aCons (eUn listR (aCons (getD' 0) aNil)) (aCons (eSlice (getD' 0) oNone (eUn optR (eUn negR (eC (.int 1))))) (aCons (eBin addR (getD' 0) (eSlice (getD' 0) (eUn optR (eUn negR (eC (.int 1)))) oNone)) (aCons (eSlice (getD' 0) (eUn optR (eC (.int 1))) oNone) (aCons (eOfF (eUn revF (getD' 0))) (aCons (eBin mulR (getD' 0) (eC (.int 2))) aNil)))))))) (eBin modR (eBin divR (getD' 1) (eC (.int 14))) (eC (.int 6)))))
  sNil)
  (sSeq (sIf (tAnd (tVal (eUn (isiR "int") (getD' 0))) (tBin eqR (eBin modR (eBin divR (getD' 1) (eC (.int 7))) (eC (.int 2))) (eC (.int 0))))
  (sRet (eBin ixR (eOfF (eUn lstR (aCons (eUn str1R (aCons (getD' 0) aNil)) (aCons (eBin subR (eC (.int 0)) (getD' 0)) (aCons (eBin addR (getD' 0) (eC (.int 1))) (aCons (eBin eqR (getD' 0) (eC (.int 1))) (aCons (eBin subR (getD' 0) (eC (.int 30))) (aCons (eBin addR (getD' 0) (eC (.int 30))) aNil)))))))) (eBin modR (eBin divR (getD' 1) (eC (.int 14))) (eC (.int 6)))))
  sNil)
  (sRet (eUn den__law_odd (aCons (eBin divR (getD' 1) (eC (.int 7))) aNil))))))
def den__law_spoilt_n : Nat → List D → R D
  | 0 => fun _ => .bad
  | k + 1 => defR 3 2 (g__law_spoilt (den__law_spoilt_n k))
def den__law_spoilt : List D → R D := den__law_spoilt_n 9
/-! ### _law_is_number : slots ['_law_thing', '_law_low', '_law_high'] -/
def g__law_is_number : En → Out := (sRet (eAnd (eUn (isiR "int") (getD' 0)) (eAnd (eUn notR (eUn (isiR "bool") (getD' 0))) (eChain leR leR (getD' 1) (getD' 0) (getD' 2)))))
def den__law_is_number : List D → R D := defR 3 0 g__law_is_number
/-! ### _law_is_box : slots ['_law_box_here', '_law_names', '_law_odd_here', '_law_part', '_law_sign'] -/
def g__law_is_box : En → Out := (sSeq (sIf (tOr (tNot (tVal (eUn (isiR "tuple") (getD' 0)))) (tBin neR (eUn lenR (aCons (getD' 0) aNil)) (eC (.int 7))))
  (sRet (eC (.bl false)))
  sNil)
  (sSeq (sIf (tBin neR (eOfF (eComp (eUn itemsR (eBin addR (eSlice (getD' 0) oNone (eUn optR (eC (.int 2)))) (eSlice (getD' 0) (eUn optR (eC (.int 6))) oNone))) (nameT 3) (tNot (tVal (eUn (isiR "str") (getD' 3)))) (getD' 3) [3])) (eOfF (eUn lstR aNil)))
  (sRet (eC (.bl false)))
  sNil)
  (sSeq (sSetFD 2 (eComp (eUn itemsR (eBin ixR (getD' 0) (eC (.int 0)))) (nameT 4) (tBin notInR (getD' 4) (eC (.str "abcdefghijklmnopqrstuvwxyz"))) (getD' 4) [4]))
  (sSeq (sIf (tOr (tNot (tChain leR leR (eC (.int 1)) (eUn lenR (aCons (eBin ixR (getD' 0) (eC (.int 0))) aNil)) (eC (.int 3)))) (tBin neR (getD' 2) (eOfF (eUn lstR aNil))))
  (sRet (eC (.bl false)))
  sNil)
  (sSeq (sIf (tOr (tBin inR (eBin ixR (getD' 0) (eC (.int 0))) (getD' 1)) (tAnd (tBin neR (eBin ixR (getD' 0) (eC (.int 1))) (eC (.str ""))) (tBin notInR (eBin ixR (getD' 0) (eC (.int 1))) (getD' 1))))
  (sRet (eC (.bl false)))
  sNil)
  (sSeq (sIf (tOr (tNot (tVal (eUn den__law_is_number (aCons (eBin ixR (getD' 0) (eC (.int 2))) (aCons (eUn negR (eC (.int 20))) (aCons (eC (.int 20)) aNil)))))) (tNot (tVal (eUn den__law_is_number (aCons (eBin ixR (getD' 0) (eC (.int 3))) (aCons (eUn negR (eC (.int 20))) (aCons (eC (.int 20)) aNil)))))))
  (sRet (eC (.bl false)))
  sNil)
  (sSeq (sIf (tOr (tNot (tVal (eUn den__law_is_number (aCons (eBin ixR (getD' 0) (eC (.int 4))) (aCons (eC (.int 0)) (aCons (eC (.int 20)) aNil)))))) (tNot (tVal (eUn den__law_is_number (aCons (eBin ixR (getD' 0) (eC (.int 5))) (aCons (eC (.int 0)) (aCons (eC (.int 20)) aNil)))))))
  (sRet (eC (.bl false)))
  sNil)
  (sRet (eBin eqR (eJoin (eC (.str "")) (eOfF (eComp (eUn itemsR (eC (.str "cfhl"))) (nameT 4) (tBin inR (getD' 4) (eBin ixR (getD' 0) (eC (.int 6)))) (getD' 4) [4]))) (eBin ixR (getD' 0) (eC (.int 6))))))))))))
def den__law_is_box : List D → R D := defR 2 3 g__law_is_box
/-! ### _law_is_scene : slots ['_law_thing', '_law_names', '_law_box_here'] -/
def g__law_is_scene : En → Out := (sSeq (sIf (tOr (tNot (tVal (eUn (isiR "tuple") (getD' 0)))) (tBin gtR (eUn lenR (aCons (getD' 0) aNil)) (eC (.int 12))))
  (sRet (eC (.bl false)))
  sNil)
  (sSeq (sSetF 1 (eUn lstR aNil))
  (sSeq (sFor (eUn itemsR (getD' 0)) (nameT 2)
  (sEnd [2] (sSeq (sIf (tNot (tVal (eCallS (aCons (getD' 2) (aCons (getV 1) aNil)) den__law_is_box)))
  (sRet (eC (.bl false)))
  sNil)
  (sMeth 1 (eBin ixR (getD' 2) (eC (.int 0))) appO))))
  (sRet (eC (.bl true))))))
def den__law_is_scene : List D → R D := defR 1 2 g__law_is_scene
/-! ### _law_each : slots ['_law_thing', '_law_found', '_law_place', '_law_part'] -/
def g__law_each (self : List D → R D) : En → Out := (sSeq (sIf (tVal (eUn (isiR "int") (getD' 0)))
  (sRet (eOfF (eUn lstR (aCons (eC .non) (aCons (eC (.bl true)) (aCons (eBin subR (getD' 0) (eC (.int 1))) (aCons (eBin addR (getD' 0) (eC (.int 1))) (aCons (eC (.int 1000)) aNil))))))))
  sNil)
  (sSeq (sIf (tNot (tVal (eUn (isiR "tuple") (getD' 0))))
  (sRet (eOfF (eUn lstR (aCons (eC .non) (aCons (eC (.str "")) (aCons (eC (.str "A")) (aCons (eBin addR (getD' 0) (getD' 0)) (aCons (eC (.str "abcd")) aNil))))))))
  sNil)
  (sSeq (sSet 1 (eOfF (eUn lstR (aCons (eC .non) (aCons (eUn listR (aCons (getD' 0) aNil)) (aCons (eBin addR (getD' 0) (eSlice (getD' 0) (eUn optR (eUn negR (eC (.int 1)))) oNone)) (aCons (eSlice (getD' 0) (eUn optR (eC (.int 1))) oNone) aNil)))))))
  (sSeq (sFor (eUn range1R (eUn lenR (aCons (getD' 0) aNil))) (nameT 2)
  (sEnd [2] (sSet 1 (eBin addR (getD' 1) (eOfF (eComp (eUn itemsR (eUn self (aCons (eBin ixR (getD' 0) (getD' 2)) aNil))) (nameT 3) tTrue (eBin addR (eBin addR (eSlice (getD' 0) oNone (eUn optR (getD' 2))) (eUn tupR (aCons (getD' 3) aNil))) (eSlice (getD' 0) (eUn optR (eBin addR (getD' 2) (eC (.int 1)))) oNone)) [3]))))))
  (sRet (getD' 1))))))
def den__law_each_n : Nat → List D → R D
  | 0 => fun _ => .bad
  | k + 1 => defR 1 3 (g__law_each (den__law_each_n k))
def den__law_each : List D → R D := den__law_each_n 9
/-! ### box_of : slots ['scene', 'name', 'box'] -/
def g_box_of : En → Out := (sSeq (sFor (eUn itemsR (getD' 0)) (nameT 2)
  (sEnd [2] (sIf (tBin eqR (eBin ixR (getD' 2) (eC (.int 0))) (getD' 1))
  (sRet (getD' 2))
  sNil)))
  (sRaise "NoBox"))
def den_box_of : List D → R D := defR 2 1 g_box_of
/-! ### path_of : slots ['scene', 'name', 'found'] -/
def g_path_of : En → Out := (sSeq (sSet 2 (eOfF (eUn lstR (aCons (eBin ixR (eUn den_box_of (aCons (getD' 0) (aCons (getD' 1) aNil))) (eC (.int 0))) aNil))))
  (sSeq (sWhile (tBin neR (eBin ixR (eUn den_box_of (aCons (getD' 0) (aCons (eBin ixR (getD' 2) (eC (.int 0))) aNil))) (eC (.int 1))) (eC (.str "")))
  (sSet 2 (eBin addR (eOfF (eUn lstR (aCons (eBin ixR (eUn den_box_of (aCons (getD' 0) (aCons (eBin ixR (getD' 2) (eC (.int 0))) aNil))) (eC (.int 1))) aNil))) (getD' 2))) 4096)
  (sRet (getD' 2))))
def den_path_of : List D → R D := defR 2 1 g_path_of
/-! ### children : slots ['scene', 'name', 'box'] -/
def g_children : En → Out := (sRet (eOfF (eComp (eUn itemsR (getD' 0)) (nameT 2) (tBin eqR (eBin ixR (getD' 2) (eC (.int 1))) (getD' 1)) (eBin ixR (getD' 2) (eC (.int 0))) [2])))
def den_children : List D → R D := defR 2 1 g_children
/-! ### painted : slots ['scene', 'left', 'found', 'name'] -/
def g_painted : En → Out := (sSeq (sSetF 1 (eUn revF (eUn den_children (aCons (getD' 0) (aCons (eC (.str "")) aNil)))))
  (sSeq (sSetF 2 (eUn lstR aNil))
  (sSeq (sWhile (tBin neR (getV 1) (eOfF (eUn lstR aNil)))
  (sEnd [3] (sSeq (sPop 1 (nameT 3))
  (sSeq (sMeth 2 (getD' 3) appO)
  (sMeth 1 (eOfF (eUn revF (eUn den_children (aCons (getD' 0) (aCons (getD' 3) aNil))))) extO)))) 4096)
  (sFrz 2 (sRet (getD' 2))))))
def den_painted : List D → R D := defR 1 3 g_painted
/-! ### below : slots ['scene', 'name', 'one'] -/
def g_below : En → Out := (sSeq (sExpr (eUn den_box_of (aCons (getD' 0) (aCons (getD' 1) aNil))))
  (sRet (eOfF (eComp (eUn itemsR (eUn den_painted (aCons (getD' 0) aNil))) (nameT 2) (tBin inR (getD' 1) (eUn den_path_of (aCons (getD' 0) (aCons (getD' 2) aNil)))) (getD' 2) [2]))))
def den_below : List D → R D := defR 2 1 g_below
/-! ### area_of : slots ['scene', 'name', 'left', 'top', 'one', 'box'] -/
def g_area_of : En → Out := (sSeq (sSet 2 (eC (.int 0)))
  (sSeq (sSet 3 (eC (.int 0)))
  (sSeq (sFor (eUn itemsR (eUn den_path_of (aCons (getD' 0) (aCons (getD' 1) aNil)))) (nameT 4)
  (sEnd [4, 5] (sSeq (sSet 5 (eUn den_box_of (aCons (getD' 0) (aCons (getD' 4) aNil))))
  (sSeq (sSet 2 (eBin addR (getD' 2) (eBin ixR (getD' 5) (eC (.int 2)))))
  (sSet 3 (eBin addR (getD' 3) (eBin ixR (getD' 5) (eC (.int 3)))))))))
  (sSeq (sSet 5 (eUn den_box_of (aCons (getD' 0) (aCons (getD' 1) aNil))))
  (sRet (eUn tupR (aCons (getD' 2) (aCons (getD' 3) (aCons (eBin addR (getD' 2) (eBin ixR (getD' 5) (eC (.int 4)))) (aCons (eBin addR (getD' 3) (eBin ixR (getD' 5) (eC (.int 5)))) aNil))))))))))
def den_area_of : List D → R D := defR 2 4 g_area_of
/-! ### _law_area : slots ['_law_scene_here', '_law_name', '_law_left', '_law_top', '_law_one'] -/
def g__law_area : En → Out := (sSeq (sSet 2 (eUn sumR (aCons (eOfF (eComp (eUn itemsR (eUn den__law_path (aCons (getD' 0) (aCons (getD' 1) aNil)))) (nameT 4) tTrue (eBin ixR (eUn den__law_box (aCons (getD' 0) (aCons (getD' 4) aNil))) (eC (.int 2))) [4])) aNil)))
  (sSeq (sSet 3 (eUn sumR (aCons (eOfF (eComp (eUn itemsR (eUn den__law_path (aCons (getD' 0) (aCons (getD' 1) aNil)))) (nameT 4) tTrue (eBin ixR (eUn den__law_box (aCons (getD' 0) (aCons (getD' 4) aNil))) (eC (.int 3))) [4])) aNil)))
  (sRet (eUn tupR (aCons (getD' 2) (aCons (getD' 3) (aCons (eBin addR (getD' 2) (eBin ixR (eUn den__law_box (aCons (getD' 0) (aCons (getD' 1) aNil))) (eC (.int 4)))) (aCons (eBin addR (getD' 3) (eBin ixR (eUn den__law_box (aCons (getD' 0) (aCons (getD' 1) aNil))) (eC (.int 5)))) aNil))))))))
def den__law_area : List D → R D := defR 2 3 g__law_area
/-! ### law_k03 : slots ['_law_script', '_law_scene_here', '_law_every', '_law_name', '_law_path_here', '_law_inner', '_law_places', '_law_at', '_law_box_here', '_law_area', '_law_start', '_law_parts', '_law_one', '_law_other', '_law_common'] -/
def g_law_k03 : En → Out := (sSeq (sSet 1 (eSlice (eUn den__law_scene (aCons (getD' 0) (aCons (eC (.int 0)) aNil))) oNone (eUn optR (eC (.int 5)))))
  (sSeq (sSet 2 (eUn den_painted (aCons (getD' 1) aNil)))
  (sSeq (sIf (tBin neR (eUn sortedR (aCons (getD' 2) aNil)) (eUn sortedR (aCons (eOfF (eComp (eUn itemsR (getD' 1)) (nameT 8) tTrue (eBin ixR (getD' 8) (eC (.int 0))) [8])) aNil)))
  (sRet (eC (.bl false)))
  sNil)
  (sSeq (sFor (eUn itemsR (getD' 2)) (nameT 3)
  (sEnd [3, 4, 5, 6, 7, 8, 9, 10, 11, 12, 13, 14] (sSeq (sSet 4 (eUn den_path_of (aCons (getD' 1) (aCons (getD' 3) aNil))))
  (sSeq (sSet 5 (eUn den_below (aCons (getD' 1) (aCons (getD' 3) aNil))))
  (sSeq (sSetFD 6 (eComp (eUn itemsR (getD' 4)) (nameT 12) tTrue (eMeth lstyR (getD' 2) (aCons (getD' 12) aNil) indexR) [12]))
  (sSeq (sIf (tOr (tBin neR (eBin ixR (getD' 4) (eUn negR (eC (.int 1)))) (getD' 3)) (tOr (tBin neR (getD' 6) (eUn sortedR (aCons (getD' 6) aNil))) (tBin neR (eBin ixR (getD' 5) (eC (.int 0))) (getD' 3))))
  (sRet (eC (.bl false)))
  sNil)
  (sSeq (sSet 7 (eMeth lstyR (getD' 2) (aCons (getD' 3) aNil) indexR))
  (sSeq (sIf (tBin neR (eSlice (getD' 2) (eUn optR (getD' 7)) (eUn optR (eBin addR (getD' 7) (eUn lenR (aCons (getD' 5) aNil))))) (getD' 5))
  (sRet (eC (.bl false)))
  sNil)
  (sSeq (sSet 8 (eUn den_box_of (aCons (getD' 1) (aCons (getD' 3) aNil))))
  (sSeq (sSet 9 (eUn den_area_of (aCons (getD' 1) (aCons (getD' 3) aNil))))
  (sSeq (sSet 10 (eIf (tBin eqR (eBin ixR (getD' 8) (eC (.int 1))) (eC (.str ""))) (eUn tupR (aCons (eC (.int 0)) (aCons (eC (.int 0)) aNil))) (eSlice (eUn den_area_of (aCons (getD' 1) (aCons (eBin ixR (getD' 8) (eC (.int 1))) aNil))) oNone (eUn optR (eC (.int 2))))))
  (sSeq (sIf (tBin neR (eUn tupR (aCons (eBin subR (eBin ixR (getD' 9) (eC (.int 0))) (eBin ixR (getD' 10) (eC (.int 0)))) (aCons (eBin subR (eBin ixR (getD' 9) (eC (.int 1))) (eBin ixR (getD' 10) (eC (.int 1)))) (aCons (eBin subR (eBin ixR (getD' 9) (eC (.int 2))) (eBin ixR (getD' 9) (eC (.int 0)))) (aCons (eBin subR (eBin ixR (getD' 9) (eC (.int 3))) (eBin ixR (getD' 9) (eC (.int 1)))) aNil))))) (eSlice (getD' 8) (eUn optR (eC (.int 2))) (eUn optR (eC (.int 6)))))
  (sRet (eC (.bl false)))
  sNil)
  (sSeq (sIf (tBin notInR (getD' 3) (eUn den_children (aCons (getD' 1) (aCons (eBin ixR (getD' 8) (eC (.int 1))) aNil))))
  (sRet (eC (.bl false)))
  sNil)
  (sSeq (sIf (tAnd (tBin neR (eBin ixR (getD' 8) (eC (.int 1))) (eC (.str ""))) (tBin neR (eSlice (getD' 4) oNone (eUn optR (eUn negR (eC (.int 1))))) (eUn den_path_of (aCons (getD' 1) (aCons (eBin ixR (getD' 8) (eC (.int 1))) aNil)))))
  (sRet (eC (.bl false)))
  sNil)
  (sSeq (sIf (tAnd (tBin eqR (eBin ixR (getD' 8) (eC (.int 1))) (eC (.str ""))) (tBin neR (getD' 4) (eOfF (eUn lstR (aCons (getD' 3) aNil)))))
  (sRet (eC (.bl false)))
  sNil)
  (sSeq (sSet 11 (eOfF (eUn lstR (aCons (getD' 3) aNil))))
  (sSeq (sFor (eUn itemsR (eUn den_children (aCons (getD' 1) (aCons (getD' 3) aNil)))) (nameT 12)
  (sEnd [12] (sSet 11 (eBin addR (getD' 11) (eUn den_below (aCons (getD' 1) (aCons (getD' 12) aNil)))))))
  (sSeq (sIf (tBin neR (getD' 11) (getD' 5))
  (sRet (eC (.bl false)))
  sNil)
  (sFor (eUn itemsR (getD' 2)) (nameT 13)
  (sEnd [13, 14] (sSeq (sSetFD 14 (eComp (eUn itemsR (eUn den_below (aCons (getD' 1) (aCons (getD' 13) aNil)))) (nameT 12) (tBin inR (getD' 12) (getD' 5)) (getD' 12) [12]))
  (sIf (tAnd (tBin neR (getD' 14) (eOfF (eUn lstR aNil))) (tAnd (tBin notInR (getD' 3) (eUn den_path_of (aCons (getD' 1) (aCons (getD' 13) aNil)))) (tBin notInR (getD' 13) (getD' 4))))
  (sRet (eC (.bl false)))
  sNil))))))))))))))))))))))
  (sRet (eC (.bl true)))))))
def den_law_k03 : List D → R D := defR 1 14 g_law_k03
/-! ### with_box : slots ['scene', 'box', 'one'] -/
def g_with_box : En → Out := (sSeq (sIf (tBin inR (eBin ixR (getD' 1) (eC (.int 0))) (eOfF (eComp (eUn itemsR (getD' 0)) (nameT 2) tTrue (eBin ixR (getD' 2) (eC (.int 0))) [2])))
  (sRaise "Taken")
  sNil)
  (sSeq (sIf (tBin neR (eBin ixR (getD' 1) (eC (.int 1))) (eC (.str "")))
  (sExpr (eUn den_box_of (aCons (getD' 0) (aCons (eBin ixR (getD' 1) (eC (.int 1))) aNil))))
  sNil)
  (sSeq (sIf (tBin eqR (eUn lenR (aCons (getD' 0) aNil)) (eC (.int 12)))
  (sRaise "TooMany")
  sNil)
  (sRet (eBin addR (getD' 0) (eUn tupR (aCons (getD' 1) aNil)))))))
def den_with_box : List D → R D := defR 2 1 g_with_box
/-! ### cut : slots ['scene', 'name', 'gone', 'box'] -/
def g_cut : En → Out := (sSeq (sSet 2 (eUn den_below (aCons (getD' 0) (aCons (getD' 1) aNil))))
  (sRet (eUn tupleR (aCons (eOfF (eComp (eUn itemsR (getD' 0)) (nameT 3) (tBin notInR (eBin ixR (getD' 3) (eC (.int 0))) (getD' 2)) (getD' 3) [3])) aNil))))
def den_cut : List D → R D := defR 2 2 g_cut
/-! ### raised : slots ['scene', 'name', 'gone', 'box'] -/
def g_raised : En → Out := (sSeq (sSet 2 (eUn den_below (aCons (getD' 0) (aCons (getD' 1) aNil))))
  (sRet (eBin addR (eUn den_cut (aCons (getD' 0) (aCons (getD' 1) aNil))) (eUn tupleR (aCons (eOfF (eComp (eUn itemsR (getD' 0)) (nameT 3) (tBin inR (eBin ixR (getD' 3) (eC (.int 0))) (getD' 2)) (getD' 3) [3])) aNil)))))
def den_raised : List D → R D := defR 2 2 g_raised
/-! ### marked : slots ['scene', 'name', 'marks', 'box'] -/
def g_marked : En → Out := (sSeq (sExpr (eUn den_box_of (aCons (getD' 0) (aCons (getD' 1) aNil))))
  (sRet (eUn tupleR (aCons (eOfF (eComp (eUn itemsR (getD' 0)) (nameT 3) tTrue (eIf (tBin eqR (eBin ixR (getD' 3) (eC (.int 0))) (getD' 1)) (eBin addR (eSlice (getD' 3) oNone (eUn optR (eC (.int 6)))) (eUn tupR (aCons (getD' 2) aNil))) (getD' 3)) [3])) aNil))))
def den_marked : List D → R D := defR 3 1 g_marked
/-! ### put_at : slots ['scene', 'name', 'left', 'top', 'box'] -/
def g_put_at : En → Out := (sSeq (sExpr (eUn den_box_of (aCons (getD' 0) (aCons (getD' 1) aNil))))
  (sRet (eUn tupleR (aCons (eOfF (eComp (eUn itemsR (getD' 0)) (nameT 4) tTrue (eIf (tBin eqR (eBin ixR (getD' 4) (eC (.int 0))) (getD' 1)) (eBin addR (eBin addR (eSlice (getD' 4) oNone (eUn optR (eC (.int 2)))) (eUn tupR (aCons (getD' 2) (aCons (getD' 3) aNil)))) (eSlice (getD' 4) (eUn optR (eC (.int 4))) oNone)) (getD' 4)) [4])) aNil))))
def den_put_at : List D → R D := defR 4 1 g_put_at
/-! ### law_k05 : slots ['_law_script', '_law_scene_here', '_law_box_here', '_law_name', '_law_inner', '_law_less', '_law_top', '_law_one', '_law_other', '_law_before', '_law_by'] -/
def g_law_k05 : En → Out := (sSeq (sSet 1 (eUn den__law_scene (aCons (getD' 0) (aCons (eC (.int 0)) aNil))))
  (sSeq (sFor (eUn itemsR (getD' 1)) (nameT 2)
  (sEnd [2, 3, 4, 5, 6, 7, 8, 9, 10] (sSeq (sSet 3 (eBin ixR (getD' 2) (eC (.int 0))))
  (sSeq (sSet 4 (eUn den_below (aCons (getD' 1) (aCons (getD' 3) aNil))))
  (sSeq (sSet 5 (eUn den_cut (aCons (getD' 1) (aCons (getD' 3) aNil))))
  (sSeq (sSet 6 (eUn den_raised (aCons (getD' 1) (aCons (getD' 3) aNil))))
  (sSeq (sIf (tOr (tNot (tVal (eUn den_is_scene (aCons (getD' 5) aNil)))) (tNot (tVal (eUn den_is_scene (aCons (getD' 6) aNil)))))
  (sRet (eC (.bl false)))
  sNil)
  (sSeq (sIf (tBin neR (eUn den_painted (aCons (getD' 5) aNil)) (eOfF (eComp (eUn itemsR (eUn den_painted (aCons (getD' 1) aNil))) (nameT 7) (tBin notInR (getD' 7) (getD' 4)) (getD' 7) [7])))
  (sRet (eC (.bl false)))
  sNil)
  (sSeq (sIf (tOr (tBin neR (eBin ixR (eUn den_children (aCons (getD' 6) (aCons (eBin ixR (getD' 2) (eC (.int 1))) aNil))) (eUn negR (eC (.int 1)))) (getD' 3)) (tOr (tBin neR (eUn den_below (aCons (getD' 6) (aCons (getD' 3) aNil))) (getD' 4)) (tBin neR (eUn den_raised (aCons (getD' 6) (aCons (getD' 3) aNil))) (getD' 6))))
  (sRet (eC (.bl false)))
  sNil)
  (sSeq (sIf (tOr (tBin neR (eOfF (eComp (eUn itemsR (eUn den_painted (aCons (getD' 6) aNil))) (nameT 7) (tBin notInR (getD' 7) (getD' 4)) (getD' 7) [7])) (eUn den_painted (aCons (getD' 5) aNil))) (tBin neR (eUn den_cut (aCons (getD' 6) (aCons (getD' 3) aNil))) (getD' 5)))
  (sRet (eC (.bl false)))
  sNil)
  (sSeq (sIf (tAnd (tBin neR (eBin ixR (getD' 2) (eC (.int 1))) (eC (.str ""))) (tBin neR (eSlice (eUn den_below (aCons (getD' 6) (aCons (eBin ixR (getD' 2) (eC (.int 1))) aNil))) (eUn optR (eUn negR (eUn lenR (aCons (getD' 4) aNil)))) oNone) (getD' 4)))
  (sRet (eC (.bl false)))
  sNil)
  (sSeq (sFor (eUn itemsR (getD' 4)) (nameT 7)
  (sEnd [7] (sIf (tOr (tBin neR (eUn den_path_of (aCons (getD' 6) (aCons (getD' 7) aNil))) (eUn den_path_of (aCons (getD' 1) (aCons (getD' 7) aNil)))) (tBin neR (eUn den_box_of (aCons (getD' 6) (aCons (getD' 7) aNil))) (eUn den_box_of (aCons (getD' 1) (aCons (getD' 7) aNil)))))
  (sRet (eC (.bl false)))
  sNil)))
  (sSeq (sSet 8 (eUn den_put_at (aCons (getD' 1) (aCons (getD' 3) (aCons (eBin subR (eBin ixR (getD' 2) (eC (.int 2))) (eC (.int 2))) (aCons (eBin addR (eBin ixR (getD' 2) (eC (.int 3))) (eC (.int 3))) aNil))))))
  (sSeq (sIf (tOr (tBin neR (eUn den_put_at (aCons (getD' 8) (aCons (getD' 3) (aCons (eBin ixR (getD' 2) (eC (.int 2))) (aCons (eBin ixR (getD' 2) (eC (.int 3))) aNil))))) (getD' 1)) (tBin neR (eUn den_marked (aCons (eUn den_marked (aCons (getD' 1) (aCons (getD' 3) (aCons (eC (.str "h")) aNil)))) (aCons (getD' 3) (aCons (eBin ixR (getD' 2) (eC (.int 6))) aNil)))) (getD' 1)))
  (sRet (eC (.bl false)))
  sNil)
  (sFor (eUn itemsR (eUn den_painted (aCons (getD' 1) aNil))) (nameT 7)
  (sEnd [7, 9, 10] (sSeq (sSet 9 (eUn den_area_of (aCons (getD' 1) (aCons (getD' 7) aNil))))
  (sSeq (sSet 10 (eBin ixR (eOfF (eUn lstR (aCons (eUn tupR (aCons (eC (.int 0)) (aCons (eC (.int 0)) aNil))) (aCons (eUn tupR (aCons (eUn negR (eC (.int 2))) (aCons (eC (.int 3)) aNil))) aNil)))) (eUn int1R (aCons (eBin inR (getD' 7) (getD' 4)) aNil))))
  (sIf (tBin neR (eUn den_area_of (aCons (getD' 8) (aCons (getD' 7) aNil))) (eUn tupR (aCons (eBin addR (eBin ixR (getD' 9) (eC (.int 0))) (eBin ixR (getD' 10) (eC (.int 0)))) (aCons (eBin addR (eBin ixR (getD' 9) (eC (.int 1))) (eBin ixR (getD' 10) (eC (.int 1)))) (aCons (eBin addR (eBin ixR (getD' 9) (eC (.int 2))) (eBin ixR (getD' 10) (eC (.int 0)))) (aCons (eBin addR (eBin ixR (getD' 9) (eC (.int 3))) (eBin ixR (getD' 10) (eC (.int 1)))) aNil))))))
  (sRet (eC (.bl false)))
  sNil)))))))))))))))))))
  (sRet (eC (.bl true)))))
def den_law_k05 : List D → R D := defR 1 10 g_law_k05
/-! ### laid : slots ['scene', 'found', 'box', 'around', 'left', 'top', 'area'] -/
def g_laid : En → Out := (sSeq (sSetK 1 kNil)
  (sSeq (sFor (eUn itemsR (getD' 0)) (nameT 2)
  (sEnd [2, 3, 4, 5, 6] (sSeq (sSet 3 (eIf (tBin eqR (eBin ixR (getD' 2) (eC (.int 1))) (eC (.str ""))) (eUn tupR (aCons (eUn tupR (aCons (eC (.int 0)) (aCons (eC (.int 0)) (aCons (eC (.int 0)) (aCons (eC (.int 0)) aNil))))) (aCons (eUn tupR aNil) aNil))) (eGet (getV 1) (eBin ixR (getD' 2) (eC (.int 1))))))
  (sEnd [4, 5, 6] (sIf (tAnd (tBin isNotR (getD' 3) (eC .non)) (tBin notInR (eC (.str "h")) (eBin ixR (getD' 2) (eC (.int 6)))))
  (sSeq (sSet 4 (eBin addR (eBin ixR (eBin ixR (getD' 3) (eC (.int 0))) (eC (.int 0))) (eBin ixR (getD' 2) (eC (.int 2)))))
  (sSeq (sSet 5 (eBin addR (eBin ixR (eBin ixR (getD' 3) (eC (.int 0))) (eC (.int 1))) (eBin ixR (getD' 2) (eC (.int 3)))))
  (sSeq (sSet 6 (eUn tupR (aCons (getD' 4) (aCons (getD' 5) (aCons (eBin addR (getD' 4) (eBin ixR (getD' 2) (eC (.int 4)))) (aCons (eBin addR (getD' 5) (eBin ixR (getD' 2) (eC (.int 5)))) aNil))))))
  (sPut 1 (eBin ixR (getD' 2) (eC (.int 0))) (eUn tupR (aCons (getD' 6) (aCons (eBin addR (eBin ixR (getD' 3) (eC (.int 1))) (eIf (tBin inR (eC (.str "c")) (eBin ixR (getD' 2) (eC (.int 6)))) (eUn tupR (aCons (getD' 6) aNil)) (eUn tupR aNil))) aNil)))))))
  sNil)))))
  (sFrz 1 (sRet (getD' 1)))))
def den_laid : List D → R D := defR 1 6 g_laid
/-! ### is_shown : slots ['scene', 'name'] -/
def g_is_shown : En → Out := (sSeq (sExpr (eUn den_box_of (aCons (getD' 0) (aCons (getD' 1) aNil))))
  (sRet (eBin inR (getD' 1) (eUn den_laid (aCons (getD' 0) aNil)))))
def den_is_shown : List D → R D := defR 2 0 g_is_shown
/-! ### has_point : slots ['area', 'x', 'y'] -/
def g_has_point : En → Out := (sRet (eAnd (eChain leR ltR (eBin ixR (getD' 0) (eC (.int 0))) (getD' 1) (eBin ixR (getD' 0) (eC (.int 2)))) (eChain leR ltR (eBin ixR (getD' 0) (eC (.int 1))) (getD' 2) (eBin ixR (getD' 0) (eC (.int 3))))))
def den_has_point : List D → R D := defR 3 0 g_has_point
/-! ### has_all : slots ['told', 'x', 'y', 'area'] -/
def g_has_all : En → Out := (sRet (eAnd (eUn den_has_point (aCons (eBin ixR (getD' 0) (eC (.int 0))) (aCons (getD' 1) (aCons (getD' 2) aNil)))) (eUn allR (aCons (eOfF (eComp (eUn itemsR (eBin ixR (getD' 0) (eC (.int 1)))) (nameT 3) tTrue (eUn den_has_point (aCons (getD' 3) (aCons (getD' 1) (aCons (getD' 2) aNil)))) [3])) aNil))))
def den_has_all : List D → R D := defR 3 1 g_has_all
/-! ### is_touched : slots ['scene', 'name', 'x', 'y'] -/
def g_is_touched : En → Out := (sRet (eAnd (eUn den_is_shown (aCons (getD' 0) (aCons (getD' 1) aNil))) (eUn den_has_all (aCons (eBin ixR (eUn den_laid (aCons (getD' 0) aNil)) (getD' 1)) (aCons (getD' 2) (aCons (getD' 3) aNil))))))
def den_is_touched : List D → R D := defR 4 0 g_is_touched
/-! ### from_top : slots ['scene', 'known', 'name'] -/
def g_from_top : En → Out := (sRet (eOfF (eUn revF (eOfF (eComp (eUn itemsR (eUn den_painted (aCons (getD' 0) aNil))) (nameT 2) (tAnd (tBin inR (getD' 2) (getD' 1)) (tBin notInR (eC (.str "l")) (eBin ixR (eUn den_box_of (aCons (getD' 0) (aCons (getD' 2) aNil))) (eC (.int 6))))) (getD' 2) [2])))))
def den_from_top : List D → R D := defR 2 1 g_from_top
/-! ### all_hits : slots ['scene', 'x', 'y', 'known', 'name'] -/
def g_all_hits : En → Out := (sSeq (sSet 3 (eUn den_laid (aCons (getD' 0) aNil)))
  (sRet (eOfF (eComp (eUn itemsR (eUn den_from_top (aCons (getD' 0) (aCons (getD' 3) aNil)))) (nameT 4) (tVal (eUn den_has_all (aCons (eBin ixR (getD' 3) (getD' 4)) (aCons (getD' 1) (aCons (getD' 2) aNil))))) (getD' 4) [4]))))
def den_all_hits : List D → R D := defR 3 2 g_all_hits
/-! ### hit : slots ['scene', 'x', 'y', 'found'] -/
def g_hit : En → Out := (sSeq (sSet 3 (eUn den_all_hits (aCons (getD' 0) (aCons (getD' 1) (aCons (getD' 2) aNil)))))
  (sRet (eIf (tBin neR (getD' 3) (eOfF (eUn lstR aNil))) (eBin ixR (getD' 3) (eC (.int 0))) (eC .non))))
def den_hit : List D → R D := defR 3 1 g_hit
/-! ### hit_path : slots ['scene', 'x', 'y', 'name'] -/
def g_hit_path : En → Out := (sSeq (sSet 3 (eUn den_hit (aCons (getD' 0) (aCons (getD' 1) (aCons (getD' 2) aNil)))))
  (sRet (eIf (tBin isR (getD' 3) (eC .non)) (eOfF (eUn lstR aNil)) (eUn den_path_of (aCons (getD' 0) (aCons (getD' 3) aNil))))))
def den_hit_path : List D → R D := defR 3 1 g_hit_path
/-! ### _law_spread : slots ['_law_scene_here', '_law_around', '_law_left', '_law_top', '_law_cuts', '_law_found', '_law_box_here', '_law_area', '_law_inner'] -/
def g__law_spread (self : List D → R D) : En → Out := (sSeq (sSet 5 (eOfF (eUn lstR aNil)))
  (sSeq (sFor (eUn itemsR (getD' 0)) (nameT 6)
  (sEnd [6, 7, 8] (sEnd [7, 8] (sIf (tAnd (tBin eqR (eBin ixR (getD' 6) (eC (.int 1))) (getD' 1)) (tBin notInR (eC (.str "h")) (eBin ixR (getD' 6) (eC (.int 6)))))
  (sSeq (sSet 7 (eUn tupR (aCons (eBin addR (getD' 2) (eBin ixR (getD' 6) (eC (.int 2)))) (aCons (eBin addR (getD' 3) (eBin ixR (getD' 6) (eC (.int 3)))) (aCons (eBin addR (eBin addR (getD' 2) (eBin ixR (getD' 6) (eC (.int 2)))) (eBin ixR (getD' 6) (eC (.int 4)))) (aCons (eBin addR (eBin addR (getD' 3) (eBin ixR (getD' 6) (eC (.int 3)))) (eBin ixR (getD' 6) (eC (.int 5)))) aNil))))))
  (sSeq (sSet 8 (eBin addR (getD' 4) (eBin mulR (eOfF (eUn lstR (aCons (getD' 7) aNil))) (eUn int1R (aCons (eBin inR (eC (.str "c")) (eBin ixR (getD' 6) (eC (.int 6)))) aNil)))))
  (sSet 5 (eBin addR (eBin addR (getD' 5) (eOfF (eUn lstR (aCons (eUn tupR (aCons (getD' 6) (aCons (getD' 7) (aCons (eBin addR (getD' 4) (eOfF (eUn lstR (aCons (getD' 7) aNil)))) aNil)))) aNil)))) (eUn self (aCons (getD' 0) (aCons (eBin ixR (getD' 6) (eC (.int 0))) (aCons (eBin ixR (getD' 7) (eC (.int 0))) (aCons (eBin ixR (getD' 7) (eC (.int 1))) (aCons (getD' 8) aNil))))))))))
  sNil))))
  (sRet (getD' 5))))
def den__law_spread_n : Nat → List D → R D
  | 0 => fun _ => .bad
  | k + 1 => defR 5 4 (g__law_spread (den__law_spread_n k))
def den__law_spread : List D → R D := den__law_spread_n 9
/-! ### _law_has : slots ['_law_areas', '_law_x', '_law_y', '_law_area'] -/
def g__law_has : En → Out := (sRet (eBin eqR (eOfF (eComp (eUn itemsR (getD' 0)) (nameT 3) (tNot (tAnd (tChain leR ltR (eBin ixR (getD' 3) (eC (.int 0))) (getD' 1) (eBin ixR (getD' 3) (eC (.int 2)))) (tChain leR ltR (eBin ixR (getD' 3) (eC (.int 1))) (getD' 2) (eBin ixR (getD' 3) (eC (.int 3)))))) (getD' 3) [3])) (eOfF (eUn lstR aNil))))
def den__law_has : List D → R D := defR 3 1 g__law_has
/-! ### _law_hits : slots ['_law_scene_here', '_law_x', '_law_y', '_law_rows', '_law_row'] -/
def g__law_hits : En → Out := (sSeq (sSet 3 (eUn den__law_spread (aCons (getD' 0) (aCons (eC (.str "")) (aCons (eC (.int 0)) (aCons (eC (.int 0)) (aCons (eOfF (eUn lstR aNil)) aNil)))))))
  (sRet (eOfF (eUn revF (eOfF (eComp (eUn itemsR (getD' 3)) (nameT 4) (tAnd (tBin notInR (eC (.str "l")) (eBin ixR (eBin ixR (getD' 4) (eC (.int 0))) (eC (.int 6)))) (tVal (eUn den__law_has (aCons (eBin ixR (getD' 4) (eC (.int 2))) (aCons (getD' 1) (aCons (getD' 2) aNil)))))) (eBin ixR (eBin ixR (getD' 4) (eC (.int 0))) (eC (.int 0))) [4]))))))
def den__law_hits : List D → R D := defR 3 2 g__law_hits
/-! ### _law_hit_path : slots ['_law_scene_here', '_law_x', '_law_y', '_law_some'] -/
def g__law_hit_path : En → Out := (sSeq (sSet 3 (eUn den__law_hits (aCons (getD' 0) (aCons (getD' 1) (aCons (getD' 2) aNil)))))
  (sRet (eIf (tBin neR (getD' 3) (eOfF (eUn lstR aNil))) (eUn den__law_path (aCons (getD' 0) (aCons (eBin ixR (getD' 3) (eC (.int 0))) aNil))) (eOfF (eUn lstR aNil)))))
def den__law_hit_path : List D → R D := defR 3 1 g__law_hit_path
/-! ### law_k06 : slots ['_law_script', '_law_scene_here', '_law_points', '_law_rows', '_law_box_here', '_law_left', '_law_top', '_law_right', '_law_bottom', '_law_corners', '_law_said', '_law_hidden', '_law_x', '_law_y', '_law_due', '_law_areas', '_law_k', '_law_row', '_law_one'] -/
def g_law_k06 : En → Out := (sSeq (sSet 1 (eUn den__law_scene (aCons (getD' 0) (aCons (eC (.int 0)) aNil))))
  (sSeq (sSetF 2 (eComp (eUn range1R (eC (.int 3))) (nameT 16) tTrue (eUn tupR (aCons (eBin subR (eUn den__law_drawn (aCons (getD' 0) (aCons (eBin addR (eC (.int 100)) (eBin mulR (eC (.int 2)) (getD' 16))) (aCons (eC (.int 16)) aNil)))) (eC (.int 4))) (aCons (eBin subR (eUn den__law_drawn (aCons (getD' 0) (aCons (eBin addR (eC (.int 101)) (eBin mulR (eC (.int 2)) (getD' 16))) (aCons (eC (.int 16)) aNil)))) (eC (.int 4))) aNil))) [16]))
  (sSeq (sSet 3 (eUn den__law_spread (aCons (getD' 1) (aCons (eC (.str "")) (aCons (eC (.int 0)) (aCons (eC (.int 0)) (aCons (eOfF (eUn lstR aNil)) aNil)))))))
  (sSeq (sFor (eUn itemsR (getD' 1)) (nameT 4)
  (sEnd [4, 5, 6, 7, 8, 9, 10, 11] (sSeq (sAsg (tupT [5, 6, 7, 8]) (eBin ixR (eBin addR (eOfF (eComp (eUn itemsR (getD' 3)) (nameT 17) (tBin eqR (eBin ixR (getD' 17) (eC (.int 0))) (getD' 4)) (eBin ixR (getD' 17) (eC (.int 1))) [17])) (eOfF (eUn lstR (aCons (eUn tupR (aCons (eC (.int 0)) (aCons (eC (.int 0)) (aCons (eC (.int 0)) (aCons (eC (.int 0)) aNil))))) aNil)))) (eC (.int 0))))
  (sSeq (sSet 9 (eOfF (eUn lstR (aCons (eUn tupR (aCons (getD' 5) (aCons (getD' 6) aNil))) (aCons (eUn tupR (aCons (getD' 7) (aCons (getD' 6) aNil))) (aCons (eUn tupR (aCons (eBin subR (getD' 7) (eC (.int 1))) (aCons (eBin subR (getD' 8) (eC (.int 1))) aNil))) (aCons (eUn tupR (aCons (getD' 5) (aCons (getD' 8) aNil))) (aCons (eUn tupR (aCons (eBin subR (getD' 5) (eC (.int 1))) (aCons (getD' 6) aNil))) aNil))))))))
  (sSeq (sMeth 2 (eBin ixR (getD' 9) (eUn den__law_drawn (aCons (getD' 0) (aCons (eBin addR (eC (.int 120)) (eUn lenR (aCons (getV 2) aNil))) (aCons (eC (.int 5)) aNil))))) appO)
  (sSeq (sSet 10 (eUn den_is_shown (aCons (getD' 1) (aCons (eBin ixR (getD' 4) (eC (.int 0))) aNil))))
  (sSeq (sSetFD 11 (eComp (eUn itemsR (eUn den__law_path (aCons (getD' 1) (aCons (eBin ixR (getD' 4) (eC (.int 0))) aNil)))) (nameT 18) (tBin inR (eC (.str "h")) (eBin ixR (eUn den__law_box (aCons (getD' 1) (aCons (getD' 18) aNil))) (eC (.int 6)))) (getD' 18) [18]))
  (sIf (tOr (tNot (tVal (eUn (isiR "bool") (getD' 10)))) (tBin neR (getD' 10) (eBin eqR (getD' 11) (eOfF (eUn lstR aNil)))))
  (sRet (eC (.bl false)))
  sNil))))))))
  (sSeq (sFrz 2 (sFor (eUn itemsR (getD' 2)) (tupT [12, 13])
  (sEnd [4, 10, 12, 13, 14, 15] (sSeq (sSet 14 (eUn den__law_hits (aCons (getD' 1) (aCons (getD' 12) (aCons (getD' 13) aNil)))))
  (sSeq (sIf (tOr (tBin neR (eUn den_all_hits (aCons (getD' 1) (aCons (getD' 12) (aCons (getD' 13) aNil)))) (getD' 14)) (tBin neR (eUn den_hit (aCons (getD' 1) (aCons (getD' 12) (aCons (getD' 13) aNil)))) (eBin ixR (eBin addR (getD' 14) (eOfF (eUn lstR (aCons (eC .non) aNil)))) (eC (.int 0)))))
  (sRet (eC (.bl false)))
  sNil)
  (sSeq (sIf (tBin neR (eUn den_hit_path (aCons (getD' 1) (aCons (getD' 12) (aCons (getD' 13) aNil)))) (eUn den__law_hit_path (aCons (getD' 1) (aCons (getD' 12) (aCons (getD' 13) aNil)))))
  (sRet (eC (.bl false)))
  sNil)
  (sFor (eUn itemsR (getD' 1)) (nameT 4)
  (sEnd [4, 10, 15] (sSeq (sSet 10 (eUn den_is_touched (aCons (getD' 1) (aCons (eBin ixR (getD' 4) (eC (.int 0))) (aCons (getD' 12) (aCons (getD' 13) aNil))))))
  (sSeq (sSet 15 (eBin ixR (eBin addR (eOfF (eComp (eUn itemsR (getD' 3)) (nameT 17) (tBin eqR (eBin ixR (getD' 17) (eC (.int 0))) (getD' 4)) (eBin ixR (getD' 17) (eC (.int 2))) [17])) (eOfF (eUn lstR (aCons (eOfF (eUn lstR (aCons (eUn tupR (aCons (eC (.int 0)) (aCons (eC (.int 0)) (aCons (eC (.int 0)) (aCons (eC (.int 0)) aNil))))) aNil))) aNil)))) (eC (.int 0))))
  (sIf (tOr (tNot (tVal (eUn (isiR "bool") (getD' 10)))) (tBin neR (getD' 10) (eUn den__law_has (aCons (getD' 15) (aCons (getD' 12) (aCons (getD' 13) aNil))))))
  (sRet (eC (.bl false)))
  sNil)))))))))))
  (sRet (eC (.bl true))))))))
def den_law_k06 : List D → R D := defR 1 18 g_law_k06
/-! ### law_k07 : slots ['_law_script', '_law_scene_here', '_law_shifted', '_law_box_here', '_law_every', '_law_k', '_law_x', '_law_y', '_law_row', '_law_places', '_law_name', '_law_marks', '_law_inner', '_law_hidden', '_law_is_top', '_law_left', '_law_top', '_law_right', '_law_bottom', '_law_is_out', '_law_one'] -/
def g_law_k07 : En → Out := (sSeq (sSet 1 (eUn den__law_scene (aCons (getD' 0) (aCons (eC (.int 0)) aNil))))
  (sSeq (sSet 2 (getD' 1))
  (sSeq (sFor (eUn itemsR (getD' 1)) (nameT 3)
  (sEnd [3] (sIf (tBin eqR (eBin ixR (getD' 3) (eC (.int 1))) (eC (.str "")))
  (sSet 2 (eUn den_put_at (aCons (getD' 2) (aCons (eBin ixR (getD' 3) (eC (.int 0))) (aCons (eBin addR (eBin ixR (getD' 3) (eC (.int 2))) (eC (.int 5))) (aCons (eBin subR (eBin ixR (getD' 3) (eC (.int 3))) (eC (.int 4))) aNil))))))
  sNil)))
  (sSeq (sSet 4 (eUn den_painted (aCons (getD' 1) aNil)))
  (sSeq (sFor (eUn range1R (eC (.int 2))) (nameT 5)
  (sEnd [5, 6, 7, 8, 9, 10, 11, 12, 13, 14, 15, 16, 17, 18, 19] (sSeq (sSet 6 (eBin subR (eUn den__law_drawn (aCons (getD' 0) (aCons (eBin addR (eC (.int 100)) (eBin mulR (eC (.int 2)) (getD' 5))) (aCons (eC (.int 16)) aNil)))) (eC (.int 4))))
  (sSeq (sSet 7 (eBin subR (eUn den__law_drawn (aCons (getD' 0) (aCons (eBin addR (eC (.int 101)) (eBin mulR (eC (.int 2)) (getD' 5))) (aCons (eC (.int 16)) aNil)))) (eC (.int 4))))
  (sSeq (sSet 8 (eUn den_all_hits (aCons (getD' 1) (aCons (getD' 6) (aCons (getD' 7) aNil)))))
  (sSeq (sSetFD 9 (eComp (eUn itemsR (getD' 8)) (nameT 10) tTrue (eMeth lstyR (getD' 4) (aCons (getD' 10) aNil) indexR) [10]))
  (sSeq (sIf (tOr (tBin neR (getD' 9) (eOfF (eUn revF (eUn sortedR (aCons (getD' 9) aNil))))) (tBin neR (eUn den_hit (aCons (getD' 1) (aCons (getD' 6) (aCons (getD' 7) aNil)))) (eBin ixR (eBin addR (getD' 8) (eOfF (eUn lstR (aCons (eC .non) aNil)))) (eC (.int 0)))))
  (sRet (eC (.bl false)))
  sNil)
  (sSeq (sIf (tBin neR (eUn den_all_hits (aCons (getD' 2) (aCons (eBin addR (getD' 6) (eC (.int 5))) (aCons (eBin subR (getD' 7) (eC (.int 4))) aNil)))) (getD' 8))
  (sRet (eC (.bl false)))
  sNil)
  (sFor (eUn itemsR (getD' 4)) (nameT 10)
  (sEnd [10, 11, 12, 13, 14, 15, 16, 17, 18, 19] (sSeq (sSet 11 (eBin ixR (eUn den_box_of (aCons (getD' 1) (aCons (getD' 10) aNil))) (eC (.int 6))))
  (sSeq (sIf (tBin neR (eBin inR (getD' 10) (getD' 8)) (eAnd (eUn den_is_touched (aCons (getD' 1) (aCons (getD' 10) (aCons (getD' 6) (aCons (getD' 7) aNil))))) (eBin notInR (eC (.str "l")) (getD' 11))))
  (sRet (eC (.bl false)))
  sNil)
  (sSeq (sSet 12 (eUn den_below (aCons (getD' 1) (aCons (getD' 10) aNil))))
  (sSeq (sSet 13 (eUn den_all_hits (aCons (eUn den_marked (aCons (getD' 1) (aCons (getD' 10) (aCons (eJoin (eC (.str "")) (eUn sortedSetR (eBin addR (getD' 11) (eC (.str "h"))))) aNil)))) (aCons (getD' 6) (aCons (getD' 7) aNil)))))
  (sSeq (sIf (tOr (tBin neR (getD' 13) (eOfF (eComp (eUn itemsR (getD' 8)) (nameT 20) (tBin notInR (getD' 20) (getD' 12)) (getD' 20) [20]))) (tBin neR (getD' 13) (eUn den_all_hits (aCons (eUn den_cut (aCons (getD' 1) (aCons (getD' 10) aNil))) (aCons (getD' 6) (aCons (getD' 7) aNil))))))
  (sRet (eC (.bl false)))
  sNil)
  (sSeq (sSet 14 (eAnd (eBin eqR (eUn den_hit (aCons (getD' 1) (aCons (getD' 6) (aCons (getD' 7) aNil)))) (getD' 10)) (eBin eqR (eUn den_path_of (aCons (getD' 1) (aCons (getD' 10) aNil))) (eOfF (eUn lstR (aCons (getD' 10) aNil))))))
  (sSeq (sIf (tAnd (tVal (getD' 14)) (tBin notInR (eUn den_hit (aCons (eUn den_raised (aCons (getD' 1) (aCons (getD' 10) aNil))) (aCons (getD' 6) (aCons (getD' 7) aNil)))) (getD' 12)))
  (sRet (eC (.bl false)))
  sNil)
  (sSeq (sAsg (tupT [15, 16, 17, 18]) (eUn den_area_of (aCons (getD' 1) (aCons (getD' 10) aNil))))
  (sSeq (sSet 19 (eUn notR (eAnd (eChain leR ltR (getD' 15) (getD' 6) (getD' 17)) (eChain leR ltR (getD' 16) (getD' 7) (getD' 18)))))
  (sIf (tAnd (tBin inR (eC (.str "c")) (getD' 11)) (tAnd (tVal (getD' 19)) (tBin neR (eOfF (eComp (eUn itemsR (getD' 8)) (nameT 20) (tBin inR (getD' 20) (getD' 12)) (getD' 20) [20])) (eOfF (eUn lstR aNil)))))
  (sRet (eC (.bl false)))
  sNil))))))))))))))))))))
  (sRet (eC (.bl true))))))))
def den_law_k07 : List D → R D := defR 1 20 g_law_k07
/-! ### points_of : slots ['scene', 'name', 'known', 'names', 'left', 'top', 'right', 'bottom', 'over', 'found', 'x', 'y', 'one'] -/
def g_points_of : En → Out := (sSeq (sExpr (eUn den_box_of (aCons (getD' 0) (aCons (getD' 1) aNil))))
  (sSeq (sSet 2 (eUn den_laid (aCons (getD' 0) aNil)))
  (sSeq (sSet 3 (eUn den_from_top (aCons (getD' 0) (aCons (getD' 2) aNil))))
  (sSeq (sIf (tBin notInR (getD' 1) (getD' 3))
  (sRet (eC (.int 0)))
  sNil)
  (sSeq (sAsg (tupT [4, 5, 6, 7]) (eBin ixR (eBin ixR (getD' 2) (getD' 1)) (eC (.int 0))))
  (sSeq (sSet 8 (eSlice (getD' 3) oNone (eUn optR (eMeth lstyR (getD' 3) (aCons (getD' 1) aNil) indexR))))
  (sSeq (sSet 9 (eC (.int 0)))
  (sSeq (sFor (fRng2 (getD' 4) (getD' 6)) (nameT 10)
  (sEnd [10, 11] (sFor (fRng2 (getD' 5) (getD' 7)) (nameT 11)
  (sEnd [11] (sIf (tAnd (tVal (eUn den_has_all (aCons (eBin ixR (getD' 2) (getD' 1)) (aCons (getD' 10) (aCons (getD' 11) aNil))))) (tNot (tVal (eUn anyR (aCons (eOfF (eComp (eUn itemsR (getD' 8)) (nameT 12) tTrue (eUn den_has_all (aCons (eBin ixR (getD' 2) (getD' 12)) (aCons (getD' 10) (aCons (getD' 11) aNil)))) [12])) aNil)))))
  (sSet 9 (eBin addR (getD' 9) (eC (.int 1))))
  sNil)))))
  (sRet (getD' 9))))))))))
def den_points_of : List D → R D := defR 2 11 g_points_of
/-! ### is_covered : slots ['scene', 'name', 'one'] -/
def g_is_covered : En → Out := (sRet (eUn allR (aCons (eOfF (eComp (eUn itemsR (eUn den_below (aCons (getD' 0) (aCons (getD' 1) aNil)))) (nameT 2) tTrue (eBin eqR (eUn den_points_of (aCons (getD' 0) (aCons (getD' 2) aNil))) (eC (.int 0))) [2])) aNil)))
def den_is_covered : List D → R D := defR 2 1 g_is_covered
/-! ### law_k08 : slots ['_law_script', '_law_scene_here', '_law_counts', '_law_rows', '_law_met', '_law_box_here', '_law_area', '_law_cuts', '_law_x', '_law_y', '_law_inner', '_law_said', '_law_one'] -/
def g_law_k08 : En → Out := (sSeq (sSet 1 (eUn tupleR (aCons (eOfF (eComp (eUn itemsR (eSlice (eUn den__law_scene (aCons (getD' 0) (aCons (eC (.int 0)) aNil))) oNone (eUn optR (eC (.int 4))))) (nameT 5) tTrue (eBin addR (eSlice (getD' 5) oNone (eUn optR (eC (.int 4)))) (eUn tupR (aCons (eBin modR (eBin ixR (getD' 5) (eC (.int 4))) (eC (.int 5))) (aCons (eBin modR (eBin ixR (getD' 5) (eC (.int 5))) (eC (.int 5))) (aCons (eBin ixR (getD' 5) (eC (.int 6))) aNil))))) [5])) aNil)))
  (sSeq (sSetK 2 kNil)
  (sSeq (sSet 3 (eOfF (eUn revF (eUn den__law_spread (aCons (getD' 1) (aCons (eC (.str "")) (aCons (eC (.int 0)) (aCons (eC (.int 0)) (aCons (eOfF (eUn lstR aNil)) aNil)))))))))
  (sSeq (sSetF 4 (eUn lstR aNil))
  (sSeq (sFor (eUn itemsR (getD' 3)) (tupT [5, 6, 7])
  (sEnd [5, 6, 7, 8, 9] (sFor (fRng2 (eBin ixR (getD' 6) (eC (.int 0))) (eBin ixR (getD' 6) (eC (.int 2)))) (nameT 8)
  (sEnd [8, 9] (sFor (fRng2 (eBin ixR (getD' 6) (eC (.int 1))) (eBin ixR (getD' 6) (eC (.int 3)))) (nameT 9)
  (sEnd [9] (sIf (tAnd (tBin notInR (eC (.str "l")) (eBin ixR (getD' 5) (eC (.int 6)))) (tAnd (tBin notInR (eUn tupR (aCons (getD' 8) (aCons (getD' 9) aNil))) (getV 4)) (tVal (eUn den__law_has (aCons (getD' 7) (aCons (getD' 8) (aCons (getD' 9) aNil)))))))
  (sSeq (sMeth 4 (eUn tupR (aCons (getD' 8) (aCons (getD' 9) aNil))) appO)
  (sPut 2 (eBin ixR (getD' 5) (eC (.int 0))) (eBin addR (eGet2 (getV 2) (eBin ixR (getD' 5) (eC (.int 0))) (eC (.int 0))) (eC (.int 1)))))
  sNil)))))))
  (sSeq (sFor (eUn itemsR (getD' 1)) (nameT 5)
  (sEnd [5, 10, 11] (sSeq (sIf (tBin neR (eUn den_points_of (aCons (getD' 1) (aCons (eBin ixR (getD' 5) (eC (.int 0))) aNil))) (eGet2 (getV 2) (eBin ixR (getD' 5) (eC (.int 0))) (eC (.int 0))))
  (sRet (eC (.bl false)))
  sNil)
  (sSeq (sSetFD 10 (eComp (eUn itemsR (getD' 1)) (nameT 12) (tBin inR (eBin ixR (getD' 5) (eC (.int 0))) (eUn den__law_path (aCons (getD' 1) (aCons (eBin ixR (getD' 12) (eC (.int 0))) aNil)))) (eBin ixR (getD' 12) (eC (.int 0))) [12]))
  (sSeq (sSet 11 (eUn den_is_covered (aCons (getD' 1) (aCons (eBin ixR (getD' 5) (eC (.int 0))) aNil))))
  (sIf (tOr (tNot (tVal (eUn (isiR "bool") (getD' 11)))) (tBin neR (getD' 11) (eBin eqR (eOfF (eComp (eUn itemsR (getD' 10)) (nameT 12) (tBin inR (getD' 12) (getV 2)) (getD' 12) [12])) (eOfF (eUn lstR aNil)))))
  (sRet (eC (.bl false)))
  sNil))))))
  (sRet (eC (.bl true)))))))))
def den_law_k08 : List D → R D := defR 1 12 g_law_k08
/-! ### _law_whole : slots ['_law_scene_here', '_law_name', '_law_one'] -/
def g__law_whole : En → Out := (sRet (eUn sumR (aCons (eOfF (eComp (eUn itemsR (eUn den_below (aCons (getD' 0) (aCons (getD' 1) aNil)))) (nameT 2) tTrue (eUn den_points_of (aCons (getD' 0) (aCons (getD' 2) aNil))) [2])) aNil)))
def den__law_whole : List D → R D := defR 2 1 g__law_whole
/-! ### law_k09 : slots ['_law_script', '_law_scene_here', '_law_box_here', '_law_name', '_law_many', '_law_alone', '_law_other'] -/
def g_law_k09 : En → Out := (sSeq (sSet 1 (eUn tupleR (aCons (eOfF (eComp (eUn itemsR (eSlice (eUn den__law_scene (aCons (getD' 0) (aCons (eC (.int 0)) aNil))) oNone (eUn optR (eC (.int 4))))) (nameT 2) tTrue (eBin addR (eSlice (getD' 2) oNone (eUn optR (eC (.int 4)))) (eUn tupR (aCons (eBin modR (eBin ixR (getD' 2) (eC (.int 4))) (eC (.int 5))) (aCons (eBin modR (eBin ixR (getD' 2) (eC (.int 5))) (eC (.int 5))) (aCons (eBin ixR (getD' 2) (eC (.int 6))) aNil))))) [2])) aNil)))
  (sSeq (sFor (eUn itemsR (getD' 1)) (nameT 2)
  (sEnd [2, 3, 4, 5, 6] (sSeq (sSet 3 (eBin ixR (getD' 2) (eC (.int 0))))
  (sSeq (sSet 4 (eUn den_points_of (aCons (getD' 1) (aCons (getD' 3) aNil))))
  (sSeq (sIf (tOr (tNot (tChain leR leR (eC (.int 0)) (getD' 4) (eBin mulR (eBin ixR (getD' 2) (eC (.int 4))) (eBin ixR (getD' 2) (eC (.int 5)))))) (tBin neR (eUn den_is_covered (aCons (getD' 1) (aCons (getD' 3) aNil))) (eBin eqR (eUn den__law_whole (aCons (getD' 1) (aCons (getD' 3) aNil))) (eC (.int 0)))))
  (sRet (eC (.bl false)))
  sNil)
  (sSeq (sIf (tAnd (tOr (tBin inR (eC (.str "l")) (eBin ixR (getD' 2) (eC (.int 6)))) (tNot (tVal (eUn den_is_shown (aCons (getD' 1) (aCons (getD' 3) aNil)))))) (tBin neR (getD' 4) (eC (.int 0))))
  (sRet (eC (.bl false)))
  sNil)
  (sSeq (sSet 5 (eUn tupR (aCons (eBin addR (eUn tupR (aCons (eC (.str "z")) (aCons (eC (.str "")) aNil))) (eSlice (getD' 2) (eUn optR (eC (.int 2))) oNone)) aNil)))
  (sSeq (sIf (tAnd (tBin notInR (eC (.str "h")) (eBin ixR (getD' 2) (eC (.int 6)))) (tAnd (tBin notInR (eC (.str "l")) (eBin ixR (getD' 2) (eC (.int 6)))) (tBin neR (eUn den_points_of (aCons (getD' 5) (aCons (eC (.str "z")) aNil))) (eBin mulR (eBin ixR (getD' 2) (eC (.int 4))) (eBin ixR (getD' 2) (eC (.int 5)))))))
  (sRet (eC (.bl false)))
  sNil)
  (sSeq (sIf (tAnd (tBin eqR (eBin ixR (getD' 2) (eC (.int 1))) (eC (.str ""))) (tBin ltR (eUn den__law_whole (aCons (eUn den_raised (aCons (getD' 1) (aCons (getD' 3) aNil))) (aCons (getD' 3) aNil))) (eUn den__law_whole (aCons (getD' 1) (aCons (getD' 3) aNil)))))
  (sRet (eC (.bl false)))
  sNil)
  (sFor (eUn itemsR (getD' 1)) (nameT 6)
  (sEnd [6] (sIf (tAnd (tBin notInR (eBin ixR (getD' 6) (eC (.int 0))) (eUn den_below (aCons (getD' 1) (aCons (getD' 3) aNil)))) (tBin notInR (getD' 3) (eUn den_below (aCons (getD' 1) (aCons (eBin ixR (getD' 6) (eC (.int 0))) aNil)))))
  (sSeq (sIf (tBin ltR (eUn den__law_whole (aCons (eUn den_cut (aCons (getD' 1) (aCons (eBin ixR (getD' 6) (eC (.int 0))) aNil))) (aCons (getD' 3) aNil))) (eUn den__law_whole (aCons (getD' 1) (aCons (getD' 3) aNil))))
  (sRet (eC (.bl false)))
  sNil)
  (sIf (tBin neR (eUn den_box_of (aCons (eUn den_cut (aCons (getD' 1) (aCons (eBin ixR (getD' 6) (eC (.int 0))) aNil))) (aCons (getD' 3) aNil))) (getD' 2))
  (sRet (eC (.bl false)))
  sNil))
  sNil))))))))))))
  (sRet (eC (.bl true)))))
def den_law_k09 : List D → R D := defR 1 6 g_law_k09
/-! ### _law_scene_k10 : slots ['_law_script', '_law_at', '_law_found', '_law_turn_here', '_law_k', '_law_here', '_law_around', '_law_places', '_law_sizes', '_law_marks', '_law_j', '_law_sign', '_law_name', '_law_box_here'] -/
def g__law_scene_k10 : En → Out := (sSeq (sSet 2 (eUn tupR aNil))
  (sSeq (sSet 3 (eUn den__law_drawn (aCons (getD' 0) (aCons (eBin addR (getD' 1) (eC (.int 1))) (aCons (eC (.int 8)) aNil)))))
  (sSeq (sFor (eUn range1R (eUn den__law_drawn (aCons (getD' 0) (aCons (getD' 1) (aCons (eC (.int 8)) aNil))))) (nameT 4)
  (sEnd [4, 5, 6, 7, 8, 9, 10, 11, 12] (sSeq (sSet 5 (eBin addR (eBin addR (getD' 1) (eC (.int 3))) (eBin mulR (eC (.int 9)) (getD' 4))))
  (sSeq (sSet 6 (eBin ixR (eBin addR (eOfF (eUn lstR (aCons (eC (.str "")) aNil))) (eOfF (eComp (eUn itemsR (getD' 2)) (nameT 13) tTrue (eBin ixR (getD' 13) (eC (.int 0))) [13]))) (eUn den__law_drawn (aCons (getD' 0) (aCons (getD' 5) (aCons (eBin addR (getD' 4) (eC (.int 1))) aNil))))))
  (sSeq (sSetFD 7 (eComp (eUn range1R (eC (.int 2))) (nameT 10) tTrue (eBin subR (eUn den__law_drawn (aCons (getD' 0) (aCons (eBin addR (eBin addR (getD' 5) (eC (.int 1))) (getD' 10)) (aCons (eC (.int 9)) aNil)))) (eC (.int 3))) [10]))
  (sSeq (sSetFD 8 (eComp (eUn range1R (eC (.int 2))) (nameT 10) tTrue (eUn den__law_drawn (aCons (getD' 0) (aCons (eBin addR (eBin addR (getD' 5) (eC (.int 3))) (getD' 10)) (aCons (eC (.int 9)) aNil)))) [10]))
  (sSeq (sSet 9 (eC (.str "")))
  (sSeq (sFor (fEnT (eC (.str "cfhl"))) (tupT [10, 11])
  (sEnd [10, 11] (sIf (tBin eqR (eUn den__law_drawn (aCons (getD' 0) (aCons (eBin addR (eBin addR (getD' 5) (eC (.int 5))) (getD' 10)) (aCons (eBin ixR (eOfF (eUn lstR (aCons (eC (.int 4)) (aCons (eC (.int 2)) (aCons (eC (.int 9)) (aCons (eC (.int 6)) aNil)))))) (getD' 10)) aNil)))) (eC (.int 0)))
  (sSet 9 (eBin addR (getD' 9) (getD' 11)))
  sNil)))
  (sSeq (sSet 12 (eBin ixR (eC (.str "dbgahcfe")) (eBin modR (eBin addR (getD' 4) (getD' 3)) (eC (.int 8)))))
  (sSet 2 (eBin addR (getD' 2) (eUn tupR (aCons (eBin addR (eBin addR (eUn tupR (aCons (getD' 12) (aCons (getD' 6) aNil))) (eUn tupleR (aCons (eBin addR (getD' 7) (getD' 8)) aNil))) (eUn tupR (aCons (getD' 9) aNil))) aNil)))))))))))))
  (sRet (getD' 2)))))
def den__law_scene_k10 : List D → R D := defR 2 12 g__law_scene_k10
/-! ### _law_hall : slots ['_law_scene_here'] -/
def g__law_hall : En → Out := (sRet (eOfK (kDisp (pCons (eC (.str "scene")) (getD' 0) (pCons (eC (.str "hearers")) (eOfK kNil) (pCons (eC (.str "many")) (eC (.int 0)) (pCons (eC (.str "deep")) (eC (.int 0)) (pCons (eC (.str "rows")) (eOfF (eUn lstR aNil)) pNil))))))))
def den__law_hall : List D → R D := defR 1 0 g__law_hall
/-! ### _law_is_there : slots ['_law_hall_here', '_law_name', '_law_box_here'] -/
def g__law_is_there : En → Out := (sRet (eBin inR (getD' 1) (eOfF (eComp (eUn itemsR (eBin ixR (getD' 0) (eC (.str "scene")))) (nameT 2) tTrue (eBin ixR (getD' 2) (eC (.int 0))) [2]))))
def den__law_is_there : List D → R D := defR 2 1 g__law_is_there
/-! ### _law_cut : slots ['_law_hall_here', '_law_name', '_law_gone_here', '_law_box_here'] -/
def g__law_cut : En → Out := (sSeq (sSet 2 (eOfF (eComp (eUn itemsR (eBin ixR (getV 0) (eC (.str "scene")))) (nameT 3) (tBin inR (getD' 1) (eUn den__law_path (aCons (eBin ixR (getV 0) (eC (.str "scene"))) (aCons (eBin ixR (getD' 3) (eC (.int 0))) aNil)))) (eBin ixR (getD' 3) (eC (.int 0))) [3])))
  (sPut 0 (eC (.str "scene")) (eUn tupleR (aCons (eOfF (eComp (eUn itemsR (eBin ixR (getV 0) (eC (.str "scene")))) (nameT 3) (tBin notInR (eBin ixR (getD' 3) (eC (.int 0))) (getD' 2)) (getD' 3) [3])) aNil))))
def den__law_cut : List D → R D := defR 2 2 g__law_cut
/-! ### _law_deeds : slots ['_law_script', '_law_at', '_law_scene_here', '_law_found', '_law_names', '_law_k', '_law_name', '_law_word', '_law_way', '_law_some', '_law_box_here'] -/
def g__law_deeds : En → Out := (sSeq (sSet 3 (eUn tupR aNil))
  (sSeq (sSet 4 (eBin addR (eOfF (eComp (eUn itemsR (getD' 2)) (nameT 10) tTrue (eBin ixR (getD' 10) (eC (.int 0))) [10])) (eOfF (eUn lstR (aCons (eC (.str "zz")) aNil)))))
  (sSeq (sFor (eUn range1R (eUn den__law_drawn (aCons (getD' 0) (aCons (getD' 1) (aCons (eC (.int 3)) aNil))))) (nameT 5)
  (sEnd [5, 6, 7, 8, 9] (sSeq (sSet 6 (eBin ixR (getD' 4) (eUn den__law_drawn (aCons (getD' 0) (aCons (eBin addR (eBin addR (getD' 1) (eC (.int 1))) (eBin mulR (eC (.int 5)) (getD' 5))) (aCons (eUn lenR (aCons (getD' 4) aNil)) aNil))))))
  (sSeq (sSet 7 (eBin ixR (eOfF (eUn lstR (aCons (eC (.str "u")) (aCons (eC (.str "v")) aNil)))) (eUn den__law_drawn (aCons (getD' 0) (aCons (eBin addR (eBin addR (getD' 1) (eC (.int 2))) (eBin mulR (eC (.int 5)) (getD' 5))) (aCons (eC (.int 2)) aNil))))))
  (sSeq (sSet 8 (eUn den__law_drawn (aCons (getD' 0) (aCons (eBin addR (eBin addR (getD' 1) (eC (.int 3))) (eBin mulR (eC (.int 5)) (getD' 5))) (aCons (eC (.int 9)) aNil)))))
  (sSeq (sSet 9 (eOfF (eUn lstR (aCons (eUn tupR (aCons (eC (.str "stop")) aNil)) (aCons (eUn tupR (aCons (eC (.str "stopnow")) aNil)) (aCons (eUn tupR (aCons (eC (.str "keep")) aNil)) (aCons (eUn tupR (aCons (eC (.str "unhear")) (aCons (eUn den__law_drawn (aCons (getD' 0) (aCons (eBin addR (eBin addR (getD' 1) (eC (.int 4))) (eBin mulR (eC (.int 5)) (getD' 5))) (aCons (eC (.int 8)) aNil)))) aNil))) aNil)))))))
  (sSeq (sSet 9 (eBin addR (getD' 9) (eOfF (eUn lstR (aCons (eUn tupR (aCons (eC (.str "hear")) (aCons (getD' 6) (aCons (getD' 7) (aCons (eC (.bl true)) aNil))))) (aCons (eUn tupR (aCons (eC (.str "hear")) (aCons (getD' 6) (aCons (getD' 7) (aCons (eC (.bl false)) aNil))))) (aCons (eUn tupR (aCons (eC (.str "cut")) (aCons (getD' 6) aNil))) (aCons (eUn tupR (aCons (eC (.str "call")) (aCons (getD' 6) (aCons (getD' 7) aNil)))) aNil))))))))
  (sSet 3 (eBin addR (getD' 3) (eUn tupR (aCons (eBin ixR (eBin addR (getD' 9) (eOfF (eUn lstR (aCons (eUn tupR (aCons (eC (.str "keep")) aNil)) aNil)))) (getD' 8)) aNil)))))))))))
  (sRet (getD' 3)))))
def den__law_deeds : List D → R D := defR 3 8 g__law_deeds
/-! ### _law_few : slots ['_law_deeds_here', '_law_known', '_law_found', '_law_deed', '_law_many', '_law_one'] -/
def g__law_few : En → Out := (sSeq (sSet 2 (eUn tupR aNil))
  (sSeq (sFor (eUn itemsR (getD' 0)) (nameT 3)
  (sEnd [3, 4, 5] (sSeq (sSet 4 (eMeth lstyR (getV 1) (aCons (eBin ixR (getD' 3) (eC (.int 0))) aNil) countR))
  (sSeq (sSet 5 (eIf (tOr (tAnd (tBin eqR (eBin ixR (getD' 3) (eC (.int 0))) (eC (.str "call"))) (tBin gtR (getD' 4) (eC (.int 1)))) (tAnd (tBin eqR (eBin ixR (getD' 3) (eC (.int 0))) (eC (.str "hear"))) (tBin gtR (getD' 4) (eC (.int 2))))) (eUn tupR (aCons (eC (.str "keep")) aNil)) (getD' 3)))
  (sSeq (sMeth 1 (eBin ixR (getD' 5) (eC (.int 0))) appO)
  (sSet 2 (eBin addR (getD' 2) (eUn tupR (aCons (getD' 5) aNil)))))))))
  (sRet (getD' 2))))
def den__law_few : List D → R D := defR 2 4 g__law_few
/-! ### _law_comes : slots ['_law_rows', '_law_here', '_law_told', '_law_new', '_law_some', '_law_row'] -/
def g__law_comes : En → Out := (sSeq (sSetFD 4 (eComp (eUn itemsR (getD' 2)) (nameT 5) (tBin eqR (eBin ixR (getD' 5) (eC (.int 0))) (eBin ixR (getD' 3) (eC (.int 0)))) (getD' 5) [5]))
  (sSeq (sIf (tOr (tBin neR (eOfF (eComp (eUn itemsR (getD' 2)) (nameT 5) (tBin neR (eBin ixR (getD' 5) (eC (.int 0))) (eBin ixR (getD' 3) (eC (.int 0)))) (getD' 5) [5])) (getD' 0)) (tBin notInR (getD' 4) (eUn tupR (aCons (eOfF (eUn lstR aNil)) (aCons (eOfF (eUn lstR (aCons (getD' 3) aNil))) aNil)))))
  (sRet (eC (.bl false)))
  sNil)
  (sSeq (sIf (tBin neR (getD' 4) (eOfF (eUn lstR aNil)))
  (sRet (eBin gtR (eMeth lstyR (getD' 2) (aCons (getD' 3) aNil) indexR) (getD' 1)))
  sNil)
  (sRet (eOr (eBin eqR (eSlice (getD' 3) (eUn optR (eC (.int 1))) oNone) (eSlice (eBin ixR (getD' 0) (getD' 1)) (eUn optR (eC (.int 1))) oNone)) (eBin notInR (eSlice (getD' 3) (eUn optR (eC (.int 1))) oNone) (eOfF (eComp (eUn itemsR (eSlice (getD' 0) (eUn optR (eBin addR (getD' 1) (eC (.int 1)))) oNone)) (nameT 5) tTrue (eSlice (getD' 5) (eUn optR (eC (.int 1))) oNone) [5]))))))))
def den__law_comes : List D → R D := defR 4 2 g__law_comes
/-! ### led_over : slots ['before', 'after', 'same', 'name'] -/
def g_led_over : En → Out := (sSeq (sSet 2 (eC (.int 0)))
  (sSeq (sWhile (tAnd (tBin ltR (getD' 2) (eUn min2R (aCons (eUn lenR (aCons (getD' 0) aNil)) (aCons (eUn lenR (aCons (getD' 1) aNil)) aNil)))) (tBin eqR (eBin ixR (getD' 0) (getD' 2)) (eBin ixR (getD' 1) (getD' 2))))
  (sSet 2 (eBin addR (getD' 2) (eC (.int 1)))) 4096)
  (sRet (eBin addR (eOfF (eComp (eUn itemsR (eOfF (eUn revF (eSlice (getD' 0) (eUn optR (getD' 2)) oNone)))) (nameT 3) tTrue (eUn tupR (aCons (eC (.str "leave")) (aCons (getD' 3) aNil))) [3])) (eOfF (eComp (eUn itemsR (eSlice (getD' 1) (eUn optR (getD' 2)) oNone)) (nameT 3) tTrue (eUn tupR (aCons (eC (.str "enter")) (aCons (getD' 3) aNil))) [3]))))))
def den_led_over : List D → R D := defR 2 2 g_led_over
/-! ### shared : slots ['before', 'after', 'found', 'one', 'other'] -/
def g_shared : En → Out := (sSeq (sSet 2 (eC .non))
  (sSeq (sFor (fZip (getD' 0) (getD' 1)) (tupT [3, 4])
  (sEnd [3, 4] (sSeq (sIf (tBin neR (getD' 3) (getD' 4))
  (sRet (getD' 2))
  sNil)
  (sSet 2 (getD' 3)))))
  (sRet (getD' 2))))
def den_shared : List D → R D := defR 2 3 g_shared
/-! ### _law_led : slots ['_law_hand_here', '_law_path_here', '_law_same', '_law_found', '_law_name'] -/
def g__law_led : En → Out := (sSeq (sSet 2 (eC (.int 0)))
  (sSeq (sWhile (tChain eqR neR (eSlice (eBin ixR (getV 0) (eC (.str "over"))) (eUn optR (getD' 2)) (eUn optR (eBin addR (getD' 2) (eC (.int 1))))) (eSlice (getD' 1) (eUn optR (getD' 2)) (eUn optR (eBin addR (getD' 2) (eC (.int 1))))) (eOfF (eUn lstR aNil)))
  (sSet 2 (eBin addR (getD' 2) (eC (.int 1)))) 4096)
  (sSeq (sSet 3 (eBin addR (eOfF (eComp (eUn itemsR (eOfF (eUn revF (eSlice (eBin ixR (getV 0) (eC (.str "over"))) (eUn optR (getD' 2)) oNone)))) (nameT 4) tTrue (eUn tupR (aCons (eC (.str "leave")) (aCons (getD' 4) aNil))) [4])) (eOfF (eComp (eUn itemsR (eSlice (getD' 1) (eUn optR (getD' 2)) oNone)) (nameT 4) tTrue (eUn tupR (aCons (eC (.str "enter")) (aCons (getD' 4) aNil))) [4]))))
  (sSeq (sPut 0 (eC (.str "over")) (getD' 1))
  (sRet (getD' 3))))))
def den__law_led : List D → R D := defR 2 3 g__law_led
/-! ### _law_hand : slots [] -/
def g__law_hand : En → Out := (sRet (eOfK (kDisp (pCons (eC (.str "over")) (eOfF (eUn lstR aNil)) (pCons (eC (.str "pressed")) (eC .non) (pCons (eC (.str "held")) (eC .non) (pCons (eC (.str "last")) (eC .non) pNil)))))))
def den__law_hand : List D → R D := defR 0 0 g__law_hand
/-! ### _wall : slots ['k'] -/
def g__wall : En → Out := (sWhile (tVal (eC (.bl true)))
  sNil 4096)
def den__wall : List D → R D := defR 1 0 g__wall
/-! ### how_far : slots ['point'] -/
def g_how_far : En → Out := (sRet (eUn tupR (aCons (eUn absR (aCons (eBin ixR (getD' 0) (eC (.int 1))) aNil)) (aCons (eUn absR (aCons (eBin ixR (getD' 0) (eC (.int 2))) aNil)) aNil))))
def den_how_far : List D → R D := defR 1 0 g_how_far
/-! ### gives_up : slots ['kind', 'point', 'is_up', 'x', 'y'] -/
def g_gives_up : En → Out := (sSeq (sAsg (tupT [3, 4]) (eUn den_how_far (aCons (getD' 1) aNil)))
  (sSeq (sIf (tBin eqR (getD' 0) (eC (.str "tap")))
  (sRet (eOr (eBin gtR (eUn max2R (aCons (getD' 3) (aCons (getD' 4) aNil))) (eC (.int 6))) (eBin gtR (eBin ixR (getD' 1) (eC (.int 0))) (eC (.int 30)))))
  sNil)
  (sSeq (sIf (tBin eqR (getD' 0) (eC (.str "long")))
  (sRet (eOr (eBin gtR (eUn max2R (aCons (getD' 3) (aCons (getD' 4) aNil))) (eC (.int 6))) (eAnd (getD' 2) (eBin ltR (eBin ixR (getD' 1) (eC (.int 0))) (eC (.int 40))))))
  sNil)
  (sSeq (sIf (tBin eqR (getD' 0) (eC (.str "across")))
  (sRet (eOr (eAnd (eBin gtR (getD' 4) (eC (.int 6))) (eBin gtR (getD' 4) (getD' 3))) (eAnd (getD' 2) (eBin leR (getD' 3) (eC (.int 6))))))
  sNil)
  (sSeq (sIf (tBin eqR (getD' 0) (eC (.str "along")))
  (sRet (eOr (eAnd (eBin gtR (getD' 3) (eC (.int 6))) (eBin gtR (getD' 3) (getD' 4))) (eAnd (getD' 2) (eBin leR (getD' 4) (eC (.int 6))))))
  sNil)
  (sRet (eAnd (getD' 2) (eBin leR (eUn max2R (aCons (getD' 3) (aCons (getD' 4) aNil))) (eC (.int 6))))))))))
def den_gives_up : List D → R D := defR 3 2 g_gives_up
/-! ### claims : slots ['kind', 'point', 'is_up', 'x', 'y'] -/
def g_claims : En → Out := (sSeq (sAsg (tupT [3, 4]) (eUn den_how_far (aCons (getD' 1) aNil)))
  (sSeq (sIf (tBin eqR (getD' 0) (eC (.str "tap")))
  (sRet (getD' 2))
  sNil)
  (sSeq (sIf (tBin eqR (getD' 0) (eC (.str "long")))
  (sRet (eBin geR (eBin ixR (getD' 1) (eC (.int 0))) (eC (.int 40))))
  sNil)
  (sSeq (sIf (tBin eqR (getD' 0) (eC (.str "across")))
  (sRet (eBin gtR (getD' 3) (eC (.int 6))))
  sNil)
  (sSeq (sIf (tBin eqR (getD' 0) (eC (.str "along")))
  (sRet (eBin gtR (getD' 4) (eC (.int 6))))
  sNil)
  (sRet (eBin gtR (eUn max2R (aCons (getD' 3) (aCons (getD' 4) aNil))) (eC (.int 6)))))))))
def den_claims : List D → R D := defR 3 2 g_claims
/-! ### left_at : slots ['rivals', 'point', 'is_up', 'rival'] -/
def g_left_at : En → Out := (sRet (eOfF (eComp (eUn itemsR (getD' 0)) (nameT 3) (tNot (tVal (eUn den_gives_up (aCons (eBin ixR (getD' 3) (eC (.int 1))) (aCons (getD' 1) (aCons (getD' 2) aNil)))))) (getD' 3) [3])))
def den_left_at : List D → R D := defR 3 1 g_left_at
/-! ### played : slots ['rivals', 'points', 'left', 'outs', 'at', 'point', 'is_up', 'behind', 'claiming', 'rival'] -/
def g_played : En → Out := (sSeq (sSet 2 (eUn listR (aCons (getD' 0) aNil)))
  (sSeq (sSetF 3 (eUn lstR aNil))
  (sSeq (sFor (fEn (getD' 1)) (tupT [4, 5])
  (sEnd [4, 5, 6, 7, 8] (sSeq (sSet 6 (eBin eqR (getD' 4) (eBin subR (eUn lenR (aCons (getD' 1) aNil)) (eC (.int 1)))))
  (sSeq (sSet 7 (eUn den_left_at (aCons (getD' 2) (aCons (getD' 5) (aCons (getD' 6) aNil)))))
  (sSeq (sMeth 3 (eOfF (eComp (eUn itemsR (getD' 2)) (nameT 9) (tBin notInR (getD' 9) (getD' 7)) (eUn tupR (aCons (getD' 9) (aCons (eBin ixR (getD' 5) (eC (.int 0))) aNil))) [9])) extO)
  (sSeq (sSet 8 (eOfF (eComp (eUn itemsR (getD' 7)) (nameT 9) (tVal (eUn den_claims (aCons (eBin ixR (getD' 9) (eC (.int 1))) (aCons (getD' 5) (aCons (getD' 6) aNil))))) (getD' 9) [9])))
  (sSeq (sIf (tAnd (tBin eqR (getD' 8) (eOfF (eUn lstR aNil))) (tAnd (tBin eqR (eUn lenR (aCons (getD' 7) aNil)) (eC (.int 1))) (tBin gtR (eUn lenR (aCons (getD' 0) aNil)) (eC (.int 1)))))
  (sSet 8 (getD' 7))
  sNil)
  (sSeq (sIf (tBin neR (getD' 8) (eOfF (eUn lstR aNil)))
  (sSeq (sMeth 3 (eOfF (eComp (eUn itemsR (getD' 7)) (nameT 9) (tBin neR (getD' 9) (eBin ixR (getD' 8) (eC (.int 0)))) (eUn tupR (aCons (getD' 9) (aCons (eBin ixR (getD' 5) (eC (.int 0))) aNil))) [9])) extO)
  (sFrz 3 (sRet (eUn tupR (aCons (eBin ixR (getD' 8) (eC (.int 0))) (aCons (eBin ixR (getD' 5) (eC (.int 0))) (aCons (getD' 3) aNil)))))))
  sNil)
  (sSet 2 (getD' 7))))))))))
  (sFrz 3 (sRet (eUn tupR (aCons (eC .non) (aCons (eC .non) (aCons (eBin addR (getD' 3) (eOfF (eComp (eUn itemsR (getD' 2)) (nameT 9) tTrue (eUn tupR (aCons (getD' 9) (aCons (eBin ixR (eBin ixR (getD' 1) (eUn negR (eC (.int 1)))) (eC (.int 0))) aNil))) [9]))) aNil)))))))))
def den_played : List D → R D := defR 2 8 g_played
/-! ### decided : slots ['rivals', 'points', 'winner', 'moment', 'outs'] -/
def g_decided : En → Out := (sSeq (sAsg (tupT [2, 3, 4]) (eUn den_played (aCons (getD' 0) (aCons (getD' 1) aNil))))
  (sRet (eIf (tBin isR (getD' 2) (eC .non)) (eC .non) (eUn tupR (aCons (getD' 2) (aCons (getD' 3) aNil))))))
def den_decided : List D → R D := defR 2 3 g_decided
/-! ### losers : slots ['rivals', 'points', 'rival', 'moment'] -/
def g_losers : En → Out := (sRet (eUn sortedPR (aCons (eOfF (eComp (eUn itemsR (eBin ixR (eUn den_played (aCons (getD' 0) (aCons (getD' 1) aNil))) (eC (.int 2)))) (tupT [2, 3]) tTrue (eUn tupR (aCons (eMeth lstyR (getD' 0) (aCons (getD' 2) aNil) indexR) (aCons (getD' 3) aNil))) [2, 3])) aNil)))
def den_losers : List D → R D := defR 2 2 g_losers
/-! ### rivals_on : slots ['path', 'kinds', 'found', 'name', 'kind'] -/
def g_rivals_on : En → Out := (sSeq (sSetF 2 (eUn lstR aNil))
  (sSeq (sFor (eUn revI (getD' 0)) (nameT 3)
  (sEnd [3] (sMeth 2 (eOfF (eComp (eUn itemsR (eGet2 (getD' 1) (getD' 3) (eOfF (eUn lstR aNil)))) (nameT 4) tTrue (eUn tupR (aCons (getD' 3) (aCons (getD' 4) aNil))) [4])) extO)))
  (sFrz 2 (sRet (getD' 2)))))
def den_rivals_on : List D → R D := defR 2 3 g_rivals_on
/-! ### _law_rivals : slots ['_law_script', '_law_at', '_law_found', '_law_k', '_law_kind', '_law_rival'] -/
def g__law_rivals : En → Out := (sSeq (sSetF 2 (eUn lstR aNil))
  (sSeq (sFor (eUn range1R (eUn den__law_drawn (aCons (getD' 0) (aCons (getD' 1) (aCons (eC (.int 6)) aNil))))) (nameT 3)
  (sEnd [3, 4, 5] (sSeq (sSet 4 (eBin ixR (eOfF (eUn lstR (aCons (eC (.str "tap")) (aCons (eC (.str "long")) (aCons (eC (.str "across")) (aCons (eC (.str "along")) (aCons (eC (.str "drag")) aNil))))))) (eUn den__law_drawn (aCons (getD' 0) (aCons (eBin addR (eBin addR (getD' 1) (eC (.int 2))) (eBin mulR (eC (.int 2)) (getD' 3))) (aCons (eC (.int 5)) aNil))))))
  (sSeq (sSet 5 (eUn tupR (aCons (eBin ixR (eC (.str "ab")) (eUn den__law_drawn (aCons (getD' 0) (aCons (eBin addR (eBin addR (getD' 1) (eC (.int 1))) (eBin mulR (eC (.int 2)) (getD' 3))) (aCons (eC (.int 2)) aNil))))) (aCons (getD' 4) aNil))))
  (sIf (tBin notInR (getD' 5) (getV 2))
  (sMeth 2 (getD' 5) appO)
  sNil)))))
  (sFrz 2 (sRet (getD' 2)))))
def den__law_rivals : List D → R D := defR 2 4 g__law_rivals
/-! ### _law_touch : slots ['_law_script', '_law_at', '_law_moment', '_law_x', '_law_y', '_law_found', '_law_k'] -/
def g__law_touch : En → Out := (sSeq (sSet 2 (eC (.int 0)))
  (sSeq (sSet 3 (eC (.int 0)))
  (sSeq (sSet 4 (eC (.int 0)))
  (sSeq (sSetF 5 (eUn lstR aNil))
  (sSeq (sFor (eUn range1R (eBin addR (eC (.int 1)) (eUn den__law_drawn (aCons (getD' 0) (aCons (getD' 1) (aCons (eC (.int 6)) aNil)))))) (nameT 6)
  (sEnd [6] (sSeq (sMeth 5 (eUn tupR (aCons (getD' 2) (aCons (getD' 3) (aCons (getD' 4) aNil)))) appO)
  (sSeq (sSet 2 (eBin addR (getD' 2) (eBin ixR (eOfF (eUn lstR (aCons (eC (.int 0)) (aCons (eC (.int 1)) (aCons (eC (.int 10)) (aCons (eC (.int 20)) (aCons (eC (.int 30)) (aCons (eC (.int 39)) (aCons (eC (.int 40)) (aCons (eC (.int 41)) aNil)))))))))) (eUn den__law_drawn (aCons (getD' 0) (aCons (eBin addR (eBin addR (getD' 1) (eC (.int 1))) (eBin mulR (eC (.int 4)) (getD' 6))) (aCons (eC (.int 8)) aNil)))))))
  (sSeq (sSet 3 (eBin addR (getD' 3) (eBin ixR (eOfF (eUn lstR (aCons (eC (.int 0)) (aCons (eC (.int 0)) (aCons (eC (.int 1)) (aCons (eUn negR (eC (.int 2))) (aCons (eC (.int 3)) (aCons (eC (.int 5)) (aCons (eUn negR (eC (.int 6))) (aCons (eC (.int 7)) (aCons (eUn negR (eC (.int 8))) aNil))))))))))) (eUn den__law_drawn (aCons (getD' 0) (aCons (eBin addR (eBin addR (getD' 1) (eC (.int 2))) (eBin mulR (eC (.int 4)) (getD' 6))) (aCons (eC (.int 9)) aNil)))))))
  (sSet 4 (eBin addR (getD' 4) (eBin ixR (eOfF (eUn lstR (aCons (eC (.int 0)) (aCons (eC (.int 0)) (aCons (eC (.int 1)) (aCons (eUn negR (eC (.int 2))) (aCons (eC (.int 3)) (aCons (eC (.int 5)) (aCons (eUn negR (eC (.int 6))) (aCons (eC (.int 7)) (aCons (eUn negR (eC (.int 8))) aNil))))))))))) (eUn den__law_drawn (aCons (getD' 0) (aCons (eBin addR (eBin addR (getD' 1) (eC (.int 3))) (eBin mulR (eC (.int 4)) (getD' 6))) (aCons (eC (.int 9)) aNil))))))))))))
  (sFrz 5 (sRet (getD' 5))))))))
def den__law_touch : List D → R D := defR 2 5 g__law_touch
/-! ### _law_says : slots ['_law_kind', '_law_moment', '_law_aside', '_law_upright', '_law_is_end', '_law_far'] -/
def g__law_says : En → Out := (sSeq (sSet 5 (eOr (eBin gtR (getD' 2) (eC (.int 6))) (eBin gtR (getD' 3) (eC (.int 6)))))
  (sSeq (sIf (tBin eqR (getD' 0) (eC (.str "tap")))
  (sRet (eUn tupR (aCons (eOr (getD' 5) (eBin gtR (getD' 1) (eC (.int 30)))) (aCons (getD' 4) aNil))))
  sNil)
  (sSeq (sIf (tBin eqR (getD' 0) (eC (.str "long")))
  (sRet (eUn tupR (aCons (eOr (getD' 5) (eAnd (getD' 4) (eBin ltR (getD' 1) (eC (.int 40))))) (aCons (eBin geR (getD' 1) (eC (.int 40))) aNil))))
  sNil)
  (sSeq (sIf (tBin eqR (getD' 0) (eC (.str "across")))
  (sRet (eUn tupR (aCons (eOr (eAnd (eBin gtR (getD' 3) (eC (.int 6))) (eBin gtR (getD' 3) (getD' 2))) (eAnd (getD' 4) (eBin leR (getD' 2) (eC (.int 6))))) (aCons (eBin gtR (getD' 2) (eC (.int 6))) aNil))))
  sNil)
  (sSeq (sIf (tBin eqR (getD' 0) (eC (.str "along")))
  (sRet (eUn tupR (aCons (eOr (eAnd (eBin gtR (getD' 2) (eC (.int 6))) (eBin gtR (getD' 2) (getD' 3))) (eAnd (getD' 4) (eBin leR (getD' 3) (eC (.int 6))))) (aCons (eBin gtR (getD' 3) (eC (.int 6))) aNil))))
  sNil)
  (sRet (eUn tupR (aCons (eAnd (getD' 4) (eUn notR (getD' 5))) (aCons (getD' 5) aNil)))))))))
def den__law_says : List D → R D := defR 5 1 g__law_says
/-! ### _law_played : slots ['_law_rivals_here', '_law_points', '_law_left', '_law_outs', '_law_at', '_law_point', '_law_told', '_law_k', '_law_some'] -/
def g__law_played : En → Out := (sSeq (sSet 2 (eOfF (eUn rangeLR (eUn lenR (aCons (getD' 0) aNil)))))
  (sSeq (sSetK 3 kNil)
  (sSeq (sFor (fEn (getD' 1)) (tupT [4, 5])
  (sEnd [4, 5, 6, 7, 8] (sSeq (sSetK 6 kNil)
  (sSeq (sFor (eUn itemsR (getD' 2)) (nameT 7)
  (sEnd [7] (sPut 6 (getD' 7) (eUn den__law_says (aCons (eBin ixR (eBin ixR (getD' 0) (getD' 7)) (eC (.int 1))) (aCons (eBin ixR (getD' 5) (eC (.int 0))) (aCons (eUn absR (aCons (eBin ixR (getD' 5) (eC (.int 1))) aNil)) (aCons (eUn absR (aCons (eBin ixR (getD' 5) (eC (.int 2))) aNil)) (aCons (eBin eqR (eBin addR (getD' 4) (eC (.int 1))) (eUn lenR (aCons (getD' 1) aNil))) aNil)))))))))
  (sSeq (sFor (eUn itemsR (getD' 2)) (nameT 7)
  (sEnd [7] (sIf (tVal (eBin ixR (eBin ixR (getV 6) (getD' 7)) (eC (.int 0))))
  (sPut 3 (getD' 7) (eBin ixR (getD' 5) (eC (.int 0))))
  sNil)))
  (sSeq (sSetFD 2 (eComp (eUn itemsR (getD' 2)) (nameT 7) (tNot (tVal (eBin ixR (eBin ixR (getV 6) (getD' 7)) (eC (.int 0))))) (getD' 7) [7]))
  (sSeq (sSetFD 8 (eComp (eUn itemsR (getD' 2)) (nameT 7) (tVal (eBin ixR (eBin ixR (getV 6) (getD' 7)) (eC (.int 1)))) (getD' 7) [7]))
  (sSeq (sIf (tAnd (tBin eqR (getD' 8) (eOfF (eUn lstR aNil))) (tAnd (tBin eqR (eUn lenR (aCons (getD' 2) aNil)) (eC (.int 1))) (tBin gtR (eUn lenR (aCons (getD' 0) aNil)) (eC (.int 1)))))
  (sSet 8 (getD' 2))
  sNil)
  (sEnd [7] (sIf (tBin neR (getD' 8) (eOfF (eUn lstR aNil)))
  (sSeq (sFor (eUn itemsR (getD' 2)) (nameT 7)
  (sEnd [7] (sPut 3 (getD' 7) (eBin ixR (getD' 5) (eC (.int 0))))))
  (sSeq (sPopK 3 (eBin ixR (getD' 8) (eC (.int 0))))
  (sFrz 3 (sRet (eUn tupR (aCons (eBin ixR (getD' 8) (eC (.int 0))) (aCons (eBin ixR (getD' 5) (eC (.int 0))) (aCons (getD' 3) aNil))))))))
  sNil))))))))))
  (sSeq (sFor (eUn itemsR (getD' 2)) (nameT 7)
  (sEnd [7] (sPut 3 (getD' 7) (eBin ixR (eBin ixR (getD' 1) (eUn negR (eC (.int 1)))) (eC (.int 0))))))
  (sFrz 3 (sRet (eUn tupR (aCons (eC .non) (aCons (eC .non) (aCons (getD' 3) aNil))))))))))
def den__law_played : List D → R D := defR 2 7 g__law_played
/-! ### _law_known_touches : slots ['_law_ends', '_law_kind', '_law_rivals_here', '_law_end', '_law_points', '_law_winner', '_law_moment', '_law_outs', '_law_due', '_law_rows', '_law_k'] -/
def g__law_known_touches : En → Out := (sSeq (sSetK 0 (kDisp (pCons (eC (.str "tap")) (eOfF (eUn lstR (aCons (eUn tupR (aCons (eC (.int 30)) (aCons (eC (.int 6)) (aCons (eC (.int 6)) aNil)))) (aCons (eUn tupR (aCons (eC (.int 31)) (aCons (eC (.int 0)) (aCons (eC (.int 0)) aNil)))) (aCons (eUn tupR (aCons (eC (.int 3)) (aCons (eUn negR (eC (.int 7))) (aCons (eC (.int 0)) aNil)))) (aCons (eUn tupR (aCons (eC (.int 3)) (aCons (eC (.int 6)) (aCons (eC (.int 0)) aNil)))) aNil)))))) (pCons (eC (.str "long")) (eOfF (eUn lstR (aCons (eUn tupR (aCons (eC (.int 40)) (aCons (eC (.int 0)) (aCons (eC (.int 0)) aNil)))) (aCons (eUn tupR (aCons (eC (.int 39)) (aCons (eC (.int 0)) (aCons (eC (.int 0)) aNil)))) (aCons (eUn tupR (aCons (eC (.int 5)) (aCons (eC (.int 0)) (aCons (eC (.int 7)) aNil)))) aNil))))) pNil))))
  (sSeq (sPut 0 (eC (.str "across")) (eOfF (eUn lstR (aCons (eUn tupR (aCons (eC (.int 5)) (aCons (eC (.int 7)) (aCons (eC (.int 8)) aNil)))) (aCons (eUn tupR (aCons (eC (.int 5)) (aCons (eC (.int 8)) (aCons (eC (.int 7)) aNil)))) (aCons (eUn tupR (aCons (eC (.int 5)) (aCons (eC (.int 7)) (aCons (eC (.int 7)) aNil)))) (aCons (eUn tupR (aCons (eC (.int 3)) (aCons (eC (.int 6)) (aCons (eC (.int 0)) aNil)))) (aCons (eUn tupR (aCons (eC (.int 5)) (aCons (eC (.int 0)) (aCons (eC (.int 7)) aNil)))) aNil))))))))
  (sSeq (sPut 0 (eC (.str "along")) (eOfF (eUn lstR (aCons (eUn tupR (aCons (eC (.int 5)) (aCons (eC (.int 7)) (aCons (eC (.int 8)) aNil)))) (aCons (eUn tupR (aCons (eC (.int 5)) (aCons (eC (.int 8)) (aCons (eC (.int 7)) aNil)))) (aCons (eUn tupR (aCons (eC (.int 5)) (aCons (eC (.int 7)) (aCons (eC (.int 7)) aNil)))) (aCons (eUn tupR (aCons (eC (.int 3)) (aCons (eC (.int 6)) (aCons (eC (.int 0)) aNil)))) (aCons (eUn tupR (aCons (eC (.int 5)) (aCons (eC (.int 7)) (aCons (eC (.int 0)) aNil)))) aNil))))))))
  (sSeq (sPut 0 (eC (.str "drag")) (eOfF (eUn lstR (aCons (eUn tupR (aCons (eC (.int 3)) (aCons (eC (.int 6)) (aCons (eC (.int 0)) aNil)))) (aCons (eUn tupR (aCons (eC (.int 3)) (aCons (eUn negR (eC (.int 7))) (aCons (eC (.int 0)) aNil)))) (aCons (eUn tupR (aCons (eC (.int 5)) (aCons (eC (.int 6)) (aCons (eC (.int 6)) aNil)))) aNil))))))
  (sSeq (sFrz 0 (sFor (eUn itemsR (eUn listDR (aCons (getD' 0) aNil))) (nameT 1)
  (sEnd [1, 2, 3, 4, 5, 6, 7, 8, 9] (sSeq (sSet 2 (eSlice (eOfF (eUn lstR (aCons (eUn tupR (aCons (eC (.str "a")) (aCons (getD' 1) aNil))) (aCons (eUn tupR (aCons (eC (.str "b")) (aCons (eC (.str "drag")) aNil))) aNil)))) oNone (eUn optR (eBin addR (eC (.int 1)) (eUn int1R (aCons (eBin eqR (getD' 1) (eC (.str "long"))) aNil))))))
  (sFrz 0 (sFor (eUn itemsR (eBin ixR (getD' 0) (getD' 1))) (nameT 3)
  (sEnd [3, 4, 5, 6, 7, 8, 9] (sSeq (sSet 4 (eOfF (eUn lstR (aCons (eUn tupR (aCons (eC (.int 0)) (aCons (eC (.int 0)) (aCons (eC (.int 0)) aNil)))) (aCons (getD' 3) aNil)))))
  (sSeq (sAsg (tupT [5, 6, 7]) (eUn den__law_played (aCons (getD' 2) (aCons (getD' 4) aNil))))
  (sSeq (sSet 8 (eIf (tBin isR (getD' 5) (eC .non)) (eC .non) (eUn tupR (aCons (eBin ixR (getD' 2) (getD' 5)) (aCons (getD' 6) aNil)))))
  (sSeq (sSetFD 9 (eComp (eUn itemsR (eUn sortedDIR (aCons (getD' 7) aNil))) (nameT 10) tTrue (eUn tupR (aCons (getD' 10) (aCons (eBin ixR (getD' 7) (getD' 10)) aNil))) [10]))
  (sIf (tOr (tBin neR (eUn den_decided (aCons (getD' 2) (aCons (getD' 4) aNil))) (getD' 8)) (tBin neR (eUn den_losers (aCons (getD' 2) (aCons (getD' 4) aNil))) (getD' 9)))
  (sRet (eC (.bl false)))
  sNil))))))))))))
  (sRet (eC (.bl true))))))))
def den__law_known_touches : List D → R D := defR 0 11 g__law_known_touches
/-! ### law_k30 : slots ['_law_script', '_law_rivals_here', '_law_points', '_law_winner', '_law_moment', '_law_outs', '_law_due', '_law_path', '_law_kinds', '_law_k', '_law_name', '_law_every', '_law_kind'] -/
def g_law_k30 : En → Out := (sSeq (sSet 1 (eUn den__law_rivals (aCons (getD' 0) (aCons (eC (.int 0)) aNil))))
  (sSeq (sSet 2 (eUn den__law_touch (aCons (getD' 0) (aCons (eC (.int 20)) aNil))))
  (sSeq (sAsg (tupT [3, 4, 5]) (eUn den__law_played (aCons (getD' 1) (aCons (getD' 2) aNil))))
  (sSeq (sSet 6 (eIf (tBin isR (getD' 3) (eC .non)) (eC .non) (eUn tupR (aCons (eBin ixR (getD' 1) (getD' 3)) (aCons (getD' 4) aNil)))))
  (sSeq (sIf (tOr (tBin neR (eUn den_decided (aCons (getD' 1) (aCons (getD' 2) aNil))) (getD' 6)) (tBin neR (eUn den_losers (aCons (getD' 1) (aCons (getD' 2) aNil))) (eOfF (eComp (eUn itemsR (eUn sortedDIR (aCons (getD' 5) aNil))) (nameT 9) tTrue (eUn tupR (aCons (getD' 9) (aCons (eBin ixR (getD' 5) (getD' 9)) aNil))) [9]))))
  (sRet (eC (.bl false)))
  sNil)
  (sSeq (sIf (tNot (tVal (eUn den__law_known_touches aNil)))
  (sRet (eC (.bl false)))
  sNil)
  (sSeq (sSet 7 (eSlice (eOfF (eUn lstR (aCons (eC (.str "a")) (aCons (eC (.str "b")) (aCons (eC (.str "c")) (aCons (eC (.str "d")) aNil)))))) oNone (eUn optR (eUn den__law_drawn (aCons (getD' 0) (aCons (eC (.int 60)) (aCons (eC (.int 5)) aNil)))))))
  (sSeq (sSetK 8 kNil)
  (sSeq (sFor (fEnT (eC (.str "abd"))) (tupT [9, 10])
  (sEnd [9, 10] (sIf (tBin gtR (eUn den__law_drawn (aCons (getD' 0) (aCons (eBin addR (eC (.int 61)) (eBin mulR (eC (.int 3)) (getD' 9))) (aCons (eC (.int 3)) aNil)))) (eC (.int 0)))
  (sPut 8 (getD' 10) (eBin ixR (eOfF (eUn lstR (aCons (eOfF (eUn lstR (aCons (eC (.str "tap")) aNil))) (aCons (eOfF (eUn lstR (aCons (eC (.str "drag")) (aCons (eC (.str "long")) aNil)))) (aCons (eOfF (eUn lstR aNil)) aNil))))) (eUn den__law_drawn (aCons (getD' 0) (aCons (eBin addR (eC (.int 62)) (eBin mulR (eC (.int 3)) (getD' 9))) (aCons (eC (.int 3)) aNil))))))
  sNil)))
  (sSeq (sSet 11 (eOfF (eUn lstR aNil)))
  (sSeq (sFor (eUn itemsR (eOfF (eUn revF (getD' 7)))) (nameT 10)
  (sEnd [10] (sSet 11 (eBin addR (getD' 11) (eOfF (eComp (eUn itemsR (eGet2 (getV 8) (getD' 10) (eOfF (eUn lstR aNil)))) (nameT 12) tTrue (eUn tupR (aCons (getD' 10) (aCons (getD' 12) aNil))) [12]))))))
  (sFrz 8 (sRet (eAnd (eBin eqR (eUn den_rivals_on (aCons (getD' 7) (aCons (getD' 8) aNil))) (getD' 11)) (eAnd (eBin eqR (eUn den_losers (aCons (eOfF (eUn lstR aNil)) (aCons (getD' 2) aNil))) (eOfF (eUn lstR aNil))) (eBin isR (eUn den_decided (aCons (eOfF (eUn lstR aNil)) (aCons (getD' 2) aNil))) (eC .non)))))))))))))))))
def den_law_k30 : List D → R D := defR 1 12 g_law_k30
/-! ### _law_exchanged : slots ['_law_rival'] -/
def g__law_exchanged : En → Out := (sRet (eUn tupR (aCons (eBin ixR (getD' 0) (eC (.int 0))) (aCons (eGet2 (eOfK (kDisp (pCons (eC (.str "across")) (eC (.str "along")) (pCons (eC (.str "along")) (eC (.str "across")) pNil)))) (eBin ixR (getD' 0) (eC (.int 1))) (eBin ixR (getD' 0) (eC (.int 1)))) aNil))))
def den__law_exchanged : List D → R D := defR 1 0 g__law_exchanged
/-! ### law_k31 : slots ['_law_script', '_law_rivals_here', '_law_points', '_law_told', '_law_outs', '_law_numbers', '_law_signs', '_law_other', '_law_exchanged_here', '_law_due', '_law_again', '_law_early', '_law_left', '_law_number', '_law_moment', '_law_point', '_law_x', '_law_y', '_law_rival', '_law_k'] -/
def g_law_k31 : En → Out := (sSeq (sSet 1 (eUn den__law_rivals (aCons (getD' 0) (aCons (eC (.int 0)) aNil))))
  (sSeq (sSet 2 (eUn den__law_touch (aCons (getD' 0) (aCons (eC (.int 20)) aNil))))
  (sSeq (sSet 3 (eUn den_decided (aCons (getD' 1) (aCons (getD' 2) aNil))))
  (sSeq (sSet 4 (eUn den_losers (aCons (getD' 1) (aCons (getD' 2) aNil))))
  (sSeq (sSetFD 5 (eComp (eUn itemsR (getD' 4)) (tupT [13, 14]) tTrue (getD' 13) [13, 14]))
  (sSeq (sIf (tOr (tBin neR (getD' 5) (eUn sortedSetR (getD' 5))) (tBin neR (eUn lenR (aCons (getD' 4) aNil)) (eBin subR (eUn lenR (aCons (getD' 1) aNil)) (eUn int1R (aCons (eBin isNotR (getD' 3) (eC .non)) aNil)))))
  (sRet (eC (.bl false)))
  sNil)
  (sSeq (sIf (tBin neR (eOfF (eComp (eUn itemsR (getD' 4)) (tupT [13, 14]) (tNot (tChain leR leR (eC (.int 0)) (getD' 14) (eBin ixR (eBin ixR (getD' 2) (eUn negR (eC (.int 1)))) (eC (.int 0))))) (getD' 14) [13, 14])) (eOfF (eUn lstR aNil)))
  (sRet (eC (.bl false)))
  sNil)
  (sSeq (sIf (tBin isNotR (getD' 3) (eC .non))
  (sSeq (sIf (tOr (tBin notInR (eBin ixR (getD' 3) (eC (.int 0))) (getD' 1)) (tOr (tBin inR (eMeth lstyR (getD' 1) (aCons (eBin ixR (getD' 3) (eC (.int 0))) aNil) indexR) (getD' 5)) (tBin notInR (eBin ixR (getD' 3) (eC (.int 1))) (eOfF (eComp (eUn itemsR (getD' 2)) (nameT 15) tTrue (eBin ixR (getD' 15) (eC (.int 0))) [15])))))
  (sRet (eC (.bl false)))
  sNil)
  (sIf (tBin neR (eOfF (eComp (eUn itemsR (getD' 4)) (tupT [13, 14]) (tBin gtR (getD' 14) (eBin ixR (getD' 3) (eC (.int 1)))) (getD' 14) [13, 14])) (eOfF (eUn lstR aNil)))
  (sRet (eC (.bl false)))
  sNil))
  sNil)
  (sSeq (sFor (eUn itemsR (eUn tupR (aCons (eUn tupR (aCons (eUn negR (eC (.int 1))) (aCons (eC (.int 1)) aNil))) (aCons (eUn tupR (aCons (eC (.int 1)) (aCons (eUn negR (eC (.int 1))) aNil))) (aCons (eUn tupR (aCons (eUn negR (eC (.int 1))) (aCons (eUn negR (eC (.int 1))) aNil))) aNil))))) (nameT 6)
  (sEnd [6, 7] (sSeq (sSetFD 7 (eComp (eUn itemsR (getD' 2)) (tupT [14, 16, 17]) tTrue (eUn tupR (aCons (getD' 14) (aCons (eBin mulR (eBin ixR (getD' 6) (eC (.int 0))) (getD' 16)) (aCons (eBin mulR (eBin ixR (getD' 6) (eC (.int 1))) (getD' 17)) aNil)))) [14, 16, 17]))
  (sIf (tOr (tBin neR (eUn den_decided (aCons (getD' 1) (aCons (getD' 7) aNil))) (getD' 3)) (tBin neR (eUn den_losers (aCons (getD' 1) (aCons (getD' 7) aNil))) (getD' 4)))
  (sRet (eC (.bl false)))
  sNil))))
  (sSeq (sSetFD 7 (eComp (eUn itemsR (getD' 2)) (tupT [14, 16, 17]) tTrue (eUn tupR (aCons (getD' 14) (aCons (getD' 17) (aCons (getD' 16) aNil)))) [14, 16, 17]))
  (sSeq (sSetFD 8 (eComp (eUn itemsR (getD' 1)) (nameT 18) tTrue (eUn den__law_exchanged (aCons (getD' 18) aNil)) [18]))
  (sSeq (sSet 9 (eIf (tBin isNotR (getD' 3) (eC .non)) (eOfF (eUn lstR (aCons (eUn tupR (aCons (eUn den__law_exchanged (aCons (eBin ixR (getD' 3) (eC (.int 0))) aNil)) (aCons (eBin ixR (getD' 3) (eC (.int 1))) aNil))) aNil))) (eOfF (eUn lstR (aCons (eC .non) aNil)))))
  (sSeq (sIf (tOr (tBin neR (eOfF (eUn lstR (aCons (eUn den_decided (aCons (getD' 8) (aCons (getD' 7) aNil))) aNil))) (getD' 9)) (tBin neR (eUn den_losers (aCons (getD' 8) (aCons (getD' 7) aNil))) (getD' 4)))
  (sRet (eC (.bl false)))
  sNil)
  (sSeq (sEnd [10] (sIf (tAnd (tBin isNotR (getD' 3) (eC .non)) (tBin ltR (eBin ixR (getD' 3) (eC (.int 1))) (eBin ixR (eBin ixR (getD' 2) (eUn negR (eC (.int 1)))) (eC (.int 0)))))
  (sSeq (sSet 10 (eBin addR (eOfF (eComp (eUn itemsR (getD' 2)) (nameT 15) (tBin leR (eBin ixR (getD' 15) (eC (.int 0))) (eBin ixR (getD' 3) (eC (.int 1)))) (getD' 15) [15])) (eOfF (eUn lstR (aCons (eUn tupR (aCons (eBin addR (eBin ixR (eBin ixR (getD' 2) (eUn negR (eC (.int 1)))) (eC (.int 0))) (eC (.int 5))) (aCons (eC (.int 50)) (aCons (eC (.int 50)) aNil)))) aNil)))))
  (sIf (tBin neR (eUn den_decided (aCons (getD' 1) (aCons (getD' 10) aNil))) (getD' 3))
  (sRet (eC (.bl false)))
  sNil))
  sNil))
  (sSeq (sSetFD 11 (eComp (eUn itemsR (getD' 4)) (tupT [13, 14]) (tAnd (tBin isNotR (getD' 3) (eC .non)) (tBin ltR (getD' 14) (eBin ixR (getD' 3) (eC (.int 1))))) (getD' 13) [13, 14]))
  (sSeq (sEnd [12] (sIf (tAnd (tBin isNotR (getD' 3) (eC .non)) (tBin gtR (eBin subR (eUn lenR (aCons (getD' 1) aNil)) (eUn lenR (aCons (getD' 11) aNil))) (eC (.int 2))))
  (sSeq (sSetFD 12 (eComp (eUn range1R (eUn lenR (aCons (getD' 1) aNil))) (nameT 19) (tOr (tBin inR (eUn tupR (aCons (getD' 19) (aCons (eBin ixR (getD' 3) (eC (.int 1))) aNil))) (getD' 4)) (tBin eqR (eBin ixR (getD' 1) (getD' 19)) (eBin ixR (getD' 3) (eC (.int 0))))) (eBin ixR (getD' 1) (getD' 19)) [19]))
  (sRet (eBin eqR (eUn den_decided (aCons (getD' 12) (aCons (getD' 2) aNil))) (getD' 3))))
  sNil))
  (sRet (eC (.bl true)))))))))))))))))))
def den_law_k31 : List D → R D := defR 1 19 g_law_k31
/-! ### law_k32 : slots ['_law_script', '_law_points', '_law_end', '_law_far', '_law_due', '_law_late', '_law_at', '_law_kind', '_law_here', '_law_there', '_law_point', '_law_mine', '_law_yours', '_law_told', '_law_k'] -/
def g_law_k32 : En → Out := (sSeq (sSet 1 (eUn den__law_touch (aCons (getD' 0) (aCons (eC (.int 20)) aNil))))
  (sSeq (sSet 2 (eBin ixR (eBin ixR (getD' 1) (eUn negR (eC (.int 1)))) (eC (.int 0))))
  (sSeq (sSetFD 3 (eComp (eUn itemsR (getD' 1)) (nameT 10) (tBin gtR (eUn max2R (aCons (eUn absR (aCons (eBin ixR (getD' 10) (eC (.int 1))) aNil)) (aCons (eUn absR (aCons (eBin ixR (getD' 10) (eC (.int 2))) aNil)) aNil))) (eC (.int 6))) (eBin ixR (getD' 10) (eC (.int 0))) [10]))
  (sSeq (sSetK 4 (kDisp (pCons (eC (.str "tap")) (eC .non) (pCons (eC (.str "long")) (eC .non) (pCons (eC (.str "drag")) (eC .non) (pCons (eC (.str "across")) (eC .non) (pCons (eC (.str "along")) (eC .non) pNil)))))))
  (sSeq (sIf (tAnd (tBin eqR (getD' 3) (eOfF (eUn lstR aNil))) (tBin leR (getD' 2) (eC (.int 30))))
  (sPut 4 (eC (.str "tap")) (getD' 2))
  sNil)
  (sSeq (sSetFD 5 (eComp (fEn (getD' 1)) (tupT [14, 10]) (tBin geR (eBin ixR (getD' 10) (eC (.int 0))) (eC (.int 40))) (getD' 14) [14, 10]))
  (sSeq (sFor (eUn itemsR (eSlice (getD' 5) oNone (eUn optR (eC (.int 1))))) (nameT 6)
  (sEnd [6] (sIf (tBin eqR (eOfF (eComp (eUn itemsR (eSlice (getD' 1) oNone (eUn optR (eBin addR (getD' 6) (eC (.int 1)))))) (nameT 10) (tBin gtR (eUn max2R (aCons (eUn absR (aCons (eBin ixR (getD' 10) (eC (.int 1))) aNil)) (aCons (eUn absR (aCons (eBin ixR (getD' 10) (eC (.int 2))) aNil)) aNil))) (eC (.int 6))) (getD' 10) [10])) (eOfF (eUn lstR aNil)))
  (sPut 4 (eC (.str "long")) (eBin ixR (eBin ixR (getD' 1) (getD' 6)) (eC (.int 0))))
  sNil)))
  (sSeq (sIf (tBin neR (getD' 3) (eOfF (eUn lstR aNil)))
  (sPut 4 (eC (.str "drag")) (eBin ixR (getD' 3) (eC (.int 0))))
  sNil)
  (sSeq (sFor (eUn itemsR (eUn tupR (aCons (eUn tupR (aCons (eC (.str "across")) (aCons (eC (.int 1)) (aCons (eC (.int 2)) aNil)))) (aCons (eUn tupR (aCons (eC (.str "along")) (aCons (eC (.int 2)) (aCons (eC (.int 1)) aNil)))) aNil)))) (tupT [7, 8, 9])
  (sEnd [7, 8, 9, 10, 11, 12] (sFor (eUn itemsR (eOfF (eUn revF (getD' 1)))) (nameT 10)
  (sEnd [10, 11, 12] (sSeq (sSet 11 (eUn absR (aCons (eBin ixR (getD' 10) (getD' 8)) aNil)))
  (sSeq (sSet 12 (eUn absR (aCons (eBin ixR (getD' 10) (getD' 9)) aNil)))
  (sIf (tAnd (tBin gtR (getD' 12) (eC (.int 6))) (tBin gtR (getD' 12) (getD' 11)))
  (sPut 4 (getD' 7) (eC .non))
  (sIf (tBin gtR (getD' 11) (eC (.int 6)))
  (sPut 4 (getD' 7) (eBin ixR (getD' 10) (eC (.int 0))))
  sNil))))))))
  (sSeq (sOwnK 4 (sFrz 4 (sFor (eUn keysR (getD' 4)) (nameT 7)
  (sEnd [7, 13] (sSeq (sSet 13 (eIf (tBin isR (eBin ixR (getD' 4) (getD' 7)) (eC .non)) (eC .non) (eUn tupR (aCons (eUn tupR (aCons (eC (.str "a")) (aCons (getD' 7) aNil))) (aCons (eBin ixR (getD' 4) (getD' 7)) aNil)))))
  (sIf (tOr (tBin neR (eUn den_decided (aCons (eOfF (eUn lstR (aCons (eUn tupR (aCons (eC (.str "a")) (aCons (getD' 7) aNil))) aNil))) (aCons (getD' 1) aNil))) (getD' 13)) (tBin neR (eUn den_decided (aCons (eOfF (eUn lstR (aCons (eUn tupR (aCons (eC (.str "a")) (aCons (getD' 7) aNil))) (aCons (eUn tupR (aCons (eC (.str "b")) (aCons (getD' 7) aNil))) aNil)))) (aCons (getD' 1) aNil))) (getD' 13)))
  (sRet (eC (.bl false)))
  sNil))))))
  (sRet (eC (.bl true)))))))))))))
def den_law_k32 : List D → R D := defR 1 14 g_law_k32
/-! ### law_k33 : slots ['_law_script', '_law_rivals_here', '_law_points', '_law_told', '_law_outs', '_law_at', '_law_twice', '_law_ahead', '_law_others', '_law_both', '_law_again', '_law_kind', '_law_rival'] -/
def g_law_k33 : En → Out := (sSeq (sSet 1 (eUn den__law_rivals (aCons (getD' 0) (aCons (eC (.int 0)) aNil))))
  (sSeq (sSet 2 (eUn den__law_touch (aCons (getD' 0) (aCons (eC (.int 20)) aNil))))
  (sSeq (sSet 3 (eUn den_decided (aCons (getD' 1) (aCons (getD' 2) aNil))))
  (sSeq (sSet 4 (eUn den_losers (aCons (getD' 1) (aCons (getD' 2) aNil))))
  (sSeq (sSet 5 (eUn den__law_drawn (aCons (getD' 0) (aCons (eC (.int 50)) (aCons (eUn lenR (aCons (getD' 2) aNil)) aNil)))))
  (sSeq (sEnd [6] (sIf (tBin ltR (eBin addR (getD' 5) (eC (.int 1))) (eUn lenR (aCons (getD' 2) aNil)))
  (sSeq (sSet 6 (eBin addR (eSlice (getD' 2) oNone (eUn optR (eBin addR (getD' 5) (eC (.int 1))))) (eSlice (getD' 2) (eUn optR (getD' 5)) oNone)))
  (sIf (tOr (tBin neR (eUn den_decided (aCons (getD' 1) (aCons (getD' 6) aNil))) (getD' 3)) (tBin neR (eUn den_losers (aCons (getD' 1) (aCons (getD' 6) aNil))) (getD' 4)))
  (sRet (eC (.bl false)))
  sNil))
  sNil))
  (sSeq (sEnd [7] (sIf (tBin gtR (eUn lenR (aCons (getD' 2) aNil)) (eC (.int 1)))
  (sSeq (sSet 7 (eBin addR (eOfF (eUn lstR (aCons (eUn tupR (aCons (eC (.int 0)) (aCons (eC (.int 0)) (aCons (eC (.int 0)) aNil)))) aNil))) (getD' 2)))
  (sIf (tOr (tBin neR (eUn den_decided (aCons (getD' 1) (aCons (getD' 7) aNil))) (getD' 3)) (tBin neR (eUn den_losers (aCons (getD' 1) (aCons (getD' 7) aNil))) (getD' 4)))
  (sRet (eC (.bl false)))
  sNil))
  sNil))
  (sSeq (sEnd [8, 9] (sIf (tBin isNotR (getD' 3) (eC .non))
  (sSeq (sSetFD 8 (eComp (eUn itemsR (eUn sortedSetR (eOfF (eComp (eUn itemsR (getD' 1)) (nameT 12) tTrue (eBin ixR (getD' 12) (eC (.int 1))) [12])))) (nameT 11) tTrue (eUn tupR (aCons (eC (.str "z")) (aCons (getD' 11) aNil))) [11]))
  (sSeq (sSet 9 (eUn den_decided (aCons (eBin addR (getD' 1) (getD' 8)) (aCons (getD' 2) aNil))))
  (sIf (tAnd (tBin isNotR (getD' 9) (eC .non)) (tBin notInR (eBin ixR (getD' 9) (eC (.int 0))) (getD' 1)))
  (sRet (eC (.bl false)))
  sNil)))
  sNil))
  (sSeq (sSet 10 (eUn den_decided (aCons (eOfF (eUn lstR (aCons (eUn tupR (aCons (eC (.str "z")) (aCons (eC (.str "tap")) aNil))) (aCons (eUn tupR (aCons (eC (.str "y")) (aCons (eC (.str "tap")) aNil))) aNil)))) (aCons (getD' 2) aNil))))
  (sRet (eOr (eBin isR (getD' 10) (eC .non)) (eAnd (eBin eqR (eBin ixR (getD' 10) (eC (.int 0))) (eUn tupR (aCons (eC (.str "z")) (aCons (eC (.str "tap")) aNil)))) (eBin isR (eUn den_decided (aCons (eOfF (eUn lstR aNil)) (aCons (getD' 2) aNil))) (eC .non))))))))))))))
def den_law_k33 : List D → R D := defR 1 12 g_law_k33
/-! ### law_k34 : slots ['_law_script', '_law_scene_here', '_law_path_here', '_law_kinds', '_law_k', '_law_box_here', '_law_rivals_here', '_law_places', '_law_bare', '_law_name', '_law_points', '_law_kind', '_law_told', '_law_one'] -/
def g_law_k34 : En → Out := (sSeq (sSet 1 (eUn den__law_scene (aCons (getD' 0) (aCons (eC (.int 0)) aNil))))
  (sSeq (sSet 2 (eUn den_hit_path (aCons (getD' 1) (aCons (eBin subR (eUn den__law_drawn (aCons (getD' 0) (aCons (eC (.int 100)) (aCons (eC (.int 9)) aNil)))) (eC (.int 1))) (aCons (eBin subR (eUn den__law_drawn (aCons (getD' 0) (aCons (eC (.int 101)) (aCons (eC (.int 9)) aNil)))) (eC (.int 1))) aNil)))))
  (sSeq (sIf (tAnd (tBin neR (getD' 1) (eUn tupR aNil)) (tBin eqR (eUn den__law_drawn (aCons (getD' 0) (aCons (eC (.int 102)) (aCons (eC (.int 2)) aNil)))) (eC (.int 0))))
  (sSet 2 (eUn den_path_of (aCons (getD' 1) (aCons (eBin ixR (eBin ixR (getD' 1) (eUn den__law_drawn (aCons (getD' 0) (aCons (eC (.int 103)) (aCons (eUn lenR (aCons (getD' 1) aNil)) aNil))))) (eC (.int 0))) aNil))))
  sNil)
  (sSeq (sSetK 3 kNil)
  (sSeq (sFor (fEnT (getD' 1)) (tupT [4, 5])
  (sEnd [4, 5] (sPut 3 (eBin ixR (getD' 5) (eC (.int 0))) (eBin ixR (eOfF (eUn lstR (aCons (eOfF (eUn lstR (aCons (eC (.str "tap")) aNil))) (aCons (eOfF (eUn lstR (aCons (eC (.str "drag")) aNil))) (aCons (eOfF (eUn lstR (aCons (eC (.str "tap")) (aCons (eC (.str "across")) aNil)))) (aCons (eOfF (eUn lstR aNil)) aNil)))))) (eUn den__law_drawn (aCons (getD' 0) (aCons (eBin addR (eC (.int 110)) (getD' 4)) (aCons (eC (.int 4)) aNil))))))))
  (sSeq (sFrz 3 (sSet 6 (eUn den_rivals_on (aCons (getD' 2) (aCons (getD' 3) aNil)))))
  (sSeq (sIf (tOr (tBin neR (eUn lenR (aCons (getD' 6) aNil)) (eUn sumR (aCons (eOfF (eComp (eUn itemsR (getD' 2)) (nameT 9) tTrue (eUn lenR (aCons (eBin ixR (getD' 3) (getD' 9)) aNil)) [9])) aNil))) (tBin neR (eOfF (eComp (eUn itemsR (getD' 6)) (nameT 13) (tBin notInR (eBin ixR (getD' 13) (eC (.int 0))) (getD' 2)) (getD' 13) [13])) (eOfF (eUn lstR aNil))))
  (sRet (eC (.bl false)))
  sNil)
  (sSeq (sSetFD 7 (eComp (eUn itemsR (getD' 6)) (tupT [9, 11]) tTrue (eMeth lstyR (getD' 2) (aCons (getD' 9) aNil) indexR) [9, 11]))
  (sSeq (sIf (tBin neR (getD' 7) (eOfF (eUn revF (eUn sortedR (aCons (getD' 7) aNil)))))
  (sRet (eC (.bl false)))
  sNil)
  (sSeq (sSet 8 (eUn dictPR (aCons (eOfF (eComp (eUn itemsR (getD' 2)) (nameT 9) tTrue (eUn tupR (aCons (getD' 9) (aCons (eBin ixR (getD' 3) (getD' 9)) aNil))) [9])) aNil)))
  (sSeq (sIf (tOr (tBin neR (eUn den_rivals_on (aCons (getD' 2) (aCons (getD' 8) aNil))) (getD' 6)) (tBin neR (eUn den_rivals_on (aCons (eOfF (eUn lstR aNil)) (aCons (getD' 3) aNil))) (eOfF (eUn lstR aNil))))
  (sRet (eC (.bl false)))
  sNil)
  (sSeq (sFor (eUn itemsR (eSlice (getD' 2) (eUn optR (eUn negR (eC (.int 1)))) oNone)) (nameT 9)
  (sEnd [9] (sIf (tBin neR (getD' 6) (eBin addR (eOfF (eComp (eUn itemsR (eBin ixR (getD' 3) (getD' 9))) (nameT 11) tTrue (eUn tupR (aCons (getD' 9) (aCons (getD' 11) aNil))) [11])) (eUn den_rivals_on (aCons (eSlice (getD' 2) oNone (eUn optR (eUn negR (eC (.int 1))))) (aCons (getD' 3) aNil)))))
  (sRet (eC (.bl false)))
  sNil)))
  (sSeq (sSet 10 (eUn den__law_touch (aCons (getD' 0) (aCons (eC (.int 20)) aNil))))
  (sSeq (sFor (eUn itemsR (eUn tupR (aCons (eC (.str "tap")) (aCons (eC (.str "drag")) (aCons (eC (.str "long")) aNil))))) (nameT 11)
  (sEnd [11, 12] (sSeq (sSet 12 (eUn den_decided (aCons (eUn den_rivals_on (aCons (getD' 2) (aCons (eUn dictPR (aCons (eOfF (eComp (eUn itemsR (getD' 2)) (nameT 9) tTrue (eUn tupR (aCons (getD' 9) (aCons (eOfF (eUn lstR (aCons (getD' 11) aNil))) aNil))) [9])) aNil)) aNil))) (aCons (getD' 10) aNil))))
  (sIf (tAnd (tBin isNotR (getD' 12) (eC .non)) (tBin neR (eBin ixR (getD' 12) (eC (.int 0))) (eUn tupR (aCons (eBin ixR (getD' 2) (eUn negR (eC (.int 1)))) (aCons (getD' 11) aNil)))))
  (sRet (eC (.bl false)))
  sNil))))
  (sRet (eC (.bl true)))))))))))))))))
def den_law_k34 : List D → R D := defR 1 13 g_law_k34
/-! ### _law_order : slots ['_law_scene_here', '_law_fence', '_law_found', '_law_name', '_law_path_here', '_law_hidden', '_law_one'] -/
def g__law_order : En → Out := (sSeq (sSetF 2 (eUn lstR aNil))
  (sSeq (sFor (eUn itemsR (eUn den__law_painted (aCons (getD' 0) (aCons (eC (.str "")) aNil)))) (nameT 3)
  (sEnd [3, 4, 5] (sSeq (sSet 4 (eUn den__law_path (aCons (getD' 0) (aCons (getD' 3) aNil))))
  (sSeq (sSetFD 5 (eComp (eUn itemsR (getD' 4)) (nameT 6) (tBin inR (eC (.str "h")) (eBin ixR (eUn den__law_box (aCons (getD' 0) (aCons (getD' 6) aNil))) (eC (.int 6)))) (getD' 6) [6]))
  (sIf (tAnd (tBin inR (eC (.str "f")) (eBin ixR (eUn den__law_box (aCons (getD' 0) (aCons (getD' 3) aNil))) (eC (.int 6)))) (tAnd (tBin eqR (getD' 5) (eOfF (eUn lstR aNil))) (tOr (tBin isR (getD' 1) (eC .non)) (tBin inR (getD' 1) (getD' 4)))))
  (sMeth 2 (getD' 3) appO)
  sNil)))))
  (sFrz 2 (sRet (getD' 2)))))
def den__law_order : List D → R D := defR 2 5 g__law_order
/-! ### _law_goes_on : slots ['_law_before', '_law_now', '_law_name', '_law_at', '_law_one'] -/
def g__law_goes_on : En → Out := (sSeq (sIf (tOr (tBin isR (getD' 2) (eC .non)) (tBin inR (getD' 2) (getD' 1)))
  (sRet (getD' 2))
  sNil)
  (sSeq (sSet 3 (eMeth lstyR (getD' 0) (aCons (getD' 2) aNil) indexR))
  (sRet (eBin ixR (eBin addR (eBin addR (eOfF (eComp (eUn itemsR (eBin addR (eSlice (getD' 0) (eUn optR (getD' 3)) oNone) (eSlice (getD' 0) oNone (eUn optR (getD' 3))))) (nameT 4) (tBin inR (getD' 4) (getD' 1)) (getD' 4) [4])) (getD' 1)) (eOfF (eUn lstR (aCons (eC .non) aNil)))) (eC (.int 0))))))
def den__law_goes_on : List D → R D := defR 3 2 g__law_goes_on
/-! ### or_bar : slots ['text'] -/
def g_or_bar : En → Out := (sRet (eIf (tBin neR (getD' 0) (eC (.str ""))) (getD' 0) (eC (.str "-"))))
def den_or_bar : List D → R D := defR 1 0 g_or_bar
/-! ### box_text : slots ['box', 'number'] -/
def g_box_text : En → Out := (sRet (eJoin (eC (.str " ")) (eBin addR (eBin addR (eOfF (eUn lstR (aCons (eBin ixR (getD' 0) (eC (.int 0))) (aCons (eUn den_or_bar (aCons (eBin ixR (getD' 0) (eC (.int 1))) aNil)) aNil)))) (eOfF (eComp (eUn itemsR (eSlice (getD' 0) (eUn optR (eC (.int 2))) (eUn optR (eC (.int 6))))) (nameT 1) tTrue (eUn str1R (aCons (getD' 1) aNil)) [1]))) (eOfF (eUn lstR (aCons (eUn den_or_bar (aCons (eBin ixR (getD' 0) (eC (.int 6))) aNil)) aNil))))))
def den_box_text : List D → R D := defR 1 1 g_box_text
/-! ### written : slots ['scene', 'box'] -/
def g_written : En → Out := (sRet (eJoin (eC (.str "")) (eOfF (eComp (eUn itemsR (getD' 0)) (nameT 1) tTrue (eBin addR (eUn den_box_text (aCons (getD' 1) aNil)) (eC (.str "\n"))) [1]))))
def den_written : List D → R D := defR 1 1 g_written
/-! ### number_in : slots ['word', 'figures', 'sign'] -/
def g_number_in : En → Out := (sSeq (sSet 1 (eIf (tBin eqR (eSlice (getD' 0) oNone (eUn optR (eC (.int 1)))) (eC (.str "-"))) (eSlice (getD' 0) (eUn optR (eC (.int 1))) oNone) (getD' 0)))
  (sSeq (sIf (tOr (tNot (tChain leR leR (eC (.int 1)) (eUn lenR (aCons (getD' 1) aNil)) (eC (.int 3)))) (tNot (tVal (eUn allR (aCons (eOfF (eComp (eUn itemsR (getD' 1)) (nameT 2) tTrue (eBin inR (getD' 2) (eC (.str "0123456789"))) [2])) aNil)))))
  (sRaise "NoText")
  sNil)
  (sRet (eUn intTR (aCons (getD' 0) aNil)))))
def den_number_in : List D → R D := defR 1 2 g_number_in
/-! ### text_in : slots ['word'] -/
def g_text_in : En → Out := (sRet (eIf (tBin eqR (getD' 0) (eC (.str "-"))) (eC (.str "")) (getD' 0)))
def den_text_in : List D → R D := defR 1 0 g_text_in
/-! ### box_in : slots ['line', 'words', 'word'] -/
def g_box_in : En → Out := (sSeq (sSet 1 (eOfF (eSplit (getD' 0) (eC (.str " ")))))
  (sSeq (sIf (tBin neR (eUn lenR (aCons (getD' 1) aNil)) (eC (.int 7)))
  (sRaise "NoText")
  sNil)
  (sRet (eBin addR (eBin addR (eUn tupR (aCons (eBin ixR (getD' 1) (eC (.int 0))) (aCons (eUn den_text_in (aCons (eBin ixR (getD' 1) (eC (.int 1))) aNil)) aNil))) (eUn tupleR (aCons (eOfF (eComp (eUn itemsR (eSlice (getD' 1) (eUn optR (eC (.int 2))) (eUn optR (eC (.int 6))))) (nameT 2) tTrue (eUn den_number_in (aCons (getD' 2) aNil)) [2])) aNil))) (eUn tupR (aCons (eUn den_text_in (aCons (eBin ixR (getD' 1) (eC (.int 6))) aNil)) aNil))))))
def den_box_in : List D → R D := defR 1 2 g_box_in
/-! ### read : slots ['text', 'found', 'line'] -/
def g_read : En → Out := (sSeq (sSet 1 (eUn tupleR (aCons (eOfF (eComp (eUn itemsR (eSlice (eOfF (eSplit (getD' 0) (eC (.str "\n")))) oNone (eUn optR (eUn negR (eC (.int 1)))))) (nameT 2) tTrue (eUn den_box_in (aCons (getD' 2) aNil)) [2])) aNil)))
  (sSeq (sIf (tOr (tNot (tVal (eUn den_is_scene (aCons (getD' 1) aNil)))) (tBin neR (eUn den_written (aCons (getD' 1) aNil)) (getD' 0)))
  (sRaise "NoText")
  sNil)
  (sRet (getD' 1))))
def den_read : List D → R D := defR 1 2 g_read
/-! ### law_k50 : slots ['_law_script', '_law_scene_here', '_law_text', '_law_box_here', '_law_words', '_law_part', '_law_word'] -/
def g_law_k50 : En → Out := (sSeq (sSet 1 (eUn den__law_scene (aCons (getD' 0) (aCons (eC (.int 0)) aNil))))
  (sSeq (sSet 2 (eC (.str "")))
  (sSeq (sFor (eUn itemsR (getD' 1)) (nameT 3)
  (sEnd [3, 4] (sSeq (sSetFD 4 (eComp (eUn itemsR (getD' 3)) (nameT 5) tTrue (eUn str1R (aCons (getD' 5) aNil)) [5]))
  (sSet 2 (eBin addR (eBin addR (getD' 2) (eJoin (eC (.str " ")) (eOfF (eComp (eUn itemsR (getD' 4)) (nameT 6) tTrue (eBin addR (getD' 6) (eBin mulSR (eC (.str "-")) (eUn int1R (aCons (eBin eqR (getD' 6) (eC (.str ""))) aNil)))) [6])))) (eC (.str "\n")))))))
  (sRet (eAnd (eBin eqR (eUn den_written (aCons (getD' 1) aNil)) (getD' 2)) (eBin eqR (eUn den_read (aCons (getD' 2) aNil)) (getD' 1)))))))
def den_law_k50 : List D → R D := defR 1 6 g_law_k50
/-! ### _law_due : slots ['_law_text', '_law_found', '_law_line', '_law_words', '_law_numbers', '_law_word', '_law_figures', '_law_ends', '_law_sign', '_law_at'] -/
def g__law_due : En → Out := (sSeq (sSet 1 (eUn tupR aNil))
  (sSeq (sFor (eUn itemsR (eSlice (eOfF (eSplit (getD' 0) (eC (.str "\n")))) oNone (eUn optR (eUn negR (eC (.int 1)))))) (nameT 2)
  (sEnd [2, 3, 4, 5, 6, 7] (sSeq (sSet 3 (eOfF (eSplit (getD' 2) (eC (.str " ")))))
  (sSeq (sIf (tBin neR (eUn lenR (aCons (getD' 3) aNil)) (eC (.int 7)))
  (sRet (eC .non))
  sNil)
  (sSeq (sSetF 4 (eUn lstR aNil))
  (sSeq (sFor (eUn itemsR (eSlice (getD' 3) (eUn optR (eC (.int 2))) (eUn optR (eC (.int 6))))) (nameT 5)
  (sEnd [5, 6] (sSeq (sSet 6 (eSlice (getD' 5) (eUn optR (eUn int1R (aCons (eBin eqR (eSlice (getD' 5) oNone (eUn optR (eC (.int 1)))) (eC (.str "-"))) aNil))) oNone))
  (sSeq (sIf (tOr (tNot (tChain ltR ltR (eC (.int 0)) (eUn lenR (aCons (getD' 6) aNil)) (eC (.int 5)))) (tBin neR (eOfF (eComp (eUn itemsR (getD' 6)) (nameT 8) (tBin notInR (getD' 8) (eC (.str "0123456789"))) (getD' 8) [8])) (eOfF (eUn lstR aNil))))
  (sRet (eC .non))
  sNil)
  (sMeth 4 (eUn int1R (aCons (getD' 5) aNil)) appO)))))
  (sSeq (sSetFD 7 (eComp (eUn itemsR (eUn tupR (aCons (eC (.int 1)) (aCons (eC (.int 6)) aNil)))) (nameT 9) tTrue (eBin ixR (eOfF (eUn lstR (aCons (eC (.str "")) (aCons (eBin ixR (getD' 3) (getD' 9)) aNil)))) (eUn int1R (aCons (eBin neR (eBin ixR (getD' 3) (getD' 9)) (eC (.str "-"))) aNil))) [9]))
  (sSet 1 (eBin addR (getD' 1) (eUn tupR (aCons (eBin addR (eBin addR (eUn tupR (aCons (eBin ixR (getD' 3) (eC (.int 0))) (aCons (eBin ixR (getD' 7) (eC (.int 0))) aNil))) (eUn tupleR (aCons (getV 4) aNil))) (eUn tupR (aCons (eBin ixR (getD' 7) (eC (.int 1))) aNil))) aNil)))))))))))
  (sSeq (sIf (tOr (tNot (tVal (eUn den_is_scene (aCons (getD' 1) aNil)))) (tBin neR (eUn den_written (aCons (getD' 1) aNil)) (getD' 0)))
  (sRet (eC .non))
  sNil)
  (sRet (getD' 1)))))
def den__law_due : List D → R D := defR 1 9 g__law_due
/-! ### law_k52 : slots ['_law_script', '_law_scene_here', '_law_lines', '_law_more', '_law_box_here', '_law_gone', '_law_inner', '_law_others', '_law_other', '_law_one', '_law_line'] -/
def g_law_k52 : En → Out := (sSeq (sSet 1 (eUn den__law_scene (aCons (getD' 0) (aCons (eC (.int 0)) aNil))))
  (sSeq (sSet 2 (eOfF (eSplit (eUn den_written (aCons (getD' 1) aNil)) (eC (.str "\n")))))
  (sSeq (sIf (tOr (tBin neR (eBin ixR (getD' 2) (eUn negR (eC (.int 1)))) (eC (.str ""))) (tBin neR (eUn lenR (aCons (getD' 2) aNil)) (eBin addR (eUn lenR (aCons (getD' 1) aNil)) (eC (.int 1)))))
  (sRet (eC (.bl false)))
  sNil)
  (sSeq (sSet 3 (eUn den_with_box (aCons (getD' 1) (aCons (eUn tupR (aCons (eC (.str "new")) (aCons (eC (.str "")) (aCons (eC (.int 0)) (aCons (eUn negR (eC (.int 1))) (aCons (eC (.int 2)) (aCons (eC (.int 3)) (aCons (eC (.str "cf")) aNil)))))))) aNil))))
  (sSeq (sIf (tOr (tBin neR (eUn den_written (aCons (getD' 3) aNil)) (eBin addR (eUn den_written (aCons (getD' 1) aNil)) (eC (.str "new - 0 -1 2 3 cf\n")))) (tBin neR (eUn den_read (aCons (eUn den_written (aCons (getD' 3) aNil)) aNil)) (getD' 3)))
  (sRet (eC (.bl false)))
  sNil)
  (sSeq (sFor (eUn itemsR (getD' 1)) (nameT 4)
  (sEnd [4, 5, 6, 7, 8] (sSeq (sSet 5 (eUn den_below (aCons (getD' 1) (aCons (eBin ixR (getD' 4) (eC (.int 0))) aNil))))
  (sSeq (sSetFD 6 (eComp (fZip (getD' 1) (getD' 2)) (tupT [9, 10]) (tBin inR (eBin ixR (getD' 9) (eC (.int 0))) (getD' 5)) (eBin addR (getD' 10) (eC (.str "\n"))) [9, 10]))
  (sSeq (sSetFD 7 (eComp (fZip (getD' 1) (getD' 2)) (tupT [9, 10]) (tBin notInR (eBin ixR (getD' 9) (eC (.int 0))) (getD' 5)) (eBin addR (getD' 10) (eC (.str "\n"))) [9, 10]))
  (sSeq (sIf (tOr (tBin neR (eUn den_written (aCons (eUn den_cut (aCons (getD' 1) (aCons (eBin ixR (getD' 4) (eC (.int 0))) aNil))) aNil)) (eJoin (eC (.str "")) (getD' 7))) (tBin neR (eUn den_written (aCons (eUn den_raised (aCons (getD' 1) (aCons (eBin ixR (getD' 4) (eC (.int 0))) aNil))) aNil)) (eJoin (eC (.str "")) (eBin addR (getD' 7) (getD' 6)))))
  (sRet (eC (.bl false)))
  sNil)
  (sSeq (sSet 8 (eUn den_marked (aCons (getD' 1) (aCons (eBin ixR (getD' 4) (eC (.int 0))) (aCons (eBin ixR (eOfF (eUn lstR (aCons (eC (.str "h")) (aCons (eC (.str "f")) aNil)))) (eUn int1R (aCons (eBin inR (eC (.str "h")) (eBin ixR (getD' 4) (eC (.int 6)))) aNil))) aNil)))))
  (sIf (tOr (tBin neR (eBin eqR (eUn den_written (aCons (getD' 8) aNil)) (eUn den_written (aCons (getD' 1) aNil))) (eBin eqR (getD' 8) (getD' 1))) (tBin neR (eUn den_read (aCons (eUn den_written (aCons (getD' 8) aNil)) aNil)) (getD' 8)))
  (sRet (eC (.bl false)))
  sNil))))))))
  (sRet (eBin eqR (eUn den_read (aCons (eUn den_written (aCons (getD' 1) aNil)) aNil)) (getD' 1)))))))))
def den_law_k52 : List D → R D := defR 1 10 g_law_k52
/-! ### _law_put : slots ['_law_scene_here', '_law_names', '_law_box_here'] -/
def g__law_put : En → Out := (sSeq (sIf (tBin inR (eBin ixR (getD' 2) (eC (.int 0))) (getD' 1))
  (sRet (eUn tupR (aCons (eUn tupR (aCons (eC (.str "refused")) (aCons (eC (.int 1)) aNil))) (aCons (eC .non) aNil))))
  sNil)
  (sSeq (sIf (tAnd (tBin neR (eBin ixR (getD' 2) (eC (.int 1))) (eC (.str ""))) (tBin notInR (eBin ixR (getD' 2) (eC (.int 1))) (getD' 1)))
  (sRet (eUn tupR (aCons (eUn tupR (aCons (eC (.str "refused")) (aCons (eC (.int 0)) aNil))) (aCons (eC .non) aNil))))
  sNil)
  (sSeq (sIf (tBin eqR (eUn lenR (aCons (getD' 0) aNil)) (eC (.int 12)))
  (sRet (eUn tupR (aCons (eUn tupR (aCons (eC (.str "refused")) (aCons (eC (.int 2)) aNil))) (aCons (eC .non) aNil))))
  sNil)
  (sRet (eUn tupR (aCons (eC .non) (aCons (eBin addR (getD' 0) (eUn tupR (aCons (getD' 2) aNil))) aNil)))))))
def den__law_put : List D → R D := defR 3 0 g__law_put
/-! ### _law_next : slots ['_law_scene_here', '_law_way', '_law_some_here', '_law_name', '_law_box_here', '_law_marks', '_law_left', '_law_top', '_law_names', '_law_own', '_law_at', '_law_inner', '_law_rest', '_law_moved', '_law_one'] -/
def g__law_next : En → Out := (sSeq (sAsg (tupT [3, 4, 5, 6, 7]) (getD' 2))
  (sSeq (sSetFD 8 (eComp (eUn itemsR (getD' 0)) (nameT 14) tTrue (eBin ixR (getD' 14) (eC (.int 0))) [14]))
  (sSeq (sIf (tBin eqR (getD' 1) (eC (.int 0)))
  (sRet (eUn den__law_put (aCons (getD' 0) (aCons (getD' 8) (aCons (getD' 4) aNil)))))
  sNil)
  (sSeq (sIf (tBin notInR (getD' 3) (getD' 8))
  (sRet (eUn tupR (aCons (eUn tupR (aCons (eC (.str "refused")) (aCons (eC (.int 0)) aNil))) (aCons (eC .non) aNil))))
  sNil)
  (sSeq (sSet 9 (eUn den__law_box (aCons (getD' 0) (aCons (getD' 3) aNil))))
  (sSeq (sSet 10 (eMeth lstyR (getD' 8) (aCons (getD' 3) aNil) indexR))
  (sSeq (sEnd [11, 12, 13] (sIf (tBin ltR (getD' 1) (eC (.int 3)))
  (sSeq (sSet 11 (eOfF (eComp (eUn itemsR (eUn den__law_painted (aCons (getD' 0) (aCons (eC (.str "")) aNil)))) (nameT 14) (tBin inR (getD' 3) (eUn den__law_path (aCons (getD' 0) (aCons (getD' 14) aNil)))) (getD' 14) [14])))
  (sSeq (sSet 12 (eUn tupleR (aCons (eOfF (eComp (eUn itemsR (getD' 0)) (nameT 14) (tBin notInR (eBin ixR (getD' 14) (eC (.int 0))) (getD' 11)) (getD' 14) [14])) aNil)))
  (sSeq (sSet 13 (eUn tupleR (aCons (eOfF (eComp (eUn itemsR (getD' 0)) (nameT 14) (tBin inR (eBin ixR (getD' 14) (eC (.int 0))) (getD' 11)) (getD' 14) [14])) aNil)))
  (sRet (eIf (tBin eqR (getD' 1) (eC (.int 1))) (eUn tupR (aCons (getD' 11) (aCons (getD' 12) aNil))) (eUn tupR (aCons (eC .non) (aCons (eBin addR (getD' 12) (getD' 13)) aNil))))))))
  sNil))
  (sSeq (sIf (tBin eqR (getD' 1) (eC (.int 3)))
  (sRet (eUn tupR (aCons (eBin ixR (getD' 9) (eC (.int 6))) (aCons (eBin addR (eBin addR (eSlice (getD' 0) oNone (eUn optR (getD' 10))) (eUn tupR (aCons (eBin addR (eSlice (getD' 9) oNone (eUn optR (eC (.int 6)))) (eUn tupR (aCons (getD' 5) aNil))) aNil))) (eSlice (getD' 0) (eUn optR (eBin addR (getD' 10) (eC (.int 1)))) oNone)) aNil))))
  sNil)
  (sRet (eUn tupR (aCons (eSlice (getD' 9) (eUn optR (eC (.int 2))) (eUn optR (eC (.int 4)))) (aCons (eBin addR (eBin addR (eSlice (getD' 0) oNone (eUn optR (getD' 10))) (eUn tupR (aCons (eBin addR (eBin addR (eSlice (getD' 9) oNone (eUn optR (eC (.int 2)))) (eUn tupR (aCons (getD' 6) (aCons (getD' 7) aNil)))) (eSlice (getD' 9) (eUn optR (eC (.int 4))) oNone)) aNil))) (eSlice (getD' 0) (eUn optR (eBin addR (getD' 10) (eC (.int 1)))) oNone)) aNil))))))))))))
def den__law_next : List D → R D := defR 3 12 g__law_next
/-! ### _law_some : slots ['_law_script', '_law_here', '_law_name', '_law_around', '_law_marks', '_law_places', '_law_box_here'] -/
def g__law_some : En → Out := (sSeq (sSet 2 (eBin ixR (eOfF (eUn lstR (aCons (eC (.str "a")) (aCons (eC (.str "b")) (aCons (eC (.str "c")) (aCons (eC (.str "d")) (aCons (eC (.str "g")) (aCons (eC (.str "new")) (aCons (eC (.str "zz")) aNil))))))))) (eUn den__law_drawn (aCons (getD' 0) (aCons (eBin addR (getD' 1) (eC (.int 1))) (aCons (eC (.int 7)) aNil))))))
  (sSeq (sSet 3 (eBin ixR (eOfF (eUn lstR (aCons (eC (.str "")) (aCons (eC (.str "a")) (aCons (eC (.str "b")) (aCons (eC (.str "new")) (aCons (eC (.str "zz")) aNil))))))) (eUn den__law_drawn (aCons (getD' 0) (aCons (eBin addR (getD' 1) (eC (.int 2))) (aCons (eC (.int 5)) aNil))))))
  (sSeq (sSet 4 (eBin ixR (eOfF (eUn lstR (aCons (eC (.str "")) (aCons (eC (.str "c")) (aCons (eC (.str "fh")) (aCons (eC (.str "l")) aNil)))))) (eUn den__law_drawn (aCons (getD' 0) (aCons (eBin addR (getD' 1) (eC (.int 3))) (aCons (eC (.int 4)) aNil))))))
  (sSeq (sSet 5 (eUn tupR (aCons (eBin subR (eUn den__law_drawn (aCons (getD' 0) (aCons (eBin addR (getD' 1) (eC (.int 4))) (aCons (eC (.int 9)) aNil)))) (eC (.int 4))) (aCons (eBin subR (eUn den__law_drawn (aCons (getD' 0) (aCons (eBin addR (getD' 1) (eC (.int 5))) (aCons (eC (.int 9)) aNil)))) (eC (.int 4))) aNil))))
  (sSeq (sSet 6 (eBin addR (eBin addR (eUn tupR (aCons (eBin ixR (eOfF (eUn lstR (aCons (eC (.str "new")) (aCons (eC (.str "k")) (aCons (eC (.str "m")) (aCons (eC (.str "a")) aNil)))))) (eUn den__law_drawn (aCons (getD' 0) (aCons (eBin addR (getD' 1) (eC (.int 6))) (aCons (eC (.int 4)) aNil))))) (aCons (getD' 3) aNil))) (getD' 5)) (eUn tupR (aCons (eC (.int 3)) (aCons (eC (.int 4)) (aCons (eC (.str "")) aNil))))))
  (sRet (eBin addR (eUn tupR (aCons (getD' 2) (aCons (getD' 6) (aCons (getD' 4) aNil)))) (getD' 5))))))))
def den__law_some : List D → R D := defR 2 5 g__law_some
/-! ### _law_scene_k54 : slots ['_law_script', '_law_at', '_law_found', '_law_turn', '_law_k', '_law_here', '_law_around', '_law_places', '_law_sizes', '_law_marks', '_law_j', '_law_sign', '_law_name', '_law_box'] -/
def g__law_scene_k54 : En → Out := (sSeq (sSet 2 (eUn tupR aNil))
  (sSeq (sSet 3 (eUn den__law_drawn (aCons (getD' 0) (aCons (eBin addR (getD' 1) (eC (.int 1))) (aCons (eC (.int 8)) aNil)))))
  (sSeq (sFor (eUn range1R (eUn den__law_drawn (aCons (getD' 0) (aCons (getD' 1) (aCons (eC (.int 8)) aNil))))) (nameT 4)
  (sEnd [4, 5, 6, 7, 8, 9, 10, 11, 12] (sSeq (sSet 5 (eBin addR (eBin addR (getD' 1) (eC (.int 3))) (eBin mulR (eC (.int 9)) (getD' 4))))
  (sSeq (sSet 6 (eBin ixR (eBin addR (eOfF (eUn lstR (aCons (eC (.str "")) aNil))) (eOfF (eComp (eUn itemsR (getD' 2)) (nameT 13) tTrue (eBin ixR (getD' 13) (eC (.int 0))) [13]))) (eUn den__law_drawn (aCons (getD' 0) (aCons (getD' 5) (aCons (eBin addR (getD' 4) (eC (.int 1))) aNil))))))
  (sSeq (sSetFD 7 (eComp (eUn range1R (eC (.int 2))) (nameT 10) tTrue (eBin subR (eUn den__law_drawn (aCons (getD' 0) (aCons (eBin addR (eBin addR (getD' 5) (eC (.int 1))) (getD' 10)) (aCons (eC (.int 9)) aNil)))) (eC (.int 3))) [10]))
  (sSeq (sSetFD 8 (eComp (eUn range1R (eC (.int 2))) (nameT 10) tTrue (eUn den__law_drawn (aCons (getD' 0) (aCons (eBin addR (eBin addR (getD' 5) (eC (.int 3))) (getD' 10)) (aCons (eC (.int 9)) aNil)))) [10]))
  (sSeq (sSet 9 (eC (.str "")))
  (sSeq (sFor (fEnT (eC (.str "cfhl"))) (tupT [10, 11])
  (sEnd [10, 11] (sIf (tBin eqR (eUn den__law_drawn (aCons (getD' 0) (aCons (eBin addR (eBin addR (getD' 5) (eC (.int 5))) (getD' 10)) (aCons (eBin ixR (eOfF (eUn lstR (aCons (eC (.int 4)) (aCons (eC (.int 2)) (aCons (eC (.int 9)) (aCons (eC (.int 6)) aNil)))))) (getD' 10)) aNil)))) (eC (.int 0)))
  (sSet 9 (eBin addR (getD' 9) (getD' 11)))
  sNil)))
  (sSeq (sSet 12 (eBin ixR (eC (.str "dbgahcfe")) (eBin modR (eBin addR (getD' 4) (getD' 3)) (eC (.int 8)))))
  (sSet 2 (eBin addR (getD' 2) (eUn tupR (aCons (eBin addR (eBin addR (eUn tupR (aCons (getD' 12) (aCons (getD' 6) aNil))) (eUn tupleR (aCons (eBin addR (getD' 7) (getD' 8)) aNil))) (eUn tupR (aCons (getD' 9) aNil))) aNil)))))))))))))
  (sRet (getD' 2)))))
def den__law_scene_k54 : List D → R D := defR 2 12 g__law_scene_k54
/-! ### sign_at : slots ['scene', 'x', 'y', 'name'] -/
def g_sign_at : En → Out := (sSeq (sSet 3 (eUn den_hit (aCons (getD' 0) (aCons (getD' 1) (aCons (getD' 2) aNil)))))
  (sRet (eIf (tBin isR (getD' 3) (eC .non)) (eC (.str ".")) (eBin ixR (getD' 3) (eC (.int 0))))))
def den_sign_at : List D → R D := defR 3 1 g_sign_at
/-! ### picture : slots ['scene', 'left', 'top', 'right', 'bottom', 'rows', 'y', 'x'] -/
def g_picture : En → Out := (sSeq (sSetF 5 (eUn lstR aNil))
  (sSeq (sFor (fRng2 (getD' 2) (getD' 4)) (nameT 6)
  (sEnd [6] (sMeth 5 (eBin addR (eJoin (eC (.str "")) (eOfF (eComp (fRng2 (getD' 1) (getD' 3)) (nameT 7) tTrue (eUn den_sign_at (aCons (getD' 0) (aCons (getD' 7) (aCons (getD' 6) aNil)))) [7]))) (eC (.str "\n"))) appO)))
  (sFrz 5 (sRet (eJoin (eC (.str "")) (getD' 5))))))
def den_picture : List D → R D := defR 5 3 g_picture
/-! ### unlike_points : slots ['one', 'other', 'left', 'top', 'right', 'bottom', 'found', 'x', 'y'] -/
def g_unlike_points : En → Out := (sSeq (sSetF 6 (eUn lstR aNil))
  (sSeq (sFor (fRng2 (getD' 2) (getD' 4)) (nameT 7)
  (sEnd [7] (sMeth 6 (eOfF (eComp (fRng2 (getD' 3) (getD' 5)) (nameT 8) (tBin neR (eUn den_hit (aCons (getD' 0) (aCons (getD' 7) (aCons (getD' 8) aNil)))) (eUn den_hit (aCons (getD' 1) (aCons (getD' 7) (aCons (getD' 8) aNil))))) (eUn tupR (aCons (getD' 7) (aCons (getD' 8) aNil))) [8])) extO)))
  (sFrz 6 (sRet (getD' 6)))))
def den_unlike_points : List D → R D := defR 6 3 g_unlike_points
/-! ### shares : slots ['scene', 'left', 'top', 'right', 'bottom', 'found', 'x', 'y', 'name'] -/
def g_shares : En → Out := (sSeq (sSetK 5 kNil)
  (sSeq (sFor (fRng2 (getD' 1) (getD' 3)) (nameT 6)
  (sEnd [6, 7, 8] (sFor (fRng2 (getD' 2) (getD' 4)) (nameT 7)
  (sEnd [7, 8] (sSeq (sSet 8 (eUn den_hit (aCons (getD' 0) (aCons (getD' 6) (aCons (getD' 7) aNil)))))
  (sIf (tBin isNotR (getD' 8) (eC .non))
  (sPut 5 (getD' 8) (eBin addR (eGet2 (getV 5) (getD' 8) (eC (.int 0))) (eC (.int 1))))
  sNil))))))
  (sFrz 5 (sRet (eOfF (eComp (eUn itemsR (eUn sortedR (aCons (getD' 5) aNil))) (nameT 8) tTrue (eUn tupR (aCons (getD' 8) (aCons (eBin ixR (getD' 5) (getD' 8)) aNil))) [8]))))))
def den_shares : List D → R D := defR 5 4 g_shares
/-! ### _law_area_k55 : slots ['_law_scene_here', '_law_name', '_law_left', '_law_top', '_law_one', '_law_box_here'] -/
def g__law_area_k55 : En → Out := (sSeq (sAsg (tupT [2, 3]) (eUn tupR (aCons (eC (.int 0)) (aCons (eC (.int 0)) aNil))))
  (sSeq (sFor (eUn itemsR (eUn den__law_path (aCons (getD' 0) (aCons (getD' 1) aNil)))) (nameT 4)
  (sEnd [4] (sSeq (sSet 2 (eBin addR (getD' 2) (eBin ixR (eUn den__law_box (aCons (getD' 0) (aCons (getD' 4) aNil))) (eC (.int 2)))))
  (sSet 3 (eBin addR (getD' 3) (eBin ixR (eUn den__law_box (aCons (getD' 0) (aCons (getD' 4) aNil))) (eC (.int 3))))))))
  (sSeq (sSet 5 (eUn den__law_box (aCons (getD' 0) (aCons (getD' 1) aNil))))
  (sRet (eUn tupR (aCons (getD' 2) (aCons (getD' 3) (aCons (eBin addR (getD' 2) (eBin ixR (getD' 5) (eC (.int 4)))) (aCons (eBin addR (getD' 3) (eBin ixR (getD' 5) (eC (.int 5)))) aNil)))))))))
def den__law_area_k55 : List D → R D := defR 2 4 g__law_area_k55
/-! ### _law_areas : slots ['_law_scene_here', '_law_found', '_law_name', '_law_path_here', '_law_marks', '_law_areas_here', '_law_one', '_law_own'] -/
def g__law_areas : En → Out := (sSeq (sSetF 1 (eUn lstR aNil))
  (sSeq (sFor (eUn itemsR (eOfF (eUn revF (eUn den__law_painted (aCons (getD' 0) (aCons (eC (.str "")) aNil)))))) (nameT 2)
  (sEnd [2, 3, 4, 5] (sSeq (sSet 3 (eUn den__law_path (aCons (getD' 0) (aCons (getD' 2) aNil))))
  (sSeq (sSetFD 4 (eComp (eUn itemsR (getD' 3)) (nameT 6) tTrue (eBin ixR (eUn den__law_box (aCons (getD' 0) (aCons (getD' 6) aNil))) (eC (.int 6))) [6]))
  (sEnd [5] (sIf (tAnd (tBin eqR (eOfF (eComp (eUn itemsR (getD' 4)) (nameT 7) (tBin inR (eC (.str "h")) (getD' 7)) (getD' 7) [7])) (eOfF (eUn lstR aNil))) (tBin notInR (eC (.str "l")) (eBin ixR (getD' 4) (eUn negR (eC (.int 1))))))
  (sSeq (sSetFD 5 (eComp (fZip (getD' 3) (getD' 4)) (tupT [6, 7]) (tBin inR (eC (.str "c")) (getD' 7)) (eUn den__law_area_k55 (aCons (getD' 0) (aCons (getD' 6) aNil))) [6, 7]))
  (sMeth 1 (eUn tupR (aCons (getD' 2) (aCons (eBin addR (getD' 5) (eOfF (eUn lstR (aCons (eUn den__law_area_k55 (aCons (getD' 0) (aCons (getD' 2) aNil))) aNil)))) aNil))) appO))
  sNil))))))
  (sFrz 1 (sRet (getD' 1)))))
def den__law_areas : List D → R D := defR 1 7 g__law_areas
/-! ### _law_hit : slots ['_law_rows', '_law_x', '_law_y', '_law_name', '_law_areas_here', '_law_area_here'] -/
def g__law_hit : En → Out := (sSeq (sFor (eUn itemsR (getD' 0)) (tupT [3, 4])
  (sEnd [3, 4] (sIf (tBin eqR (eOfF (eComp (eUn itemsR (getD' 4)) (nameT 5) (tOr (tNot (tChain leR ltR (eBin ixR (getD' 5) (eC (.int 0))) (getD' 1) (eBin ixR (getD' 5) (eC (.int 2))))) (tNot (tChain leR ltR (eBin ixR (getD' 5) (eC (.int 1))) (getD' 2) (eBin ixR (getD' 5) (eC (.int 3)))))) (getD' 5) [5])) (eOfF (eUn lstR aNil)))
  (sRet (getD' 3))
  sNil)))
  (sRet (eC .non)))
def den__law_hit : List D → R D := defR 3 3 g__law_hit
/-! ### law_k55 : slots ['_law_script', '_law_one', '_law_other', '_law_mine', '_law_yours', '_law_left', '_law_top', '_law_right', '_law_bottom', '_law_text', '_law_y', '_law_x', '_law_name', '_law_points', '_law_names', '_law_due', '_law_unlike', '_law_named', '_law_own'] -/
def g_law_k55 : En → Out := (sSeq (sAsg (tupT [1, 2]) (eUn tupR (aCons (eUn den__law_scene (aCons (getD' 0) (aCons (eC (.int 0)) aNil))) (aCons (eUn den__law_scene (aCons (getD' 0) (aCons (eC (.int 100)) aNil))) aNil))))
  (sSeq (sAsg (tupT [3, 4]) (eUn tupR (aCons (eUn den__law_areas (aCons (getD' 1) aNil)) (aCons (eUn den__law_areas (aCons (getD' 2) aNil)) aNil))))
  (sSeq (sAsg (tupT [5, 6]) (eUn tupR (aCons (eBin subR (eUn den__law_drawn (aCons (getD' 0) (aCons (eC (.int 200)) (aCons (eC (.int 12)) aNil)))) (eC (.int 5))) (aCons (eBin subR (eUn den__law_drawn (aCons (getD' 0) (aCons (eC (.int 201)) (aCons (eC (.int 12)) aNil)))) (eC (.int 5))) aNil))))
  (sSeq (sAsg (tupT [7, 8]) (eUn tupR (aCons (eBin addR (getD' 5) (eUn den__law_drawn (aCons (getD' 0) (aCons (eC (.int 202)) (aCons (eC (.int 8)) aNil))))) (aCons (eBin addR (getD' 6) (eUn den__law_drawn (aCons (getD' 0) (aCons (eC (.int 203)) (aCons (eC (.int 8)) aNil))))) aNil))))
  (sSeq (sSet 9 (eC (.str "")))
  (sSeq (sFor (fRng2 (getD' 6) (getD' 8)) (nameT 10)
  (sEnd [10, 11, 12] (sSeq (sFor (fRng2 (getD' 5) (getD' 7)) (nameT 11)
  (sEnd [11, 12] (sSeq (sSet 12 (eUn den__law_hit (aCons (getD' 3) (aCons (getD' 11) (aCons (getD' 10) aNil)))))
  (sSet 9 (eBin addR (getD' 9) (eIf (tBin isR (getD' 12) (eC .non)) (eC (.str ".")) (eBin ixR (getD' 12) (eC (.int 0)))))))))
  (sSet 9 (eBin addR (getD' 9) (eC (.str "\n")))))))
  (sSeq (sIf (tBin neR (eUn den_picture (aCons (getD' 1) (aCons (getD' 5) (aCons (getD' 6) (aCons (getD' 7) (aCons (getD' 8) aNil)))))) (getD' 9))
  (sRet (eC (.bl false)))
  sNil)
  (sSeq (sSet 13 (eOfF (eUn lstR aNil)))
  (sSeq (sFor (fRng2 (getD' 5) (getD' 7)) (nameT 11)
  (sEnd [11] (sSet 13 (eBin addR (getD' 13) (eOfF (eComp (fRng2 (getD' 6) (getD' 8)) (nameT 10) tTrue (eUn tupR (aCons (getD' 11) (aCons (getD' 10) aNil))) [10]))))))
  (sSeq (sSet 14 (eOfF (eComp (eUn itemsR (getD' 13)) (tupT [11, 10]) tTrue (eUn den__law_hit (aCons (getD' 3) (aCons (getD' 11) (aCons (getD' 10) aNil)))) [11, 10])))
  (sSeq (sSetFD 15 (eComp (eUn itemsR (eUn sortedSetR (eOfF (eComp (eUn itemsR (getD' 14)) (nameT 18) (tBin isNotR (getD' 18) (eC .non)) (getD' 18) [18])))) (nameT 12) tTrue (eUn tupR (aCons (getD' 12) (aCons (eMeth lstyR (getD' 14) (aCons (getD' 12) aNil) countR) aNil))) [12]))
  (sSeq (sIf (tBin neR (eUn den_shares (aCons (getD' 1) (aCons (getD' 5) (aCons (getD' 6) (aCons (getD' 7) (aCons (getD' 8) aNil)))))) (getD' 15))
  (sRet (eC (.bl false)))
  sNil)
  (sSeq (sSetFD 16 (eComp (eUn itemsR (getD' 13)) (tupT [11, 10]) (tBin neR (eUn den__law_hit (aCons (getD' 3) (aCons (getD' 11) (aCons (getD' 10) aNil)))) (eUn den__law_hit (aCons (getD' 4) (aCons (getD' 11) (aCons (getD' 10) aNil))))) (eUn tupR (aCons (getD' 11) (aCons (getD' 10) aNil))) [11, 10]))
  (sSeq (sIf (tBin neR (eUn den_unlike_points (aCons (getD' 1) (aCons (getD' 2) (aCons (getD' 5) (aCons (getD' 6) (aCons (getD' 7) (aCons (getD' 8) aNil))))))) (getD' 16))
  (sRet (eC (.bl false)))
  sNil)
  (sSeq (sSet 17 (eUn tupR (aCons (eUn tupR (aCons (eC (.str "ab")) (aCons (eC (.str "")) (aCons (eC (.int 0)) (aCons (eC (.int 0)) (aCons (eC (.int 2)) (aCons (eC (.int 2)) (aCons (eC (.str "")) aNil)))))))) (aCons (eUn tupR (aCons (eC (.str "cd")) (aCons (eC (.str "ab")) (aCons (eC (.int 1)) (aCons (eC (.int 1)) (aCons (eC (.int 3)) (aCons (eC (.int 3)) (aCons (eC (.str "")) aNil)))))))) aNil))))
  (sSeq (sIf (tBin neR (eUn den_picture (aCons (getD' 17) (aCons (eC (.int 0)) (aCons (eC (.int 0)) (aCons (eC (.int 3)) (aCons (eC (.int 3)) aNil)))))) (eC (.str "aa.\nacc\n.cc\n")))
  (sRet (eC (.bl false)))
  sNil)
  (sRet (eAnd (eBin eqR (eUn den_picture (aCons (eUn tupR aNil) (aCons (eC (.int 1)) (aCons (eC (.int 1)) (aCons (eC (.int 1)) (aCons (eC (.int 3)) aNil)))))) (eC (.str "\n\n"))) (eAnd (eBin eqR (eUn den_shares (aCons (eUn tupR aNil) (aCons (eC (.int 0)) (aCons (eC (.int 0)) (aCons (eC (.int 3)) (aCons (eC (.int 3)) aNil)))))) (eOfF (eUn lstR aNil))) (eBin eqR (eUn den_picture (aCons (getD' 1) (aCons (eC (.int 3)) (aCons (eC (.int 3)) (aCons (eC (.int 3)) (aCons (eC (.int 3)) aNil)))))) (eC (.str ""))))))))))))))))))))))
def den_law_k55 : List D → R D := defR 1 18 g_law_k55
/-! ### _law_moved : slots ['_law_scene_here', '_law_right', '_law_down', '_law_found', '_law_box'] -/
def g__law_moved : En → Out := (sSeq (sSet 3 (getD' 0))
  (sSeq (sFor (eUn itemsR (getD' 0)) (nameT 4)
  (sEnd [4] (sIf (tBin eqR (eBin ixR (getD' 4) (eC (.int 1))) (eC (.str "")))
  (sSet 3 (eUn den_put_at (aCons (getD' 3) (aCons (eBin ixR (getD' 4) (eC (.int 0))) (aCons (eBin addR (eBin ixR (getD' 4) (eC (.int 2))) (getD' 1)) (aCons (eBin addR (eBin ixR (getD' 4) (eC (.int 3))) (getD' 2)) aNil))))))
  sNil)))
  (sRet (getD' 3))))
def den__law_moved : List D → R D := defR 3 2 g__law_moved
/-! ### _law_seen : slots ['_law_scene_here', '_law_x', '_law_y', '_law_rivals_here', '_law_points', '_law_rows', '_law_box', '_law_kinds'] -/
def g__law_seen : En → Out := (sSeq (sSet 5 (eOfF (eUn lstR (aCons (eUn den_painted (aCons (getD' 0) aNil)) (aCons (eUn den_children (aCons (getD' 0) (aCons (eC (.str "")) aNil))) (aCons (eUn den_all_hits (aCons (getD' 0) (aCons (getD' 1) (aCons (getD' 2) aNil)))) (aCons (eUn den_hit_path (aCons (getD' 0) (aCons (getD' 1) (aCons (getD' 2) aNil)))) (aCons (eUn den_losers (aCons (getD' 3) (aCons (getD' 4) aNil))) aNil))))))))
  (sSeq (sFor (eUn itemsR (getD' 0)) (nameT 6)
  (sEnd [6] (sSet 5 (eBin addR (getD' 5) (eOfF (eUn lstR (aCons (eUn den_path_of (aCons (getD' 0) (aCons (eBin ixR (getD' 6) (eC (.int 0))) aNil))) (aCons (eUn den_below (aCons (getD' 0) (aCons (eBin ixR (getD' 6) (eC (.int 0))) aNil))) (aCons (eUn den_children (aCons (getD' 0) (aCons (eBin ixR (getD' 6) (eC (.int 0))) aNil))) aNil)))))))))
  (sSeq (sSet 7 (eUn dictPR (aCons (eOfF (eComp (eUn itemsR (getD' 0)) (nameT 6) tTrue (eUn tupR (aCons (eBin ixR (getD' 6) (eC (.int 0))) (aCons (eOfF (eUn lstR (aCons (eC (.str "tap")) (aCons (eC (.str "drag")) aNil)))) aNil))) [6])) aNil)))
  (sRet (eBin addR (getD' 5) (eOfF (eUn lstR (aCons (eUn den_rivals_on (aCons (eUn den_hit_path (aCons (getD' 0) (aCons (getD' 1) (aCons (getD' 2) aNil)))) (aCons (getD' 7) aNil))) aNil))))))))
def den__law_seen : List D → R D := defR 5 3 g__law_seen
end Dn

/-! Scenes as forests: plain law, no program in sight. -/
namespace Fo
open PySem
structure Box where
  nm : Str
  ar : Str
  l : Int
  t : Int
  w : Int
  h : Int
  ms : Str
deriving DecidableEq

def names (S : List Box) : List Str := S.map (·.nm)
/-- the boxes stand behind what is around them; no name twice -/
def wf : List Str → List Box → Prop
  | _, [] => True
  | K, b :: T => b.nm ≠ "" ∧ b.nm ∉ K ∧ (b.ar = "" ∨ b.ar ∈ K) ∧ wf (b.nm :: K) T
def kids : List Box → Str → List Str
  | [], _ => []
  | b :: T, n => if b.ar = n then b.nm :: kids T b.nm ++ kids T n else kids T n
def children (S : List Box) (n : Str) : List Str := (S.filter fun b => decide (b.ar = n)).map (·.nm)
def pathR : List Box → Str → List Str
  | [], _ => []
  | b :: R, n => if n = b.nm then pathR R b.ar ++ [n] else pathR R n
def path (S : List Box) (n : Str) : List Str := pathR S.reverse n
def findB (S : List Box) (n : Str) : Option Box := S.find? fun b => decide (b.nm = n)

theorem names_nil : names [] = [] := rfl
theorem names_cons (b : Box) (T : List Box) : names (b :: T) = b.nm :: names T := rfl
theorem names_append (S T : List Box) : names (S ++ T) = names S ++ names T := List.map_append
theorem mem_names {S : List Box} {n : Str} : n ∈ names S ↔ ∃ b ∈ S, b.nm = n := List.mem_map
theorem names_length (S : List Box) : (names S).length = S.length := List.length_map ..

theorem wf_new : ∀ {S : List Box} {K : List Str}, wf K S → ∀ n ∈ names S, n ≠ "" ∧ n ∉ K
  | [], _, _, n, h => by cases h
  | b :: T, K, ⟨h0, h1, _, h3⟩, n, h => by
    rw [names_cons] at h
    rcases List.mem_cons.mp h with e | h
    · subst e; exact ⟨h0, h1⟩
    · obtain ⟨a, c⟩ := wf_new h3 n h
      exact ⟨a, fun z => c (List.mem_cons_of_mem _ z)⟩
theorem wf_nodup : ∀ {S : List Box} {K : List Str}, wf K S → (names S).Nodup
  | [], _, _ => .nil
  | b :: T, K, ⟨_, _, _, h3⟩ => by
    rw [names_cons, List.nodup_cons]
    exact ⟨fun z => (wf_new h3 _ z).2 List.mem_cons_self, wf_nodup h3⟩
theorem wf_mono : ∀ {S : List Box} {K K' : List Str}, (∀ n, n ∈ K ↔ n ∈ K') → wf K S → wf K' S
  | [], _, _, _, _ => trivial
  | b :: T, K, K', e, ⟨h0, h1, h2, h3⟩ => ⟨h0, fun z => h1 ((e _).mpr z), h2.imp id fun z => (e _).mp z, wf_mono (fun n => by simp [e n]) h3⟩
theorem wf_append : ∀ {S T : List Box} {K : List Str}, wf K (S ++ T) ↔ wf K S ∧ wf (names S ++ K) T
  | [], T, K => by simp [wf, names_nil]
  | b :: S, T, K => by
    show (_ ∧ _ ∧ _ ∧ wf (b.nm :: K) (S ++ T)) ↔ (_ ∧ _ ∧ _ ∧ wf (b.nm :: K) S) ∧ _
    rw [wf_append]
    have : wf (names S ++ b.nm :: K) T ↔ wf (names (b :: S) ++ K) T := ⟨wf_mono fun n => by simp [names_cons, or_left_comm], wf_mono fun n => by simp [names_cons, or_left_comm]⟩
    rw [this]
    constructor
    · rintro ⟨a, b, c, d, e⟩; exact ⟨⟨a, b, c, d⟩, e⟩
    · rintro ⟨⟨a, b, c, d⟩, e⟩; exact ⟨a, b, c, d, e⟩
theorem wf_take {S : List Box} {K : List Str} (h : wf K S) (n : Nat) : wf K (S.take n) := by
  have : wf K (S.take n ++ S.drop n) := by rw [List.take_append_drop]; exact h
  exact (wf_append.mp this).1
theorem wf_snoc {S : List Box} {b : Box} : wf [] (S ++ [b]) ↔ wf [] S ∧ b.nm ≠ "" ∧ b.nm ∉ names S ∧ (b.ar = "" ∨ b.ar ∈ names S) := by
  rw [wf_append]
  simp [wf]
theorem wf_split {S1 S2 : List Box} {b : Box} (h : wf [] (S1 ++ b :: S2)) : wf [] S1 ∧ b.nm ≠ "" ∧ b.nm ∉ names S1 ∧ (b.ar = "" ∨ b.ar ∈ names S1) := by
  have : wf [] ((S1 ++ [b]) ++ S2) := by simpa using h
  exact wf_snoc.mp (wf_append.mp this).1

/-! ### what stands below -/
theorem kids_sub : ∀ {S : List Box} {n m : Str}, m ∈ kids S n → m ∈ names S
  | [], _, _, h => by cases h
  | b :: T, n, m, h => by
    unfold kids at h
    rw [names_cons]
    split at h
    · rcases List.mem_append.mp h with h | h
      · rcases List.mem_cons.mp h with e | h
        · subst e; exact List.mem_cons_self
        · exact List.mem_cons_of_mem _ (kids_sub h)
      · exact List.mem_cons_of_mem _ (kids_sub h)
    · exact List.mem_cons_of_mem _ (kids_sub h)
theorem kids_disj : ∀ {S : List Box} {n m : Str}, (names S).Nodup → n ≠ m → n ∉ names S → m ∉ names S → ∀ x, x ∈ kids S n → x ∉ kids S m
  | [], _, _, _, _, _, _, x, h => by cases h
  | b :: T, n, m, nd, ne, hn, hm, x, h => by
    rw [names_cons, List.nodup_cons] at nd
    rw [names_cons, List.mem_cons, not_or] at hn hm
    have nb : b.nm ≠ n := fun z => hn.1 z.symm
    have mb : b.nm ≠ m := fun z => hm.1 z.symm
    unfold kids at h ⊢
    by_cases e : b.ar = n
    · rw [if_pos e] at h
      rw [if_neg (fun z => ne (e.symm.trans z))]
      rcases List.mem_append.mp h with h | h
      · rcases List.mem_cons.mp h with e2 | h
        · subst e2; exact fun z => nd.1 (kids_sub z)
        · exact kids_disj nd.2 mb nd.1 hm.2 x h
      · exact kids_disj nd.2 ne hn.2 hm.2 x h
    · rw [if_neg e] at h
      by_cases e2 : b.ar = m
      · rw [if_pos e2]
        intro z
        rcases List.mem_append.mp z with z | z
        · rcases List.mem_cons.mp z with e3 | z
          · subst e3; exact nd.1 (kids_sub h)
          · exact kids_disj nd.2 nb nd.1 hn.2 x z h
        · exact kids_disj nd.2 ne hn.2 hm.2 x h z
      · rw [if_neg e2]
        exact kids_disj nd.2 ne hn.2 hm.2 x h
theorem kids_nodup : ∀ {S : List Box} {n : Str}, (names S).Nodup → n ∉ names S → (kids S n).Nodup
  | [], _, _, _ => .nil
  | b :: T, n, nd, hn => by
    rw [names_cons, List.nodup_cons] at nd
    rw [names_cons, List.mem_cons, not_or] at hn
    unfold kids
    split
    · rw [List.nodup_append]
      refine ⟨List.nodup_cons.mpr ⟨fun z => nd.1 (kids_sub z), kids_nodup nd.2 nd.1⟩, kids_nodup nd.2 hn.2, fun a ha b' hb e => ?_⟩
      subst e
      rcases List.mem_cons.mp ha with e | ha
      · subst e; exact nd.1 (kids_sub hb)
      · exact kids_disj nd.2 (fun z => hn.1 z.symm) nd.1 hn.2 a ha hb
    · exact kids_nodup nd.2 hn.2
theorem kids_snoc : ∀ {S : List Box} {b : Box} {n m : Str}, m ∈ kids (S ++ [b]) n ↔ m ∈ kids S n ∨ (m = b.nm ∧ (b.ar = n ∨ b.ar ∈ kids S n))
  | [], b, n, m => by
    show m ∈ kids [b] n ↔ _
    unfold kids kids
    split
    · rename_i h; simp [h]
    · rename_i h; simp [h]
  | c :: T, b, n, m => by
    show m ∈ kids (c :: (T ++ [b])) n ↔ m ∈ kids (c :: T) n ∨ _
    unfold kids
    by_cases e : c.ar = n
    · rw [if_pos e, if_pos e]
      simp only [List.mem_append, List.mem_cons, kids_snoc (S := T)]
      constructor
      · rintro ((a | a | ⟨a, c | c⟩) | a | ⟨a, c | c⟩)
        · exact .inl (.inl (.inl a))
        · exact .inl (.inl (.inr a))
        · exact .inr ⟨a, .inr (.inl (.inl c))⟩
        · exact .inr ⟨a, .inr (.inl (.inr c))⟩
        · exact .inl (.inr a)
        · exact .inr ⟨a, .inl c⟩
        · exact .inr ⟨a, .inr (.inr c)⟩
      · rintro (((a | a) | a) | ⟨a, c | ((c | c) | c)⟩)
        · exact .inl (.inl a)
        · exact .inl (.inr (.inl a))
        · exact .inr (.inl a)
        · exact .inr (.inr ⟨a, .inl c⟩)
        · exact .inl (.inr (.inr ⟨a, .inl c⟩))
        · exact .inl (.inr (.inr ⟨a, .inr c⟩))
        · exact .inr (.inr ⟨a, .inr c⟩)
    · rw [if_neg e, if_neg e]
      exact kids_snoc (S := T)
theorem mem_children {S : List Box} {n c : Str} : c ∈ children S n ↔ ∃ b ∈ S, b.ar = n ∧ b.nm = c := by
  unfold children
  rw [List.mem_map]
  constructor
  · rintro ⟨b, hb, e⟩
    rw [List.mem_filter] at hb
    exact ⟨b, hb.1, of_decide_eq_true hb.2, e⟩
  · rintro ⟨b, hb, e1, e2⟩
    exact ⟨b, List.mem_filter.mpr ⟨hb, decide_eq_true e1⟩, e2⟩
theorem children_sub {S : List Box} {n c : Str} (h : c ∈ children S n) : c ∈ names S := by
  obtain ⟨b, hb, _, e⟩ := mem_children.mp h
  exact mem_names.mpr ⟨b, hb, e⟩
/-- the block of a name: itself and what stands below -/
def blk (S : List Box) (n : Str) : List Str := n :: kids S n
theorem kids_flat : ∀ {S : List Box} {K : List Str}, wf K S → ∀ n, kids S n = (children S n).flatMap (blk S)
  | [], _, _, n => rfl
  | b :: T, K, ⟨h0, h1, h2, h3⟩, n => by
    have same : ∀ c, c ∉ K → c ≠ "" → kids (b :: T) c = kids T c := fun c hc h0 => by
      rw [kids, if_neg]
      rintro rfl
      rcases h2 with z | z
      · exact h0 z
      · exact hc z
    have later : (children T n).flatMap (blk (b :: T)) = (children T n).flatMap (blk T) := by
      have : ∀ l : List Str, (∀ c ∈ l, c ∈ names T) → l.flatMap (blk (b :: T)) = l.flatMap (blk T) := by
        intro l
        induction l with
        | nil => intro _; rfl
        | cons c l ih =>
          intro hl
          rw [List.flatMap_cons, List.flatMap_cons, ih fun c hc => hl c (List.mem_cons_of_mem _ hc)]
          obtain ⟨z1, z2⟩ := wf_new h3 c (hl c List.mem_cons_self)
          unfold blk
          rw [same c (fun z => z2 (List.mem_cons_of_mem _ z)) z1]
      exact this _ fun c hc => children_sub hc
    rw [kids]
    have ih := kids_flat h3 n
    unfold children
    rw [List.filter_cons]
    by_cases e : b.ar = n
    · rw [if_pos e, if_pos (decide_eq_true e)]
      rw [List.map_cons, List.flatMap_cons]
      show _ = blk (b :: T) b.nm ++ (children T n).flatMap (blk (b :: T))
      rw [later, ← ih]
      unfold blk
      rw [same b.nm h1 h0]
    · rw [if_neg e, if_neg (fun z => e (of_decide_eq_true z))]
      show _ = (children T n).flatMap (blk (b :: T))
      rw [later, ← ih]

/-! ### paths -/
theorem path_snoc (S : List Box) (b : Box) (n : Str) : path (S ++ [b]) n = if n = b.nm then path S b.ar ++ [n] else path S n := by
  unfold path
  rw [List.reverse_append]
  rfl
theorem snoc_ind {p : List Box → Prop} (h0 : p []) (h1 : ∀ S b, p S → p (S ++ [b])) : ∀ S, p S := by
  intro S
  have : ∀ R : List Box, p R.reverse := by
    intro R
    induction R with
    | nil => exact h0
    | cons b R ih => rw [List.reverse_cons]; exact h1 _ _ ih
  have := this S.reverse
  rwa [List.reverse_reverse] at this
theorem path_none : ∀ {S : List Box} {n : Str}, n ∉ names S → path S n = [] := by
  intro S
  induction S using snoc_ind with
  | h0 => intro n _; rfl
  | h1 S b ih =>
    intro n h
    rw [names_append, List.mem_append, not_or] at h
    rw [path_snoc, if_neg (fun e => h.2 (by simp [names, e])), ih h.1]
theorem path_front {S T : List Box} {n : Str} (h : n ∉ names T) : path (S ++ T) n = path S n := by
  induction T using snoc_ind with
  | h0 => rw [List.append_nil]
  | h1 T b ih =>
    rw [names_append, List.mem_append, not_or] at h
    rw [← List.append_assoc, path_snoc, if_neg (fun e => h.2 (by simp [names, e])), ih h.1]
theorem path_step {S : List Box} {b : Box} (h : wf [] S) (hb : b ∈ S) : path S b.nm = path S b.ar ++ [b.nm] := by
  obtain ⟨S1, S2, rfl⟩ := List.append_of_mem hb
  obtain ⟨w1, n0, n1, a1⟩ := wf_split h
  have nd := wf_nodup h
  rw [names_append, names_cons, List.nodup_append, List.nodup_cons] at nd
  have e1 : path (S1 ++ b :: S2) b.nm = path (S1 ++ [b]) b.nm := by
    have : S1 ++ b :: S2 = (S1 ++ [b]) ++ S2 := by simp
    rw [this, path_front nd.2.1.1]
  rw [e1, path_snoc, if_pos rfl]
  congr 1
  symm
  refine path_front fun z => ?_
  rw [names_cons, List.mem_cons] at z
  rcases a1 with a1 | a1
  · rcases z with z | z
    · exact n0 (z.symm.trans a1)
    · exact (wf_new h _ (by rw [names_append, names_cons]; simp [z] : b.ar ∈ names (S1 ++ b :: S2))).1 a1
  · rcases z with z | z
    · exact n1 (z ▸ a1)
    · exact nd.2.2 _ a1 _ (List.mem_cons_of_mem _ z) rfl
theorem path_empty {S : List Box} (h : wf [] S) : path S "" = [] := path_none fun z => (wf_new h _ z).1 rfl
theorem path_names : ∀ {S : List Box}, wf [] S → ∀ {n m : Str}, m ∈ path S n → m ∈ names S := by
  intro S
  induction S using snoc_ind with
  | h0 => intro _ n m h; cases h
  | h1 S b ih =>
    intro h n m hm
    have hs := wf_snoc.mp h
    rw [path_snoc] at hm
    rw [names_append, List.mem_append]
    split at hm
    · rename_i e
      rcases List.mem_append.mp hm with z | z
      · exact .inl (ih hs.1 z)
      · exact .inr (by rw [List.mem_singleton] at z; subst z; simp [names, e])
    · exact .inl (ih hs.1 hm)
theorem path_len : ∀ {S : List Box}, ∀ {n : Str}, (path S n).length ≤ S.length := by
  intro S
  induction S using snoc_ind with
  | h0 => intro n; exact Nat.le_refl _
  | h1 S b ih =>
    intro n
    rw [path_snoc]
    have := @ih b.ar
    have := @ih n
    split <;> simp <;> omega
/-- who stands below whom -/
theorem mem_kids : ∀ {S : List Box}, wf [] S → ∀ {n m : Str}, m ∈ kids S n ↔ m ∈ names S ∧ (n = "" ∨ n ∈ (path S m).dropLast) := by
  intro S
  induction S using snoc_ind with
  | h0 => intro _ n m; simp [kids, names]
  | h1 S b ih =>
    intro h n m
    obtain ⟨hs, b0, b1, ba⟩ := wf_snoc.mp h
    rw [kids_snoc, path_snoc, names_append, List.mem_append]
    by_cases e : m = b.nm
    · subst e
      have nk : b.nm ∉ kids S n := fun z => b1 (kids_sub z)
      rw [if_pos rfl]
      have : b.nm ∈ names [b] := by simp [names]
      simp only [nk, false_or, true_and, b1, this, or_true, List.dropLast_concat]
      rcases ba with ba | ba
      · have e0 := path_empty hs
        rw [ba, e0]
        constructor
        · rintro (z | z)
          · exact .inl z.symm
          · exact absurd rfl (wf_new hs _ (kids_sub z)).1
        · rintro (z | z)
          · exact .inl z.symm
          · cases z
      · rw [ih hs]
        obtain ⟨c, hc, ec⟩ := mem_names.mp ba
        have pc := path_step hs hc
        rw [ec] at pc
        rw [pc, List.dropLast_concat]
        constructor
        · rintro (z | ⟨_, z | z⟩)
          · exact .inr (by simp [z])
          · exact .inl z
          · exact .inr (by simp [z])
        · rintro (z | z)
          · exact .inr ⟨ba, .inl z⟩
          · rcases List.mem_append.mp z with z | z
            · exact .inr ⟨ba, .inr z⟩
            · rw [List.mem_singleton] at z; exact .inl z.symm
    · rw [if_neg e, ih hs]
      have : m ∉ names [b] := by simp [names, e]
      simp only [e, false_and, or_false, this]
theorem painted_all {S : List Box} (h : wf [] S) (n : Str) : n ∈ kids S "" ↔ n ∈ names S := by
  rw [mem_kids h]; simp
theorem painted_nodup {S : List Box} (h : wf [] S) : (kids S "").Nodup := kids_nodup (wf_nodup h) fun z => (wf_new h _ z).1 rfl
theorem painted_perm {S : List Box} (h : wf [] S) : (kids S "").Perm (names S) := (List.perm_ext_iff_of_nodup (painted_nodup h) (wf_nodup h)).mpr (painted_all h)
theorem path_last {S : List Box} (h : wf [] S) {n : Str} (hn : n ∈ names S) : path S n = (path S n).dropLast ++ [n] := by
  obtain ⟨b, hb, e⟩ := mem_names.mp hn
  have := path_step h hb
  rw [e] at this
  rw [this, List.dropLast_concat]
theorem mem_blk {S : List Box} (h : wf [] S) {n m : Str} (hn : n ≠ "") (hm : m ∈ names S) : m ∈ blk S n ↔ n ∈ path S m := by
  have key : n ∈ path S m ↔ n ∈ (path S m).dropLast ∨ n = m := by
    conv => lhs; rw [path_last h hm]
    simp
  unfold blk
  rw [List.mem_cons, mem_kids h, key]
  simp only [hn, false_or, hm, true_and]
  constructor
  · rintro (z | z)
    · exact .inr z.symm
    · exact .inl z
  · rintro (z | z)
    · exact .inr z
    · exact .inl z.symm
/-- a block stands in one piece in the block of what is around it, and so in what is painted -/
theorem blk_in {S : List Box} (h : wf [] S) {b : Box} (hb : b ∈ S) : ∃ A B, kids S b.ar = A ++ blk S b.nm ++ B := by
  rw [kids_flat h]
  obtain ⟨A, B, e⟩ := List.append_of_mem (mem_children.mpr ⟨b, hb, rfl, rfl⟩ : b.nm ∈ children S b.ar)
  rw [e, List.flatMap_append, List.flatMap_cons]
  exact ⟨_, _, by rw [List.append_assoc]⟩
theorem blk_painted {S : List Box} (h : wf [] S) : ∀ (k : Nat) (n : Str), n ∈ names S → (path S n).length ≤ k → ∃ A B, kids S "" = A ++ blk S n ++ B
  | 0, n, hn, hk => by
    rw [path_last h hn] at hk; simp at hk
  | k + 1, n, hn, hk => by
    obtain ⟨b, hb, e⟩ := mem_names.mp hn
    obtain ⟨A, B, e2⟩ := blk_in h hb
    rw [e] at e2
    by_cases e3 : b.ar = ""
    · rw [e3] at e2; exact ⟨A, B, e2⟩
    · have ha : b.ar ∈ names S := by
        obtain ⟨S1, S2, rfl⟩ := List.append_of_mem hb
        rcases (wf_split h).2.2.2 with z | z
        · exact absurd z e3
        · rw [names_append]; exact List.mem_append_left _ z
      have hp := path_step h hb
      rw [e] at hp
      rw [hp] at hk
      simp at hk
      obtain ⟨A2, B2, e4⟩ := blk_painted h k b.ar ha hk
      refine ⟨A2 ++ b.ar :: A, B ++ B2, ?_⟩
      rw [e4]
      unfold blk at e2 ⊢
      rw [e2]
      simp
/-- what stands below, in the order painted -/
theorem below_eq {S : List Box} (h : wf [] S) {n : Str} (hn : n ∈ names S) : (kids S "").filter (fun m => decide (n ∈ path S m)) = blk S n := by
  obtain ⟨A, B, e⟩ := blk_painted h _ n hn (Nat.le_refl _)
  have nd := painted_nodup h
  have n0 := (wf_new h n hn).1
  have mem : ∀ m ∈ kids S "", (n ∈ path S m ↔ m ∈ blk S n) := fun m hm => (mem_blk h n0 ((painted_all h m).mp hm)).symm
  rw [e] at nd mem ⊢
  rw [List.nodup_append, List.nodup_append] at nd
  obtain ⟨⟨_, _, d1⟩, _, d2⟩ := nd
  rw [List.filter_append, List.filter_append]
  have f1 : A.filter (fun m => decide (n ∈ path S m)) = [] := by
    rw [List.filter_eq_nil_iff]
    intro m hm z
    have := (mem m (by simp [hm])).mp (of_decide_eq_true z)
    exact d1 m hm m this rfl
  have f2 : (blk S n).filter (fun m => decide (n ∈ path S m)) = blk S n := by
    rw [List.filter_eq_self]
    intro m hm
    exact decide_eq_true ((mem m (by simp [hm])).mpr hm)
  have f3 : B.filter (fun m => decide (n ∈ path S m)) = [] := by
    rw [List.filter_eq_nil_iff]
    intro m hm z
    have := (mem m (by simp [hm])).mp (of_decide_eq_true z)
    exact d2 m (by simp [this]) m hm rfl
  rw [f1, f2, f3]
  simp
end Fo

/-! Running what the defs compute: rules for simp. -/
namespace Dx
open PySem PySem.Spec PyProof.Rows L2
section
variable {env : En} {A B C : En → R D} {As : En → R (List D)} {t u : En → R Bool} {G G1 G2 : En → Out} {x y : D} {s : Slot} {e : En} {n : Nat}
@[simp] theorem getD_0 : getD' 0 (.d x :: e) = .ok x := (rfl)
@[simp] theorem getD_s : getD' (n + 1) (s :: e) = getD' n e := (rfl)
@[simp] theorem getV_0 : getV 0 (.d x :: e) = .ok x := (rfl)
@[simp] theorem getV_1 {xs : List D} : getV 0 (.ol xs :: e) = .ok (.lst xs) := (rfl)
@[simp] theorem getV_2 {xs : List (L2.Key × D)} : getV 0 (.od xs :: e) = .ok (.dic xs) := (rfl)
@[simp] theorem getV_s : getV (n + 1) (s :: e) = getV n e := (rfl)
@[simp] theorem eC_ap : eC x env = .ok x := (rfl)
@[simp] theorem eBin_ap {f : D → D → R D} : eBin f A B env = (A env >>= fun x => B env >>= fun y => f x y) := (rfl)
@[simp] theorem eUn_ap {α β : Type} {f : α → R β} {A : En → R α} : eUn f A env = (A env >>= f) := (rfl)
@[simp] theorem eOfF_ap : eOfF As env = (As env >>= fun xs => .ok (.lst xs)) := (rfl)
@[simp] theorem tBin_ap {f : D → D → R D} : tBin f A B env = (A env >>= fun x => B env >>= fun y => f x y >>= boolR) := (rfl)
@[simp] theorem oNone_ap : oNone env = .ok none := (rfl)
@[simp] theorem eSlice_ap {l h : En → R (Option Int)} : eSlice A l h env = (A env >>= fun x => l env >>= fun l => h env >>= fun h => sliceR x l h) := (rfl)
@[simp] theorem eChain_ap {f g : D → D → R D} : eChain f g A B C env = (A env >>= fun x => B env >>= fun y => chainR f g x y (C env)) := (rfl)
@[simp] theorem tChain_ap {f g : D → D → R D} : tChain f g A B C env = (A env >>= fun x => B env >>= fun y => chainR f g x y (C env) >>= boolR) := (rfl)
@[simp] theorem tVal_ap : tVal A env = (A env >>= boolR) := (rfl)
@[simp] theorem tNot_ap : tNot t env = (t env >>= fun k => .ok (!k)) := (rfl)
@[simp] theorem tAnd_ap : tAnd t u env = (t env >>= fun k => if k = true then u env else .ok false) := (rfl)
@[simp] theorem tOr_ap : tOr t u env = (t env >>= fun k => if k = true then .ok true else u env) := (rfl)
@[simp] theorem tTrue_ap : tTrue env = .ok true := (rfl)
@[simp] theorem eAnd_ap : eAnd A B env = (A env >>= fun x => boolR x >>= fun k => if k = true then B env else .ok (.bl false)) := (rfl)
@[simp] theorem eOr_ap : eOr A B env = (A env >>= fun x => boolR x >>= fun k => if k = true then .ok (.bl true) else B env) := (rfl)
@[simp] theorem eIf_ap : eIf t A B env = (t env >>= fun k => if k = true then A env else B env) := (rfl)
@[simp] theorem aNil_ap : aNil env = .ok [] := (rfl)
@[simp] theorem aCons_ap : aCons A As env = (A env >>= fun x => As env >>= fun xs => .ok (x :: xs)) := (rfl)
@[simp] theorem eMeth_ap {ty : D → R D} {g : D → List D → R D} : eMeth ty A As g env = (A env >>= ty >>= fun d => As env >>= g d) := (rfl)
@[simp] theorem eComp_ap {I : En → R (List D)} {T : D → En → R En} {C : En → R Bool} {F : En → R D} {own : List Nat} : eComp I T C F own env = (I env >>= fun ds => compO T C F (wipeE env own) ds) := (rfl)
@[simp] theorem eCallS_ap {F : List D → R D} : eCallS As F env = (As env >>= fun ds => F ds >>= scR) := (rfl)
@[simp] theorem fEn_ap : fEn A env = (A env >>= fun d => (match d with | .lst xs => R.ok xs | _ => R.bad) >>= fun xs => .ok (pairs0 xs)) := (rfl)
@[simp] theorem fEnT_ap : fEnT A env = (A env >>= fun d => (match d with | .tup xs => R.ok xs | .str z => R.ok (charsD z) | _ => R.bad) >>= fun xs => .ok (pairs0 xs)) := (rfl)
@[simp] theorem fRng2_ap : fRng2 A B env = (A env >>= fun x => B env >>= fun y => range2R x y) := (rfl)
@[simp] theorem sNil_ap : sNil env = .nx env := (rfl)
@[simp] theorem sSeq_ap : sSeq G1 G2 env = seqO (G1 env) G2 := (rfl)
@[simp] theorem sSet_ap : sSet n A env = liftO (A env) env fun d => .nx (env.set n (.d d)) := (rfl)
@[simp] theorem sSetF_ap : sSetF n As env = liftO (As env) env fun d => .nx (env.set n (.ol d)) := (rfl)
@[simp] theorem sSetFD_ap : sSetFD n As env = liftO (As env) env fun d => .nx (env.set n (.d (.lst d))) := (rfl)
@[simp] theorem sRet_ap : sRet A env = liftO (A env) env fun d => .rt d env := (rfl)
@[simp] theorem sRetN_ap : sRetN env = .rt .non env := (rfl)
@[simp] theorem sBrk_ap : sBrk env = .bk env := (rfl)
@[simp] theorem sCnt_ap : sCnt env = .ct env := (rfl)
@[simp] theorem sIf_ap : sIf t G1 G2 env = liftO (t env) env fun k => if k = true then G1 env else G2 env := (rfl)
@[simp] theorem sRaise_ap {z : Str} : sRaise z env = .exc z env := (rfl)
@[simp] theorem sExpr_ap : sExpr A env = liftO (A env) env fun _ => .nx env := (rfl)
@[simp] theorem sAsg_ap {T : D → En → R En} : sAsg T A env = liftO (A env) env fun d => match T d env with | .ok env' => .nx env' | _ => .bad := (rfl)
@[simp] theorem sFrz_ap : sFrz n G env = G (frz n env) := (rfl)
@[simp] theorem sEnd_ap {is : List Nat} : sEnd is G env = endK is (G env) := (rfl)
@[simp] theorem sFor_ap {I : En → R (List D)} {T : D → En → R En} : sFor I T G env = liftO (I env) env fun ds => forO T G ds env := (rfl)
@[simp] theorem sWhile_ap : sWhile t G n env = whileO t G n env := (rfl)
@[simp] theorem sMeth_ap {g : Nat → En → D → Out} : sMeth n A g env = (match env[n]? with | some (.ol _) => liftO (A env) env (g n env) | _ => .bad) := (rfl)
@[simp] theorem sPop_ap {T : D → En → R En} : sPop n T env = popO n env (tgO T) := (rfl)
@[simp] theorem endK_nx {is : List Nat} : endK is (.nx e) = .nx (killS is e) := (rfl)
@[simp] theorem endK_ct {is : List Nat} : endK is (.ct e) = .ct (killS is e) := (rfl)
@[simp] theorem endK_bk {is : List Nat} : endK is (.bk e) = .bk (killS is e) := (rfl)
@[simp] theorem endK_rt {is : List Nat} {d : D} : endK is (.rt d e) = .rt d e := (rfl)
@[simp] theorem endK_exc {is : List Nat} {z : Str} : endK is (.exc z e) = .exc z e := (rfl)
@[simp] theorem endK_bad {is : List Nat} : endK is .bad = .bad := (rfl)
@[simp] theorem killS_nil : killS [] e = e := (rfl)
@[simp] theorem killS_cons {i : Nat} {is : List Nat} : killS (i :: is) e = killS is (e.set i .u) := (rfl)
@[simp] theorem wipeE_nil : wipeE e [] = e := (rfl)
@[simp] theorem wipeE_cons {i : Nat} {is : List Nat} : wipeE e (i :: is) = (wipeE e is).set i .u := (rfl)
@[simp] theorem nameT_ap : nameT n x e = .ok (e.set n (.d x)) := (rfl)
@[simp] theorem boolR_bl {b : Bool} : boolR (.bl b) = .ok b := (rfl)
@[simp] theorem optR_int {i : Int} : optR (.int i) = .ok (some i) := (rfl)
@[simp] theorem itemsR_tup {xs : List D} : itemsR (.tup xs) = .ok xs := (rfl)
@[simp] theorem itemsR_lst {xs : List D} : itemsR (.lst xs) = .ok xs := (rfl)
@[simp] theorem forO_nil {T : D → En → R En} : forO T G [] e = .nx e := (rfl)
@[simp] theorem compO_nil {T : D → En → R En} {C : En → R Bool} {F : En → R D} : compO T C F e [] = .ok [] := (rfl)
@[simp] theorem lstyR_lst {xs : List D} : lstyR (.lst xs) = .ok (.lst xs) := (rfl)
@[simp] theorem revF_lst {xs : List D} : revF (.lst xs) = .ok xs.reverse := (rfl)
@[simp] theorem negR_int {i : Int} : negR (.int i) = .ok (.int (-i)) := (rfl)
@[simp] theorem subR_int {i j : Int} : subR (.int i) (.int j) = .ok (.int (i - j)) := (rfl)
@[simp] theorem addR_int {i j : Int} : addR (.int i) (.int j) = .ok (.int (i + j)) := (rfl)
theorem defR_ok {n m : Nat} {G : En → Out} {ds : List D} (h : ds.length = n) : defR n m G ds = runB m G ds := if_pos h
theorem liftO_if {α : Type} {c : Prop} [Decidable c] {a b : R α} {env : En} {k : α → Out} : liftO (if c then a else b) env k = if c then liftO a env k else liftO b env k := by split <;> rfl
/-- a loop of which no turn leaves a trace -/
theorem forO_same {T : D → En → R En} {ds : List D} (h : ∀ d ∈ ds, ∃ e1, T d e = .ok e1 ∧ (G e1 = .nx e ∨ G e1 = .ct e)) : forO T G ds e = .nx e := by
  induction ds with
  | nil => rfl
  | cons d ds ih =>
    obtain ⟨e1, h1, h2⟩ := h d List.mem_cons_self
    have := ih fun d hd => h d (List.mem_cons_of_mem _ hd)
    unfold forO
    rcases h2 with h2 | h2 <;> simp only [h1, h2, this]
/-- a loop of which each turn makes a step -/
theorem forO_fold {α : Type} {T : D → En → R En} {f : α → D} {inv : List α → En} (xs : List α) (done : List α) (h : ∀ a pre rest, xs = pre ++ a :: rest → ∃ e1, T (f a) (inv (done ++ pre)) = .ok e1 ∧ (G e1 = .nx (inv (done ++ pre ++ [a])) ∨ G e1 = .ct (inv (done ++ pre ++ [a])))) :
    forO T G (xs.map f) (inv done) = .nx (inv (done ++ xs)) := by
  induction xs generalizing done with
  | nil => simp
  | cons a xs ih =>
    obtain ⟨e1, h1, h2⟩ := h a [] xs rfl
    rw [List.append_nil] at h1 h2
    have := ih (done ++ [a]) fun b pre rest e => by
      obtain ⟨e2, h3, h4⟩ := h b (a :: pre) rest (by rw [e]; rfl)
      refine ⟨e2, ?_, ?_⟩
      · simpa using h3
      · simpa using h4
    rw [List.map_cons]
    unfold forO
    rcases h2 with h2 | h2
    · simp only [h1, h2, this]; simp
    · simp only [h1, h2, this]; simp
/-- a comprehension over what is known -/
theorem compO_map {α : Type} {T : D → En → R En} {C : En → R Bool} {F : En → R D} {f : α → D} {p : α → Bool} {g : α → D} : ∀ (xs : List α), (∀ a ∈ xs, ∃ e1, T (f a) e = .ok e1 ∧ C e1 = .ok (p a) ∧ (p a = true → F e1 = .ok (g a))) →
    compO T C F e (xs.map f) = .ok ((xs.filter p).map g)
  | [], _ => rfl
  | a :: xs, h => by
    obtain ⟨e1, h1, h2, h3⟩ := h a List.mem_cons_self
    have ih := compO_map (p := p) (g := g) xs fun a ha => h a (List.mem_cons_of_mem _ ha)
    rw [List.map_cons]
    unfold compO
    rw [List.filter_cons]
    cases hp : p a with
    | true => rw [hp] at h2; simp only [h1, h2, h3 hp, ih, if_true, R.ok_bind, List.map_cons]
    | false => rw [hp] at h2; simp only [h1, h2, ih, Bool.false_eq_true, if_false]
end

/-! ### == -/
theorem eqDs_map {α : Type} {f : α → D} [DecidableEq α] (h : ∀ a b, eqD (f a) (f b) = decide (a = b)) : ∀ xs ys : List α, eqDs (xs.map f) (ys.map f) = decide (xs = ys)
  | [], [] => by simp [eqDs]
  | [], y :: ys => by simp [eqDs]
  | x :: xs, [] => by simp [eqDs]
  | x :: xs, y :: ys => by
    rw [List.map_cons, List.map_cons, eqDs, h, eqDs_map h xs ys]
    by_cases e : x = y <;> simp [e]
/-- how deep -/
theorem dle_all {n : Nat} {α : Type} {f : α → D} (h : ∀ a, dle n (f a) = true) (xs : List α) : (xs.map f).all (dle n) = true := by
  rw [List.all_map, List.all_eq_true]
  exact fun a _ => h a
end Dx
namespace Dx
open PySem
section
variable {env : En} {A B C : En → R D} {x y : D} {n : Nat} {As : En → R (List (L2.Key × D))}
@[simp] theorem kNil_ap : kNil env = .ok [] := (rfl)
@[simp] theorem sSetK_ap : sSetK n As env = liftO (As env) env fun d => .nx (env.set n (.od d)) := (rfl)
@[simp] theorem eOfK_ap : eOfK As env = (As env >>= fun xs => .ok (.dic xs)) := (rfl)
@[simp] theorem eGet_ap : eGet A B env = (A env >>= dictyR >>= fun d => B env >>= fun y => getR d y) := (rfl)
@[simp] theorem eGet2_ap : eGet2 A B C env = (A env >>= dictyR >>= fun d => B env >>= fun y => C env >>= fun z => get2R d y z) := (rfl)
@[simp] theorem sPut_ap : sPut n A B env = (match env[n]? with | some (.od _) => liftO (B env) env fun v => liftO (A env) env fun y => putO n y v env | _ => .bad) := (rfl)
@[simp] theorem dictyR_dic {kvs : List (L2.Key × D)} : dictyR (.dic kvs) = .ok (.dic kvs) := (rfl)
@[simp] theorem getR_str {kvs : List (L2.Key × D)} {z : Str} : getR (.dic kvs) (.str z) = .ok ((valD kvs (.inr z)).getD .non) := (rfl)
@[simp] theorem isNotR_non : isNotR x .non = .ok (.bl (!isN x)) := (rfl)
@[simp] theorem isR_non : isR x .non = .ok (.bl (isN x)) := (rfl)
end
end Dx

/-! What the defs of scenes compute, over typed scenes. -/
namespace Fo
open PySem Dx Dn
def Box.D (b : Box) : D := .tup [.str b.nm, .str b.ar, .int b.l, .int b.t, .int b.w, .int b.h, .str b.ms]
def scD (S : List Box) : D := .tup (S.map Box.D)
def sL (xs : List Str) : D := .lst (xs.map D.str)
theorem eq_str (a b : Str) : eqR (.str a) (.str b) = .ok (.bl (decide (a = b))) := by
  have : (a == b) = decide (a = b) := by by_cases e : a = b <;> simp [e]
  unfold eqR; simp [dle, eqD, this]
theorem ne_str (a b : Str) : neR (.str a) (.str b) = .ok (.bl (!decide (a = b))) := by
  have : (a == b) = decide (a = b) := by by_cases e : a = b <;> simp [e]
  unfold neR; simp [dle, eqD, this]
theorem eqD_str (a b : Str) : eqD (.str a) (.str b) = decide (a = b) := by
  have : (a == b) = decide (a = b) := by by_cases e : a = b <;> simp [e]
  simp [eqD, this]
theorem dle_strs (xs : List Str) : dle 64 (sL xs) = true := by
  unfold sL dle
  exact dle_all (fun _ => rfl) xs
theorem eq_strs (xs ys : List Str) : eqR (sL xs) (sL ys) = .ok (.bl (decide (xs = ys))) := by
  have h : eqD (sL xs) (sL ys) = decide (xs = ys) := by unfold sL; rw [eqD]; exact eqDs_map eqD_str xs ys
  have e : eqR (sL xs) (sL ys) = if dle 64 (sL xs) && dle 64 (sL ys) then .ok (.bl (eqD (sL xs) (sL ys))) else .bad := rfl
  rw [e, dle_strs, dle_strs, h]; rfl
theorem ne_strs (xs ys : List Str) : neR (sL xs) (sL ys) = .ok (.bl (!decide (xs = ys))) := by
  have h : eqD (sL xs) (sL ys) = decide (xs = ys) := by unfold sL; rw [eqD]; exact eqDs_map eqD_str xs ys
  have e : neR (sL xs) (sL ys) = if dle 64 (sL xs) && dle 64 (sL ys) then .ok (.bl (!eqD (sL xs) (sL ys))) else .bad := rfl
  rw [e, dle_strs, dle_strs, h]; rfl
theorem in_strs (n : Str) (xs : List Str) : inR (.str n) (sL xs) = .ok (.bl (decide (n ∈ xs))) := by
  have e : inR (.str n) (sL xs) = if dle 64 (.str n) && dle 64 (sL xs) then .ok (.bl ((xs.map D.str).any fun z => eqD z (.str n))) else .bad := by
    unfold inR inB sL; simp only; split <;> rfl
  rw [e, dle_strs]
  have : ((xs.map D.str).any fun z => eqD z (.str n)) = decide (n ∈ xs) := by
    clear e
    rw [List.any_map]
    induction xs with
    | nil => simp
    | cons x xs ih =>
      rw [List.any_cons, ih]
      simp only [Function.comp, eqD_str, List.mem_cons]
      by_cases e : x = n
      · simp [e]
      · have e' : ¬ n = x := fun z => e z.symm
        simp [e, e']
  rw [this]; rfl
theorem notIn_strs (n : Str) (xs : List Str) : notInR (.str n) (sL xs) = .ok (.bl (!decide (n ∈ xs))) := by
  have h := in_strs n xs
  unfold inR at h
  unfold notInR
  cases e : inB (.str n) (sL xs) with
  | ok k => rw [e] at h; simp at h; simp [h]
  | exc x => rw [e] at h; cases h
  | bad => rw [e] at h; cases h
section
variable {b : Box}
@[simp] theorem ix_0 : ixR b.D (.int 0) = .ok (.str b.nm) := (rfl)
@[simp] theorem ix_1 : ixR b.D (.int 1) = .ok (.str b.ar) := (rfl)
@[simp] theorem ix_2 : ixR b.D (.int 2) = .ok (.int b.l) := (rfl)
@[simp] theorem ix_3 : ixR b.D (.int 3) = .ok (.int b.t) := (rfl)
@[simp] theorem ix_4 : ixR b.D (.int 4) = .ok (.int b.w) := (rfl)
@[simp] theorem ix_5 : ixR b.D (.int 5) = .ok (.int b.h) := (rfl)
@[simp] theorem ix_6 : ixR b.D (.int 6) = .ok (.str b.ms) := (rfl)
end
theorem m_box_of (S : List Box) (n : Str) : den_box_of [scD S, .str n] = match findB S n with | some b => .ok b.D | none => .exc "NoBox" := by
  have key : ∀ T : List Box, ∀ x, forO (nameT 2) (sEnd [2] (sIf (tBin eqR (eBin ixR (getD' 2) (eC (.int 0))) (getD' 1)) (sRet (getD' 2)) sNil)) (T.map Box.D) [.d x, .d (.str n), .u] =
      match findB T n with | some b => .rt b.D [.d x, .d (.str n), .d b.D] | none => .nx [.d x, .d (.str n), .u] := by
    intro T x
    induction T with
    | nil => rfl
    | cons b T ih =>
      rw [List.map_cons]
      unfold forO
      unfold findB at ih ⊢
      rw [List.find?_cons]
      by_cases e : b.nm = n
      · simp [eq_str, e, decide_true]
      · simp [eq_str, e, ih]
  show runB 1 g_box_of [scD S, .str n] = _
  unfold runB
  have k := key S (scD S)
  unfold g_box_of
  simp only [List.map_cons, List.map_nil, List.replicate, List.cons_append, List.nil_append, sSeq_ap, sFor_ap, eUn_ap, getD_0, R.ok_bind, scD, itemsR_tup, liftO_ok]
  unfold scD at k
  rw [k]
  cases findB S n <;> rfl
theorem m_children (S : List Box) (n : Str) : den_children [scD S, .str n] = .ok (sL (children S n)) := by
  show runB 1 g_children [scD S, .str n] = _
  unfold runB g_children
  have k := compO_map (T := nameT 2) (C := tBin eqR (eBin ixR (getD' 2) (eC (.int 1))) (getD' 1)) (F := eBin ixR (getD' 2) (eC (.int 0))) (e := [.d (scD S), .d (.str n), .u]) (f := Box.D) (p := fun b => decide (b.ar = n)) (g := fun b => D.str b.nm) S fun b _ =>
    ⟨[.d (scD S), .d (.str n), .d b.D], by simp, by simp [eq_str], fun _ => by simp⟩
  simp [scD] at k
  simp [scD, k, sL, children, List.map_map, Function.comp_def]
end Fo

/-! What the defs of scenes compute: paths, what is painted, what is below, areas. -/
namespace Fo
open PySem Dx Dn
theorem sz (n : Nat) (h : n ≤ 16777216) : n ≤ sizeLine := by rw [sizeLine_eq]; exact h
theorem find_mem {S : List Box} {n : Str} {b : Box} (h : findB S n = some b) : b ∈ S ∧ b.nm = n := by
  unfold findB at h
  exact ⟨List.mem_of_find?_eq_some h, of_decide_eq_true (by simpa using List.find?_some h)⟩
theorem find_of {S : List Box} {b : Box} (w : wf [] S) (hb : b ∈ S) : findB S b.nm = some b := by
  obtain ⟨S1, S2, rfl⟩ := List.append_of_mem hb
  have n1 := (wf_split w).2.2.1
  unfold findB
  rw [List.find?_append, List.find?_cons]
  have : S1.find? (fun c => decide (c.nm = b.nm)) = none := by
    rw [List.find?_eq_none]
    intro c hc z
    exact n1 (mem_names.mpr ⟨c, hc, of_decide_eq_true z⟩)
  rw [this]
  simp
theorem find_some {S : List Box} {n : Str} (w : wf [] S) (hn : n ∈ names S) : ∃ b, findB S n = some b ∧ b ∈ S ∧ b.nm = n := by
  obtain ⟨b, hb, e⟩ := mem_names.mp hn
  subst e
  exact ⟨b, find_of w hb, hb, rfl⟩
theorem find_none {S : List Box} {n : Str} (hn : n ∉ names S) : findB S n = none := by
  unfold findB
  rw [List.find?_eq_none]
  intro c hc z
  exact hn (mem_names.mpr ⟨c, hc, of_decide_eq_true z⟩)
theorem ix_hd (x : D) (xs : List D) : ixR (.lst (x :: xs)) (.int 0) = .ok x := by
  unfold ixR
  have : L2.atI (x :: xs) 0 = some x := by
    unfold L2.atI L2.ixN
    simp
  simp [this]
theorem sL_cons (x : Str) (xs : List Str) : sL (x :: xs) = .lst (.str x :: xs.map D.str) := rfl
theorem sL_nil : sL [] = .lst [] := rfl
theorem ar_names {S : List Box} {b : Box} (w : wf [] S) (hb : b ∈ S) (h0 : b.ar ≠ "") : b.ar ∈ names S := by
  obtain ⟨S1, S2, rfl⟩ := List.append_of_mem hb
  rcases (wf_split w).2.2.2 with z | z
  · exact absurd z h0
  · rw [names_append]; exact List.mem_append_left _ z
theorem path_while {S : List Box} (w : wf [] S) (x : D) : ∀ (m : Nat) (h : Str) (f : List Str), h ∈ names S → (path S h).length < m → (path S h).length + f.length ≤ 1000 →
    whileO (tBin neR (eBin ixR (eUn den_box_of (aCons (getD' 0) (aCons (eBin ixR (getD' 2) (eC (.int 0))) aNil))) (eC (.int 1))) (eC (.str "")))
  (sSet 2 (eBin addR (eOfF (eUn lstR (aCons (eBin ixR (eUn den_box_of (aCons (getD' 0) (aCons (eBin ixR (getD' 2) (eC (.int 0))) aNil))) (eC (.int 1))) aNil))) (getD' 2))) m [.d (scD S), .d x, .d (sL (h :: f))] = .nx [.d (scD S), .d x, .d (sL (path S h ++ f))]
  | 0, _, _, _, hm, _ => absurd hm (Nat.not_lt_zero _)
  | m + 1, h, f, hn, hm, hz => by
    obtain ⟨b, e, hb, rfl⟩ := find_some w hn
    have hp := path_step w hb
    have bo := m_box_of S b.nm
    rw [e] at bo
    simp only at bo
    unfold whileO
    by_cases ea : b.ar = ""
    · rw [ea, path_empty w] at hp
      rw [hp]
      simp [sL_cons, ix_hd, bo, ne_str, ea]
    · have ha := ar_names w hb ea
      rw [hp] at hm hz
      simp at hm hz
      have ih := path_while w x m b.ar (b.nm :: f) ha (by omega) (by simp; omega)
      have z1 : 1 + (f.length + 1) ≤ 16777216 := by omega
      rw [hp]
      rw [sL_cons, List.map_cons] at ih
      simp [sL_cons, ix_hd, bo, ne_str, ea, lstR, sizeLine_eq, addR, z1, ih]
theorem m_path_of {S : List Box} (w : wf [] S) (hs : S.length ≤ 100) {n : Str} (hn : n ∈ names S) : den_path_of [scD S, .str n] = .ok (sL (path S n)) := by
  obtain ⟨b, e, hb, rfl⟩ := find_some w hn
  have bo := m_box_of S b.nm
  rw [e] at bo
  simp only at bo
  have hl := path_len (S := S) (n := b.nm)
  have wh := path_while w (.str b.nm) 4096 b.nm [] hn (by omega) (by simp; omega)
  have z2 : 1 ≤ sizeLine := sz _ (by omega)
  show runB 1 g_path_of [scD S, .str b.nm] = _
  unfold runB g_path_of
  rw [sL_cons, List.append_nil] at wh
  simp only [List.map_cons, List.map_nil, List.replicate, List.cons_append, List.nil_append, sSeq_ap, sSet_ap, eOfF_ap, eUn_ap, aCons_ap, aNil_ap, eBin_ap, getD_0, getD_s, R.ok_bind, bo, eC_ap, ix_0, lstR, List.length_singleton, z2, if_true, liftO_ok, List.set_cons_succ, List.set_cons_zero, seqO_nx, sWhile_ap]
  rw [List.map_nil] at wh
  rw [wh]
  simp
theorem m_path_none (S : List Box) {n : Str} (hn : n ∉ names S) : den_path_of [scD S, .str n] = .exc "NoBox" := by
  have bo := m_box_of S n
  rw [find_none hn] at bo
  show runB 1 g_path_of [scD S, .str n] = _
  unfold runB g_path_of
  simp [bo]

/-! ### painted -/
theorem painted_while {S : List Box} (w : wf [] S) (hs : S.length ≤ 100) : ∀ (m : Nat) (L F : List Str), (L.flatMap (blk S)).length < m → F.length + (L.flatMap (blk S)).length ≤ 1000 → 
    whileO (tBin neR (getV 1) (eOfF (eUn lstR aNil)))
  (sEnd [3] (sSeq (sPop 1 (nameT 3))
  (sSeq (sMeth 2 (getD' 3) appO)
  (sMeth 1 (eOfF (eUn revF (eUn den_children (aCons (getD' 0) (aCons (getD' 3) aNil))))) extO)))) m [.d (scD S), .ol (L.reverse.map D.str), .ol (F.map D.str), .u] =
    .nx [.d (scD S), .ol [], .ol ((F ++ L.flatMap (blk S)).map D.str), .u]
  | 0, _, _, h, _ => absurd h (Nat.not_lt_zero _)
  | m + 1, [], F, h, hz => by
    unfold whileO
    have e := ne_strs [] []
    rw [sL_nil] at e
    simp [lstR, e]
  | m + 1, c :: L, F, h, hz => by
    have fl : (c :: L).flatMap (blk S) = c :: (children S c ++ L).flatMap (blk S) := by
      rw [List.flatMap_cons, List.flatMap_append, ← kids_flat w c]
      rfl
    rw [fl] at h hz ⊢
    simp at h hz
    have ih := painted_while w hs m (children S c ++ L) (F ++ [c]) (by rw [List.flatMap_append, List.length_append]; simp; omega) (by rw [List.flatMap_append, List.length_append]; simp; omega)
    have e := ne_strs (c :: L).reverse []
    have ne : ¬ (c :: L).reverse = [] := by simp
    rw [sL_nil] at e
    unfold sL at e
    have lc : (children S c).length ≤ S.length := by unfold children; rw [List.length_map]; exact List.length_filter_le ..
    have lb : ∀ l : List Str, l.length ≤ (l.flatMap (blk S)).length := by
      intro l
      induction l with
      | nil => exact Nat.le_refl _
      | cons x l ih => rw [List.flatMap_cons, List.length_append, List.length_cons]; unfold blk at ih ⊢; rw [List.length_cons]; omega
    have l2 := lb L
    have l3 : (List.flatMap (blk S) L).length = (List.map (fun a => (blk S a).length) L).sum := by simp
    have l4 : (List.flatMap (blk S) (children S c)).length = (List.map (fun a => (blk S a).length) (children S c)).sum := by simp
    have z1 : F.length < sizeLine := by rw [sizeLine_eq]; omega
    have z2 : L.length + (children S c).length ≤ sizeLine := sz _ (by omega)
    have gl : ((c :: L).reverse.map D.str).getLast? = some (.str c) := by simp
    have dl : ((c :: L).reverse.map D.str).dropLast = L.reverse.map D.str := by simp
    have rv : L.reverse.map D.str ++ ((children S c).map D.str).reverse = (children S c ++ L).reverse.map D.str := by simp [List.map_reverse]
    unfold whileO
    simp only [tBin_ap, getV_1, getV_s, eOfF_ap, eUn_ap, aNil_ap, R.ok_bind, lstR, List.length_nil, Nat.zero_le, if_true, e, ne, decide_false, Bool.not_false, boolR_bl, liftO_ok, sEnd_ap, sSeq_ap, sPop_ap, popO, List.getElem?_cons_succ, List.getElem?_cons_zero, gl, dl, tgO, nameT_ap, List.set_cons_succ, List.set_cons_zero, seqO_nx,
      sMeth_ap, getD_s, getD_0, appO, List.length_map, z1, aCons_ap, m_children, sL, revF_lst, extO, List.length_reverse, z2, rv, endK_nx, killS_cons, killS_nil]
    have mp : F.map D.str ++ [D.str c] = (F ++ [c]).map D.str := by simp
    rw [mp, ih]
    simp
theorem m_painted {S : List Box} (w : wf [] S) (hs : S.length ≤ 100) : den_painted [scD S] = .ok (sL (kids S "")) := by
  have hk := (painted_perm w).length_eq
  rw [names_length] at hk
  have wh := painted_while w hs 4096 (children S "") [] (by rw [← kids_flat w]; omega) (by rw [← kids_flat w]; simp; omega)
  rw [← kids_flat w] at wh
  show runB 3 g_painted [scD S] = _
  unfold runB g_painted
  have rv : ((children S "").map D.str).reverse = (children S "").reverse.map D.str := by simp
  simp only [List.map_cons, List.map_nil, List.replicate, List.cons_append, List.nil_append, sSeq_ap, sSetF_ap, eUn_ap, aCons_ap, aNil_ap, getD_0, R.ok_bind, eC_ap, m_children, sL, revF_lst, rv, liftO_ok, List.set_cons_succ, List.set_cons_zero, seqO_nx, lstR, List.length_nil, Nat.zero_le, if_true, sWhile_ap]
  rw [List.map_nil] at wh
  rw [wh]
  simp [frz, Slot.fz]

/-! ### below, area_of -/
theorem m_below {S : List Box} (w : wf [] S) (hs : S.length ≤ 100) {n : Str} (hn : n ∈ names S) : den_below [scD S, .str n] = .ok (sL (blk S n)) := by
  obtain ⟨b, e, hb, e2⟩ := find_some w hn
  have bo := m_box_of S n
  rw [e] at bo
  simp only at bo
  have k := compO_map (T := nameT 2) (C := tBin inR (getD' 1) (eUn den_path_of (aCons (getD' 0) (aCons (getD' 2) aNil)))) (F := getD' 2) (e := [.d (scD S), .d (.str n), .u]) (f := D.str) (p := fun m => decide (n ∈ path S m)) (g := D.str) (kids S "") fun m hm =>
    ⟨[.d (scD S), .d (.str n), .d (.str m)], by simp, by simp [m_path_of w hs ((painted_all w m).mp hm), in_strs], fun _ => by simp⟩
  rw [below_eq w hn] at k
  show runB 1 g_below [scD S, .str n] = _
  unfold runB g_below
  simp [bo, m_painted w hs, sL, k]
theorem m_below_none (S : List Box) {n : Str} (hn : n ∉ names S) : den_below [scD S, .str n] = .exc "NoBox" := by
  have bo := m_box_of S n
  rw [find_none hn] at bo
  show runB 1 g_below [scD S, .str n] = _
  unfold runB g_below
  simp [bo]
/-- where a name's box stands -/
def offs (S : List Box) : List Str → Int × Int
  | [] => (0, 0)
  | n :: ns => match findB S n with
    | some b => (b.l + (offs S ns).1, b.t + (offs S ns).2)
    | none => offs S ns
theorem offs_cons (S : List Box) (n : Str) (ns : List Str) : offs S (n :: ns) = match findB S n with
    | some b => (b.l + (offs S ns).1, b.t + (offs S ns).2)
    | none => offs S ns := rfl
theorem offs_append (S : List Box) (xs ys : List Str) : offs S (xs ++ ys) = ((offs S xs).1 + (offs S ys).1, (offs S xs).2 + (offs S ys).2) := by
  induction xs with
  | nil => simp [offs]
  | cons x xs ih =>
    rw [List.cons_append, offs_cons, offs_cons]
    cases findB S x with
    | some b => simp [ih]; omega
    | none => simp [ih]
def areaT (l t w h : Int) : D := .tup [.int l, .int t, .int (l + w), .int (t + h)]
def areaD (S : List Box) (b : Box) : D := areaT (offs S (path S b.nm)).1 (offs S (path S b.nm)).2 b.w b.h
theorem area_for {S : List Box} (x : D) : ∀ (ns : List Str) (l t : Int), (∀ n ∈ ns, n ∈ names S) → wf [] S →
    forO (nameT 4) (sEnd [4, 5] (sSeq (sSet 5 (eUn den_box_of (aCons (getD' 0) (aCons (getD' 4) aNil))))
  (sSeq (sSet 2 (eBin addR (getD' 2) (eBin ixR (getD' 5) (eC (.int 2)))))
  (sSet 3 (eBin addR (getD' 3) (eBin ixR (getD' 5) (eC (.int 3)))))))) (ns.map D.str) [.d (scD S), .d x, .d (.int l), .d (.int t), .u, .u] =
    .nx [.d (scD S), .d x, .d (.int (l + (offs S ns).1)), .d (.int (t + (offs S ns).2)), .u, .u]
  | [], l, t, _, w => by simp [offs]
  | n :: ns, l, t, h, w => by
    obtain ⟨b, e, hb, rfl⟩ := find_some w (h n List.mem_cons_self)
    have bo := m_box_of S b.nm
    rw [e] at bo
    simp only at bo
    have ih := area_for x ns (l + b.l) (t + b.t) (fun m hm => h m (List.mem_cons_of_mem _ hm)) w
    rw [List.map_cons]
    unfold forO
    simp [bo, ih, offs, e, Int.add_assoc]
theorem m_area_of {S : List Box} (w : wf [] S) (hs : S.length ≤ 100) {b : Box} (hb : b ∈ S) : den_area_of [scD S, .str b.nm] = .ok (areaD S b) := by
  have e := find_of w hb
  have bo := m_box_of S b.nm
  rw [e] at bo
  simp only at bo
  have hn : b.nm ∈ names S := mem_names.mpr ⟨b, hb, rfl⟩
  have fo := area_for (.str b.nm) (path S b.nm) 0 0 (fun m hm => path_names w hm) w
  have z : 4 ≤ sizeLine := sz _ (by omega)
  show runB 4 g_area_of [scD S, .str b.nm] = _
  unfold runB g_area_of
  rw [Int.zero_add, Int.zero_add] at fo
  simp [m_path_of w hs hn, sL, fo, bo, tupR, z, areaD, areaT]
theorem area_step {S : List Box} (w : wf [] S) {b : Box} (hb : b ∈ S) : offs S (path S b.nm) = ((offs S (path S b.ar)).1 + b.l, (offs S (path S b.ar)).2 + b.t) := by
  rw [path_step w hb, offs_append]
  simp [offs, find_of w hb]
end Fo

/-! What is drawn from a script; the scene that is drawn. -/
namespace Fo
open PySem Dx Dn
theorem atI_nat {α : Type} (xs : List α) (i : Nat) : L2.atI xs (i : Int) = xs[i]? := by
  unfold L2.atI L2.ixN
  rw [if_pos (by omega)]
  by_cases h : i < xs.length
  · rw [if_pos (by omega)]; simp
  · rw [if_neg (by omega)]
    simp
    omega
theorem m_cell (ns : List Int) (k : Int) (h : ns.length ≤ 63) : ∃ v, den__law_cell [.frz ns, .int k] = .ok (.int v) := by
  show ∃ v, runB 0 g__law_cell [.frz ns, .int k] = _
  unfold runB g__law_cell
  cases ns with
  | nil =>
    refine ⟨7 * k, ?_⟩
    have e : eqR (.frz []) (.lst []) = .ok (.bl true) := rfl
    simp [lstR, e, mulR]
  | cons n ns =>
    have e : eqR (.frz (n :: ns)) (.lst []) = .ok (.bl false) := rfl
    have l : lenR [.frz (n :: ns)] = .ok (.int ((ns.length : Int) + 1)) := by simp [lenR]
    have z : (0 : Int) < (ns.length : Int) + 1 := by omega
    have z2 : (ns.length : Int) + 1 < 1073741824 := by simp at h; omega
    have hm0 : 0 ≤ k % ((ns.length : Int) + 1) := Int.emod_nonneg _ (by omega)
    have hm1 : k % ((ns.length : Int) + 1) < (ns.length : Int) + 1 := Int.emod_lt_of_pos _ z
    obtain ⟨j, hj⟩ := Int.eq_ofNat_of_zero_le hm0
    have hj1 : j < (n :: ns).length := by simp; omega
    have ix : ixR (.frz (n :: ns)) (.int (k % ((ns.length : Int) + 1))) = .ok (.int (n :: ns)[j]) := by
      unfold ixR
      rw [hj]
      show (match L2.atI (n :: ns) (j : Int) with | some n => R.ok (D.int n) | none => R.bad) = _
      rw [atI_nat, List.getElem?_eq_getElem hj1]
    refine ⟨(n :: ns)[j] + 6553 * (k / ((ns.length : Int) + 1)), ?_⟩
    simp [lstR, e, l, modR, z, ix, divR, z2, mulR]
theorem m_drawn (ns : List Int) (k : Int) (many : Int) (h : ns.length ≤ 63) (hm : 0 < many) : ∃ v, den__law_drawn [.frz ns, .int k, .int many] = .ok (.int v) ∧ 0 ≤ v ∧ v < many := by
  obtain ⟨c, hc⟩ := m_cell ns k h
  show ∃ v, runB 1 g__law_drawn [.frz ns, .int k, .int many] = _ ∧ _
  unfold runB g__law_drawn
  have b1 : ∀ x : Int, 0 ≤ x % 2147483563 ∧ x % 2147483563 < 2147483563 := fun x => ⟨Int.emod_nonneg _ (by omega), Int.emod_lt_of_pos _ (by omega)⟩
  have b2 : ∀ x : Int, 0 ≤ x % 2147483399 ∧ x % 2147483399 < 2147483399 := fun x => ⟨Int.emod_nonneg _ (by omega), Int.emod_lt_of_pos _ (by omega)⟩
  generalize hx : (c % 2147483563 * 69069 + 104723 * (k + 1)) % 2147483563 = x
  have hx1 : 0 ≤ x ∧ x < 2147483563 := hx ▸ b1 _
  generalize hy : (x * x + x / 3) % 2147483399 = y
  have hy1 : 0 ≤ y ∧ y < 2147483399 := hy ▸ b2 _
  refine ⟨(y * y + y / 7) % 2147483647 / 11 % many, ?_, Int.emod_nonneg _ (by omega), Int.emod_lt_of_pos _ hm⟩
  have m1 : (-18446744073709551616 < x ∧ x < 18446744073709551616) := by omega
  have m2 : (-18446744073709551616 < y ∧ y < 18446744073709551616) := by omega
  simp [hc, modR, mulR, hx, divR, m1, hy, m2, hm]
def drawn (ns : List Int) (k many : Int) : Int := match den__law_drawn [.frz ns, .int k, .int many] with
  | .ok (.int v) => v
  | _ => 0
theorem drawn_ok {ns : List Int} (h : ns.length ≤ 63) (k : Int) {many : Int} (hm : 0 < many) : den__law_drawn [.frz ns, .int k, .int many] = .ok (.int (drawn ns k many)) := by
  obtain ⟨v, e, _⟩ := m_drawn ns k many h hm
  unfold drawn
  rw [e]
theorem drawn_in {ns : List Int} (h : ns.length ≤ 63) (k : Int) {many : Int} (hm : 0 < many) : 0 ≤ drawn ns k many ∧ drawn ns k many < many := by
  obtain ⟨v, e, q⟩ := m_drawn ns k many h hm
  unfold drawn
  rw [e]
  exact q

/-! ### the scene -/
def let8 : List Nat := [100, 98, 103, 97, 104, 99, 102, 101]
def letter (i : Nat) : Str := ⟨#[let8.getD (i % 8) 0]⟩
def marks4 : List (Nat × Nat) := [(0, 99), (1, 102), (2, 104), (3, 108)]
def odd4 : Nat → Int
  | 0 => 4
  | 1 => 2
  | 2 => 9
  | 3 => 6
  | _ => 1
def markOn (ns : List Int) (here : Int) (p : Nat × Nat) : Bool := decide (drawn ns (here + 5 + (p.1 : Int)) (odd4 p.1) = 0)
def mkBox (ns : List Int) (at_ : Int) (k : Nat) (S : List Box) : Box :=
  let here := at_ + 3 + 9 * (k : Int)
  { nm := letter (k + (drawn ns (at_ + 1) 8).toNat), ar := (("" : Str) :: names S).getD (drawn ns here ((k : Int) + 1)).toNat "",
    l := drawn ns (here + 1) 9 - 3, t := drawn ns (here + 1 + 1) 9 - 3, w := drawn ns (here + 3) 9, h := drawn ns (here + 3 + 1) 9,
    ms := ⟨((marks4.filter (markOn ns here)).map (·.2)).toArray⟩ }
def mkSc (ns : List Int) (at_ : Int) : Nat → List Box
  | 0 => []
  | k + 1 => mkSc ns at_ k ++ [mkBox ns at_ k (mkSc ns at_ k)]
def scene (ns : List Int) (at_ : Int) : List Box := mkSc ns at_ (drawn ns at_ 8).toNat
theorem mkSc_len (ns : List Int) (at_ : Int) : ∀ k, (mkSc ns at_ k).length = k
  | 0 => rfl
  | k + 1 => by simp [mkSc, mkSc_len ns at_ k]
theorem mkSc_names (ns : List Int) (at_ : Int) : ∀ k, names (mkSc ns at_ k) = (List.range k).map fun i => letter (i + (drawn ns (at_ + 1) 8).toNat)
  | 0 => rfl
  | k + 1 => by rw [mkSc, names_append, mkSc_names ns at_ k, List.range_succ, List.map_append]; rfl
theorem let8_inj : ∀ i < 8, ∀ j < 8, let8.getD i 0 = let8.getD j 0 → i = j := by decide
theorem letter_inj {i j t : Nat} (hi : i < 8) (hj : j < 8) (e : letter (i + t) = letter (j + t)) : i = j := by
  unfold letter at e
  have e : let8.getD ((i + t) % 8) 0 = let8.getD ((j + t) % 8) 0 := by
    have := congrArg (fun s : Str => s.cps.toList) e
    simpa using this
  have := let8_inj _ (Nat.mod_lt _ (by omega)) _ (Nat.mod_lt _ (by omega)) e
  omega
theorem letter_ne (i : Nat) : letter i ≠ "" := by
  intro e
  have := congrArg (fun s : Str => s.cps.toList.length) e
  simp [letter] at this
  revert this
  decide
theorem mkSc_wf {ns : List Int} (h : ns.length ≤ 63) (at_ : Int) : ∀ k, k ≤ 8 → wf [] (mkSc ns at_ k)
  | 0, _ => trivial
  | k + 1, hk => by
    rw [mkSc, wf_snoc]
    refine ⟨mkSc_wf h at_ k (by omega), letter_ne _, fun z => ?_, ?_⟩
    · rw [mkSc_names, List.mem_map] at z
      obtain ⟨i, hi, e⟩ := z
      rw [List.mem_range] at hi
      have := letter_inj (by omega) (by omega) (show letter (i + _) = letter (k + _) from e)
      omega
    · have d := drawn_in h (at_ + 3 + 9 * (k : Int)) (many := (k : Int) + 1) (by omega)
      have hl : (drawn ns (at_ + 3 + 9 * (k : Int)) ((k : Int) + 1)).toNat < (("" : Str) :: names (mkSc ns at_ k)).length := by
        rw [List.length_cons, names_length, mkSc_len]; omega
      have : (mkBox ns at_ k (mkSc ns at_ k)).ar ∈ (("" : Str) :: names (mkSc ns at_ k)) := by
        show List.getD _ _ _ ∈ _
        rw [List.getD_eq_getElem?_getD, List.getElem?_eq_getElem hl]
        exact List.getElem_mem _
      exact List.mem_cons.mp this
theorem scene_wf {ns : List Int} (h : ns.length ≤ 63) (at_ : Int) : wf [] (scene ns at_) := mkSc_wf h at_ _ (by have := drawn_in h at_ (many := 8) (by omega); omega)
theorem scene_len {ns : List Int} (h : ns.length ≤ 63) (at_ : Int) : (scene ns at_).length ≤ 7 := by
  unfold scene
  rw [mkSc_len]
  have := drawn_in h at_ (many := 8) (by omega)
  omega
theorem ix_sL {xs : List Str} {i : Int} (h0 : 0 ≤ i) (h1 : i < xs.length) (x : Str) : ixR (sL xs) (.int i) = .ok (.str (xs.getD i.toNat x)) := by
  obtain ⟨j, rfl⟩ := Int.eq_ofNat_of_zero_le h0
  unfold ixR sL
  simp only
  rw [atI_nat]
  have hj : j < xs.length := by omega
  rw [List.getElem?_map, List.getElem?_eq_getElem hj]
  simp [hj]
theorem lstR_s {xs : List D} (h : xs.length ≤ 1000) : lstR xs = .ok xs := if_pos (sz _ (by omega))
theorem tupR_s {xs : List D} (h : xs.length ≤ 1000) : tupR xs = .ok (.tup xs) := if_pos (sz _ (by omega))
theorem addR_t {xs ys : List D} (h : xs.length + ys.length ≤ 1000) : addR (.tup xs) (.tup ys) = .ok (.tup (xs ++ ys)) := if_pos (sz _ (by omega))
theorem addR_l {xs ys : List D} (h : xs.length + ys.length ≤ 1000) : addR (.lst xs) (.lst ys) = .ok (.lst (xs ++ ys)) := if_pos (sz _ (by omega))
theorem compO_all {α : Type} {T : D → En → R En} {C : En → R Bool} {F : En → R D} {f : α → D} {g : α → D} {e : En} : ∀ (xs : List α), (∀ a ∈ xs, ∃ e1, T (f a) e = .ok e1 ∧ C e1 = .ok true ∧ F e1 = .ok (g a)) →
    compO T C F e (xs.map f) = .ok (xs.map g)
  | [], _ => rfl
  | a :: xs, h => by
    obtain ⟨e1, h1, h2, h3⟩ := h a List.mem_cons_self
    have ih := compO_all xs fun a ha => h a (List.mem_cons_of_mem _ ha)
    rw [List.map_cons]
    unfold compO
    simp only [h1, h2, h3, ih, R.ok_bind, List.map_cons]
theorem ix_let (k t : Int) (hk : 0 ≤ k) (ht : 0 ≤ t) : ixR (.str "dbgahcfe") (.int ((k + t) % 8)) = .ok (.str (letter (k.toNat + t.toNat))) := by
  obtain ⟨k, rfl⟩ := Int.eq_ofNat_of_zero_le hk
  obtain ⟨t, rfl⟩ := Int.eq_ofNat_of_zero_le ht
  have e : (Str.ofString "dbgahcfe").cps.toList = let8 := by decide +kernel
  have e2 : ((k : Int) + (t : Int)) % 8 = (((k + t) % 8 : Nat) : Int) := by omega
  unfold ixR
  simp only
  rw [e, e2, atI_nat]
  have hl : (k + t) % 8 < let8.length := by have := Nat.mod_lt (k + t) (show 0 < 8 by omega); simpa [let8] using this
  rw [List.getElem?_eq_getElem hl]
  unfold letter
  simp [hl]
theorem marks_run {ns : List Int} (h : ns.length ≤ 63) (a1 a2 a3 a4 a6 a7 a8 : Slot) (here : Int) :
    forO (tupT [10, 11]) (sEnd [10, 11] (sIf (tBin eqR (eUn den__law_drawn (aCons (getD' 0) (aCons (eBin addR (eBin addR (getD' 5) (eC (.int 5))) (getD' 10)) (aCons (eBin ixR (eOfF (eUn lstR (aCons (eC (.int 4)) (aCons (eC (.int 2)) (aCons (eC (.int 9)) (aCons (eC (.int 6)) aNil)))))) (getD' 10)) aNil)))) (eC (.int 0)))
  (sSet 9 (eBin addR (getD' 9) (getD' 11)))
  sNil)) (pairs0 (charsD "cfhl")) [.d (.frz ns), a1, a2, a3, a4, .d (.int here), a6, a7, a8, .d (.str ""), .u, .u, .u, .u] =
    .nx [.d (.frz ns), a1, a2, a3, a4, .d (.int here), a6, a7, a8, .d (.str ⟨((marks4.filter (markOn ns here)).map (·.2)).toArray⟩), .u, .u, .u, .u] := by
  have ec : (Str.ofString "cfhl").cps.toList = [99, 102, 104, 108] := by decide +kernel
  have e : pairs0 (charsD "cfhl") = marks4.map fun p => .tup [.int (p.1 : Int), .str ⟨#[p.2]⟩] := by
    unfold charsD
    rw [ec]
    rfl
  have e0 : (Str.ofString "" : Str) = ⟨#[]⟩ := by decide +kernel
  rw [e]
  have k := forO_fold (T := tupT [10, 11]) (G := sEnd [10, 11] (sIf (tBin eqR (eUn den__law_drawn (aCons (getD' 0) (aCons (eBin addR (eBin addR (getD' 5) (eC (.int 5))) (getD' 10)) (aCons (eBin ixR (eOfF (eUn lstR (aCons (eC (.int 4)) (aCons (eC (.int 2)) (aCons (eC (.int 9)) (aCons (eC (.int 6)) aNil)))))) (getD' 10)) aNil)))) (eC (.int 0)))
  (sSet 9 (eBin addR (getD' 9) (getD' 11)))
  sNil)) (f := fun p : Nat × Nat => D.tup [.int (p.1 : Int), .str ⟨#[p.2]⟩]) (inv := fun done => [.d (.frz ns), a1, a2, a3, a4, .d (.int here), a6, a7, a8, .d (.str ⟨((done.filter (markOn ns here)).map (·.2)).toArray⟩), .u, .u, .u, .u]) marks4 [] (fun a pre rest hx => ?_)
  · rw [e0]; simpa using k
  · have ha : a ∈ marks4 := by rw [hx]; simp
    have hl : pre.length ≤ 3 := by have := congrArg List.length hx; simp [marks4] at this; omega
    refine ⟨_, by simp [tupT]; rfl, .inl ?_⟩
    have ix : ixR (.lst [.int 4, .int 2, .int 9, .int 6]) (.int (a.1 : Int)) = .ok (.int (odd4 a.1)) ∧ 0 < odd4 a.1 := by
      revert ha
      have : ∀ a ∈ marks4, ixR (.lst [.int 4, .int 2, .int 9, .int 6]) (.int (a.1 : Int)) = .ok (.int (odd4 a.1)) ∧ 0 < odd4 a.1 := by
        intro a ha
        simp [marks4] at ha
        rcases ha with rfl | rfl | rfl | rfl <;> refine ⟨rfl, by decide⟩
      exact this a
    have dr := drawn_ok h (here + 5 + (a.1 : Int)) ix.2
    have eq0 : ∀ v : Int, eqR (.int v) (.int 0) = .ok (.bl (decide (v = 0))) := by
      intro v
      have : (v == 0) = decide (v = 0) := by by_cases e : v = 0 <;> simp [e]
      unfold eqR; simp [dle, eqD, this]
    have z4 : lstR [.int 4, .int 2, .int 9, .int 6] = .ok [.int 4, .int 2, .int 9, .int 6] := rfl
    have zl : (List.filter (markOn ns here) pre).length ≤ 3 := Nat.le_trans (List.length_filter_le ..) hl
    by_cases hm : drawn ns (here + 5 + (a.1 : Int)) (odd4 a.1) = 0
    · have mo : markOn ns here a = true := decide_eq_true hm
      have zz : (⟨((pre.filter (markOn ns here)).map (·.2)).toArray⟩ : Str).length + (⟨#[a.2]⟩ : Str).length ≤ sizeLine := by
        rw [sizeLine_eq]
        show ((pre.filter (markOn ns here)).map (·.2)).toArray.size + 1 ≤ _
        simp
        omega
      have ap : (⟨((pre.filter (markOn ns here)).map (·.2)).toArray⟩ : Str) ++ ⟨#[a.2]⟩ = ⟨(((pre ++ [a]).filter (markOn ns here)).map (·.2)).toArray⟩ := by
        apply Str.ext'
        show ((pre.filter (markOn ns here)).map (·.2)).toArray ++ #[a.2] = _
        simp [mo]
      simp [z4, ix.1, dr, eq0, hm, addR, zz, ap]
    · have mo : markOn ns here a = false := decide_eq_false hm
      simp [z4, ix.1, dr, eq0, hm, mo]
theorem m_scene {ns : List Int} (h : ns.length ≤ 63) (at_ : Int) : den__law_scene [.frz ns, .int at_] = .ok (scD (scene ns at_)) := by
  show runB 12 g__law_scene [.frz ns, .int at_] = _
  have d0 := drawn_in h at_ (many := 8) (by omega)
  have d1 := drawn_in h (at_ + 1) (many := 8) (by omega)
  have rg : range1R (.int (drawn ns at_ 8)) = .ok ((List.range (drawn ns at_ 8).toNat).map fun i : Nat => D.int (i : Int)) := by
    unfold range1R rngD
    simp only
    rw [if_pos (by omega)]
    simp
  unfold runB g__law_scene
  have tn : tupR [] = .ok (.tup []) := rfl
  simp only [List.map_cons, List.map_nil, List.replicate, List.cons_append, List.nil_append, sSeq_ap, sSet_ap, eUn_ap, aNil_ap, R.ok_bind, tn, liftO_ok, List.set_cons_succ, List.set_cons_zero, seqO_nx, aCons_ap, getD_0, getD_s, eBin_ap, eC_ap, addR_int, drawn_ok h _ (many := 8) (by omega), sFor_ap, rg]
  generalize hB : (sEnd [4, 5, 6, 7, 8, 9, 10, 11, 12] _ : En → Out) = B
  have k := forO_fold (T := nameT 4) (G := B) (f := fun i : Nat => D.int (i : Int)) (inv := fun done => [.d (.frz ns), .d (.int at_), .d (scD (mkSc ns at_ done.length)), .d (.int (drawn ns (at_ + 1) 8)), .u, .u, .u, .u, .u, .u, .u, .u, .u, .u]) (List.range (drawn ns at_ 8).toNat) [] (fun a pre rest hx => ?_)
  · simp at k
    have e0 : scD (mkSc ns at_ 0) = .tup [] := rfl
    rw [e0] at k
    rw [k]
    rfl
  · have hpre : a = pre.length ∧ pre.length < (drawn ns at_ 8).toNat := by
      have l := congrArg List.length hx
      simp at l
      have g := congrArg (fun l => l[pre.length]?) hx
      simp at g
      rw [List.getElem?_range (by omega)] at g
      simp at g
      omega
    obtain ⟨rfl, hk⟩ := hpre
    refine ⟨_, by simp; rfl, .inl ?_⟩
    rw [← hB]
    have kk : (pre.length : Int) < 8 := by omega
    generalize hS : mkSc ns at_ pre.length = S
    have lS : S.length = pre.length := by rw [← hS]; exact mkSc_len ns at_ _
    generalize hk' : pre.length = k at *
    have comp : compO (nameT 13) tTrue (eBin ixR (getD' 13) (eC (.int 0))) [.d (.frz ns), .d (.int at_), .d (scD S), .d (.int (drawn ns (at_ + 1) 8)), .d (.int (k : Int)), .d (.int (at_ + 3 + 9 * (k : Int))), .u, .u, .u, .u, .u, .u, .u, .u] (S.map Box.D) = .ok ((names S).map D.str) := by
      rw [compO_all (g := fun b => D.str b.nm) S fun b _ => ⟨_, rfl, rfl, by simp⟩]; simp [names, List.map_map, Function.comp_def]
    have hd := drawn_in h (at_ + 3 + 9 * (k : Int)) (many := (k : Int) + 1) (by omega)
    have ixa := ix_sL (xs := ("" : Str) :: names S) hd.1 (by rw [List.length_cons, names_length, lS]; omega) ""
    rw [sL_cons] at ixa
    have z1 : 1 + S.length ≤ 1000 := by omega
    have z2 : S.length + 1 ≤ 1000 := by omega
    have r2 : range1R (.int 2) = .ok [.int 0, .int 1] := rfl
    have dn := fun j : Int => drawn_ok h j (many := 9) (by omega)
    have dk := drawn_ok h (at_ + 3 + 9 * (k : Int)) (many := (k : Int) + 1) (by omega)
    have m9 : mulR (.int 9) (.int (k : Int)) = .ok (.int (9 * (k : Int))) := by simp [mulR]
    have il := ix_let (k : Int) (drawn ns (at_ + 1) 8) (by omega) d1.1
    have md : modR (.int ((k : Int) + drawn ns (at_ + 1) 8)) (.int 8) = .ok (.int (((k : Int) + drawn ns (at_ + 1) 8) % 8)) := rfl
    have tl : ∀ xs : List D, tupleR [.lst xs] = .ok (.tup xs) := fun _ => rfl
    have it : itemsR (scD S) = .ok (S.map Box.D) := rfl
    have fin : ∀ b : Box, addR (scD S) (.tup [.tup [.str b.nm, .str b.ar, .int b.l, .int b.t, .int b.w, .int b.h, .str b.ms]]) = .ok (scD (S ++ [b])) := by
      intro b
      unfold scD
      rw [addR_t (by simp; omega)]
      simp [Box.D]
    have nx : mkSc ns at_ (k + 1) = S ++ [mkBox ns at_ k S] := by rw [mkSc, hS]
    have f1 : letter (k + (drawn ns (at_ + 1) 8).toNat) = (mkBox ns at_ k S).nm := rfl
    have f2 : (((("" : Str) :: names S)[(drawn ns (at_ + 3 + 9 * (k : Int)) ((k : Int) + 1)).toNat]?).getD "") = (mkBox ns at_ k S).ar := by simp [mkBox]
    have f3 : drawn ns (at_ + 3 + 9 * (k : Int) + 1) 9 - 3 = (mkBox ns at_ k S).l := rfl
    have f4 : drawn ns (at_ + 3 + 9 * (k : Int) + 1 + 1) 9 - 3 = (mkBox ns at_ k S).t := rfl
    have f5 : drawn ns (at_ + 3 + 9 * (k : Int) + 3) 9 = (mkBox ns at_ k S).w := rfl
    have f6 : drawn ns (at_ + 3 + 9 * (k : Int) + 3 + 1) 9 = (mkBox ns at_ k S).h := rfl
    have f7 : (⟨((marks4.filter (markOn ns (at_ + 3 + 9 * (k : Int)))).map (·.2)).toArray⟩ : Str) = (mkBox ns at_ k S).ms := rfl
    have fin := fin (mkBox ns at_ k S)
    simp only [List.nil_append, List.length_append, List.length_singleton, hk', nx]
    generalize mkBox ns at_ k S = bx at *
    simp [m9, lstR_s, addR_l, addR_t, tupR_s, it, comp, z1, names_length, dk, ixa, r2, compO, dn, marks_run h, md, il, tl, fin, f1, f2, f3, f4, f5, f6, f7]
end Fo

/-! The law k03. -/
namespace Fo
open PySem Dx Dn
theorem cutL_nat {α : Type} (xs : List α) (i j : Nat) : cutL xs (some (i : Int)) (some (j : Int)) = (xs.drop i).take (j - i) := by
  unfold cutL
  rw [HT.sIx_nat, HT.sIx_nat]
  by_cases h : i ≤ xs.length
  · rw [Nat.min_eq_left h]
    by_cases h2 : j ≤ xs.length
    · rw [Nat.min_eq_left h2]
    · rw [Nat.min_eq_right (by omega), List.take_of_length_le (by rw [List.length_drop]; omega), List.take_of_length_le (by rw [List.length_drop]; omega)]
  · rw [Nat.min_eq_right (show xs.length ≤ i by omega), List.drop_eq_nil_of_le (Nat.le_refl xs.length), List.drop_eq_nil_of_le (show xs.length ≤ i by omega)]
    simp
theorem cutL_to {α : Type} (xs : List α) (j : Nat) : cutL xs none (some (j : Int)) = xs.take j := by
  unfold cutL
  rw [HT.sIx_nat, HT.sIx_none, List.drop_zero, Nat.sub_zero]
  by_cases h2 : j ≤ xs.length
  · rw [Nat.min_eq_left h2]
  · rw [Nat.min_eq_right (by omega), List.take_of_length_le (Nat.le_refl _), List.take_of_length_le (by omega)]
theorem cutL_but {α : Type} (xs : List α) (x : α) : cutL (xs ++ [x]) none (some (-1)) = xs := by
  unfold cutL HT.sIx
  simp
  have : (-1 + ((xs.length : Int) + 1)).toNat = xs.length := by omega
  rw [this]
  simp
theorem slice_sL (xs : List Str) (lo hi : Option Int) : sliceR (sL xs) lo hi = .ok (sL (cutL xs lo hi)) := by
  unfold sliceR sL cutL
  simp [List.map_take, List.map_drop]
theorem slice_sc (S : List Box) (lo hi : Option Int) : sliceR (scD S) lo hi = .ok (scD (cutL S lo hi)) := by
  unfold sliceR scD cutL
  simp [List.map_take, List.map_drop]
theorem sortS_perm {xs ys : List Str} (h : xs.Perm ys) : sortS xs = sortS ys :=
  sorted_one (r := fun a b => leS a b = true) leS_anti (((sortBy_perm leS xs).trans h).trans (sortBy_perm leS ys).symm) (sortBy_sorted leS_tot leS_tr xs) (sortBy_sorted leS_tot leS_tr ys)
theorem sortI_self {xs : List Int} (h : xs.Pairwise (· ≤ ·)) : sortI xs = xs := (sortI_one (.refl _) h).symm
theorem sorted_sL {xs : List Str} (h : xs.length < 64) : sortedR [sL xs] = .ok (sL (sortS xs)) := by
  unfold sortedR sL
  cases xs with
  | nil => rfl
  | cons x xs =>
    have e : intsOf ((x :: xs).map D.str) = none := rfl
    simp only [e, strsOf_map]
    rw [if_pos h]
def iL (xs : List Int) : D := .lst (xs.map D.int)
theorem sorted_iL (xs : List Int) : sortedR [iL xs] = .ok (iL (sortI xs)) := by
  unfold sortedR iL
  simp only [intsOf_map]
theorem eqD_int (a b : Int) : eqD (.int a) (.int b) = decide (a = b) := by
  have : (a == b) = decide (a = b) := by by_cases e : a = b <;> simp [e]
  simp [eqD, this]
theorem ne_iL (xs ys : List Int) : neR (iL xs) (iL ys) = .ok (.bl (!decide (xs = ys))) := by
  have h : eqD (iL xs) (iL ys) = decide (xs = ys) := by unfold iL; rw [eqD]; exact eqDs_map eqD_int xs ys
  have d : ∀ xs : List Int, dle 64 (iL xs) = true := fun xs => by unfold iL dle; exact dle_all (fun _ => rfl) xs
  have e : neR (iL xs) (iL ys) = if dle 64 (iL xs) && dle 64 (iL ys) then .ok (.bl (!eqD (iL xs) (iL ys))) else .bad := rfl
  rw [e, d, d, h]; rfl
/-- the place of a name -/
def plc (xs : List Str) (n : Str) : Nat := xs.findIdx fun x => decide (x = n)
theorem idx_plc : ∀ {xs : List Str} {n : Str}, n ∈ xs → Dx.idxOf (xs.map D.str) (.str n) = some (plc xs n)
  | x :: xs, n, h => by
    rw [List.map_cons, Dx.idxOf, eqD_str]
    unfold plc
    rw [List.findIdx_cons]
    by_cases e : x = n
    · simp [e]
    · have h : n ∈ xs := by
        rcases List.mem_cons.mp h with z | z
        · exact absurd z.symm e
        · exact z
      simp [e, idx_plc h, plc]
theorem index_sL {xs : List Str} {n : Str} (h : n ∈ xs) : indexR (sL xs) [.str n] = .ok (.int (plc xs n)) := by
  have d := dle_strs xs
  unfold indexR
  unfold sL at d ⊢
  simp only [d, idx_plc h]
  rfl
theorem plc_at {A B : List Str} {n : Str} (h : n ∉ A) : plc (A ++ n :: B) n = A.length := by
  induction A with
  | nil => simp [plc, List.findIdx_cons]
  | cons a A ih =>
    rw [List.mem_cons, not_or] at h
    have ih := ih h.2
    unfold plc at ih ⊢
    rw [List.cons_append, List.findIdx_cons]
    have : ¬ a = n := fun z => h.1 z.symm
    simp [this, ih]
theorem ix_end (xs : List Str) (x : Str) : ixR (sL (xs ++ [x])) (.int (-1)) = .ok (.str x) := by
  unfold ixR sL
  have : L2.atI ((xs ++ [x]).map D.str) (-1) = some (.str x) := by
    have e : L2.ixN ((xs ++ [x]).map D.str).length (-1) = some xs.length := by
      unfold L2.ixN
      rw [List.length_map, List.length_append, List.length_singleton, if_neg (by omega), if_pos (by omega)]
      congr 1
      omega
    unfold L2.atI
    rw [e]
    simp
  simp only [this]
theorem path_pre : ∀ {S : List Box}, wf [] S → ∀ (k : Nat) {n m : Str}, (path S n).length ≤ k → n ∈ names S → m ∈ path S n → ∃ r, path S n = path S m ++ r
  | S, w, 0, n, m, hk, hn, hm => by rw [path_last w hn] at hk; simp at hk
  | S, w, k + 1, n, m, hk, hn, hm => by
    obtain ⟨b, e, hb, rfl⟩ := find_some w hn
    have hp := path_step w hb
    rw [hp] at hm hk
    rcases List.mem_append.mp hm with hm | hm
    · have ha : b.ar ≠ "" := fun z => by rw [z, path_empty w] at hm; cases hm
      obtain ⟨r, hr⟩ := path_pre w k (by simp at hk; omega) (ar_names w hb ha) hm
      exact ⟨r ++ [b.nm], by rw [hp, hr, List.append_assoc]⟩
    · rw [List.mem_singleton] at hm
      subst hm
      exact ⟨[], by simp⟩
theorem path_self {S : List Box} (w : wf [] S) {n : Str} (hn : n ∈ names S) : n ∈ path S n := by
  rw [path_last w hn]; simp
theorem path_chain {S : List Box} (w : wf [] S) {n a b : Str} (hn : n ∈ names S) (ha : a ∈ path S n) (hb : b ∈ path S n) : a ∈ path S b ∨ b ∈ path S a := by
  obtain ⟨r, hr⟩ := path_pre w _ (Nat.le_refl _) hn ha
  obtain ⟨q, hq⟩ := path_pre w _ (Nat.le_refl _) hn hb
  rcases Nat.le_total (path S a).length (path S b).length with h | h
  · left
    have : path S a <+: path S b := List.prefix_of_prefix_length_le ⟨r, hr.symm⟩ ⟨q, hq.symm⟩ h
    exact this.subset (path_self w (path_names w ha))
  · right
    have : path S b <+: path S a := List.prefix_of_prefix_length_le ⟨q, hq.symm⟩ ⟨r, hr.symm⟩ h
    exact this.subset (path_self w (path_names w hb))
theorem plc_lt {S : List Box} (w : wf [] S) {n m : Str} (hn : n ∈ names S) (hm : m ∈ (path S n).dropLast) : plc (kids S "") m < plc (kids S "") n := by
  have hm' : m ∈ path S n := (List.dropLast_sublist _).subset hm
  have mn := path_names w hm'
  obtain ⟨A, B, e⟩ := blk_painted w _ m mn (Nat.le_refl _)
  have nd := painted_nodup w
  have nk : n ∈ kids S m := (mem_kids w).mpr ⟨hn, .inr hm⟩
  obtain ⟨C, D', e2⟩ := List.append_of_mem nk
  have e3 : kids S "" = A ++ m :: (kids S m ++ B) := by rw [e]; simp [blk]
  have e4 : kids S "" = (A ++ m :: C) ++ n :: (D' ++ B) := by rw [e3, e2]; simp
  rw [e3] at nd
  have n1 : m ∉ A := by
    rw [List.nodup_append] at nd
    exact fun z => nd.2.2 m z m List.mem_cons_self rfl
  have nd2 := painted_nodup w
  rw [e4, List.nodup_append] at nd2
  have n2 : n ∉ A ++ m :: C := fun z => nd2.2.2 n z n List.mem_cons_self rfl
  have p1 : plc (kids S "") m = A.length := by rw [e3]; exact plc_at n1
  have p2 : plc (kids S "") n = (A ++ m :: C).length := by rw [e4]; exact plc_at n2
  rw [p1, p2]
  simp
theorem plc_sorted {S : List Box} (w : wf [] S) : ∀ (k : Nat) (n : Str), n ∈ names S → (path S n).length ≤ k → ((path S n).map fun m => (plc (kids S "") m : Int)).Pairwise (· ≤ ·)
  | 0, n, hn, hk => by rw [path_last w hn] at hk; simp at hk
  | k + 1, n, hn, hk => by
    obtain ⟨b, e, hb, rfl⟩ := find_some w hn
    have hp := path_step w hb
    have lt := fun m hm => plc_lt w hn (m := m) hm
    rw [hp, List.dropLast_concat] at lt
    rw [hp] at hk ⊢
    rw [List.map_append, List.pairwise_append]
    refine ⟨?_, by simp, fun x hx y hy => ?_⟩
    · by_cases ha : b.ar = ""
      · rw [ha, path_empty w]; exact .nil
      · exact plc_sorted w k b.ar (ar_names w hb ha) (by simp at hk; omega)
    · obtain ⟨m, hm, rfl⟩ := List.mem_map.mp hx
      simp at hy
      subst hy
      have := lt m hm
      omega
theorem blk_slice {S : List Box} (w : wf [] S) {n : Str} (hn : n ∈ names S) : cutL (kids S "") (some (plc (kids S "") n : Int)) (some ((plc (kids S "") n : Int) + ((blk S n).length : Int))) = blk S n := by
  obtain ⟨A, B, e⟩ := blk_painted w _ n hn (Nat.le_refl _)
  have nd := painted_nodup w
  have e3 : kids S "" = A ++ n :: (kids S n ++ B) := by rw [e]; simp [blk]
  rw [e3] at nd
  have n1 : n ∉ A := by
    rw [List.nodup_append] at nd
    exact fun z => nd.2.2 n z n List.mem_cons_self rfl
  have p1 : plc (kids S "") n = A.length := by rw [e3]; exact plc_at n1
  rw [p1]
  have : ((A.length : Int) + ((blk S n).length : Int)) = ((A.length + (blk S n).length : Nat) : Int) := by omega
  rw [this, cutL_nat, e]
  simp
theorem blk_len {S : List Box} (w : wf [] S) {n : Str} (hn : n ∈ names S) : (blk S n).length ≤ S.length := by
  obtain ⟨A, B, e⟩ := blk_painted w _ n hn (Nat.le_refl _)
  have l := congrArg List.length e
  have p := (painted_perm w).length_eq
  rw [names_length] at p
  simp at l
  omega
end Fo

/-! What is laid, touched and hit. -/
namespace Fo
open PySem Dx Dn
structure Area where
  l : Int
  t : Int
  r : Int
  b : Int
deriving DecidableEq
def Area.D (a : Area) : D := .tup [.int a.l, .int a.t, .int a.r, .int a.b]
def areaA (S : List Box) (b : Box) : Area := ⟨(offs S (path S b.nm)).1, (offs S (path S b.nm)).2, (offs S (path S b.nm)).1 + b.w, (offs S (path S b.nm)).2 + b.h⟩
theorem areaA_D (S : List Box) (b : Box) : (areaA S b).D = areaD S b := rfl
def mark (c : Nat) (b : Box) : Bool := decide (c ∈ b.ms.cps.toList)
def shown (S : List Box) (n : Str) : Bool := (path S n).all fun m => match findB S m with
  | some b => !mark 104 b
  | none => true
def clips (S : List Box) (ns : List Str) : List Area := ns.flatMap fun m => match findB S m with
  | some b => if mark 99 b = true then [areaA S b] else []
  | none => []
def toldD (S : List Box) (b : Box) : D := .tup [(areaA S b).D, .tup ((clips S (path S b.nm)).map Area.D)]
def laidL (S T : List Box) : List (L2.Key × D) := (T.filter fun b => shown S b.nm).map fun b => (.inr b.nm, toldD S b)
theorem shown_empty {S : List Box} (w : wf [] S) : shown S "" = true := by unfold shown; rw [path_empty w]; rfl
theorem shown_step {S : List Box} (w : wf [] S) {b : Box} (hb : b ∈ S) : shown S b.nm = (shown S b.ar && !mark 104 b) := by
  unfold shown
  rw [path_step w hb, List.all_append, List.all_cons, List.all_nil, find_of w hb, Bool.and_true]
theorem clips_step {S : List Box} (w : wf [] S) {b : Box} (hb : b ∈ S) : clips S (path S b.nm) = clips S (path S b.ar) ++ (if mark 99 b = true then [areaA S b] else []) := by
  unfold clips
  rw [path_step w hb, List.flatMap_append, List.flatMap_cons, List.flatMap_nil, find_of w hb, List.append_nil]
theorem clips_empty {S : List Box} (w : wf [] S) : clips S (path S "") = [] := by unfold clips; rw [path_empty w]; rfl
theorem val_laid_none (S : List Box) : ∀ {T : List Box} {n : Str}, n ∉ names T → valD (laidL S T) (.inr n) = none := by
  intro T n h
  unfold valD laidL
  rw [Option.map_eq_none_iff, List.find?_eq_none]
  intro kv hkv z
  obtain ⟨b, hb, rfl⟩ := List.mem_map.mp hkv
  have e : (Sum.inr b.nm : L2.Key) = .inr n := of_decide_eq_true z
  injection e with e
  exact h (mem_names.mpr ⟨b, (List.mem_filter.mp hb).1, e⟩)
theorem val_laid (S : List Box) : ∀ {T : List Box} {b : Box}, (names T).Nodup → b ∈ T → valD (laidL S T) (.inr b.nm) = if shown S b.nm = true then some (toldD S b) else none
  | c :: T, b, nd, hb => by
    rw [names_cons, List.nodup_cons] at nd
    rcases List.mem_cons.mp hb with e | hb
    · subst e
      unfold laidL
      rw [List.filter_cons]
      split
      · unfold valD
        rw [List.map_cons, List.find?_cons]
        simp
      · rename_i h
        exact val_laid_none S nd.1
    · have ne : ¬ (Sum.inr c.nm : L2.Key) = .inr b.nm := fun e => by
        injection e with e
        exact nd.1 (e ▸ mem_names.mpr ⟨b, hb, rfl⟩)
      have ih := val_laid S nd.2 hb
      unfold laidL at ih ⊢
      rw [List.filter_cons]
      split
      · unfold valD at ih ⊢
        rw [List.map_cons, List.find?_cons]
        simp only [ne, decide_false]
        exact ih
      · exact ih
theorem in_mark (z : Str) (s : Str) (c : Nat) (e : s.cps.toList = [c]) : Dx.inR (.str s) (.str z) = .ok (.bl (decide (c ∈ z.cps.toList))) := by
  unfold Dx.inR Dx.inB
  simp only [e]
  rfl
theorem notIn_mark (z : Str) (s : Str) (c : Nat) (e : s.cps.toList = [c]) : Dx.notInR (.str s) (.str z) = .ok (.bl (!decide (c ∈ z.cps.toList))) := by
  unfold Dx.notInR Dx.inB
  simp only [e]
  rfl
theorem h_in (z : Str) : Dx.inR (.str "h") (.str z) = .ok (.bl (decide (104 ∈ z.cps.toList))) := in_mark z _ _ (by decide +kernel)
theorem h_notIn (z : Str) : Dx.notInR (.str "h") (.str z) = .ok (.bl (!decide (104 ∈ z.cps.toList))) := notIn_mark z _ _ (by decide +kernel)
theorem c_in (z : Str) : Dx.inR (.str "c") (.str z) = .ok (.bl (decide (99 ∈ z.cps.toList))) := in_mark z _ _ (by decide +kernel)
theorem l_notIn (z : Str) : Dx.notInR (.str "l") (.str z) = .ok (.bl (!decide (108 ∈ z.cps.toList))) := notIn_mark z _ _ (by decide +kernel)
theorem clips_len (S : List Box) (ns : List Str) : (clips S ns).length ≤ ns.length := by
  induction ns with
  | nil => exact Nat.le_refl _
  | cons n ns ih =>
    unfold clips at ih ⊢
    rw [List.flatMap_cons, List.length_append, List.length_cons]
    have : ∀ o : Option Box, (match o with | some b => if mark 99 b = true then [areaA S b] else [] | none => []).length ≤ 1 := by
      intro o
      cases o with
      | none => simp
      | some b => simp only; split <;> simp
    have := this (findB S n)
    omega
theorem m_laid {S : List Box} (w : wf [] S) (hs : S.length ≤ 100) : den_laid [scD S] = .ok (.dic (laidL S S)) := by
  show runB 6 g_laid [scD S] = _
  have nd := wf_nodup w
  unfold runB g_laid
  have is : itemsR (scD S) = .ok (S.map Box.D) := rfl
  simp only [List.map_cons, List.map_nil, List.replicate, List.cons_append, List.nil_append, sSeq_ap, sSetK_ap, kNil_ap, liftO_ok, List.set_cons_succ, List.set_cons_zero, seqO_nx, sFor_ap, eUn_ap, getD_0, R.ok_bind, is]
  generalize hB : (sEnd [2, 3, 4, 5, 6] _ : En → Out) = B
  have k := forO_fold (T := nameT 2) (G := B) (f := Box.D) (inv := fun done => [.d (scD S), .od (laidL S done), .u, .u, .u, .u, .u]) S [] (fun a pre rest hx => ?_)
  · simp only [List.nil_append] at k
    have e0 : laidL S [] = [] := rfl
    rw [e0] at k
    rw [k]
    simp [frz, Slot.fz]
  · refine ⟨_, by simp; rfl, .inl ?_⟩
    rw [← hB]
    have ha : a ∈ S := by rw [hx]; simp
    have sp := wf_split (hx ▸ w)
    have st := shown_step w ha
    have cs := clips_step w ha
    have os := area_step w ha
    have ndp : (names pre).Nodup := by rw [hx, names_append, List.nodup_append] at nd; exact nd.1
    have ll : ∀ b, laidL S (pre ++ [b]) = laidL S pre ++ (if shown S b.nm = true then [(.inr b.nm, toldD S b)] else []) := by
      intro b
      unfold laidL
      rw [List.filter_append, List.map_append]
      congr 1
      by_cases h : shown S b.nm = true <;> simp [h]
    have lz : (laidL S pre).length < sizeLine := by
      have h1 : (laidL S pre).length ≤ pre.length := by unfold laidL; rw [List.length_map]; exact List.length_filter_le ..
      have h2 := congrArg List.length hx
      simp at h2
      rw [sizeLine_eq]
      omega
    have pd : ∀ v, putD (laidL S pre) (.inr a.nm) v = laidL S pre ++ [(.inr a.nm, v)] := by
      intro v
      unfold putD
      rw [if_neg]
      intro z
      obtain ⟨kv, hkv, e⟩ := List.any_eq_true.mp z
      unfold laidL at hkv
      obtain ⟨b, hb, rfl⟩ := List.mem_map.mp hkv
      have e : (Sum.inr b.nm : L2.Key) = .inr a.nm := of_decide_eq_true e
      injection e with e
      exact sp.2.2.1 (mem_names.mpr ⟨b, (List.mem_filter.mp hb).1, e⟩)
    have t2 : ∀ x y : D, tupR [x, y] = .ok (.tup [x, y]) := fun _ _ => rfl
    have t1 : ∀ x : D, tupR [x] = .ok (.tup [x]) := fun _ => rfl
    have t0 : tupR [] = .ok (.tup []) := rfl
    have t4 : ∀ x y z u : D, tupR [x, y, z, u] = .ok (.tup [x, y, z, u]) := fun _ _ _ _ => rfl
    have x0 : ∀ x y : D, ixR (.tup [x, y]) (.int 0) = .ok x := fun _ _ => rfl
    have x1 : ∀ x y : D, ixR (.tup [x, y]) (.int 1) = .ok y := fun _ _ => rfl
    have y0 : ∀ x y z u : D, ixR (.tup [x, y, z, u]) (.int 0) = .ok x := fun _ _ _ _ => rfl
    have y1 : ∀ x y z u : D, ixR (.tup [x, y, z, u]) (.int 1) = .ok y := fun _ _ _ _ => rfl
    have cl := clips_len S (path S a.ar)
    have pl := path_len (S := S) (n := a.ar)
    have nt : ∀ xs : List D, isN (.tup xs) = false := fun _ => rfl
    have nn : isN .non = true := rfl
    have ko : keyOf (.str a.nm) = some (.inr a.nm) := rfl
    have ad : ∀ xs : List Area, xs.length ≤ 100 → ∀ ys : List Area, ys.length ≤ 1 → addR (.tup (xs.map Area.D)) (.tup (ys.map Area.D)) = .ok (.tup ((xs ++ ys).map Area.D)) := by
      intro xs hxs ys hys
      rw [addR_t (by simp; omega)]
      simp
    have ad0 := ad (clips S (path S a.ar)) (by omega) [] (by simp)
    have ad1 := ad (clips S (path S a.ar)) (by omega) [areaA S a] (by simp)
    simp only [List.map_nil, List.map_cons, List.append_nil] at ad0 ad1
    have aD : (areaA S a).D = .tup [.int ((offs S (path S a.ar)).1 + a.l), .int ((offs S (path S a.ar)).2 + a.t), .int ((offs S (path S a.ar)).1 + a.l + a.w), .int ((offs S (path S a.ar)).2 + a.t + a.h)] := by
      unfold Area.D areaA
      rw [os]
    have tD : toldD S a = .tup [(areaA S a).D, .tup ((clips S (path S a.nm)).map Area.D)] := rfl
    rw [aD] at ad1 tD
    rw [cs] at tD
    have hA : ∃ A : D, (eIf (tBin eqR (eBin ixR (getD' 2) (eC (.int 1))) (eC (.str ""))) (eUn tupR (aCons (eUn tupR (aCons (eC (.int 0)) (aCons (eC (.int 0)) (aCons (eC (.int 0)) (aCons (eC (.int 0)) aNil))))) (aCons (eUn tupR aNil) aNil))) (eGet (getV 1) (eBin ixR (getD' 2) (eC (.int 1))))) [.d (scD S), .od (laidL S pre), .d a.D, .u, .u, .u, .u] = .ok A ∧
        (shown S a.ar = true → ∃ r b : Int, A = .tup [.tup [.int (offs S (path S a.ar)).1, .int (offs S (path S a.ar)).2, .int r, .int b], .tup ((clips S (path S a.ar)).map Area.D)]) ∧ (shown S a.ar = false → A = .non) := by
      by_cases ea : a.ar = ""
      · have se : shown S a.ar = true := by rw [ea]; exact shown_empty w
        have o0 : offs S (path S a.ar) = (0, 0) := by rw [ea, path_empty w]; rfl
        have c0 : clips S (path S a.ar) = [] := by rw [ea]; exact clips_empty w
        refine ⟨.tup [.tup [.int 0, .int 0, .int 0, .int 0], .tup []], ?_, fun _ => ⟨0, 0, by rw [o0, c0]; rfl⟩, fun z => by rw [se] at z; cases z⟩
        simp [eq_str, ea, t4, t2, t0]
      · have hp : a.ar ∈ names pre := sp.2.2.2.resolve_left ea
        obtain ⟨q, hq, eq⟩ := mem_names.mp hp
        have vl := val_laid S ndp hq
        rw [eq] at vl
        refine ⟨((if shown S a.ar = true then some (toldD S q) else none).getD .non), ?_, fun z => ?_, fun z => ?_⟩
        · simp [eq_str, ea, vl]
        · rw [if_pos z]
          exact ⟨_, _, by rw [← eq]; rfl⟩
        · rw [z]; rfl
    obtain ⟨A, hA, hA1, hA2⟩ := hA
    rw [sEnd_ap, sSeq_ap, sSet_ap]
    simp only [List.nil_append]
    rw [hA]
    simp only [liftO_ok, List.set_cons_succ, List.set_cons_zero, seqO_nx]
    rw [ll]
    cases hs0 : shown S a.ar with
    | false =>
      have e := hA2 hs0
      subst e
      rw [hs0, Bool.false_and] at st
      simp [nn, st]
    | true =>
      obtain ⟨r, b, e⟩ := hA1 hs0
      subst e
      rw [hs0, Bool.true_and] at st
      cases hh : mark 104 a with
      | true =>
        rw [hh] at st
        have hh' : decide (104 ∈ a.ms.cps.toList) = true := hh
        have st : shown S a.nm = false := st
        simp [nt, st, h_notIn, of_decide_eq_true hh']
      | false =>
        rw [hh] at st
        have st : shown S a.nm = true := st
        have hh' : ¬ 104 ∈ a.ms.cps.toList := of_decide_eq_false hh
        cases hc : mark 99 a with
        | true =>
          have hc' : 99 ∈ a.ms.cps.toList := of_decide_eq_true hc
          rw [hc, if_pos rfl, List.map_append, List.map_cons, List.map_nil, aD] at tD
          rw [List.map_append, List.map_cons, List.map_nil, aD] at ad1
          simp [nt, st, h_notIn, hh', x0, x1, y0, y1, t4, t2, t1, t0, c_in, hc', ad1, putO, ko, lz, pd, tD]
        | false =>
          have hc' : ¬ 99 ∈ a.ms.cps.toList := of_decide_eq_false hc
          rw [hc, if_neg Bool.false_ne_true, List.append_nil] at tD
          simp [nt, st, h_notIn, hh', x0, x1, y0, y1, t4, t2, t1, t0, c_in, hc', ad0, putO, ko, lz, pd, tD]
end Fo

/-! Touched, hit. -/
namespace Fo
open PySem Dx Dn
def has (a : Area) (x y : Int) : Bool := (decide (a.l ≤ x) && decide (x < a.r)) && (decide (a.t ≤ y) && decide (y < a.b))
def lets (S : List Box) (n : Str) : Bool := match findB S n with
  | some b => mark 108 b
  | none => false
def touch (S : List Box) (x y : Int) (n : Str) : Bool := match findB S n with
  | some b => shown S n && (has (areaA S b) x y && (clips S (path S n)).all fun a => has a x y)
  | none => false
def tops (S : List Box) : List Str := ((kids S "").filter fun n => shown S n && !lets S n).reverse
def hits (S : List Box) (x y : Int) : List Str := (tops S).filter (touch S x y)
theorem leR_int (i j : Int) : leR (.int i) (.int j) = .ok (.bl (decide (i ≤ j))) := rfl
theorem ltR_int (i j : Int) : ltR (.int i) (.int j) = .ok (.bl (decide (i < j))) := rfl
theorem m_has_point (a : Area) (x y : Int) : den_has_point [a.D, .int x, .int y] = .ok (.bl (has a x y)) := by
  show runB 0 g_has_point [a.D, .int x, .int y] = _
  have i0 : ixR a.D (.int 0) = .ok (.int a.l) := rfl
  have i1 : ixR a.D (.int 1) = .ok (.int a.t) := rfl
  have i2 : ixR a.D (.int 2) = .ok (.int a.r) := rfl
  have i3 : ixR a.D (.int 3) = .ok (.int a.b) := rfl
  unfold runB g_has_point has
  by_cases h1 : a.l ≤ x <;> by_cases h2 : x < a.r <;> by_cases h3 : a.t ≤ y <;> by_cases h4 : y < a.b <;>
    simp [i0, i1, i2, i3, chainR, leR_int, ltR_int, h1, h2, h3, h4]
theorem m_has_all (a : Area) (cs : List Area) (x y : Int) : den_has_all [.tup [a.D, .tup (cs.map Area.D)], .int x, .int y] = .ok (.bl (has a x y && cs.all fun a => has a x y)) := by
  show runB 1 g_has_all [.tup [a.D, .tup (cs.map Area.D)], .int x, .int y] = _
  have x0 : ∀ x y : D, ixR (.tup [x, y]) (.int 0) = .ok x := fun _ _ => rfl
  have x1 : ∀ x y : D, ixR (.tup [x, y]) (.int 1) = .ok y := fun _ _ => rfl
  have k := compO_all (T := nameT 3) (C := tTrue) (F := eUn den_has_point (aCons (getD' 3) (aCons (getD' 1) (aCons (getD' 2) aNil)))) (e := [.d (.tup [a.D, .tup (cs.map Area.D)]), .d (.int x), .d (.int y), .u]) (f := Area.D) (g := fun b => D.bl (has b x y)) cs fun b _ =>
    ⟨_, rfl, rfl, by simp [m_has_point]⟩
  have al : allR [.lst (cs.map fun b => D.bl (has b x y))] = .ok (.bl (cs.all fun a => has a x y)) := by
    have e : (cs.map fun b => D.bl (has b x y)) = (cs.map fun b => has b x y).map D.bl := by simp [List.map_map, Function.comp_def]
    unfold allR
    rw [e]
    simp only [blsOf_map]
    simp [List.all_map, Function.comp_def]
  unfold runB g_has_all
  cases h : has a x y with
  | true => simp [x0, x1, m_has_point, h, k, al]
  | false => simp [x0, x1, m_has_point, h]
theorem in_laid {S : List Box} (w : wf [] S) {b : Box} (hb : b ∈ S) : Dx.inR (.str b.nm) (.dic (laidL S S)) = .ok (.bl (shown S b.nm)) := by
  have v := val_laid S (wf_nodup w) hb
  have e : Dx.inR (.str b.nm) (.dic (laidL S S)) = .ok (.bl (valD (laidL S S) (.inr b.nm)).isSome) := rfl
  rw [e, v]
  split <;> simp_all
theorem ix_laid {S : List Box} (w : wf [] S) {b : Box} (hb : b ∈ S) (h : shown S b.nm = true) : ixR (.dic (laidL S S)) (.str b.nm) = .ok (toldD S b) := by
  have v := val_laid S (wf_nodup w) hb
  rw [if_pos h] at v
  have e : ixR (.dic (laidL S S)) (.str b.nm) = match valD (laidL S S) (.inr b.nm) with | some x => .ok x | none => .bad := rfl
  rw [e, v]
theorem m_is_shown {S : List Box} (w : wf [] S) (hs : S.length ≤ 100) {b : Box} (hb : b ∈ S) : den_is_shown [scD S, .str b.nm] = .ok (.bl (shown S b.nm)) := by
  have bo := m_box_of S b.nm
  rw [find_of w hb] at bo
  simp only at bo
  show runB 0 g_is_shown [scD S, .str b.nm] = _
  unfold runB g_is_shown
  simp [bo, m_laid w hs, in_laid w hb]
theorem touch_of {S : List Box} (w : wf [] S) {b : Box} (hb : b ∈ S) (x y : Int) : touch S x y b.nm = (shown S b.nm && (has (areaA S b) x y && (clips S (path S b.nm)).all fun a => has a x y)) := by
  unfold touch; rw [find_of w hb]
theorem lets_of {S : List Box} (w : wf [] S) {b : Box} (hb : b ∈ S) : lets S b.nm = mark 108 b := by unfold lets; rw [find_of w hb]
theorem m_is_touched {S : List Box} (w : wf [] S) (hs : S.length ≤ 100) {b : Box} (hb : b ∈ S) (x y : Int) : den_is_touched [scD S, .str b.nm, .int x, .int y] = .ok (.bl (touch S x y b.nm)) := by
  show runB 0 g_is_touched [scD S, .str b.nm, .int x, .int y] = _
  rw [touch_of w hb]
  unfold runB g_is_touched
  cases h : shown S b.nm with
  | true => simp [m_is_shown w hs hb, h, m_laid w hs, ix_laid w hb h, toldD, m_has_all]
  | false => simp [m_is_shown w hs hb, h]
theorem m_from_top {S : List Box} (w : wf [] S) (hs : S.length ≤ 100) : den_from_top [scD S, .dic (laidL S S)] = .ok (sL (tops S)) := by
  show runB 1 g_from_top [scD S, .dic (laidL S S)] = _
  have k := compO_map (T := nameT 2) (C := tAnd (tBin Dx.inR (getD' 2) (getD' 1)) (tBin Dx.notInR (eC (.str "l")) (eBin ixR (eUn den_box_of (aCons (getD' 0) (aCons (getD' 2) aNil))) (eC (.int 6))))) (F := getD' 2)
    (e := [.d (scD S), .d (.dic (laidL S S)), .u]) (f := D.str) (p := fun n => shown S n && !lets S n) (g := D.str) (kids S "") fun n hn => by
      obtain ⟨b, fb, hb, rfl⟩ := find_some w ((painted_all w n).mp hn)
      have bo := m_box_of S b.nm
      rw [fb] at bo
      simp only at bo
      refine ⟨_, rfl, ?_, fun _ => rfl⟩
      have lo := lets_of w hb
      unfold mark at lo
      cases h : shown S b.nm with
      | true => simp [in_laid w hb, h, bo, l_notIn, lo]
      | false => simp [in_laid w hb, h]
  have ip : itemsR (sL (kids S "")) = .ok ((kids S "").map D.str) := rfl
  unfold runB g_from_top
  simp [m_painted w hs, ip, k, tops, sL]
theorem m_all_hits {S : List Box} (w : wf [] S) (hs : S.length ≤ 100) (x y : Int) : den_all_hits [scD S, .int x, .int y] = .ok (sL (hits S x y)) := by
  show runB 2 g_all_hits [scD S, .int x, .int y] = _
  have k := compO_map (T := nameT 4) (C := tVal (eUn den_has_all (aCons (eBin ixR (getD' 3) (getD' 4)) (aCons (getD' 1) (aCons (getD' 2) aNil))))) (F := getD' 4)
    (e := [.d (scD S), .d (.int x), .d (.int y), .d (.dic (laidL S S)), .u]) (f := D.str) (p := touch S x y) (g := D.str) (tops S) fun n hn => by
      unfold tops at hn
      rw [List.mem_reverse, List.mem_filter, Bool.and_eq_true] at hn
      obtain ⟨b, fb, hb, rfl⟩ := find_some w ((painted_all w n).mp hn.1)
      refine ⟨_, rfl, ?_, fun _ => rfl⟩
      have t := touch_of w hb x y
      rw [hn.2.1, Bool.true_and] at t
      simp [ix_laid w hb hn.2.1, toldD, m_has_all, t]
  have ip : itemsR (sL (tops S)) = .ok ((tops S).map D.str) := rfl
  unfold runB g_all_hits
  simp [m_laid w hs, m_from_top w hs, ip, k, hits, sL]
def hitD (S : List Box) (x y : Int) : D := match hits S x y with
  | [] => .non
  | n :: _ => .str n
theorem m_hit {S : List Box} (w : wf [] S) (hs : S.length ≤ 100) (x y : Int) : den_hit [scD S, .int x, .int y] = .ok (hitD S x y) := by
  show runB 1 g_hit [scD S, .int x, .int y] = _
  have e := ne_strs (hits S x y) []
  rw [sL_nil] at e
  have l0 : lstR [] = .ok [] := rfl
  unfold runB g_hit hitD
  cases h : hits S x y with
  | nil =>
    rw [h] at e
    simp [m_all_hits w hs, h, l0, e]
  | cons n ns =>
    rw [h] at e
    have i0 := ix_hd (.str n) (ns.map D.str)
    rw [← sL_cons] at i0
    simp [m_all_hits w hs, h, l0, e, i0]
theorem hits_sub {S : List Box} (w : wf [] S) {x y : Int} {n : Str} (h : n ∈ hits S x y) : n ∈ names S := by
  unfold hits tops at h
  rw [List.mem_filter, List.mem_reverse, List.mem_filter] at h
  exact (painted_all w n).mp h.1.1
def hitPath (S : List Box) (x y : Int) : List Str := match hits S x y with
  | [] => []
  | n :: _ => path S n
theorem m_hit_path {S : List Box} (w : wf [] S) (hs : S.length ≤ 100) (x y : Int) : den_hit_path [scD S, .int x, .int y] = .ok (sL (hitPath S x y)) := by
  show runB 1 g_hit_path [scD S, .int x, .int y] = _
  have l0 : lstR [] = .ok [] := rfl
  unfold runB g_hit_path hitPath
  have mh := m_hit w hs x y
  unfold hitD at mh
  cases h : hits S x y with
  | nil =>
    rw [h] at mh
    have z : isN .non = true := rfl
    simp [mh, l0, z, sL]
  | cons n ns =>
    rw [h] at mh
    have z : isN (.str n) = false := rfl
    have hn : n ∈ names S := hits_sub w (x := x) (y := y) (by rw [h]; simp)
    simp [mh, z, m_path_of w hs hn]
end Fo

/-! The law's own walking: boxes, paths, what is painted, what is spread. -/
namespace Fo
open PySem Dx Dn
theorem filter_one {S : List Box} (w : wf [] S) {b : Box} (hb : b ∈ S) : S.filter (fun c => decide (c.nm = b.nm)) = [b] := by
  obtain ⟨S1, S2, rfl⟩ := List.append_of_mem hb
  have nd := wf_nodup w
  rw [names_append, names_cons, List.nodup_append, List.nodup_cons] at nd
  rw [List.filter_append, List.filter_cons]
  have f1 : S1.filter (fun c => decide (c.nm = b.nm)) = [] := by
    rw [List.filter_eq_nil_iff]
    intro c hc z
    exact nd.2.2 c.nm (mem_names.mpr ⟨c, hc, rfl⟩) b.nm List.mem_cons_self (of_decide_eq_true z)
  have f2 : S2.filter (fun c => decide (c.nm = b.nm)) = [] := by
    rw [List.filter_eq_nil_iff]
    intro c hc z
    exact nd.2.1.1 (of_decide_eq_true z ▸ mem_names.mpr ⟨c, hc, rfl⟩)
  rw [f1, f2]
  simp
theorem m_law_box {S : List Box} (w : wf [] S) {b : Box} (hb : b ∈ S) : den__law_box [scD S, .str b.nm] = .ok b.D := by
  show runB 1 g__law_box [scD S, .str b.nm] = _
  have k := compO_map (T := nameT 2) (C := tBin eqR (eBin ixR (getD' 2) (eC (.int 0))) (getD' 1)) (F := getD' 2) (e := [.d (scD S), .d (.str b.nm), .u]) (f := Box.D) (p := fun c => decide (c.nm = b.nm)) (g := Box.D) S fun c _ =>
    ⟨_, rfl, by simp [eq_str], fun _ => rfl⟩
  rw [filter_one w hb] at k
  have is : itemsR (scD S) = .ok (S.map Box.D) := rfl
  have i0 := ix_hd b.D []
  unfold runB g__law_box
  simp [is, k, i0]
theorem law_path_while {S : List Box} (w : wf [] S) (x : D) : ∀ (m : Nat) (h : Str) (f : List Str), h ∈ names S → (path S h).length < m → (path S h).length + f.length ≤ 1000 →
    whileO (tBin neR (eBin ixR (eUn den__law_box (aCons (getD' 0) (aCons (eBin ixR (getD' 2) (eC (.int 0))) aNil))) (eC (.int 1))) (eC (.str "")))
  (sSet 2 (eBin addR (eOfF (eUn lstR (aCons (eBin ixR (eUn den__law_box (aCons (getD' 0) (aCons (eBin ixR (getD' 2) (eC (.int 0))) aNil))) (eC (.int 1))) aNil))) (getD' 2))) m [.d (scD S), .d x, .d (sL (h :: f))] = .nx [.d (scD S), .d x, .d (sL (path S h ++ f))]
  | 0, _, _, _, hm, _ => absurd hm (Nat.not_lt_zero _)
  | m + 1, h, f, hn, hm, hz => by
    obtain ⟨b, e, hb, rfl⟩ := find_some w hn
    have hp := path_step w hb
    have bo := m_law_box w hb
    unfold whileO
    by_cases ea : b.ar = ""
    · rw [ea, path_empty w] at hp
      rw [hp]
      simp [sL_cons, ix_hd, bo, ne_str, ea]
    · have ha := ar_names w hb ea
      rw [hp] at hm hz
      simp at hm hz
      have ih := law_path_while w x m b.ar (b.nm :: f) ha (by omega) (by simp; omega)
      have z1 : 1 + (f.length + 1) ≤ 16777216 := by omega
      rw [hp]
      rw [sL_cons, List.map_cons] at ih
      simp [sL_cons, ix_hd, bo, ne_str, ea, lstR, sizeLine_eq, addR, z1, ih]
theorem m_law_path {S : List Box} (w : wf [] S) (hs : S.length ≤ 100) {n : Str} (hn : n ∈ names S) : den__law_path [scD S, .str n] = .ok (sL (path S n)) := by
  have hl := path_len (S := S) (n := n)
  have wh := law_path_while w (.str n) 4096 n [] hn (by omega) (by simp; omega)
  show runB 1 g__law_path [scD S, .str n] = _
  unfold runB g__law_path
  rw [sL_cons, List.append_nil, List.map_nil] at wh
  simp only [List.map_cons, List.map_nil, List.replicate, List.cons_append, List.nil_append, sSeq_ap, sSet_ap, eOfF_ap, eUn_ap, aCons_ap, aNil_ap, getD_0, getD_s, R.ok_bind, lstR_s (xs := [D.str n]) (by simp), liftO_ok, List.set_cons_succ, List.set_cons_zero, seqO_nx, sWhile_ap]
  rw [wh]
  simp
theorem kids_len {S : List Box} (w : wf [] S) {n : Str} (hn : n = "" ∨ n ∈ names S) : (kids S n).length ≤ S.length := by
  rcases hn with rfl | hn
  · have := (painted_perm w).length_eq
    rw [names_length] at this
    omega
  · have := blk_len w hn
    unfold blk at this
    simp at this
    omega

/-! ### what is spread -/
def rowD (S : List Box) (b : Box) : D := .tup [b.D, (areaA S b).D, .lst ((clips S (path S b.ar) ++ [areaA S b]).map Area.D)]
def rowOf (S : List Box) (n : Str) : D := match findB S n with
  | some b => rowD S b
  | none => .non
def spr (S : List Box) (n : Str) : List Str := (kids S n).filter (shown S)
def open_ (S : List Box) (n : Str) (b : Box) : Bool := decide (b.ar = n) && !mark 104 b
theorem hidden_below {S : List Box} (w : wf [] S) {b : Box} (hb : b ∈ S) (hh : shown S b.nm = false) : (blk S b.nm).filter (shown S) = [] := by
  rw [List.filter_eq_nil_iff]
  intro m hm z
  unfold blk at hm
  rcases List.mem_cons.mp hm with e | hm
  · subst e; rw [hh] at z; cases z
  · have hn : b.nm ∈ names S := mem_names.mpr ⟨b, hb, rfl⟩
    have hp := ((mem_kids w).mp hm)
    have hp2 : b.nm ∈ path S m := by
      rcases hp.2 with e | e
      · exact absurd e (wf_new w _ hn).1
      · exact (List.dropLast_sublist _).subset e
    obtain ⟨r, hr⟩ := path_pre w _ (Nat.le_refl _) hp.1 hp2
    unfold shown at z hh
    rw [hr, List.all_append, Bool.and_eq_true] at z
    rw [z.1] at hh
    cases hh
theorem spr_flat {S : List Box} (w : wf [] S) {n : Str} (hs : shown S n = true) : spr S n = (S.filter (open_ S n)).flatMap fun b => b.nm :: spr S b.nm := by
  unfold spr
  rw [kids_flat w n]
  unfold children
  have : ∀ T : List Box, (∀ b ∈ T, b ∈ S) → (((T.filter fun b => decide (b.ar = n)).map (·.nm)).flatMap (blk S)).filter (shown S) = (T.filter (open_ S n)).flatMap fun b => b.nm :: (kids S b.nm).filter (shown S) := by
    intro T
    induction T with
    | nil => intro _; rfl
    | cons b T ih =>
      intro hT
      have ih := ih fun c hc => hT c (List.mem_cons_of_mem _ hc)
      have hb := hT b List.mem_cons_self
      rw [List.filter_cons, List.filter_cons]
      by_cases e : b.ar = n
      · have st := shown_step w hb
        rw [e, hs, Bool.true_and] at st
        cases hm : mark 104 b with
        | true =>
          rw [hm] at st
          simp only [e, decide_true, if_true, List.map_cons, List.flatMap_cons, List.filter_append, hidden_below w hb st, open_, hm, Bool.not_true, Bool.and_false, Bool.false_eq_true, if_false, List.nil_append]
          exact ih
        | false =>
          rw [hm] at st
          have st : shown S b.nm = true := st
          simp only [e, decide_true, if_true, List.map_cons, List.flatMap_cons, List.filter_append, open_, hm, Bool.not_false, Bool.and_true]
          rw [ih]
          unfold blk
          rw [List.filter_cons, if_pos st]
      · simp only [e, decide_false, Bool.false_eq_true, if_false, open_, Bool.false_and]
        exact ih
  exact this S fun b hb => hb
theorem m_spread {S : List Box} (w : wf [] S) (hs : S.length ≤ 100) : ∀ (k : Nat) (n : Str), (n = "" ∨ n ∈ names S) → shown S n = true → S.length - (path S n).length < k →
    den__law_spread_n k [scD S, .str n, .int (offs S (path S n)).1, .int (offs S (path S n)).2, .lst ((clips S (path S n)).map Area.D)] = .ok (.lst ((spr S n).map (rowOf S)))
  | 0, _, _, _, h => absurd h (Nat.not_lt_zero _)
  | k + 1, n, hn, hsh, hk => by
    show runB 4 (g__law_spread (den__law_spread_n k)) [scD S, .str n, .int (offs S (path S n)).1, .int (offs S (path S n)).2, .lst ((clips S (path S n)).map Area.D)] = _
    have is : itemsR (scD S) = .ok (S.map Box.D) := rfl
    have l0 : lstR [] = .ok [] := rfl
    have sf := spr_flat w hsh
    have kl := kids_len w hn
    have sl : (spr S n).length ≤ S.length := Nat.le_trans (List.length_filter_le ..) kl
    unfold runB g__law_spread
    simp only [List.map_cons, List.map_nil, List.replicate, List.cons_append, List.nil_append, sSeq_ap, sSet_ap, eOfF_ap, eUn_ap, aNil_ap, R.ok_bind, l0, liftO_ok, List.set_cons_succ, List.set_cons_zero, seqO_nx, sFor_ap, getD_0, is]
    generalize hB : (sEnd [6, 7, 8] _ : En → Out) = B
    have kf := forO_fold (T := nameT 6) (G := B) (f := Box.D) (inv := fun done => [.d (scD S), .d (.str n), .d (.int (offs S (path S n)).1), .d (.int (offs S (path S n)).2), .d (.lst ((clips S (path S n)).map Area.D)), .d (.lst (((done.filter (open_ S n)).flatMap fun b => b.nm :: spr S b.nm).map (rowOf S))), .u, .u, .u]) S [] (fun a pre rest hx => ?_)
    · simp only [List.nil_append, List.filter_nil, List.flatMap_nil, List.map_nil] at kf
      rw [kf, ← sf]
      simp
    · refine ⟨_, by simp; rfl, .inl ?_⟩
      rw [← hB]
      simp only [List.nil_append]
      have ha : a ∈ S := by rw [hx]; simp
      have na : a.nm ∈ names S := mem_names.mpr ⟨a, ha, rfl⟩
      rw [List.filter_append, List.flatMap_append]
      by_cases ho : open_ S n a = true
      · have ho' := ho
        unfold open_ at ho'
        rw [Bool.and_eq_true] at ho'
        have ear : a.ar = n := of_decide_eq_true ho'.1
        have hm : mark 104 a = false := by simpa using ho'.2
        have hm' : ¬ 104 ∈ a.ms.cps.toList := of_decide_eq_false hm
        have st := shown_step w ha
        rw [ear, hsh, hm] at st
        have st : shown S a.nm = true := st
        have ps := path_step w ha
        have os := area_step w ha
        have cs := clips_step w ha
        rw [ear] at ps os cs
        have pl := path_len (S := S) (n := a.nm)
        have plen : (path S a.nm).length = (path S n).length + 1 := by rw [ps]; simp
        have ih := m_spread w hs k a.nm (.inr na) st (by omega)
        rw [os] at ih
        have fa : findB S a.nm = some a := find_of w ha
        have ro : rowOf S a.nm = rowD S a := by unfold rowOf; rw [fa]
        have aD : (areaA S a).D = .tup [.int ((offs S (path S n)).1 + a.l), .int ((offs S (path S n)).2 + a.t), .int ((offs S (path S n)).1 + a.l + a.w), .int ((offs S (path S n)).2 + a.t + a.h)] := by
          unfold Area.D areaA
          rw [os]
        have rD : rowD S a = .tup [a.D, (areaA S a).D, .lst ((clips S (path S n)).map Area.D ++ [(areaA S a).D])] := by
          unfold rowD
          rw [ear]
          simp
        have cl := clips_len S (path S n)
        have pn := path_len (S := S) (n := n)
        have t4 : ∀ x y z u : D, tupR [x, y, z, u] = .ok (.tup [x, y, z, u]) := fun _ _ _ _ => rfl
        have t3 : ∀ x y z : D, tupR [x, y, z] = .ok (.tup [x, y, z]) := fun _ _ _ => rfl
        have l1 : ∀ x : D, lstR [x] = .ok [x] := fun _ => rfl
        have y0 : ∀ x y z u : D, ixR (.tup [x, y, z, u]) (.int 0) = .ok x := fun _ _ _ _ => rfl
        have y1 : ∀ x y z u : D, ixR (.tup [x, y, z, u]) (.int 1) = .ok y := fun _ _ _ _ => rfl
        have m1 : ∀ x : D, mulR (.lst [x]) (.int 1) = .ok (.lst [x]) := fun x => by simp [mulR, sizeLine_eq]
        have m0 : ∀ x : D, mulR (.lst [x]) (.int 0) = .ok (.lst []) := fun x => by simp [mulR]
        have i1 : int1R [.bl true] = .ok (.int 1) := rfl
        have i0 : int1R [.bl false] = .ok (.int 0) := rfl
        have one : (List.filter (open_ S n) [a]).flatMap (fun b => b.nm :: spr S b.nm) = a.nm :: spr S a.nm := by simp [ho]
        rw [one]
        have hfil : ∀ q : Box → Bool, q a = true → S.filter q = pre.filter q ++ a :: rest.filter q := by
          intro q hq
          rw [hx, List.filter_append, List.filter_cons, if_pos hq]
        have tot := congrArg List.length sf
        rw [hfil _ ho, List.flatMap_append, List.flatMap_cons, List.length_append, List.length_append] at tot
        generalize hP : (pre.filter (open_ S n)).flatMap (fun b => b.nm :: spr S b.nm) = P at *
        have z1 : P.length + 1 ≤ 1000 := by simp at tot; omega
        have z2 : P.length + 1 + (spr S a.nm).length ≤ 1000 := by simp at tot; omega
        have z3 : (clips S (path S n)).length + 1 ≤ 1000 := by omega
        cases hc : mark 99 a with
        | true =>
          have hc' : 99 ∈ a.ms.cps.toList := of_decide_eq_true hc
          rw [hc, if_pos rfl] at cs
          rw [cs, List.map_append, List.map_cons, List.map_nil, aD] at ih
          rw [aD] at rD
          simp [eq_str, ear, h_notIn, hm', t4, t3, l1, c_in, hc', i1, m1, y0, y1, addR_l, z1, z2, z3, ih, ro, rD]
        | false =>
          have hc' : ¬ 99 ∈ a.ms.cps.toList := of_decide_eq_false hc
          rw [hc, if_neg Bool.false_ne_true, List.append_nil] at cs
          rw [cs] at ih
          rw [aD] at rD
          have z4 : (clips S (path S n)).length ≤ 1000 := by omega
          simp [eq_str, ear, h_notIn, hm', t4, t3, l1, c_in, hc', i0, m0, y0, y1, addR_l, z1, z2, z3, z4, ih, ro, rD]
      · have one : (List.filter (open_ S n) [a]).flatMap (fun b => b.nm :: spr S b.nm) = [] := by simp [ho]
        rw [one, List.append_nil]
        unfold open_ mark at ho
        by_cases ear : a.ar = n
        · have hm' : 104 ∈ a.ms.cps.toList := by
            simp [ear] at ho
            simpa using ho
          simp [eq_str, ear, h_notIn, hm']
        · simp [eq_str, ear]
end Fo

/-! The law's own hits. -/
namespace Fo
open PySem Dx Dn
theorem eq_nil {α : Type} {f : α → D} (h : ∀ a, dle 63 (f a) = true) (xs : List α) : eqR (.lst (xs.map f)) (.lst []) = .ok (.bl xs.isEmpty) := by
  have e : eqR (.lst (xs.map f)) (.lst []) = if dle 64 (.lst (xs.map f)) && dle 64 (.lst []) then .ok (.bl (eqD (.lst (xs.map f)) (.lst []))) else .bad := rfl
  have d : dle 64 (.lst (xs.map f)) = true := dle_all h xs
  have d0 : dle 64 (.lst []) = true := rfl
  rw [e, d, d0]
  cases xs <;> rfl
theorem dle_area (a : Area) : dle 63 a.D = true := rfl
theorem m_law_has (cs : List Area) (x y : Int) : den__law_has [.lst (cs.map Area.D), .int x, .int y] = .ok (.bl (cs.all fun a => has a x y)) := by
  show runB 1 g__law_has [.lst (cs.map Area.D), .int x, .int y] = _
  have k := compO_map (T := nameT 3) (C := tNot (tAnd (tChain leR ltR (eBin ixR (getD' 3) (eC (.int 0))) (getD' 1) (eBin ixR (getD' 3) (eC (.int 2)))) (tChain leR ltR (eBin ixR (getD' 3) (eC (.int 1))) (getD' 2) (eBin ixR (getD' 3) (eC (.int 3)))))) (F := getD' 3)
    (e := [.d (.lst (cs.map Area.D)), .d (.int x), .d (.int y), .u]) (f := Area.D) (p := fun a => !has a x y) (g := Area.D) cs fun a _ => by
      have i0 : ixR a.D (.int 0) = .ok (.int a.l) := rfl
      have i1 : ixR a.D (.int 1) = .ok (.int a.t) := rfl
      have i2 : ixR a.D (.int 2) = .ok (.int a.r) := rfl
      have i3 : ixR a.D (.int 3) = .ok (.int a.b) := rfl
      refine ⟨_, rfl, ?_, fun _ => rfl⟩
      unfold has
      by_cases h1 : a.l ≤ x <;> by_cases h2 : x < a.r <;> by_cases h3 : a.t ≤ y <;> by_cases h4 : y < a.b <;>
        simp [i0, i1, i2, i3, chainR, leR_int, ltR_int, h1, h2, h3, h4]
  have en := eq_nil dle_area (cs.filter fun a => !has a x y)
  have ee : ∀ cs : List Area, (cs.filter fun a => !has a x y).isEmpty = cs.all fun a => has a x y := by
    intro cs
    induction cs with
    | nil => rfl
    | cons c cs ih => rw [List.filter_cons, List.all_cons, ← ih]; cases h : has c x y <;> simp
  rw [ee] at en
  have l0 : lstR [] = .ok [] := rfl
  unfold runB g__law_has
  simp [k, en, l0]
theorem spr_mem {S : List Box} (w : wf [] S) {n : Str} (h : n ∈ spr S "") : ∃ b, findB S n = some b ∧ b ∈ S ∧ b.nm = n ∧ shown S n = true := by
  unfold spr at h
  rw [List.mem_filter] at h
  obtain ⟨b, fb, hb, e⟩ := find_some w ((painted_all w n).mp h.1)
  exact ⟨b, fb, hb, e, h.2⟩
theorem m_law_spread0 {S : List Box} (w : wf [] S) (hs : S.length ≤ 8) : den__law_spread [scD S, .str "", .int 0, .int 0, .lst []] = .ok (.lst ((spr S "").map (rowOf S))) := by
  have k := m_spread w (by omega) 9 "" (.inl rfl) (shown_empty w) (by omega)
  rw [clips_empty w, path_empty w] at k
  exact k
theorem row_has {S : List Box} (w : wf [] S) {b : Box} (hb : b ∈ S) (hsh : shown S b.nm = true) (x y : Int) : ((clips S (path S b.ar) ++ [areaA S b]).all fun a => has a x y) = touch S x y b.nm := by
  rw [touch_of w hb, hsh, Bool.true_and, clips_step w hb, List.all_append, List.all_append, List.all_cons, List.all_nil, Bool.and_true]
  cases h1 : has (areaA S b) x y <;> cases h : (clips S (path S b.ar)).all (fun a => has a x y) <;> split <;> simp [h1]
theorem row_0 (S : List Box) (b : Box) : ixR (rowD S b) (.int 0) = .ok b.D := rfl
theorem row_1 (S : List Box) (b : Box) : ixR (rowD S b) (.int 1) = .ok (areaA S b).D := rfl
theorem row_2 (S : List Box) (b : Box) : ixR (rowD S b) (.int 2) = .ok (.lst ((clips S (path S b.ar) ++ [areaA S b]).map Area.D)) := rfl
theorem m_law_hits {S : List Box} (w : wf [] S) (hs : S.length ≤ 8) (x y : Int) : den__law_hits [scD S, .int x, .int y] = .ok (sL (hits S x y)) := by
  show runB 2 g__law_hits [scD S, .int x, .int y] = _
  have k := compO_map (T := nameT 4) (C := tAnd (tBin Dx.notInR (eC (.str "l")) (eBin ixR (eBin ixR (getD' 4) (eC (.int 0))) (eC (.int 6)))) (tVal (eUn den__law_has (aCons (eBin ixR (getD' 4) (eC (.int 2))) (aCons (getD' 1) (aCons (getD' 2) aNil))))))
    (F := eBin ixR (eBin ixR (getD' 4) (eC (.int 0))) (eC (.int 0))) (e := [.d (scD S), .d (.int x), .d (.int y), .d (.lst ((spr S "").map (rowOf S))), .u]) (f := rowOf S) (p := fun m => !lets S m && touch S x y m) (g := D.str) (spr S "") fun m hm => by
      obtain ⟨b, fb, hb, rfl, hsh⟩ := spr_mem w hm
      have ro : rowOf S b.nm = rowD S b := by unfold rowOf; rw [fb]
      have lo := lets_of w hb
      unfold mark at lo
      have rh := row_has w hb hsh x y
      have mh := m_law_has (clips S (path S b.ar) ++ [areaA S b]) x y
      rw [rh] at mh
      refine ⟨_, rfl, ?_, fun _ => by simp [ro, row_0]⟩
      rw [ro]
      by_cases hl : 108 ∈ b.ms.cps.toList
      · simp [row_0, l_notIn, hl, lo]
      · rw [lo]
        simp only [tAnd_ap, tBin_ap, eC_ap, eBin_ap, tVal_ap, eUn_ap, aCons_ap, aNil_ap, getD_s, getD_0, List.set_cons_succ, List.set_cons_zero, R.ok_bind, row_0, ix_6, l_notIn, hl, decide_false, Bool.not_false, boolR_bl, if_true, row_2, mh, Bool.true_and]
  have ip : itemsR (.lst ((spr S "").map (rowOf S))) = .ok ((spr S "").map (rowOf S)) := rfl
  have l0 : lstR [] = .ok [] := rfl
  have hh : ((spr S "").filter fun m => !lets S m && touch S x y m).reverse = hits S x y := by
    unfold hits tops spr
    rw [← List.filter_reverse, ← List.filter_reverse, ← List.filter_reverse, List.filter_filter, List.filter_filter]
    apply List.filter_congr
    intro m _
    cases shown S m <;> cases lets S m <;> cases touch S x y m <;> rfl
  have hh' : (((spr S "").filter fun m => !lets S m && touch S x y m).map D.str).reverse = (hits S x y).map D.str := by rw [← hh, List.map_reverse]
  unfold runB g__law_hits
  simp [l0, m_law_spread0 w hs, ip, k, sL, hh']
theorem m_law_hit_path {S : List Box} (w : wf [] S) (hs : S.length ≤ 8) (x y : Int) : den__law_hit_path [scD S, .int x, .int y] = .ok (sL (hitPath S x y)) := by
  show runB 1 g__law_hit_path [scD S, .int x, .int y] = _
  have l0 : lstR [] = .ok [] := rfl
  have e := ne_strs (hits S x y) []
  rw [sL_nil] at e
  unfold runB g__law_hit_path hitPath
  have mh := m_law_hits w hs x y
  cases h : hits S x y with
  | nil =>
    rw [h] at mh
    have e00 : neR (.lst []) (.lst []) = .ok (.bl false) := rfl
    simp [mh, l0, e00, sL_nil]
  | cons n ns =>
    rw [h] at mh e
    have hn : n ∈ names S := hits_sub w (x := x) (y := y) (by rw [h]; simp)
    have i0 := ix_hd (.str n) (ns.map D.str)
    rw [← sL_cons] at i0
    simp [mh, l0, e, i0, m_law_path w (by omega) hn]
theorem eqD_box (a b : Box) : eqD a.D b.D = decide (a = b) := by
  have i : ∀ x y : Int, (x == y) = decide (x = y) := fun x y => by by_cases e : x = y <;> simp [e]
  have s : ∀ x y : Str, (x == y) = decide (x = y) := fun x y => by by_cases e : x = y <;> simp [e]
  cases a
  cases b
  simp only [Box.D, eqD, eqDs, i, s, Box.mk.injEq, Bool.and_true, Bool.decide_and]
theorem eq_box (a b : Box) : eqR a.D b.D = .ok (.bl (decide (a = b))) := by
  have e : eqR a.D b.D = if dle 64 a.D && dle 64 b.D then .ok (.bl (eqD a.D b.D)) else .bad := rfl
  have d : ∀ a : Box, dle 64 a.D = true := fun _ => rfl
  rw [e, d, d, eqD_box]
  rfl
theorem spr_one {S : List Box} (w : wf [] S) {b : Box} (hb : b ∈ S) : (spr S "").filter (fun m => decide (m = b.nm)) = if shown S b.nm = true then [b.nm] else [] := by
  have nd : (spr S "").Nodup := (painted_nodup w).filter _
  have one : ∀ l : List Str, l.Nodup → l.filter (fun m => decide (m = b.nm)) = if b.nm ∈ l then [b.nm] else [] := by
    intro l
    induction l with
    | nil => intro _; rfl
    | cons c l ih =>
      intro nd
      rw [List.nodup_cons] at nd
      rw [List.filter_cons, ih nd.2]
      by_cases e : c = b.nm
      · subst e; simp [nd.1]
      · have e' : ¬ b.nm = c := fun z => e z.symm
        simp [e, e']
  rw [one _ nd]
  have : b.nm ∈ spr S "" ↔ shown S b.nm = true := by
    unfold spr
    rw [List.mem_filter]
    exact ⟨fun z => z.2, fun z => ⟨(painted_all w _).mpr (mem_names.mpr ⟨b, hb, rfl⟩), z⟩⟩
  simp only [this]
end Fo

/-! The law k06. -/
namespace Fo
open PySem Dx Dn
def pairD (p : Int × Int) : D := .tup [.int p.1, .int p.2]
def cor (a : Area) : Nat → Int × Int
  | 0 => (a.l, a.t)
  | 1 => (a.r, a.t)
  | 2 => (a.r - 1, a.b - 1)
  | 3 => (a.l, a.b)
  | _ => (a.l - 1, a.t)
theorem ix_cor (a : Area) (v : Int) (h0 : 0 ≤ v) (h1 : v < 5) :
    ixR (.lst [.tup [.int a.l, .int a.t], .tup [.int a.r, .int a.t], .tup [.int (a.r - 1), .int (a.b - 1)], .tup [.int a.l, .int a.b], .tup [.int (a.l - 1), .int a.t]]) (.int v) = .ok (pairD (cor a v.toNat)) := by
  have : v = 0 ∨ v = 1 ∨ v = 2 ∨ v = 3 ∨ v = 4 := by omega
  rcases this with rfl | rfl | rfl | rfl | rfl <;> rfl
def area0 : Area := ⟨0, 0, 0, 0⟩
def rowA (S : List Box) (b : Box) : Area := if shown S b.nm = true then areaA S b else area0
def rowC (S : List Box) (b : Box) : List Area := if shown S b.nm = true then clips S (path S b.ar) ++ [areaA S b] else [area0]
def ptsOf (ns : List Int) (S : List Box) (p0 : List (Int × Int)) (done : List Box) : List (Int × Int) :=
  done.foldl (fun ps b => ps ++ [cor (rowA S b) (drawn ns (120 + (ps.length : Int)) 5).toNat]) p0
theorem ptsOf_snoc (ns : List Int) (S : List Box) (p0 : List (Int × Int)) (done : List Box) (b : Box) : ptsOf ns S p0 (done ++ [b]) = ptsOf ns S p0 done ++ [cor (rowA S b) (drawn ns (120 + ((ptsOf ns S p0 done).length : Int)) 5).toNat] := by
  unfold ptsOf
  rw [List.foldl_append]
  rfl
theorem ptsOf_len (ns : List Int) (S : List Box) (p0 : List (Int × Int)) : ∀ done : List Box, (ptsOf ns S p0 done).length = p0.length + done.length := by
  intro done
  induction done using snoc_ind with
  | h0 => rfl
  | h1 T b ih => rw [ptsOf_snoc, List.length_append, ih]; simp; omega
/-- the rows of one box -/
theorem rows_of {S : List Box} (w : wf [] S) {b : Box} (hb : b ∈ S) (F : En → R D) (g : D → D) (e : En) (i4 i17 : Nat) (h4 : ∀ x : D, getD' i4 (e.set i17 (.d x)) = .ok b.D) (h17 : ∀ x : D, getD' i17 (e.set i17 (.d x)) = .ok x)
    (hF : ∀ c ∈ S, F (e.set i17 (.d (rowD S c))) = .ok (g (rowD S c))) :
    compO (nameT i17) (tBin eqR (eBin ixR (getD' i17) (eC (.int 0))) (getD' i4)) F e ((spr S "").map (rowOf S)) = .ok (if shown S b.nm = true then [g (rowD S b)] else []) := by
  have k := compO_map (T := nameT i17) (C := tBin eqR (eBin ixR (getD' i17) (eC (.int 0))) (getD' i4)) (F := F) (e := e) (f := rowOf S) (p := fun m => decide (m = b.nm)) (g := fun m => g (rowOf S m)) (spr S "") fun m hm => by
    obtain ⟨c, fc, hc, rfl, hsh⟩ := spr_mem w hm
    have ro : rowOf S c.nm = rowD S c := by unfold rowOf; rw [fc]
    have inj : decide (c = b) = decide (c.nm = b.nm) := by
      by_cases e : c.nm = b.nm
      · have f1 := find_of w hc
        have f2 := find_of w hb
        rw [e, f2] at f1
        cases f1
        simp
      · have : ¬ c = b := fun z => e (z ▸ rfl)
        simp [e, this]
    refine ⟨_, rfl, ?_, fun _ => ?_⟩
    · rw [ro]
      simp only [tBin_ap, eBin_ap, eC_ap, h17, h4, R.ok_bind, row_0, eq_box, boolR_bl, inj]
    · rw [ro]; exact hF c hc
  rw [k, spr_one w hb]
  have ro : rowOf S b.nm = rowD S b := by unfold rowOf; rw [find_of w hb]
  split <;> simp [ro]
theorem eq_bl (a b : Bool) : neR (.bl a) (.bl b) = .ok (.bl (!decide (a = b))) := by cases a <;> cases b <;> rfl
theorem isi_bl (b : Bool) : isiR "bool" (.bl b) = .ok (.bl true) := rfl
theorem hid_all {S : List Box} (w : wf [] S) (n : Str) : ((path S n).filter fun m => match findB S m with | some b => mark 104 b | none => false).isEmpty = shown S n := by
  unfold shown
  have : ∀ l : List Str, (∀ m ∈ l, m ∈ names S) → (l.filter fun m => match findB S m with | some b => mark 104 b | none => false).isEmpty = l.all fun m => match findB S m with | some b => !mark 104 b | none => true := by
    intro l
    induction l with
    | nil => intro _; rfl
    | cons m l ih =>
      intro hl
      obtain ⟨b, fb, hb, _⟩ := find_some w (hl m List.mem_cons_self)
      rw [List.filter_cons, List.all_cons, ← ih fun m hm => hl m (List.mem_cons_of_mem _ hm), fb]
      cases hm : mark 104 b <;> simp [hm]
  exact this _ fun m hm => path_names w hm
theorem has0 (x y : Int) : has area0 x y = false := by
  unfold has area0
  by_cases h : (0 : Int) ≤ x
  · have : ¬ x < 0 := by omega
    simp [this]
  · simp [h]
theorem eq_sL_nil (xs : List Str) : eqR (sL xs) (.lst []) = .ok (.bl xs.isEmpty) := eq_nil (fun _ => rfl) xs
theorem first_for {ns : List Int} (h : ns.length ≤ 63) {S : List Box} (w : wf [] S) (hs : S.length ≤ 7) (p0 : List (Int × Int)) (hp : p0.length ≤ 3) (B : En → Out) (hB : B = sEnd [4, 5, 6, 7, 8, 9, 10, 11] (sSeq (sAsg (tupT [5, 6, 7, 8]) (eBin ixR (eBin addR (eOfF (eComp (eUn itemsR (getD' 3)) (nameT 17) (tBin eqR (eBin ixR (getD' 17) (eC (.int 0))) (getD' 4)) (eBin ixR (getD' 17) (eC (.int 1))) [17])) (eOfF (eUn lstR (aCons (eUn tupR (aCons (eC (.int 0)) (aCons (eC (.int 0)) (aCons (eC (.int 0)) (aCons (eC (.int 0)) aNil))))) aNil)))) (eC (.int 0))))
  (sSeq (sSet 9 (eOfF (eUn lstR (aCons (eUn tupR (aCons (getD' 5) (aCons (getD' 6) aNil))) (aCons (eUn tupR (aCons (getD' 7) (aCons (getD' 6) aNil))) (aCons (eUn tupR (aCons (eBin subR (getD' 7) (eC (.int 1))) (aCons (eBin subR (getD' 8) (eC (.int 1))) aNil))) (aCons (eUn tupR (aCons (getD' 5) (aCons (getD' 8) aNil))) (aCons (eUn tupR (aCons (eBin subR (getD' 5) (eC (.int 1))) (aCons (getD' 6) aNil))) aNil))))))))
  (sSeq (sMeth 2 (eBin ixR (getD' 9) (eUn den__law_drawn (aCons (getD' 0) (aCons (eBin addR (eC (.int 120)) (eUn lenR (aCons (getV 2) aNil))) (aCons (eC (.int 5)) aNil))))) appO)
  (sSeq (sSet 10 (eUn den_is_shown (aCons (getD' 1) (aCons (eBin ixR (getD' 4) (eC (.int 0))) aNil))))
  (sSeq (sSetFD 11 (eComp (eUn itemsR (eUn den__law_path (aCons (getD' 1) (aCons (eBin ixR (getD' 4) (eC (.int 0))) aNil)))) (nameT 18) (tBin Dx.inR (eC (.str "h")) (eBin ixR (eUn den__law_box (aCons (getD' 1) (aCons (getD' 18) aNil))) (eC (.int 6)))) (getD' 18) [18]))
  (sIf (tOr (tNot (tVal (eUn (isiR "bool") (getD' 10)))) (tBin neR (getD' 10) (eBin eqR (getD' 11) (eOfF (eUn lstR aNil)))))
  (sRet (eC (.bl false)))
  sNil))))))) :
    forO (nameT 4) B (S.map Box.D) [.d (.frz ns), .d (scD S), .ol (p0.map pairD), .d (.lst ((spr S "").map (rowOf S))), .u, .u, .u, .u, .u, .u, .u, .u, .u, .u, .u, .u, .u, .u, .u] =
      .nx [.d (.frz ns), .d (scD S), .ol ((ptsOf ns S p0 S).map pairD), .d (.lst ((spr S "").map (rowOf S))), .u, .u, .u, .u, .u, .u, .u, .u, .u, .u, .u, .u, .u, .u, .u] := by
  have kf := forO_fold (T := nameT 4) (G := B) (f := Box.D) (inv := fun done => [.d (.frz ns), .d (scD S), .ol ((ptsOf ns S p0 done).map pairD), .d (.lst ((spr S "").map (rowOf S))), .u, .u, .u, .u, .u, .u, .u, .u, .u, .u, .u, .u, .u, .u, .u]) S [] (fun a pre rest hx => ?_)
  · simpa [ptsOf] using kf
  · refine ⟨_, rfl, .inl ?_⟩
    simp only [List.nil_append, ptsOf_snoc]
    have ha : a ∈ S := by rw [hx]; simp
    have na : a.nm ∈ names S := mem_names.mpr ⟨a, ha, rfl⟩
    have pl := ptsOf_len ns S p0 pre
    have hl := congrArg List.length hx
    simp at hl
    generalize ptsOf ns S p0 pre = P at *
    have ip : itemsR (.lst ((spr S "").map (rowOf S))) = .ok ((spr S "").map (rowOf S)) := rfl
    have r1 := rows_of w ha (eBin ixR (getD' 17) (eC (.int 1))) (fun d => match ixR d (.int 1) with | .ok x => x | _ => .non) [.d (.frz ns), .d (scD S), .ol (P.map pairD), .d (.lst ((spr S "").map (rowOf S))), .d a.D, .u, .u, .u, .u, .u, .u, .u, .u, .u, .u, .u, .u, .u, .u] 4 17 (fun _ => rfl) (fun _ => rfl) fun c hc => by simp [row_1]
    simp only [row_1] at r1
    have z0 : (.tup [.int 0, .int 0, .int 0, .int 0] : D) = area0.D := rfl
    have t4 : ∀ x y z u : D, tupR [x, y, z, u] = .ok (.tup [x, y, z, u]) := fun _ _ _ _ => rfl
    have t2 : ∀ x y : D, tupR [x, y] = .ok (.tup [x, y]) := fun _ _ => rfl
    have l1 : ∀ x : D, lstR [x] = .ok [x] := fun _ => rfl
    have l5 : ∀ x y z u v : D, lstR [x, y, z, u, v] = .ok [x, y, z, u, v] := fun _ _ _ _ _ => rfl
    have l0 : lstR [] = .ok [] := rfl
    have fst : ∃ L : List D, addR (.lst (if shown S a.nm = true then [(areaA S a).D] else [])) (.lst [area0.D]) = .ok (.lst L) ∧ ixR (.lst L) (.int 0) = .ok (rowA S a).D := by
      unfold rowA
      split
      · exact ⟨[(areaA S a).D, area0.D], addR_l (by simp), ix_hd _ _⟩
      · exact ⟨[area0.D], addR_l (by simp), ix_hd _ _⟩
    obtain ⟨L, f1, f2⟩ := fst
    generalize hA : rowA S a = A at *
    have tT : ∀ e : En, tupT [5, 6, 7, 8] A.D e = .ok ((((e.set 5 (.d (.int A.l))).set 6 (.d (.int A.t))).set 7 (.d (.int A.r))).set 8 (.d (.int A.b))) := fun _ => rfl
    have dr := drawn_in h (120 + (P.length : Int)) (many := 5) (by omega)
    have dk := drawn_ok h (120 + (P.length : Int)) (many := 5) (by omega)
    have ic := ix_cor A _ dr.1 dr.2
    have ll : lenR [.lst (P.map pairD)] = .ok (.int (P.length : Int)) := by simp [lenR]
    have zP : P.length < sizeLine := by rw [sizeLine_eq]; omega
    have ish := m_is_shown w (by omega) ha
    have lp := m_law_path w (by omega) na
    have cm := fun (s5 s6 s7 s8 s9 s10 : Slot) (Pn : List D) => compO_map (T := nameT 18) (C := tBin Dx.inR (eC (.str "h")) (eBin ixR (eUn den__law_box (aCons (getD' 1) (aCons (getD' 18) aNil))) (eC (.int 6)))) (F := getD' 18)
      (e := [.d (.frz ns), .d (scD S), .ol Pn, .d (.lst ((spr S "").map (rowOf S))), .d a.D, s5, s6, s7, s8, s9, s10, .u, .u, .u, .u, .u, .u, .u, .u]) (f := D.str) (p := fun m => match findB S m with | some b => mark 104 b | none => false) (g := D.str) (path S a.nm) fun m hm => by
        obtain ⟨b, fb, hb, rfl⟩ := find_some w (path_names w hm)
        refine ⟨_, rfl, ?_, fun _ => rfl⟩
        rw [fb]
        simp [m_law_box w hb, h_in, mark]
    have ips : itemsR (sL (path S a.nm)) = .ok ((path S a.nm).map D.str) := rfl
    have hid := hid_all w a.nm
    have en := eq_sL_nil ((path S a.nm).filter fun m => match findB S m with | some b => mark 104 b | none => false)
    rw [hid] at en
    unfold sL at en
    generalize ((path S a.nm).filter fun m => match findB S m with | some b => mark 104 b | none => false) = Hd at *
    rw [hB]
    simp [ip, r1, z0, t4, t2, l1, l5, l0, f1, f2, tT, ll, dk, ic, appO, zP, ish, lp, ips, cm, isi_bl, en, eq_bl]
end Fo

/-! How many points. -/
namespace Fo
open PySem Dx Dn
theorem forO_foldl {α σ : Type} {T : D → En → R En} {G : En → Out} {f : α → D} (inv : σ → En) (step : σ → α → σ) (s0 : σ) (xs : List α)
    (h : ∀ a pre rest, xs = pre ++ a :: rest → ∃ e1, T (f a) (inv (pre.foldl step s0)) = .ok e1 ∧ G e1 = .nx (inv (step (pre.foldl step s0) a))) :
    forO T G (xs.map f) (inv s0) = .nx (inv (xs.foldl step s0)) := by
  have k := forO_fold (T := T) (G := G) (f := f) (inv := fun done => inv (done.foldl step s0)) xs [] fun a pre rest e => by
    obtain ⟨e1, h1, h2⟩ := h a pre rest e
    refine ⟨e1, by simpa using h1, .inl ?_⟩
    rw [h2, List.nil_append, List.foldl_append]
    rfl
  simpa using k
def rngI (lo : Int) (n : Nat) : List Int := (List.range n).map fun i : Nat => lo + (i : Int)
theorem rngD_I (lo : Int) (n : Nat) : rngD lo n = (rngI lo n).map D.int := by unfold rngD rngI; rw [List.map_map]; rfl
def grid (a : Area) : List (Int × Int) := (rngI a.l (a.r - a.l).toNat).flatMap fun x => (rngI a.t (a.b - a.t).toNat).map fun y => (x, y)
theorem foldl_grid {σ : Type} (f : σ → Int × Int → σ) (a : Area) (s : σ) : (rngI a.l (a.r - a.l).toNat).foldl (fun s x => (rngI a.t (a.b - a.t).toNat).foldl (fun s y => f s (x, y)) s) s = (grid a).foldl f s := by
  unfold grid
  generalize rngI a.l (a.r - a.l).toNat = xs
  induction xs generalizing s with
  | nil => rfl
  | cons x xs ih =>
    rw [List.foldl_cons, List.flatMap_cons, List.foldl_append, ih]
    congr 1
    rw [List.foldl_map]
/-- numbers that are not too large -/
def small (S : List Box) : Prop := ∀ b ∈ S, -1000 ≤ b.l ∧ b.l ≤ 1000 ∧ -1000 ≤ b.t ∧ b.t ≤ 1000 ∧ 0 ≤ b.w ∧ b.w ≤ 1000 ∧ 0 ≤ b.h ∧ b.h ≤ 1000
theorem offs_small {S : List Box} (sm : small S) : ∀ ns : List Str, -1000 * (ns.length : Int) ≤ (offs S ns).1 ∧ (offs S ns).1 ≤ 1000 * (ns.length : Int) ∧ -1000 * (ns.length : Int) ≤ (offs S ns).2 ∧ (offs S ns).2 ≤ 1000 * (ns.length : Int)
  | [] => by simp [offs]
  | n :: ns => by
    have ih := offs_small sm ns
    rw [offs_cons]
    cases e : findB S n with
    | none => simp only [List.length_cons]; omega
    | some b =>
      have := sm b (find_mem e).1
      simp only [List.length_cons]
      omega
theorem area_small {S : List Box} (sm : small S) (hs : S.length ≤ 100) {b : Box} (hb : b ∈ S) : -200000 ≤ (areaA S b).l ∧ (areaA S b).l ≤ 200000 ∧ -200000 ≤ (areaA S b).t ∧ (areaA S b).t ≤ 200000 ∧ -200000 ≤ (areaA S b).r ∧ (areaA S b).r ≤ 200000 ∧ -200000 ≤ (areaA S b).b ∧ (areaA S b).b ≤ 200000 ∧
    (areaA S b).r - (areaA S b).l = b.w ∧ (areaA S b).b - (areaA S b).t = b.h := by
  have o := offs_small sm (path S b.nm)
  have pl := path_len (S := S) (n := b.nm)
  have s := sm b hb
  unfold areaA
  simp only
  omega
theorem rng2_ok {i j : Int} (hi : -200000 ≤ i ∧ i ≤ 200000) (hj : -200000 ≤ j ∧ j ≤ 200000) : range2R (.int i) (.int j) = .ok ((rngI i (j - i).toNat).map D.int) := by
  unfold range2R
  simp only
  rw [if_pos (by omega), rngD_I]
def over (S : List Box) (n : Str) : List Str := (tops S).take (plc (tops S) n)
def front (S : List Box) (n : Str) (p : Int × Int) : Bool := touch S p.1 p.2 n && !(over S n).any fun m => touch S p.1 p.2 m
def cnt (S : List Box) (b : Box) : Nat := if shown S b.nm && !mark 108 b then ((grid (areaA S b)).countP (front S b.nm)) else 0
theorem tops_mem {S : List Box} (w : wf [] S) {b : Box} (hb : b ∈ S) : b.nm ∈ tops S ↔ (shown S b.nm && !mark 108 b) = true := by
  unfold tops
  rw [List.mem_reverse, List.mem_filter, lets_of w hb]
  exact ⟨fun z => z.2, fun z => ⟨(painted_all w _).mpr (mem_names.mpr ⟨b, hb, rfl⟩), z⟩⟩
theorem tops_shown {S : List Box} (w : wf [] S) {n : Str} (h : n ∈ tops S) : ∃ b ∈ S, b.nm = n ∧ shown S n = true := by
  unfold tops at h
  rw [List.mem_reverse, List.mem_filter, Bool.and_eq_true] at h
  obtain ⟨b, _, hb, e⟩ := find_some w ((painted_all w n).mp h.1)
  exact ⟨b, hb, e, h.2.1⟩
theorem foldl_count {α : Type} (p : α → Bool) (l : List α) (k : Int) : l.foldl (fun (k : Int) a => if p a = true then k + 1 else k) k = k + (l.countP p : Nat) := by
  induction l generalizing k with
  | nil => simp
  | cons a l ih =>
    rw [List.foldl_cons, ih, List.countP_cons]
    split <;> simp <;> omega
theorem cutL_plc (xs : List Str) (k : Nat) : cutL xs none (some (k : Int)) = xs.take k := cutL_to xs k
theorem m_points_of {S : List Box} (w : wf [] S) (hs : S.length ≤ 100) (sm : small S) {b : Box} (hb : b ∈ S) : den_points_of [scD S, .str b.nm] = .ok (.int (cnt S b : Nat)) := by
  show runB 11 g_points_of [scD S, .str b.nm] = _
  have bo := m_box_of S b.nm
  rw [find_of w hb] at bo
  simp only at bo
  have ml := m_laid w hs
  have ft := m_from_top w hs
  have ni := notIn_strs b.nm (tops S)
  have mem := tops_mem w hb
  unfold runB g_points_of cnt
  cases hc : (shown S b.nm && !mark 108 b) with
  | false =>
    have nm : ¬ b.nm ∈ tops S := fun z => by rw [mem, hc] at z; cases z
    simp [bo, ml, ft, ni, nm]
  | true =>
    have im : b.nm ∈ tops S := mem.mpr hc
    have hsh : shown S b.nm = true := by rw [Bool.and_eq_true] at hc; exact hc.1
    have il := ix_laid w hb hsh
    have t0 : ixR (toldD S b) (.int 0) = .ok (areaA S b).D := rfl
    have as := area_small sm hs hb
    have ix := index_sL im
    have sl := slice_sL (tops S) none (some (plc (tops S) b.nm : Int))
    rw [cutL_plc] at sl
    have ly : ∀ xs : List Str, lstyR (sL xs) = .ok (sL xs) := fun _ => rfl
    have tT : ∀ e : En, tupT [4, 5, 6, 7] (areaA S b).D e = .ok ((((e.set 4 (.d (.int (areaA S b).l))).set 5 (.d (.int (areaA S b).t))).set 6 (.d (.int (areaA S b).r))).set 7 (.d (.int (areaA S b).b))) := fun _ => rfl
    have rx := rng2_ok (i := (areaA S b).l) (j := (areaA S b).r) (by omega) (by omega)
    have ry := rng2_ok (i := (areaA S b).t) (j := (areaA S b).b) (by omega) (by omega)
    simp only [List.map_cons, List.map_nil, List.replicate, List.cons_append, List.nil_append, sSeq_ap, sExpr_ap, eUn_ap, aCons_ap, aNil_ap, getD_0, getD_s, R.ok_bind, bo, liftO_ok, seqO_nx, sSet_ap, ml, List.set_cons_succ, List.set_cons_zero, ft, sIf_ap, tBin_ap, ni, im, decide_true, Bool.not_true, boolR_bl, Bool.false_eq_true, if_false, sNil_ap, sAsg_ap, eBin_ap, il, eC_ap, t0, tT, eSlice_ap, oNone_ap, eMeth_ap, ly, ix, optR_int, sl, sFor_ap, fRng2_ap, rx, if_true]
    generalize hA : areaA S b = A at *
    generalize hO : (tops S).take (plc (tops S) b.nm) = O at *
    have eO : over S b.nm = O := hO
    generalize hB : (sEnd [10, 11] _ : En → Out) = B
    have kf := forO_foldl (T := nameT 10) (G := B) (f := D.int) (fun k : Int => [.d (scD S), .d (.str b.nm), .d (.dic (laidL S S)), .d (sL (tops S)), .d (.int A.l), .d (.int A.t), .d (.int A.r), .d (.int A.b), .d (sL O), .d (.int k), .u, .u, .u]) (fun k x => (rngI A.t (A.b - A.t).toNat).foldl (fun (k : Int) y => if front S b.nm (x, y) = true then k + 1 else k) k) 0 (rngI A.l (A.r - A.l).toNat) fun x pre rest _ => ?_
    · rw [kf, foldl_grid (fun (k : Int) p => if front S b.nm p = true then k + 1 else k), foldl_count]
      simp
    · generalize (List.foldl _ _ pre : Int) = k0
      refine ⟨_, rfl, ?_⟩
      rw [← hB, sEnd_ap]
      have kg := forO_foldl (T := nameT 11) (G := sEnd [11] (sIf (tAnd (tVal (eUn den_has_all (aCons (eBin ixR (getD' 2) (getD' 1)) (aCons (getD' 10) (aCons (getD' 11) aNil))))) (tNot (tVal (eUn anyR (aCons (eOfF (eComp (eUn itemsR (getD' 8)) (nameT 12) tTrue (eUn den_has_all (aCons (eBin ixR (getD' 2) (getD' 12)) (aCons (getD' 10) (aCons (getD' 11) aNil)))) [12])) aNil)))))
  (sSet 9 (eBin addR (getD' 9) (eC (.int 1))))
  sNil)) (f := D.int) (fun k : Int => [.d (scD S), .d (.str b.nm), .d (.dic (laidL S S)), .d (sL (tops S)), .d (.int A.l), .d (.int A.t), .d (.int A.r), .d (.int A.b), .d (sL O), .d (.int k), .d (.int x), .u, .u]) (fun k y => if front S b.nm (x, y) = true then k + 1 else k) k0 (rngI A.t (A.b - A.t).toNat) fun y pre2 rest2 _ => ?_
      · simp only [sFor_ap, fRng2_ap, getD_0, getD_s, List.set_cons_succ, List.set_cons_zero, R.ok_bind, ry, liftO_ok, kg, endK_nx, killS_cons, killS_nil]
      · generalize (List.foldl _ _ pre2 : Int) = k
        refine ⟨_, rfl, ?_⟩
        have hall : den_has_all [toldD S b, .int x, .int y] = .ok (.bl (touch S x y b.nm)) := by
          unfold toldD
          rw [m_has_all, touch_of w hb, hsh, Bool.true_and]
        have cm := compO_all (T := nameT 12) (C := tTrue) (F := eUn den_has_all (aCons (eBin ixR (getD' 2) (getD' 12)) (aCons (getD' 10) (aCons (getD' 11) aNil)))) (f := D.str) (g := fun m => D.bl (touch S x y m))
          (e := [.d (scD S), .d (.str b.nm), .d (.dic (laidL S S)), .d (sL (tops S)), .d (.int A.l), .d (.int A.t), .d (.int A.r), .d (.int A.b), .d (sL O), .d (.int k), .d (.int x), .d (.int y), .u]) O fun m hm => by
            have hmt : m ∈ tops S := by rw [← hO] at hm; exact List.mem_of_mem_take hm
            obtain ⟨c, hc', rfl, hcs⟩ := tops_shown w hmt
            refine ⟨_, rfl, rfl, ?_⟩
            have : den_has_all [toldD S c, .int x, .int y] = .ok (.bl (touch S x y c.nm)) := by
              unfold toldD
              rw [m_has_all, touch_of w hc', hcs, Bool.true_and]
            simp [ix_laid w hc' hcs, this]
        have io : itemsR (sL O) = .ok (O.map D.str) := rfl
        have an : anyR [.lst (O.map fun m => D.bl (touch S x y m))] = .ok (.bl (O.any fun m => touch S x y m)) := by
          have e : (O.map fun m => D.bl (touch S x y m)) = (O.map fun m => touch S x y m).map D.bl := by simp [List.map_map, Function.comp_def]
          unfold anyR
          rw [e]
          simp only [blsOf_map]
          simp [List.any_map, Function.comp_def]
        unfold front
        rw [eO]
        cases h1 : touch S x y b.nm with
        | false => simp [il, hall, h1]
        | true =>
          cases h2 : O.any fun m => touch S x y m with
          | true => simp [il, hall, h1, io, cm, an, h2]
          | false => simp [il, hall, h1, io, cm, an, h2]
end Fo

/-! The law k08: the law's own counting. -/
namespace Fo
open PySem Dx Dn
theorem snoc_ind' {α : Type} {p : List α → Prop} (h0 : p []) (h1 : ∀ S b, p S → p (S ++ [b])) : ∀ S, p S := by
  intro S
  have : ∀ R : List α, p R.reverse := by
    intro R
    induction R with
    | nil => exact h0
    | cons b R ih => rw [List.reverse_cons]; exact h1 _ _ ih
  have := this S.reverse
  rwa [List.reverse_reverse] at this
abbrev Sta : Type := List (L2.Key × D) × List (Int × Int)
def numAt (C : List (L2.Key × D)) (n : Str) : D := (valD C (.inr n)).getD (.int 0)
def bump (C : List (L2.Key × D)) (n : Str) : List (L2.Key × D) := match addR (numAt C n) (.int 1) with
  | .ok d => putD C (.inr n) d
  | _ => C
def stp (S : List Box) (n : Str) (s : Sta) (p : Int × Int) : Sta := if (!lets S n && (!decide (p ∈ s.2) && touch S p.1 p.2 n)) = true then (bump s.1 n, s.2 ++ [p]) else s
theorem putD_len (C : List (L2.Key × D)) (k : L2.Key) (v : D) : (putD C k v).length ≤ C.length + 1 := by
  unfold putD; split <;> simp
theorem bump_len (C : List (L2.Key × D)) (n : Str) : (bump C n).length ≤ C.length + 1 := by
  unfold bump; split
  · exact putD_len _ _ _
  · omega
theorem stp_len (S : List Box) (n : Str) (s : Sta) (p : Int × Int) : (stp S n s p).1.length ≤ s.1.length + 1 ∧ (stp S n s p).2.length ≤ s.2.length + 1 := by
  unfold stp
  split
  · have := bump_len s.1 n; simp; omega
  · omega
theorem fold_len {α : Type} (f : Sta → α → Sta) (N : Nat) (h : ∀ s a, (f s a).1.length ≤ s.1.length + N ∧ (f s a).2.length ≤ s.2.length + N) (l : List α) (s : Sta) : (l.foldl f s).1.length ≤ s.1.length + l.length * N ∧ (l.foldl f s).2.length ≤ s.2.length + l.length * N := by
  induction l generalizing s with
  | nil => simp
  | cons a l ih =>
    have h1 := h s a
    have h2 := ih (f s a)
    rw [List.foldl_cons, List.length_cons, Nat.succ_mul]
    omega

/-! ### what one row adds -/
def optK (n : Str) (k : Nat) : List (L2.Key × D) := if k = 0 then [] else [(.inr n, .int (k : Int))]
def noKey (C : List (L2.Key × D)) (n : Str) : Prop := ∀ kv ∈ C, kv.1 ≠ .inr n
theorem val_opt {C : List (L2.Key × D)} {n : Str} (h : noKey C n) (k : Nat) : valD (C ++ optK n k) (.inr n) = if k = 0 then none else some (.int (k : Int)) := by
  unfold valD
  rw [List.find?_append]
  have : C.find? (fun kv => decide (kv.1 = .inr n)) = none := by
    rw [List.find?_eq_none]
    intro kv hkv z
    exact h kv hkv (of_decide_eq_true z)
  rw [this]
  unfold optK
  split <;> simp
theorem val_other {C : List (L2.Key × D)} {n m : Str} (ne : m ≠ n) (k : Nat) : valD (C ++ optK n k) (.inr m) = valD C (.inr m) := by
  unfold valD
  rw [List.find?_append]
  have : (optK n k).find? (fun kv => decide (kv.1 = .inr m)) = none := by
    unfold optK
    split
    · rfl
    · rw [List.find?_cons]
      have : ¬ (Sum.inr n : L2.Key) = .inr m := fun e => by injection e with e; exact ne e.symm
      simp [this]
  rw [this]
  simp
theorem bump_opt {C : List (L2.Key × D)} {n : Str} (h : noKey C n) (k : Nat) : bump (C ++ optK n k) n = C ++ optK n (k + 1) := by
  have v := val_opt h k
  unfold bump numAt
  rw [v]
  have hC : C.any (fun kv => decide (kv.1 = .inr n)) = false := by
    rw [List.any_eq_false]
    intro kv hkv z
    exact h kv hkv (of_decide_eq_true z)
  have mC : ∀ v, C.map (fun kv => if kv.1 = .inr n then (kv.1, v) else kv) = C := by
    intro v
    have : C.map (fun kv => if kv.1 = .inr n then (kv.1, v) else kv) = C.map id := List.map_congr_left fun kv hkv => if_neg (h kv hkv)
    rw [this, List.map_id]
  by_cases hk : k = 0
  · subst hk
    unfold putD optK
    simp [hC]
  · unfold putD optK
    simp [hC, hk, mC]
theorem row_fold (S : List Box) (n : Str) {C : List (L2.Key × D)} (h : noKey C n) (M : List (Int × Int)) : ∀ g : List (Int × Int), g.Nodup →
    g.foldl (stp S n) (C, M) = (C ++ optK n (g.countP fun p => !lets S n && (!decide (p ∈ M) && touch S p.1 p.2 n)), M ++ g.filter fun p => !lets S n && (!decide (p ∈ M) && touch S p.1 p.2 n)) := by
  intro g
  induction g using snoc_ind' with
  | h0 => intro _; simp [optK]
  | h1 g p ih =>
    intro nd
    rw [List.nodup_append] at nd
    have pg : p ∉ g := fun z => nd.2.2 p z p (by simp) rfl
    rw [List.foldl_append, ih nd.1, List.countP_append, List.filter_append]
    show stp S n _ p = _
    unfold stp
    have e : decide (p ∈ M ++ g.filter fun p => !lets S n && (!decide (p ∈ M) && touch S p.1 p.2 n)) = decide (p ∈ M) := by
      by_cases z : p ∈ M
      · simp [z]
      · have : ¬ p ∈ g.filter fun p => !lets S n && (!decide (p ∈ M) && touch S p.1 p.2 n) := fun q => pg (List.mem_filter.mp q).1
        simp [z, this]
    simp only [e]
    cases hq : (!lets S n && (!decide (p ∈ M) && touch S p.1 p.2 n)) with
    | true =>
      rw [if_pos rfl, bump_opt h]
      simp [hq, List.filter_cons, List.countP_cons]
    | false =>
      rw [if_neg Bool.false_ne_true]
      simp [hq, List.filter_cons, List.countP_cons]
theorem rngI_mem {lo v : Int} {n : Nat} : v ∈ rngI lo n ↔ lo ≤ v ∧ v < lo + n := by
  unfold rngI
  rw [List.mem_map]
  constructor
  · rintro ⟨i, hi, rfl⟩
    rw [List.mem_range] at hi
    omega
  · rintro ⟨h1, h2⟩
    exact ⟨(v - lo).toNat, List.mem_range.mpr (by omega), by omega⟩
theorem rngI_nodup (lo : Int) (n : Nat) : (rngI lo n).Nodup := by
  unfold rngI
  rw [List.nodup_iff_pairwise_ne, List.pairwise_map]
  exact (List.nodup_iff_pairwise_ne.mp List.nodup_range).imp fun h e => h (by omega)
theorem rngI_len (lo : Int) (n : Nat) : (rngI lo n).length = n := by unfold rngI; simp
theorem grid_mem {a : Area} {p : Int × Int} : p ∈ grid a ↔ has a p.1 p.2 = true := by
  unfold grid has
  rw [List.mem_flatMap]
  constructor
  · rintro ⟨x, hx, hp⟩
    obtain ⟨y, hy, rfl⟩ := List.mem_map.mp hp
    rw [rngI_mem] at hx hy
    simp only [Bool.and_eq_true, decide_eq_true_eq]
    omega
  · intro h
    simp only [Bool.and_eq_true, decide_eq_true_eq] at h
    exact ⟨p.1, rngI_mem.mpr (by omega), List.mem_map.mpr ⟨p.2, rngI_mem.mpr (by omega), rfl⟩⟩
theorem grid_nodup (a : Area) : (grid a).Nodup := by
  unfold grid
  have nx := rngI_nodup a.l (a.r - a.l).toNat
  have ny := rngI_nodup a.t (a.b - a.t).toNat
  generalize rngI a.l (a.r - a.l).toNat = xs at *
  generalize rngI a.t (a.b - a.t).toNat = ys at *
  induction xs with
  | nil => exact .nil
  | cons x xs ih =>
    rw [List.nodup_cons] at nx
    rw [List.flatMap_cons, List.nodup_append]
    refine ⟨?_, ih nx.2, fun p hp q hq e => ?_⟩
    · rw [List.nodup_iff_pairwise_ne, List.pairwise_map]
      exact (List.nodup_iff_pairwise_ne.mp ny).imp fun h e => h (by injection e)
    · subst e
      obtain ⟨y, _, rfl⟩ := List.mem_map.mp hp
      obtain ⟨x', hx', hq'⟩ := List.mem_flatMap.mp hq
      obtain ⟨y', _, e⟩ := List.mem_map.mp hq'
      injection e with e1 e2
      exact nx.1 (e1 ▸ hx')
theorem touch_grid {S : List Box} (w : wf [] S) {b : Box} (hb : b ∈ S) {p : Int × Int} (h : touch S p.1 p.2 b.nm = true) : p ∈ grid (areaA S b) := by
  rw [touch_of w hb, Bool.and_eq_true, Bool.and_eq_true] at h
  exact grid_mem.mpr h.2.1
/-- all rows, one behind the other -/
def rowStep (S : List Box) (s : Sta) (n : Str) : Sta := match findB S n with
  | some b => (grid (areaA S b)).foldl (stp S n) s
  | none => s
def cR (S : List Box) (R1 : List Str) (n : Str) : Nat := match findB S n with
  | some b => (grid (areaA S b)).countP fun p => !lets S n && (!((R1.filter fun m => !lets S m).any fun m => touch S p.1 p.2 m) && touch S p.1 p.2 n)
  | none => 0
theorem rows_fold {S : List Box} (w : wf [] S) : ∀ R : List Str, R.Nodup → (∀ m ∈ R, m ∈ names S) → ∃ C M, R.foldl (rowStep S) ([], []) = (C, M) ∧ (∀ p : Int × Int, p ∈ M ↔ ((R.filter fun m => !lets S m).any fun m => touch S p.1 p.2 m) = true) ∧
    (∀ n, n ∉ R → noKey C n) ∧ ∀ R1 m R2, R = R1 ++ m :: R2 → valD C (.inr m) = if cR S R1 m = 0 then none else some (.int (cR S R1 m : Int)) := by
  intro R
  induction R using snoc_ind' with
  | h0 =>
    intro _ _
    refine ⟨[], [], rfl, by simp, fun n _ kv h => (by cases h), fun R1 m R2 e => ?_⟩
    have := congrArg List.length e
    simp at this
  | h1 R n ih =>
    intro nd hm
    rw [List.nodup_append] at nd
    have nR : n ∉ R := fun z => nd.2.2 n z n (by simp) rfl
    obtain ⟨C, M, e1, e2, e3, e4⟩ := ih nd.1 fun m h => hm m (by simp [h])
    obtain ⟨b, fb, hb, rfl⟩ := find_some w (hm n (by simp))
    have rf := row_fold S b.nm (e3 b.nm nR) M (grid (areaA S b)) (grid_nodup _)
    have cnt_eq : (grid (areaA S b)).countP (fun p => !lets S b.nm && (!decide (p ∈ M) && touch S p.1 p.2 b.nm)) = cR S R b.nm := by
      unfold cR
      rw [fb]
      simp only
      apply List.countP_congr
      intro p _
      have : decide (p ∈ M) = ((R.filter fun m => !lets S m).any fun m => touch S p.1 p.2 m) := by
        cases h : ((R.filter fun m => !lets S m).any fun m => touch S p.1 p.2 m) with
        | true => exact decide_eq_true ((e2 p).mpr h)
        | false => exact decide_eq_false fun z => by rw [(e2 p).mp z] at h; cases h
      rw [this]
    refine ⟨C ++ optK b.nm (cR S R b.nm), M ++ (grid (areaA S b)).filter (fun p => !lets S b.nm && (!decide (p ∈ M) && touch S p.1 p.2 b.nm)), ?_, fun p => ?_, fun m h => ?_, fun R1 m R2 e => ?_⟩
    · rw [List.foldl_append, e1]
      show rowStep S (C, M) b.nm = _
      unfold rowStep
      rw [fb]
      simp only
      rw [rf, cnt_eq]
    · rw [List.filter_append, List.any_append, List.mem_append, e2 p, List.mem_filter, Bool.or_eq_true]
      cases hl : lets S b.nm with
      | true => simp [hl]
      | false =>
        simp only [hl, Bool.not_false, Bool.true_and, List.filter_cons, if_true, List.filter_nil, List.any_cons, List.any_nil, Bool.or_false, Bool.and_eq_true, Bool.not_eq_true', decide_eq_false_iff_not]
        constructor
        · rintro (z | ⟨_, _, z⟩)
          · exact .inl z
          · exact .inr z
        · rintro (z | z)
          · exact .inl z
          · by_cases q : p ∈ M
            · exact .inl ((e2 p).mp q)
            · exact .inr ⟨touch_grid w hb z, q, z⟩
    · intro kv hkv
      rw [List.mem_append, not_or] at h
      rcases List.mem_append.mp hkv with z | z
      · exact e3 m h.1 kv z
      · unfold optK at z
        split at z
        · cases z
        · rw [List.mem_singleton] at z
          subst z
          intro e
          injection e with e
          exact h.2 (by simp [e])
    · rcases List.eq_nil_or_concat R2 with z | ⟨R3, y, z⟩
      · subst z
        have l := List.append_inj' e rfl
        obtain ⟨l1, l2⟩ := l
        injection l2 with l2
        subst l1 l2
        exact val_opt (e3 b.nm nR) _
      · rw [z] at e
        have e' : R ++ [b.nm] = (R1 ++ m :: R3) ++ [y] := by rw [e]; simp
        obtain ⟨l1, l2⟩ := List.append_inj' e' rfl
        have mR : m ∈ R := by rw [l1]; simp
        have ne : m ≠ b.nm := fun z => nR (z ▸ mR)
        rw [val_other ne]
        exact e4 R1 m R3 l1
end Fo

/-! The law k08, run. -/
namespace Fo
open PySem Dx Dn
def cut5 (b : Box) : Box := { b with w := b.w % 5, h := b.h % 5 }
def scene4 (ns : List Int) : List Box := ((scene ns 0).take 4).map cut5
theorem wf_cut5 : ∀ {S : List Box} {K : List Str}, wf K S → wf K (S.map cut5)
  | [], _, _ => trivial
  | _ :: _, _, ⟨h0, h1, h2, h3⟩ => ⟨h0, h1, h2, wf_cut5 h3⟩
theorem mkSc_small {ns : List Int} (h : ns.length ≤ 63) (at_ : Int) : ∀ k, ∀ b ∈ mkSc ns at_ k, -3 ≤ b.l ∧ b.l ≤ 5 ∧ -3 ≤ b.t ∧ b.t ≤ 5 ∧ 0 ≤ b.w ∧ b.w ≤ 8 ∧ 0 ≤ b.h ∧ b.h ≤ 8
  | 0, b, hb => by cases hb
  | k + 1, b, hb => by
    rw [mkSc] at hb
    rcases List.mem_append.mp hb with hb | hb
    · exact mkSc_small h at_ k b hb
    · rw [List.mem_singleton] at hb
      subst hb
      have d := fun j : Int => drawn_in h j (many := 9) (by omega)
      have d1 := d (at_ + 3 + 9 * (k : Int) + 1)
      have d2 := d (at_ + 3 + 9 * (k : Int) + 1 + 1)
      have d3 := d (at_ + 3 + 9 * (k : Int) + 3)
      have d4 := d (at_ + 3 + 9 * (k : Int) + 3 + 1)
      unfold mkBox
      simp only
      omega
theorem scene4_wf {ns : List Int} (h : ns.length ≤ 63) : wf [] (scene4 ns) := wf_cut5 (wf_take (scene_wf h 0) 4)
theorem scene4_len (ns : List Int) : (scene4 ns).length ≤ 4 := by unfold scene4; rw [List.length_map]; exact List.length_take_le ..
theorem scene4_small {ns : List Int} (h : ns.length ≤ 63) : small (scene4 ns) := by
  intro b hb
  unfold scene4 at hb
  obtain ⟨c, hc, rfl⟩ := List.mem_map.mp hb
  have := mkSc_small h 0 _ c (List.mem_of_mem_take hc)
  unfold cut5
  simp only
  omega
theorem m_scene4 {ns : List Int} (h : ns.length ≤ 63) (i : Nat) (e : En) (h0 : getD' 0 e = .ok (.frz ns)) (hi : ∀ x : D, getD' i (e.set i (.d x)) = .ok x) :
    eUn tupleR (aCons (eOfF (eComp (eUn itemsR (eSlice (eUn den__law_scene (aCons (getD' 0) (aCons (eC (.int 0)) aNil))) oNone (eUn optR (eC (.int 4))))) (nameT i) tTrue (eBin addR (eSlice (getD' i) oNone (eUn optR (eC (.int 4)))) (eUn tupR (aCons (eBin modR (eBin ixR (getD' i) (eC (.int 4))) (eC (.int 5))) (aCons (eBin modR (eBin ixR (getD' i) (eC (.int 5))) (eC (.int 5))) (aCons (eBin ixR (getD' i) (eC (.int 6))) aNil))))) [i])) aNil) e = .ok (scD (scene4 ns)) := by
  have ms := m_scene h 0
  have sl := slice_sc (scene ns 0) none (some 4)
  have c4 := cutL_to (scene ns 0) 4
  rw [show (((4 : Nat) : Int)) = 4 from rfl] at c4
  rw [c4] at sl
  have is : itemsR (scD ((scene ns 0).take 4)) = .ok (((scene ns 0).take 4).map Box.D) := rfl
  have m5 : ∀ i : Int, modR (.int i) (.int 5) = .ok (.int (i % 5)) := fun _ => rfl
  have t3 : ∀ x y z : D, tupR [x, y, z] = .ok (.tup [x, y, z]) := fun _ _ _ => rfl
  have k := compO_all (T := nameT i) (C := tTrue) (F := eBin addR (eSlice (getD' i) oNone (eUn optR (eC (.int 4)))) (eUn tupR (aCons (eBin modR (eBin ixR (getD' i) (eC (.int 4))) (eC (.int 5))) (aCons (eBin modR (eBin ixR (getD' i) (eC (.int 5))) (eC (.int 5))) (aCons (eBin ixR (getD' i) (eC (.int 6))) aNil)))))
    (e := e.set i .u) (f := Box.D) (g := fun b => (cut5 b).D) ((scene ns 0).take 4) fun b _ => by
      have s4 : sliceR b.D none (some 4) = .ok (.tup [.str b.nm, .str b.ar, .int b.l, .int b.t]) := rfl
      refine ⟨_, rfl, rfl, ?_⟩
      simp [hi, s4, m5, t3, addR_t]
      rfl
  rw [List.map_take] at k
  have tl : ∀ xs : List D, tupleR [.lst xs] = .ok (.tup xs) := fun _ => rfl
  have fin : (.tup (((scene ns 0).take 4).map fun b => (cut5 b).D) : D) = scD (scene4 ns) := by unfold scD scene4; rw [List.map_map]; rfl
  rw [List.map_take] at fin
  simp [h0, ms, sl, is, k, tl, fin]
def allInt (C : List (L2.Key × D)) : Prop := ∀ kv ∈ C, ∃ i, kv.2 = .int i
theorem numAt_int {C : List (L2.Key × D)} (h : allInt C) (n : Str) : ∃ i, numAt C n = .int i := by
  unfold numAt valD
  cases e : C.find? fun kv => decide (kv.1 = .inr n) with
  | none => exact ⟨0, rfl⟩
  | some kv =>
    obtain ⟨i, hi⟩ := h kv (List.mem_of_find?_eq_some e)
    exact ⟨i, hi⟩
theorem bump_int {C : List (L2.Key × D)} (h : allInt C) (n : Str) : ∃ i, numAt C n = .int i ∧ bump C n = putD C (.inr n) (.int (i + 1)) ∧ allInt (bump C n) := by
  obtain ⟨i, hi⟩ := numAt_int h n
  have e : bump C n = putD C (.inr n) (.int (i + 1)) := by unfold bump; rw [hi]; rfl
  refine ⟨i, hi, e, ?_⟩
  rw [e]
  unfold putD
  split
  · intro kv hkv
    obtain ⟨kw, hkw, rfl⟩ := List.mem_map.mp hkv
    split
    · exact ⟨_, rfl⟩
    · exact h kw hkw
  · intro kv hkv
    rcases List.mem_append.mp hkv with z | z
    · exact h kv z
    · rw [List.mem_singleton] at z; subst z; exact ⟨_, rfl⟩
theorem stp_int {S : List Box} {n : Str} {s : Sta} {p : Int × Int} (h : allInt s.1) : allInt (stp S n s p).1 := by
  unfold stp
  split
  · exact (bump_int h n).choose_spec.2.2
  · exact h
theorem fold_int {α : Type} {f : Sta → α → Sta} (hf : ∀ s a, allInt s.1 → allInt (f s a).1) (l : List α) (s : Sta) (h : allInt s.1) : allInt (l.foldl f s).1 := by
  induction l generalizing s with
  | nil => exact h
  | cons a l ih => exact ih _ (hf s a h)
theorem eqD_pair (p q : Int × Int) : eqD (pairD p) (pairD q) = decide (p = q) := by
  have i : ∀ x y : Int, (x == y) = decide (x = y) := fun x y => by by_cases e : x = y <;> simp [e]
  cases p
  cases q
  simp only [pairD, eqD, eqDs, i, Prod.mk.injEq, Bool.and_true, Bool.decide_and]
theorem notIn_pairs (p : Int × Int) (M : List (Int × Int)) : Dx.notInR (pairD p) (.lst (M.map pairD)) = .ok (.bl (!decide (p ∈ M))) := by
  have d1 : dle 64 (pairD p) = true := rfl
  have d2 : dle 64 (.lst (M.map pairD)) = true := dle_all (fun _ => rfl) M
  have e : Dx.inB (pairD p) (.lst (M.map pairD)) = if dle 64 (pairD p) && dle 64 (.lst (M.map pairD)) then .ok ((M.map pairD).any fun z => eqD z (pairD p)) else .bad := rfl
  unfold Dx.notInR
  rw [e, d1, d2]
  have : ((M.map pairD).any fun z => eqD z (pairD p)) = decide (p ∈ M) := by
    clear d2 e
    induction M with
    | nil => simp
    | cons q M ih =>
      rw [List.map_cons, List.any_cons, ih, eqD_pair]
      by_cases z : q = p
      · simp [z]
      · have z' : ¬ p = q := fun e => z e.symm
        simp [z, z']
  rw [this]
  rfl
theorem l_notIn' (b : Box) : Dx.notInR (.str "l") (.str b.ms) = .ok (.bl (!mark 108 b)) := l_notIn b.ms
theorem row_loop {S : List Box} (w : wf [] S) (hs : S.length ≤ 8) (sm : small S) {b : Box} (hb : b ∈ S) (hsh : shown S b.nm = true) (s0 s3 : Slot) (s : Sta) (hi : allInt s.1) (hl : s.1.length ≤ 9000000 ∧ s.2.length ≤ 9000000) :
    forO (nameT 8) (sEnd [8, 9] (sFor (fRng2 (eBin ixR (getD' 6) (eC (.int 1))) (eBin ixR (getD' 6) (eC (.int 3)))) (nameT 9)
  (sEnd [9] (sIf (tAnd (tBin Dx.notInR (eC (.str "l")) (eBin ixR (getD' 5) (eC (.int 6)))) (tAnd (tBin Dx.notInR (eUn tupR (aCons (getD' 8) (aCons (getD' 9) aNil))) (getV 4)) (tVal (eUn den__law_has (aCons (getD' 7) (aCons (getD' 8) (aCons (getD' 9) aNil)))))))
  (sSeq (sMeth 4 (eUn tupR (aCons (getD' 8) (aCons (getD' 9) aNil))) appO)
  (sPut 2 (eBin ixR (getD' 5) (eC (.int 0))) (eBin addR (eGet2 (getV 2) (eBin ixR (getD' 5) (eC (.int 0))) (eC (.int 0))) (eC (.int 1)))))
  sNil)))) ((rngI (areaA S b).l ((areaA S b).r - (areaA S b).l).toNat).map D.int) [s0, .d (scD S), .od s.1, s3, .ol (s.2.map pairD), .d b.D, .d (areaA S b).D, .d (.lst ((clips S (path S b.ar) ++ [areaA S b]).map Area.D)), .u, .u, .u, .u, .u] =
    .nx [s0, .d (scD S), .od ((grid (areaA S b)).foldl (stp S b.nm) s).1, s3, .ol (((grid (areaA S b)).foldl (stp S b.nm) s).2.map pairD), .d b.D, .d (areaA S b).D, .d (.lst ((clips S (path S b.ar) ++ [areaA S b]).map Area.D)), .u, .u, .u, .u, .u] := by
  have as := area_small sm (by omega) hb
  have sb := sm b hb
  have ry := rng2_ok (i := (areaA S b).t) (j := (areaA S b).b) (by omega) (by omega)
  have a1 : ixR (areaA S b).D (.int 1) = .ok (.int (areaA S b).t) := rfl
  have a3 : ixR (areaA S b).D (.int 3) = .ok (.int (areaA S b).b) := rfl
  have hx : (rngI (areaA S b).l ((areaA S b).r - (areaA S b).l).toNat).length ≤ 1000 := by rw [rngI_len]; omega
  have hy : (rngI (areaA S b).t ((areaA S b).b - (areaA S b).t).toNat).length ≤ 1000 := by rw [rngI_len]; omega
  generalize hCC : (clips S (path S b.ar) ++ [areaA S b]) = CC
  have rh := fun x y => row_has w hb hsh x y
  rw [hCC] at rh
  generalize hA : areaA S b = A at *
  have kx := forO_foldl (T := nameT 8) (G := sEnd [8, 9] (sFor (fRng2 (eBin ixR (getD' 6) (eC (.int 1))) (eBin ixR (getD' 6) (eC (.int 3)))) (nameT 9)
  (sEnd [9] (sIf (tAnd (tBin Dx.notInR (eC (.str "l")) (eBin ixR (getD' 5) (eC (.int 6)))) (tAnd (tBin Dx.notInR (eUn tupR (aCons (getD' 8) (aCons (getD' 9) aNil))) (getV 4)) (tVal (eUn den__law_has (aCons (getD' 7) (aCons (getD' 8) (aCons (getD' 9) aNil)))))))
  (sSeq (sMeth 4 (eUn tupR (aCons (getD' 8) (aCons (getD' 9) aNil))) appO)
  (sPut 2 (eBin ixR (getD' 5) (eC (.int 0))) (eBin addR (eGet2 (getV 2) (eBin ixR (getD' 5) (eC (.int 0))) (eC (.int 0))) (eC (.int 1)))))
  sNil)))) (f := D.int) (fun s : Sta => [s0, .d (scD S), .od s.1, s3, .ol (s.2.map pairD), .d b.D, .d A.D, .d (.lst (CC.map Area.D)), .u, .u, .u, .u, .u])
    (fun s x => (rngI A.t (A.b - A.t).toNat).foldl (fun s y => stp S b.nm s (x, y)) s) s (rngI A.l (A.r - A.l).toNat) fun x pre rest hx' => ?_
  · rw [kx, foldl_grid (stp S b.nm)]
  · have fx : ∀ (s : Sta) (x : Int), _ := fun s x => fold_len (fun s y => stp S b.nm s (x, y)) 1 (fun s y => stp_len S b.nm s (x, y)) (rngI A.t (A.b - A.t).toNat) s
    have lpre : pre.length ≤ 1000 := by have := congrArg List.length hx'; simp at this; omega
    have l1 := fold_len (fun s x => (rngI A.t (A.b - A.t).toNat).foldl (fun s y => stp S b.nm s (x, y)) s) 1000 (fun s x => by have := fx s x; omega) pre s
    have i1 := fold_int (f := fun s x => (rngI A.t (A.b - A.t).toNat).foldl (fun s y => stp S b.nm s (x, y)) s) (fun s x h => fold_int (fun s y h => stp_int h) _ s h) pre s hi
    generalize List.foldl (fun s x => (rngI A.t (A.b - A.t).toNat).foldl (fun s y => stp S b.nm s (x, y)) s) s pre = s1 at *
    have b1 : s1.1.length ≤ 11000000 ∧ s1.2.length ≤ 11000000 := by
      have : pre.length * 1000 ≤ 1000000 := by omega
      omega
    refine ⟨_, rfl, ?_⟩
    have ky := forO_foldl (T := nameT 9) (G := sEnd [9] (sIf (tAnd (tBin Dx.notInR (eC (.str "l")) (eBin ixR (getD' 5) (eC (.int 6)))) (tAnd (tBin Dx.notInR (eUn tupR (aCons (getD' 8) (aCons (getD' 9) aNil))) (getV 4)) (tVal (eUn den__law_has (aCons (getD' 7) (aCons (getD' 8) (aCons (getD' 9) aNil)))))))
  (sSeq (sMeth 4 (eUn tupR (aCons (getD' 8) (aCons (getD' 9) aNil))) appO)
  (sPut 2 (eBin ixR (getD' 5) (eC (.int 0))) (eBin addR (eGet2 (getV 2) (eBin ixR (getD' 5) (eC (.int 0))) (eC (.int 0))) (eC (.int 1)))))
  sNil)) (f := D.int) (fun s : Sta => [s0, .d (scD S), .od s.1, s3, .ol (s.2.map pairD), .d b.D, .d A.D, .d (.lst (CC.map Area.D)), .d (.int x), .u, .u, .u, .u])
      (fun s y => stp S b.nm s (x, y)) s1 (rngI A.t (A.b - A.t).toNat) fun y pre2 rest2 hy' => ?_
    · simp only [sEnd_ap, sFor_ap, fRng2_ap, eBin_ap, eC_ap, getD_0, getD_s, List.set_cons_succ, List.set_cons_zero, R.ok_bind, a1, a3, ry, liftO_ok, ky, endK_nx, killS_cons, killS_nil]
    · have l2 := fold_len (fun s y => stp S b.nm s (x, y)) 1 (fun s y => stp_len S b.nm s (x, y)) pre2 s1
      have lpre2 : pre2.length ≤ 1000 := by have := congrArg List.length hy'; simp at this; omega
      have i2 := fold_int (f := fun s y => stp S b.nm s (x, y)) (fun s y h => stp_int h) pre2 s1 i1
      generalize List.foldl (fun s y => stp S b.nm s (x, y)) s1 pre2 = s2 at *
      obtain ⟨C, M⟩ := s2
      obtain ⟨i, n1, n2, _⟩ := bump_int i2 b.nm
      simp only at n1 n2 l2
      have z1 : C.length < sizeLine := by rw [sizeLine_eq]; omega
      have z2 : M.length < sizeLine := by rw [sizeLine_eq]; omega
      refine ⟨_, rfl, ?_⟩
      have t2 : ∀ x y : D, tupR [x, y] = .ok (.tup [x, y]) := fun _ _ => rfl
      have np := notIn_pairs (x, y) M
      have pd : pairD (x, y) = .tup [.int x, .int y] := rfl
      rw [pd] at np
      have mh := m_law_has CC x y
      rw [rh] at mh
      have lo := lets_of w hb
      have g2 : get2R (.dic C) (.str b.nm) (.int 0) = .ok (numAt C b.nm) := rfl
      have ko : keyOf (.str b.nm) = some (.inr b.nm) := rfl
      unfold stp
      simp only [lo]
      cases h1 : mark 108 b with
      | true => simp [l_notIn', h1]
      | false =>
        by_cases h2 : (x, y) ∈ M
        · simp [l_notIn', h1, t2, np, h2]
        · cases h3 : touch S x y b.nm with
          | false => simp [l_notIn', h1, t2, np, h2, mh, h3]
          | true => simp [l_notIn', h1, t2, np, h2, mh, h3, appO, z2, g2, n1, putO, ko, z1, n2, pd]
end Fo

/-! The law k08, the end. -/
namespace Fo
open PySem Dx Dn
theorem grid_len (a : Area) : (grid a).length = (a.r - a.l).toNat * (a.b - a.t).toNat := by
  unfold grid
  have : ∀ xs : List Int, (xs.flatMap fun x => (rngI a.t (a.b - a.t).toNat).map fun y => (x, y)).length = xs.length * (a.b - a.t).toNat := by
    intro xs
    induction xs with
    | nil => simp
    | cons x xs ih => rw [List.flatMap_cons, List.length_append, ih, List.length_map, rngI_len, List.length_cons, Nat.succ_mul]; omega
  rw [this, rngI_len]
theorem rowStep_len {S : List Box} (w : wf [] S) (hs : S.length ≤ 100) (sm : small S) (s : Sta) (n : Str) : (rowStep S s n).1.length ≤ s.1.length + 1000000 ∧ (rowStep S s n).2.length ≤ s.2.length + 1000000 := by
  unfold rowStep
  cases e : findB S n with
  | none => simp only; omega
  | some b =>
    have hb := (find_mem e).1
    have as := area_small sm hs hb
    have sb := sm b hb
    have l := fold_len (stp S n) 1 (stp_len S n) (grid (areaA S b)) s
    have gl := grid_len (areaA S b)
    have : (areaA S b).r - (areaA S b).l = b.w := by omega
    rw [this] at gl
    have : (areaA S b).b - (areaA S b).t = b.h := by omega
    rw [this] at gl
    have m : b.w.toNat * b.h.toNat ≤ 1000 * 1000 := Nat.mul_le_mul (by omega) (by omega)
    simp only
    omega
theorem rowStep_int {S : List Box} {s : Sta} {n : Str} (h : allInt s.1) : allInt (rowStep S s n).1 := by
  unfold rowStep
  split
  · exact fold_int (fun s p h => stp_int h) _ _ h
  · exact h
def rws (S : List Box) : List Str := (spr S "").reverse
theorem tops_rws (S : List Box) : tops S = (rws S).filter fun m => !lets S m := by
  unfold tops rws spr
  rw [List.filter_reverse, List.filter_filter]
  congr 1
  apply List.filter_congr
  intro m _
  cases shown S m <;> cases lets S m <;> rfl
theorem cR_cnt {S : List Box} (w : wf [] S) {b : Box} (hb : b ∈ S) (hsh : shown S b.nm = true) {R1 R2 : List Str} (e : rws S = R1 ++ b.nm :: R2) (h1 : b.nm ∉ R1) : cR S R1 b.nm = cnt S b := by
  unfold cR cnt
  rw [find_of w hb, lets_of w hb, hsh]
  simp only [Bool.true_and]
  cases hm : mark 108 b with
  | true => simp
  | false =>
    have lo := lets_of w hb
    rw [hm] at lo
    have ov : over S b.nm = R1.filter fun m => !lets S m := by
      unfold over
      have t : tops S = (R1.filter fun m => !lets S m) ++ b.nm :: (R2.filter fun m => !lets S m) := by
        rw [tops_rws, e, List.filter_append, List.filter_cons, lo]
        rfl
      have p := plc_at (A := R1.filter fun m => !lets S m) (B := R2.filter fun m => !lets S m) (n := b.nm) fun z => h1 (List.mem_filter.mp z).1
      rw [t, p]
      simp
    simp only [Bool.not_false, if_true, Bool.true_and]
    apply List.countP_congr
    intro p _
    unfold front
    rw [ov]
    rw [Bool.and_comm]
def cntN (S : List Box) (m : Str) : Nat := match findB S m with
  | some b => cnt S b
  | none => 0
theorem eq_int (i j : Int) : eqR (.int i) (.int j) = .ok (.bl (decide (i = j))) := by
  have : (i == j) = decide (i = j) := by by_cases e : i = j <;> simp [e]
  unfold eqR; simp [dle, eqD, this]
theorem ne_int (i j : Int) : neR (.int i) (.int j) = .ok (.bl (!decide (i = j))) := by
  have : (i == j) = decide (i = j) := by by_cases e : i = j <;> simp [e]
  unfold neR; simp [dle, eqD, this]
theorem blk_sub {S : List Box} {n m : Str} (hn : n ∈ names S) (h : m ∈ blk S n) : m ∈ names S := by
  unfold blk at h
  rcases List.mem_cons.mp h with z | z
  · exact z ▸ hn
  · exact kids_sub z
theorem m_is_covered {S : List Box} (w : wf [] S) (hs : S.length ≤ 100) (sm : small S) {n : Str} (hn : n ∈ names S) : den_is_covered [scD S, .str n] = .ok (.bl ((blk S n).all fun m => decide (cntN S m = 0))) := by
  show runB 1 g_is_covered [scD S, .str n] = _
  have be := m_below w hs hn
  have ip : itemsR (sL (blk S n)) = .ok ((blk S n).map D.str) := rfl
  have k := compO_all (T := nameT 2) (C := tTrue) (F := eBin eqR (eUn den_points_of (aCons (getD' 0) (aCons (getD' 2) aNil))) (eC (.int 0))) (e := [.d (scD S), .d (.str n), .u]) (f := D.str) (g := fun m => D.bl (decide (cntN S m = 0))) (blk S n) fun m hm => by
    obtain ⟨b, fb, hb, rfl⟩ := find_some w (blk_sub hn hm)
    refine ⟨_, rfl, rfl, ?_⟩
    have cn : cntN S b.nm = cnt S b := by unfold cntN; rw [fb]
    simp [m_points_of w hs sm hb, eq_int, cn]
  have al : allR [.lst ((blk S n).map fun m => D.bl (decide (cntN S m = 0)))] = .ok (.bl ((blk S n).all fun m => decide (cntN S m = 0))) := by
    have e : ((blk S n).map fun m => D.bl (decide (cntN S m = 0))) = ((blk S n).map fun m => decide (cntN S m = 0)).map D.bl := by simp [List.map_map, Function.comp_def]
    unfold allR
    rw [e]
    simp only [blsOf_map]
    simp [List.all_map, Function.comp_def]
  unfold runB g_is_covered
  simp [be, ip, k, al]
theorem law08_true (ns : List Int) (h : ns.length ≤ 63) : den_law_k08 [.frz ns] = .ok (.bl true) := by
  show runB 12 g_law_k08 [.frz ns] = _
  have w := scene4_wf h
  have hs := scene4_len ns
  have sm := scene4_small h
  have ms := m_scene4 h 5 [.d (.frz ns), .u, .u, .u, .u, .u, .u, .u, .u, .u, .u, .u, .u] rfl fun _ => rfl
  generalize scene4 ns = S at *
  have sp := m_law_spread0 w (by omega)
  have l0 : lstR [] = .ok [] := rfl
  have rv : ((spr S "").map (rowOf S)).reverse = (rws S).map (rowOf S) := by unfold rws; rw [List.map_reverse]
  have ndR : (rws S).Nodup := by unfold rws; exact (List.reverse_perm _).nodup_iff.mpr ((painted_nodup w).filter _)
  have memR : ∀ m ∈ rws S, ∃ b, findB S m = some b ∧ b ∈ S ∧ b.nm = m ∧ shown S m = true := fun m hm => spr_mem w (by unfold rws at hm; exact List.mem_reverse.mp hm)
  obtain ⟨C, M, fe, _, f3, f4⟩ := rows_fold w (rws S) ndR fun m hm => by obtain ⟨b, _, hb, e, _⟩ := memR m hm; exact mem_names.mpr ⟨b, hb, e⟩
  have ipp : ∀ xs : List D, itemsR (.lst xs) = .ok xs := fun _ => rfl
  unfold runB g_law_k08
  simp only [List.map_cons, List.map_nil, List.replicate, List.cons_append, List.nil_append]
  rw [sSeq_ap, sSet_ap, ms]
  simp only [liftO_ok, List.set_cons_succ, List.set_cons_zero, seqO_nx, sSeq_ap, sSetK_ap, kNil_ap, sSet_ap, eOfF_ap, eUn_ap, aCons_ap, aNil_ap, getD_0, getD_s, R.ok_bind, eC_ap, l0, sp, revF_lst, rv, sSetF_ap, sFor_ap, ipp]
  generalize hB : (sEnd [5, 6, 7, 8, 9] _ : En → Out) = B
  have kf := forO_foldl (T := tupT [5, 6, 7]) (G := B) (f := rowOf S) (fun s : Sta => [.d (.frz ns), .d (scD S), .od s.1, .d (.lst ((rws S).map (rowOf S))), .ol (s.2.map pairD), .u, .u, .u, .u, .u, .u, .u, .u]) (rowStep S) ([], []) (rws S) fun m pre rest hx => ?_
  · rw [fe] at kf
    simp only [List.map_nil] at kf
    rw [kf]
    have is : itemsR (scD S) = .ok (S.map Box.D) := rfl
    simp only [seqO_nx, sSeq_ap, sFor_ap, eUn_ap, getD_0, getD_s, R.ok_bind, is, liftO_ok]
    have val : ∀ b ∈ S, valD C (.inr b.nm) = if cnt S b = 0 then none else some (.int (cnt S b : Int)) := by
      intro b hb
      cases hsh : shown S b.nm with
      | true =>
        have hm : b.nm ∈ rws S := by
          unfold rws spr
          rw [List.mem_reverse, List.mem_filter]
          exact ⟨(painted_all w _).mpr (mem_names.mpr ⟨b, hb, rfl⟩), hsh⟩
        obtain ⟨R1, R2, e⟩ := List.append_of_mem hm
        have h1 : b.nm ∉ R1 := by
          have nd := ndR
          rw [e, List.nodup_append] at nd
          exact fun z => nd.2.2 b.nm z b.nm List.mem_cons_self rfl
        rw [f4 R1 b.nm R2 e, cR_cnt w hb hsh e h1]
      | false =>
        have hm : b.nm ∉ rws S := fun z => by
          obtain ⟨_, _, _, _, q⟩ := memR _ z
          rw [hsh] at q; cases q
        have nk := f3 b.nm hm
        have c0 : cnt S b = 0 := by unfold cnt; rw [hsh]; rfl
        rw [c0, if_pos rfl]
        unfold valD
        rw [Option.map_eq_none_iff, List.find?_eq_none]
        intro kv hkv z
        exact nk kv hkv (of_decide_eq_true z)
    rw [forO_same fun d hd => ?_]
    · rfl
    obtain ⟨b, hb, rfl⟩ := List.mem_map.mp hd
    refine ⟨_, rfl, .inl ?_⟩
    have hn : b.nm ∈ names S := mem_names.mpr ⟨b, hb, rfl⟩
    have po := m_points_of w (by omega) sm hb
    have g2 : get2R (.dic C) (.str b.nm) (.int 0) = .ok (.int (cnt S b : Int)) := by
      have e : get2R (.dic C) (.str b.nm) (.int 0) = .ok ((valD C (.inr b.nm)).getD (.int 0)) := rfl
      rw [e, val b hb]
      by_cases c0 : cnt S b = 0 <;> simp [c0]
    have cv := m_is_covered w (by omega) sm hn
    have k1 := compO_map (T := nameT 12) (C := tBin Dx.inR (eBin ixR (getD' 5) (eC (.int 0))) (eUn den__law_path (aCons (getD' 1) (aCons (eBin ixR (getD' 12) (eC (.int 0))) aNil)))) (F := eBin ixR (getD' 12) (eC (.int 0)))
      (e := [.d (.frz ns), .d (scD S), .od C, .d (.lst ((rws S).map (rowOf S))), .ol (M.map pairD), .d b.D, .u, .u, .u, .u, .u, .u, .u]) (f := Box.D) (p := fun c => decide (b.nm ∈ path S c.nm)) (g := fun c => D.str c.nm) S fun c hc => by
        have lp := m_law_path w (by omega) (mem_names.mpr ⟨c, hc, rfl⟩ : c.nm ∈ names S)
        exact ⟨_, rfl, by simp [lp, in_strs], fun _ => by simp⟩
    have e1 : (S.filter fun c => decide (b.nm ∈ path S c.nm)).map (fun c => D.str c.nm) = ((S.filter fun c => decide (b.nm ∈ path S c.nm)).map (·.nm)).map D.str := by rw [List.map_map]; rfl
    rw [e1] at k1
    have memI : ∀ m, m ∈ (S.filter fun c => decide (b.nm ∈ path S c.nm)).map (·.nm) ↔ m ∈ blk S b.nm := by
      intro m
      rw [List.mem_map]
      constructor
      · rintro ⟨c, hc, rfl⟩
        rw [List.mem_filter] at hc
        exact (mem_blk w (wf_new w _ hn).1 (mem_names.mpr ⟨c, hc.1, rfl⟩)).mpr (of_decide_eq_true hc.2)
      · intro hm
        obtain ⟨c, _, hc, rfl⟩ := find_some w (blk_sub hn hm)
        exact ⟨c, List.mem_filter.mpr ⟨hc, decide_eq_true ((mem_blk w (wf_new w _ hn).1 (mem_names.mpr ⟨c, hc, rfl⟩)).mp hm)⟩, rfl⟩
    generalize (S.filter fun c => decide (b.nm ∈ path S c.nm)).map (·.nm) = I at *
    have k2 := fun s11 : Slot => compO_map (T := nameT 12) (C := tBin Dx.inR (getD' 12) (getV 2)) (F := getD' 12) (e := [.d (.frz ns), .d (scD S), .od C, .d (.lst ((rws S).map (rowOf S))), .ol (M.map pairD), .d b.D, .u, .u, .u, .u, .d (.lst (I.map D.str)), s11, .u]) (f := D.str) (p := fun m => !decide (cntN S m = 0)) (g := D.str) I fun m hm => by
      obtain ⟨c, fc, hc, rfl⟩ := find_some w (blk_sub hn ((memI m).mp hm))
      have cn : cntN S c.nm = cnt S c := by unfold cntN; rw [fc]
      have ic : Dx.inR (.str c.nm) (.dic C) = .ok (.bl (valD C (.inr c.nm)).isSome) := rfl
      refine ⟨_, rfl, ?_, fun _ => rfl⟩
      rw [cn]
      by_cases c0 : cnt S c = 0
      · have v := val c hc
        rw [if_pos c0] at v
        rw [v] at ic
        simp [ic, c0]
      · have v := val c hc
        rw [if_neg c0] at v
        rw [v] at ic
        simp [ic, c0]
    have en := eq_sL_nil (I.filter fun m => !decide (cntN S m = 0))
    have ee : (I.filter fun m => !decide (cntN S m = 0)).isEmpty = (blk S b.nm).all fun m => decide (cntN S m = 0) := by
      cases hq : (blk S b.nm).all fun m => decide (cntN S m = 0) with
      | true =>
        rw [List.isEmpty_iff, List.filter_eq_nil_iff]
        intro m hm z
        have := List.all_eq_true.mp hq m ((memI m).mp hm)
        rw [this] at z
        cases z
      | false =>
        rw [Bool.eq_false_iff]
        intro z
        rw [List.isEmpty_iff, List.filter_eq_nil_iff] at z
        have : (blk S b.nm).all (fun m => decide (cntN S m = 0)) = true := by
          rw [List.all_eq_true]
          intro m hm
          have := z m ((memI m).mpr hm)
          simpa using this
        rw [this] at hq
        cases hq
    rw [ee] at en
    unfold sL at en
    simp [po, g2, ne_int, is, k1, cv, isi_bl, ipp, k2, l0, en, eq_bl]
  · obtain ⟨b, fb, hb, rfl, hsh⟩ := memR m (by rw [hx]; simp)
    have lp : pre.length ≤ 4 := by
      have l := congrArg List.length hx
      have l2 : (rws S).length ≤ S.length := by
        unfold rws spr
        rw [List.length_reverse]
        exact Nat.le_trans (List.length_filter_le ..) (kids_len w (.inl rfl))
      simp at l
      omega
    have ln := fold_len (rowStep S) 1000000 (rowStep_len w (by omega) sm) pre ([], [])
    have i1 := fold_int (f := rowStep S) (fun s n h => rowStep_int h) pre ([], []) (fun kv hkv => by cases hkv)
    have rs : ∀ s : Sta, rowStep S s b.nm = (grid (areaA S b)).foldl (stp S b.nm) s := fun s => by unfold rowStep; rw [fb]
    generalize List.foldl (rowStep S) ([], []) pre = s at *
    have ro : rowOf S b.nm = rowD S b := by unfold rowOf; rw [fb]
    have tT : ∀ e : En, tupT [5, 6, 7] (rowD S b) e = .ok (((e.set 5 (.d b.D)).set 6 (.d (areaA S b).D)).set 7 (.d (.lst ((clips S (path S b.ar) ++ [areaA S b]).map Area.D)))) := fun _ => rfl
    have as := area_small sm (by omega) hb
    have rx := rng2_ok (i := (areaA S b).l) (j := (areaA S b).r) (by omega) (by omega)
    have a0 : ixR (areaA S b).D (.int 0) = .ok (.int (areaA S b).l) := rfl
    have a2 : ixR (areaA S b).D (.int 2) = .ok (.int (areaA S b).r) := rfl
    have rl := row_loop w (by omega) sm hb hsh (.d (.frz ns)) (.d (.lst ((rws S).map (rowOf S)))) s i1 (by simp at ln; omega)
    refine ⟨_, by rw [ro, tT], ?_⟩
    rw [← hB, rs]
    simp only [sEnd_ap, sFor_ap, fRng2_ap, eBin_ap, eC_ap, getD_0, getD_s, List.set_cons_succ, List.set_cons_zero, R.ok_bind, a0, a2, rx, liftO_ok, rl, endK_nx, killS_cons, killS_nil]
end Fo

/-! Boxes cut, boxes raised. -/
namespace Fo
open PySem Dx Dn
def cutS (S : List Box) (n : Str) : List Box := S.filter fun b => !decide (b.nm ∈ blk S n)
def inS (S : List Box) (n : Str) : List Box := S.filter fun b => decide (b.nm ∈ blk S n)
def raisedS (S : List Box) (n : Str) : List Box := cutS S n ++ inS S n
theorem m_cut {S : List Box} (w : wf [] S) (hs : S.length ≤ 100) {n : Str} (hn : n ∈ names S) : den_cut [scD S, .str n] = .ok (scD (cutS S n)) := by
  show runB 2 g_cut [scD S, .str n] = _
  have be := m_below w hs hn
  have is : itemsR (scD S) = .ok (S.map Box.D) := rfl
  have k := compO_map (T := nameT 3) (C := tBin Dx.notInR (eBin ixR (getD' 3) (eC (.int 0))) (getD' 2)) (F := getD' 3) (e := [.d (scD S), .d (.str n), .d (sL (blk S n)), .u]) (f := Box.D) (p := fun b => !decide (b.nm ∈ blk S n)) (g := Box.D) S fun b _ =>
    ⟨_, rfl, by simp [notIn_strs], fun _ => rfl⟩
  have tl : ∀ xs : List D, tupleR [.lst xs] = .ok (.tup xs) := fun _ => rfl
  have fin : (.tup ((S.filter fun b => !decide (b.nm ∈ blk S n)).map Box.D) : D) = scD (cutS S n) := rfl
  unfold runB g_cut
  simp [be, is, k, tl, fin]
theorem m_raised {S : List Box} (w : wf [] S) (hs : S.length ≤ 100) {n : Str} (hn : n ∈ names S) : den_raised [scD S, .str n] = .ok (scD (raisedS S n)) := by
  show runB 2 g_raised [scD S, .str n] = _
  have be := m_below w hs hn
  have is : itemsR (scD S) = .ok (S.map Box.D) := rfl
  have k := compO_map (T := nameT 3) (C := tBin Dx.inR (eBin ixR (getD' 3) (eC (.int 0))) (getD' 2)) (F := getD' 3) (e := [.d (scD S), .d (.str n), .d (sL (blk S n)), .u]) (f := Box.D) (p := fun b => decide (b.nm ∈ blk S n)) (g := Box.D) S fun b _ =>
    ⟨_, rfl, by simp [in_strs], fun _ => rfl⟩
  have tl : ∀ xs : List D, tupleR [.lst xs] = .ok (.tup xs) := fun _ => rfl
  have mc := m_cut w hs hn
  have l1 : (cutS S n).length ≤ S.length := List.length_filter_le ..
  have l2 : (inS S n).length ≤ S.length := List.length_filter_le ..
  have ad : addR (scD (cutS S n)) (.tup ((inS S n).map Box.D)) = .ok (scD (raisedS S n)) := by
    unfold scD raisedS
    rw [addR_t (by simp; omega)]
    simp
  unfold inS at ad
  unfold runB g_raised
  simp [be, is, k, tl, mc, ad]
/-- a part of a scene that is a scene -/
theorem sub_find {S S' : List Box} (w : wf [] S) (w' : wf [] S') (sub : ∀ b ∈ S', b ∈ S) {m : Str} (hm : m ∈ names S') : findB S' m = findB S m := by
  obtain ⟨b, hb, rfl⟩ := mem_names.mp hm
  rw [find_of w' hb, find_of w (sub b hb)]
theorem sub_path {S S' : List Box} (w : wf [] S) (w' : wf [] S') (sub : ∀ b ∈ S', b ∈ S) : ∀ (k : Nat) (m : Str), m ∈ names S' → (path S' m).length ≤ k → path S' m = path S m
  | 0, m, hm, hk => by rw [path_last w' hm] at hk; simp at hk
  | k + 1, m, hm, hk => by
    obtain ⟨b, hb, rfl⟩ := mem_names.mp hm
    have p1 := path_step w' hb
    have p2 := path_step w (sub b hb)
    rw [p1, p2]
    by_cases e : b.ar = ""
    · rw [e, path_empty w, path_empty w']
    · rw [p1] at hk
      simp at hk
      rw [sub_path w w' sub k b.ar (ar_names w' hb e) (by omega)]
theorem sub_names {S S' : List Box} (sub : ∀ b ∈ S', b ∈ S) {m : Str} (hm : m ∈ names S') : m ∈ names S := by
  obtain ⟨b, hb, rfl⟩ := mem_names.mp hm
  exact mem_names.mpr ⟨b, sub b hb, rfl⟩
theorem offs_congr {S S' : List Box} : ∀ ns : List Str, (∀ m ∈ ns, findB S' m = findB S m) → offs S' ns = offs S ns
  | [], _ => rfl
  | n :: ns, h => by
    rw [offs_cons, offs_cons, h n List.mem_cons_self, offs_congr ns fun m hm => h m (List.mem_cons_of_mem _ hm)]
section
variable {S S' : List Box} (w : wf [] S) (w' : wf [] S') (sub : ∀ b ∈ S', b ∈ S)
include w w' sub
theorem path_sub {m : Str} (hm : m ∈ names S') : path S' m = path S m := sub_path w w' sub _ m hm (Nat.le_refl _)
theorem find_path {m : Str} (hm : m ∈ names S') : ∀ k ∈ path S m, findB S' k = findB S k := fun k hk => by
  rw [← path_sub w w' sub hm] at hk
  exact sub_find w w' sub (path_names w' hk)
theorem area_sub {b : Box} (hb : b ∈ S') : areaA S' b = areaA S b := by
  have hm : b.nm ∈ names S' := mem_names.mpr ⟨b, hb, rfl⟩
  unfold areaA
  rw [path_sub w w' sub hm, offs_congr _ (find_path w w' sub hm)]
theorem shown_sub {m : Str} (hm : m ∈ names S') : shown S' m = shown S m := by
  unfold shown
  rw [path_sub w w' sub hm]
  have f := find_path w w' sub hm
  apply Bool.eq_iff_iff.mpr
  rw [List.all_eq_true, List.all_eq_true]
  constructor
  · intro h k hk; have := h k hk; rw [f k hk] at this; exact this
  · intro h k hk; have := h k hk; rw [f k hk]; exact this
theorem clips_sub {m : Str} (hm : m ∈ names S') : clips S' (path S' m) = clips S (path S m) := by
  have f := find_path w w' sub hm
  rw [path_sub w w' sub hm]
  unfold clips
  have hn : ∀ k ∈ path S m, k ∈ names S' := fun k hk => by rw [← path_sub w w' sub hm] at hk; exact path_names w' hk
  have : ∀ l : List Str, (∀ k ∈ l, k ∈ names S') → (∀ k ∈ l, findB S' k = findB S k) →
      (l.flatMap fun m => match findB S' m with | some b => if mark 99 b = true then [areaA S' b] else [] | none => []) = l.flatMap fun m => match findB S m with | some b => if mark 99 b = true then [areaA S b] else [] | none => [] := by
    intro l
    induction l with
    | nil => intros; rfl
    | cons k l ih =>
      intro h1 h2
      rw [List.flatMap_cons, List.flatMap_cons, ih (fun k hk => h1 k (List.mem_cons_of_mem _ hk)) fun k hk => h2 k (List.mem_cons_of_mem _ hk)]
      congr 1
      have e := h2 k List.mem_cons_self
      obtain ⟨b, hb, rfl⟩ := mem_names.mp (h1 k List.mem_cons_self)
      rw [← e, find_of w' hb]
      simp only
      rw [area_sub w w' sub hb]
  exact this _ hn f
theorem lets_sub {m : Str} (hm : m ∈ names S') : lets S' m = lets S m := by unfold lets; rw [sub_find w w' sub hm]
theorem touch_sub {m : Str} (hm : m ∈ names S') (x y : Int) : touch S' x y m = touch S x y m := by
  obtain ⟨b, hb, rfl⟩ := mem_names.mp hm
  rw [touch_of w' hb, touch_of w (sub b hb), shown_sub w w' sub hm, area_sub w w' sub hb, clips_sub w w' sub hm]
theorem blk_sub_mem {n m : Str} (hn : n ∈ names S') (hm : m ∈ names S') : m ∈ blk S' n ↔ m ∈ blk S n := by
  rw [mem_blk w' (wf_new w' n hn).1 hm, mem_blk w (wf_new w n (sub_names sub hn)).1 (sub_names sub hm), path_sub w w' sub hm]
end
/-! ### they are scenes -/
theorem wf_filter {p : Box → Bool} : ∀ {S : List Box} {K : List Str}, (names S).Nodup → (∀ b ∈ S, b.nm ≠ "") → (∀ b ∈ S, p b = true → b.nm ∉ K) →
    (∀ (A : List Box) (b : Box) (B : List Box), S = A ++ b :: B → p b = true → b.ar = "" ∨ b.ar ∈ K ∨ ∃ c ∈ A, c.nm = b.ar ∧ p c = true) → wf K (S.filter p)
  | [], _, _, _, _, _ => trivial
  | c :: T, K, nd, n0, nk, h => by
    rw [names_cons, List.nodup_cons] at nd
    have n0' : ∀ b ∈ T, b.nm ≠ "" := fun b hb => n0 b (List.mem_cons_of_mem _ hb)
    rw [List.filter_cons]
    cases hp : p c with
    | true =>
      rw [if_pos rfl]
      refine ⟨n0 c List.mem_cons_self, nk c List.mem_cons_self hp, ?_, wf_filter nd.2 n0' (fun b hb hq z => ?_) fun A b B e hq => ?_⟩
      · rcases h [] c T rfl hp with z | z | ⟨_, z, _⟩
        · exact .inl z
        · exact .inr z
        · cases z
      · rcases List.mem_cons.mp z with z | z
        · exact nd.1 (z ▸ mem_names.mpr ⟨b, hb, rfl⟩)
        · exact nk b (List.mem_cons_of_mem _ hb) hq z
      · rcases h (c :: A) b B (by rw [e]; rfl) hq with z | z | ⟨d, hd, z1, z2⟩
        · exact .inl z
        · exact .inr (.inl (List.mem_cons_of_mem _ z))
        · rcases List.mem_cons.mp hd with e2 | hd
          · exact .inr (.inl (by rw [← z1, e2]; exact List.mem_cons_self))
          · exact .inr (.inr ⟨d, hd, z1, z2⟩)
    | false =>
      rw [if_neg Bool.false_ne_true]
      refine wf_filter nd.2 n0' (fun b hb hq => nk b (List.mem_cons_of_mem _ hb) hq) fun A b B e hq => ?_
      rcases h (c :: A) b B (by rw [e]; rfl) hq with z | z | ⟨d, hd, z1, z2⟩
      · exact .inl z
      · exact .inr (.inl z)
      · rcases List.mem_cons.mp hd with e2 | hd
        · rw [e2, hp] at z2; cases z2
        · exact .inr (.inr ⟨d, hd, z1, z2⟩)
theorem par_blk {S : List Box} (w : wf [] S) {n : Str} (hn : n ∈ names S) {b : Box} (hb : b ∈ S) (h : b.ar ∈ blk S n) : b.nm ∈ blk S n := by
  have n0 := (wf_new w n hn).1
  have nb : b.nm ∈ names S := mem_names.mpr ⟨b, hb, rfl⟩
  have na := blk_sub hn h
  rw [mem_blk w n0 na] at h
  rw [mem_blk w n0 nb, path_step w hb]
  exact List.mem_append_left _ h
theorem cut_wf {S : List Box} (w : wf [] S) {n : Str} (hn : n ∈ names S) : wf [] (cutS S n) := by
  refine wf_filter (wf_nodup w) (fun b hb => (wf_new w _ (mem_names.mpr ⟨b, hb, rfl⟩)).1) (fun _ _ _ z => by cases z) fun A b B e hq => ?_
  have hb : b ∈ S := by rw [e]; simp
  rcases (wf_split (e ▸ w)).2.2.2 with z | z
  · exact .inl z
  · obtain ⟨c, hc, ec⟩ := mem_names.mp z
    refine .inr (.inr ⟨c, hc, ec, ?_⟩)
    rw [ec]
    have : b.ar ∉ blk S n := fun q => by
      have := par_blk w hn hb q
      simp [this] at hq
    simp [this]
theorem raised_wf {S : List Box} (w : wf [] S) {n : Str} (hn : n ∈ names S) : wf [] (raisedS S n) := by
  unfold raisedS
  rw [wf_append]
  refine ⟨cut_wf w hn, wf_filter (wf_nodup w) (fun b hb => (wf_new w _ (mem_names.mpr ⟨b, hb, rfl⟩)).1) (fun b hb hq z => ?_) fun A b B e hq => ?_⟩
  · rw [List.append_nil] at z
    obtain ⟨c, hc, ec⟩ := mem_names.mp z
    unfold cutS at hc
    rw [List.mem_filter, ec] at hc
    have := of_decide_eq_true hq
    simp [this] at hc
  · rcases (wf_split (e ▸ w)).2.2.2 with z | z
    · exact .inl z
    · obtain ⟨c, hc, ec⟩ := mem_names.mp z
      by_cases q : b.ar ∈ blk S n
      · exact .inr (.inr ⟨c, hc, ec, by rw [ec]; exact decide_eq_true q⟩)
      · refine .inr (.inl ?_)
        rw [List.append_nil]
        exact mem_names.mpr ⟨c, List.mem_filter.mpr ⟨by rw [e]; simp [hc], by rw [ec]; simp [q]⟩, ec⟩
theorem cut_subset {S : List Box} {n : Str} : ∀ b ∈ cutS S n, b ∈ S := fun b hb => (List.mem_filter.mp hb).1
theorem raised_subset {S : List Box} {n : Str} : ∀ b ∈ raisedS S n, b ∈ S := fun b hb => by
  rcases List.mem_append.mp hb with h | h <;> exact (List.mem_filter.mp h).1
theorem raised_names {S : List Box} {n m : Str} : m ∈ names (raisedS S n) ↔ m ∈ names S := by
  constructor
  · intro h
    obtain ⟨b, hb, e⟩ := mem_names.mp h
    exact mem_names.mpr ⟨b, raised_subset b hb, e⟩
  · intro h
    obtain ⟨b, hb, e⟩ := mem_names.mp h
    refine mem_names.mpr ⟨b, ?_, e⟩
    unfold raisedS cutS inS
    rw [List.mem_append, List.mem_filter, List.mem_filter]
    by_cases z : b.nm ∈ blk S n
    · exact .inr ⟨hb, decide_eq_true z⟩
    · exact .inl ⟨hb, by simp [z]⟩
theorem cut_names {S : List Box} {n m : Str} : m ∈ names (cutS S n) ↔ m ∈ names S ∧ m ∉ blk S n := by
  constructor
  · intro h
    obtain ⟨b, hb, e⟩ := mem_names.mp h
    unfold cutS at hb
    rw [List.mem_filter] at hb
    exact ⟨mem_names.mpr ⟨b, hb.1, e⟩, by rw [← e]; simpa using hb.2⟩
  · rintro ⟨h, h2⟩
    obtain ⟨b, hb, e⟩ := mem_names.mp h
    exact mem_names.mpr ⟨b, List.mem_filter.mpr ⟨hb, by rw [e]; simp [h2]⟩, e⟩

/-! ### the order in which they are painted -/
theorem kids_more {b : Box} {T : List Box} {x m : Str} (h : m ∈ kids T x) : m ∈ kids (b :: T) x := by
  unfold kids
  split
  · exact List.mem_append_right _ h
  · exact h
theorem kids_filter (q : Str → Bool) : ∀ {T : List Box} {n : Str}, (∀ b ∈ T, q b.nm = false → ∀ m ∈ kids T b.nm, q m = false) → kids (T.filter fun b => q b.nm) n = (kids T n).filter q
  | [], _, _ => rfl
  | b :: T, n, h => by
    have h' : ∀ c ∈ T, q c.nm = false → ∀ m ∈ kids T c.nm, q m = false := fun c hc hq m hm => h c (List.mem_cons_of_mem _ hc) hq m (kids_more hm)
    have ih := fun n => kids_filter q (n := n) h'
    rw [List.filter_cons]
    cases hq : q b.nm with
    | true =>
      rw [if_pos rfl, kids, kids]
      split
      · rw [ih, ih, List.filter_append, List.filter_cons, if_pos hq]
      · exact ih n
    | false =>
      rw [if_neg Bool.false_ne_true, ih, kids]
      split
      · have e : (kids T b.nm).filter q = [] := by
          rw [List.filter_eq_nil_iff]
          intro m hm z
          rw [h b List.mem_cons_self hq m (kids_more hm)] at z
          cases z
        rw [List.filter_append, List.filter_cons, if_neg (by rw [hq]; exact Bool.false_ne_true), e]
        rfl
      · rfl
theorem kids_cut {S : List Box} (w : wf [] S) {n : Str} (hn : n ∈ names S) (a : Str) : kids (cutS S n) a = (kids S a).filter fun m => !decide (m ∈ blk S n) := by
  refine kids_filter (fun m => !decide (m ∈ blk S n)) fun b hb hq m hm => ?_
  have hq : b.nm ∈ blk S n := by simpa using hq
  have n0 := (wf_new w n hn).1
  have nb : b.nm ∈ names S := mem_names.mpr ⟨b, hb, rfl⟩
  have ms := kids_sub hm
  have : m ∈ blk S n := by
    rw [mem_blk w n0 ms]
    rw [mem_blk w n0 nb] at hq
    have hbm : b.nm ∈ path S m := (mem_blk w (wf_new w _ nb).1 ms).mp (List.mem_cons_of_mem _ hm)
    obtain ⟨r, hr⟩ := path_pre w _ (Nat.le_refl _) ms hbm
    rw [hr]
    exact List.mem_append_left _ hq
  simp [this]
theorem kids_none : ∀ {Y : List Box} {a : Str}, (∀ y ∈ Y, y.ar ≠ a) → kids Y a = []
  | [], _, _ => rfl
  | y :: Y, a, h => by rw [kids, if_neg (h y List.mem_cons_self), kids_none fun z hz => h z (List.mem_cons_of_mem _ hz)]
theorem kids_app : ∀ {X Y : List Box} {a : Str}, (∀ y ∈ Y, y.ar ∉ names X) → kids (X ++ Y) a = kids X a ++ kids Y a
  | [], Y, a, _ => rfl
  | b :: X, Y, a, h => by
    have h' : ∀ y ∈ Y, y.ar ∉ names X := fun y hy z => h y hy (by rw [names_cons]; exact List.mem_cons_of_mem _ z)
    have e : kids Y b.nm = [] := kids_none fun y hy z => h y hy (by rw [names_cons, z]; exact List.mem_cons_self)
    rw [List.cons_append, kids, kids]
    split
    · rw [kids_app h', kids_app h', e, List.append_nil]
      simp
    · exact kids_app h'
/-- a box at the top, raised -/
theorem kids_raised {S : List Box} (w : wf [] S) {b : Box} (hb : b ∈ S) (ha : b.ar = "") : kids (raisedS S b.nm) "" = ((kids S "").filter fun m => !decide (m ∈ blk S b.nm)) ++ (kids S "").filter fun m => decide (m ∈ blk S b.nm) := by
  have nb : b.nm ∈ names S := mem_names.mpr ⟨b, hb, rfl⟩
  have n0 := (wf_new w _ nb).1
  have pb : path S b.nm = [b.nm] := by rw [path_step w hb, ha, path_empty w]; rfl
  unfold raisedS
  rw [kids_app fun y hy z => ?_, kids_cut w nb]
  · congr 1
    refine kids_filter (fun m => decide (m ∈ blk S b.nm)) fun c hc hq m hm => ?_
    have nc : c.nm ∈ names S := mem_names.mpr ⟨c, hc, rfl⟩
    have ms := kids_sub hm
    have hcm : c.nm ∈ path S m := (mem_blk w (wf_new w _ nc).1 ms).mp (List.mem_cons_of_mem _ hm)
    apply decide_eq_false
    intro z
    have hbm := (mem_blk w n0 ms).mp z
    rcases path_chain w ms hbm hcm with q | q
    · have := (mem_blk w n0 nc).mpr q
      rw [decide_eq_true this] at hq
      cases hq
    · rw [pb, List.mem_singleton] at q
      have : c.nm ∈ blk S b.nm := by rw [q]; exact List.mem_cons_self
      rw [decide_eq_true this] at hq
      cases hq
  · unfold inS at hy
    rw [List.mem_filter] at hy
    obtain ⟨c, hc, ec⟩ := mem_names.mp z
    unfold cutS at hc
    rw [List.mem_filter] at hc
    have yb : y.nm ∈ blk S b.nm := of_decide_eq_true hy.2
    have cb : c.nm ∉ blk S b.nm := by simpa using hc.2
    have ny : y.nm ∈ names S := mem_names.mpr ⟨y, hy.1, rfl⟩
    rw [mem_blk w n0 ny, path_step w hy.1, ← ec] at yb
    rcases List.mem_append.mp yb with q | q
    · exact cb ((mem_blk w n0 (mem_names.mpr ⟨c, hc.1, rfl⟩)).mpr q)
    · rw [List.mem_singleton] at q
      have : y = b := by
        have f1 := find_of w hy.1
        rw [← q, find_of w hb] at f1
        cases f1; rfl
      subst this
      rw [ha] at ec
      exact (wf_new w _ (mem_names.mpr ⟨c, hc.1, rfl⟩)).1 ec
end Fo

/-! All points of a box and of what is below. -/
namespace Fo
open PySem Dx Dn
def hitN (S : List Box) (p : Int × Int) : Option Str := (tops S).find? fun m => touch S p.1 p.2 m
def allP : List (Int × Int) := grid ⟨-1000000, -1000000, 1000000, 1000000⟩
theorem countP_sub {α : Type} {A U : List α} {q : α → Bool} (na : A.Nodup) (nu : U.Nodup) (h1 : ∀ p ∈ U, q p = true → p ∈ A) (h2 : ∀ p ∈ A, q p = true → p ∈ U) : A.countP q = U.countP q := by
  rw [List.countP_eq_length_filter, List.countP_eq_length_filter]
  have : (A.filter q).Perm (U.filter q) := (List.perm_ext_iff_of_nodup (na.filter q) (nu.filter q)).mpr fun p => by
    rw [List.mem_filter, List.mem_filter]
    exact ⟨fun z => ⟨h2 p z.1 z.2, z.2⟩, fun z => ⟨h1 p z.1 z.2, z.2⟩⟩
  exact this.length_eq
theorem tops_nodup {S : List Box} (w : wf [] S) : (tops S).Nodup := by
  unfold tops
  exact (List.reverse_perm _).nodup_iff.mpr ((painted_nodup w).filter _)
theorem front_hit {S : List Box} (w : wf [] S) {m : Str} (hm : m ∈ tops S) (p : Int × Int) : front S m p = decide (hitN S p = some m) := by
  obtain ⟨O, R, e⟩ := List.append_of_mem hm
  have nd := tops_nodup w
  rw [e, List.nodup_append] at nd
  have nO : m ∉ O := fun z => nd.2.2 m z m List.mem_cons_self rfl
  have ov : over S m = O := by
    unfold over
    rw [e, plc_at nO]
    simp
  have h : hitN S p = (match O.find? fun m => touch S p.1 p.2 m with | some k => some k | none => if touch S p.1 p.2 m = true then some m else R.find? fun m => touch S p.1 p.2 m) := by
    unfold hitN
    rw [e, List.find?_append, List.find?_cons]
    cases O.find? fun m => touch S p.1 p.2 m <;> cases touch S p.1 p.2 m <;> rfl
  unfold front
  rw [ov, h]
  cases hf : O.find? fun m => touch S p.1 p.2 m with
  | some k =>
    have kO := List.mem_of_find?_eq_some hf
    have kt : touch S p.1 p.2 k = true := by simpa using List.find?_some hf
    have : (O.any fun m => touch S p.1 p.2 m) = true := List.any_eq_true.mpr ⟨k, kO, kt⟩
    have ne : ¬ k = m := fun z => nO (z ▸ kO)
    simp [this, ne]
  | none =>
    rw [List.find?_eq_none] at hf
    have : (O.any fun m => touch S p.1 p.2 m) = false := by
      rw [List.any_eq_false]
      intro k hk
      simpa using hf k hk
    rw [this]
    cases ht : touch S p.1 p.2 m with
    | true => simp
    | false =>
      simp
      intro z
      have := List.mem_of_find?_eq_some z
      rw [List.nodup_cons] at nd
      exact nd.2.1.1 this
theorem hit_tops {S : List Box} {p : Int × Int} {m : Str} (h : hitN S p = some m) : m ∈ tops S ∧ touch S p.1 p.2 m = true := ⟨List.mem_of_find?_eq_some h, by simpa using List.find?_some h⟩
theorem cnt_all {S : List Box} (w : wf [] S) (hs : S.length ≤ 100) (sm : small S) {b : Box} (hb : b ∈ S) : cnt S b = allP.countP fun p => decide (hitN S p = some b.nm) := by
  unfold cnt
  have tm := tops_mem w hb
  cases hc : (shown S b.nm && !mark 108 b) with
  | true =>
    rw [if_pos rfl]
    have hm : b.nm ∈ tops S := tm.mpr hc
    have e : (grid (areaA S b)).countP (front S b.nm) = (grid (areaA S b)).countP fun p => decide (hitN S p = some b.nm) := by
      apply List.countP_congr
      intro p _
      rw [front_hit w hm]
    rw [e]
    have as := area_small sm hs hb
    refine countP_sub (grid_nodup _) (grid_nodup _) (fun p _ hq => ?_) fun p hp _ => ?_
    · exact touch_grid w hb (hit_tops (of_decide_eq_true hq)).2
    · rw [grid_mem] at hp
      unfold allP
      rw [grid_mem]
      unfold has at hp ⊢
      simp only [Bool.and_eq_true, decide_eq_true_eq] at hp ⊢
      omega
  | false =>
    rw [if_neg Bool.false_ne_true]
    symm
    rw [List.countP_eq_zero]
    intro p _ z
    have := tm.mp (hit_tops (of_decide_eq_true z)).1
    rw [hc] at this
    cases this
def wholeN (S : List Box) (n : Str) : Nat := ((blk S n).map (cntN S)).sum
def hitIn (S : List Box) (L : List Str) (p : Int × Int) : Bool := match hitN S p with
  | some m => decide (m ∈ L)
  | none => false
theorem countP_or {α : Type} {q r : α → Bool} (h : ∀ p, q p = true → r p = false) (U : List α) : U.countP q + U.countP r = U.countP fun p => q p || r p := by
  induction U with
  | nil => rfl
  | cons a U ih =>
    rw [List.countP_cons, List.countP_cons, List.countP_cons, ← ih]
    have := h a
    cases hq : q a with
    | true => rw [this hq]; simp; omega
    | false => cases r a <;> simp <;> omega
theorem sum_cnt {S : List Box} (w : wf [] S) (hs : S.length ≤ 100) (sm : small S) : ∀ L : List Str, L.Nodup → (∀ m ∈ L, m ∈ names S) → (L.map (cntN S)).sum = allP.countP (hitIn S L)
  | [], _, _ => by
    symm
    rw [List.map_nil, List.sum_nil, List.countP_eq_zero]
    intro p _ z
    unfold hitIn at z
    split at z <;> simp at z
  | m :: L, nd, hL => by
    rw [List.nodup_cons] at nd
    obtain ⟨b, fb, hb, rfl⟩ := find_some w (hL m List.mem_cons_self)
    have cn : cntN S b.nm = cnt S b := by unfold cntN; rw [fb]
    rw [List.map_cons, List.sum_cons, sum_cnt w hs sm L nd.2 fun k hk => hL k (List.mem_cons_of_mem _ hk), cn, cnt_all w hs sm hb, countP_or]
    · apply List.countP_congr
      intro p _
      unfold hitIn
      cases hitN S p with
      | none => simp
      | some k => simp
    · intro p hq
      have := of_decide_eq_true hq
      unfold hitIn
      rw [this]
      simp [nd.1]
theorem blk_nodup {S : List Box} (w : wf [] S) {n : Str} (hn : n ∈ names S) : (blk S n).Nodup := by
  obtain ⟨A, B, e⟩ := blk_painted w _ n hn (Nat.le_refl _)
  have nd := painted_nodup w
  rw [e, List.nodup_append, List.nodup_append] at nd
  exact nd.1.2.1
theorem whole_all {S : List Box} (w : wf [] S) (hs : S.length ≤ 100) (sm : small S) {n : Str} (hn : n ∈ names S) : wholeN S n = allP.countP (hitIn S (blk S n)) :=
  sum_cnt w hs sm _ (blk_nodup w hn) fun m hm => blk_sub hn hm
theorem m_law_whole {S : List Box} (w : wf [] S) (hs : S.length ≤ 100) (sm : small S) {n : Str} (hn : n ∈ names S) : den__law_whole [scD S, .str n] = .ok (.int (wholeN S n : Nat)) := by
  show runB 1 g__law_whole [scD S, .str n] = _
  have be := m_below w hs hn
  have ip : itemsR (sL (blk S n)) = .ok ((blk S n).map D.str) := rfl
  have k := compO_all (T := nameT 2) (C := tTrue) (F := eUn den_points_of (aCons (getD' 0) (aCons (getD' 2) aNil))) (e := [.d (scD S), .d (.str n), .u]) (f := D.str) (g := fun m => D.int (cntN S m : Nat)) (blk S n) fun m hm => by
    obtain ⟨b, fb, hb, rfl⟩ := find_some w (blk_sub hn hm)
    refine ⟨_, rfl, rfl, ?_⟩
    have cn : cntN S b.nm = cnt S b := by unfold cntN; rw [fb]
    simp [m_points_of w hs sm hb, cn]
  have su : sumR [.lst ((blk S n).map fun m => D.int (cntN S m : Nat))] = .ok (.int (wholeN S n : Nat)) := by
    have e : ((blk S n).map fun m => D.int (cntN S m : Nat)) = ((blk S n).map fun m => (cntN S m : Int)).map D.int := by simp [List.map_map, Function.comp_def]
    unfold sumR
    rw [e]
    simp only [intsOf_map]
    have : ((blk S n).map fun m => (cntN S m : Int)).sum = (wholeN S n : Nat) := by
      unfold wholeN
      generalize blk S n = L
      induction L with
      | nil => rfl
      | cons m L ih => simp [ih]
    rw [this]
  unfold runB g__law_whole
  simp [be, ip, k, su]
/-! ### raised at the top; another one cut -/
theorem small_sub {S S' : List Box} (sm : small S) (sub : ∀ b ∈ S', b ∈ S) : small S' := fun b hb => sm b (sub b hb)
theorem hit_some {S : List Box} {p : Int × Int} {m : Str} (h1 : m ∈ tops S) (h2 : touch S p.1 p.2 m = true) : ∃ k, hitN S p = some k := by
  unfold hitN
  cases e : (tops S).find? fun m => touch S p.1 p.2 m with
  | some k => exact ⟨k, rfl⟩
  | none =>
    rw [List.find?_eq_none] at e
    have := e m h1
    rw [h2] at this
    exact absurd rfl this
theorem whole_raised {S : List Box} (w : wf [] S) (hs : S.length ≤ 50) (sm : small S) {b : Box} (hb : b ∈ S) (ha : b.ar = "") : wholeN S b.nm ≤ wholeN (raisedS S b.nm) b.nm := by
  have nb : b.nm ∈ names S := mem_names.mpr ⟨b, hb, rfl⟩
  have w' := raised_wf w nb
  have sub := raised_subset (S := S) (n := b.nm)
  have nb' : b.nm ∈ names (raisedS S b.nm) := raised_names.mpr nb
  have l1 : (cutS S b.nm).length ≤ S.length := List.length_filter_le ..
  have l2 : (inS S b.nm).length ≤ S.length := List.length_filter_le ..
  have hs' : (raisedS S b.nm).length ≤ 100 := by unfold raisedS; rw [List.length_append]; omega
  rw [whole_all w (by omega) sm nb, whole_all w' hs' (small_sub sm sub) nb']
  apply List.countP_mono_left
  intro p _ h
  unfold hitIn at h
  cases e : hitN S p with
  | none => rw [e] at h; cases h
  | some m =>
    rw [e] at h
    have mb : m ∈ blk S b.nm := of_decide_eq_true h
    obtain ⟨mt, tm⟩ := hit_tops e
    have mn : m ∈ names S := blk_sub nb mb
    have mn' : m ∈ names (raisedS S b.nm) := raised_names.mpr mn
    have lk : ∀ k, k ∈ kids (raisedS S b.nm) "" → k ∈ names (raisedS S b.nm) := fun k hk => kids_sub hk
    have tp : tops (raisedS S b.nm) = (((kids S "").filter fun m => decide (m ∈ blk S b.nm)).filter fun n => shown S n && !lets S n).reverse ++ (((kids S "").filter fun m => !decide (m ∈ blk S b.nm)).filter fun n => shown S n && !lets S n).reverse := by
      unfold tops
      have : (kids (raisedS S b.nm) "").filter (fun n => shown (raisedS S b.nm) n && !lets (raisedS S b.nm) n) = (kids (raisedS S b.nm) "").filter fun n => shown S n && !lets S n := by
        apply List.filter_congr
        intro k hk
        rw [shown_sub w w' sub (lk k hk), lets_sub w w' sub (lk k hk)]
      rw [this, kids_raised w hb ha, List.filter_append, List.reverse_append]
    have mt2 : m ∈ (((kids S "").filter fun m => decide (m ∈ blk S b.nm)).filter fun n => shown S n && !lets S n).reverse := by
      unfold tops at mt
      rw [List.mem_reverse, List.mem_filter] at mt
      rw [List.mem_reverse, List.mem_filter, List.mem_filter]
      exact ⟨⟨mt.1, decide_eq_true mb⟩, mt.2⟩
    unfold hitIn hitN
    rw [tp, List.find?_append]
    have : ∃ k, (((kids S "").filter fun m => decide (m ∈ blk S b.nm)).filter fun n => shown S n && !lets S n).reverse.find? (fun m => touch (raisedS S b.nm) p.1 p.2 m) = some k := by
      cases e2 : (((kids S "").filter fun m => decide (m ∈ blk S b.nm)).filter fun n => shown S n && !lets S n).reverse.find? (fun m => touch (raisedS S b.nm) p.1 p.2 m) with
      | some k => exact ⟨k, rfl⟩
      | none =>
        rw [List.find?_eq_none] at e2
        have := e2 m mt2
        rw [touch_sub w w' sub mn', tm] at this
        exact absurd rfl this
    obtain ⟨k, hk⟩ := this
    rw [hk]
    simp only [Option.some_or]
    have km := List.mem_of_find?_eq_some hk
    rw [List.mem_reverse, List.mem_filter, List.mem_filter] at km
    have kb : k ∈ blk S b.nm := of_decide_eq_true km.1.2
    exact decide_eq_true ((blk_sub_mem w w' sub nb' (raised_names.mpr (blk_sub nb kb))).mpr kb)
theorem whole_cut {S : List Box} (w : wf [] S) (hs : S.length ≤ 100) (sm : small S) {n o : Str} (hn : n ∈ names S) (ho : o ∈ names S) (h1 : o ∉ blk S n) (h2 : n ∉ blk S o) : wholeN S n ≤ wholeN (cutS S o) n := by
  have w' := cut_wf w ho
  have sub := cut_subset (S := S) (n := o)
  have hn' : n ∈ names (cutS S o) := cut_names.mpr ⟨hn, h2⟩
  have l1 : (cutS S o).length ≤ S.length := List.length_filter_le ..
  rw [whole_all w hs sm hn, whole_all w' (by omega) (small_sub sm sub) hn']
  apply List.countP_mono_left
  intro p _ h
  unfold hitIn at h
  cases e : hitN S p with
  | none => rw [e] at h; cases h
  | some m =>
    rw [e] at h
    have mb : m ∈ blk S n := of_decide_eq_true h
    have mn : m ∈ names S := blk_sub hn mb
    have n0 := (wf_new w n hn).1
    have o0 := (wf_new w o ho).1
    have mo : m ∉ blk S o := fun z => by
      rcases path_chain w mn ((mem_blk w n0 mn).mp mb) ((mem_blk w o0 mn).mp z) with q | q
      · exact h1 ((mem_blk w n0 ho).mpr q)
      · exact h2 ((mem_blk w o0 hn).mpr q)
    have mn' : m ∈ names (cutS S o) := cut_names.mpr ⟨mn, mo⟩
    have tp : tops (cutS S o) = (tops S).filter fun m => !decide (m ∈ blk S o) := by
      unfold tops
      have : (kids (cutS S o) "").filter (fun n => shown (cutS S o) n && !lets (cutS S o) n) = (kids (cutS S o) "").filter fun n => shown S n && !lets S n := by
        apply List.filter_congr
        intro k hk
        rw [shown_sub w w' sub (kids_sub hk), lets_sub w w' sub (kids_sub hk)]
      rw [this, kids_cut w ho, List.filter_reverse, List.filter_filter, List.filter_filter]
      congr 1
      apply List.filter_congr
      intro k _
      rw [Bool.and_comm]
    have : hitN (cutS S o) p = some m := by
      unfold hitN at e ⊢
      rw [tp, List.find?_filter]
      obtain ⟨O, R, e2, e3⟩ : ∃ O R, tops S = O ++ m :: R ∧ ∀ k ∈ O, touch S p.1 p.2 k = false := by
        rw [List.find?_eq_some_iff_append] at e
        obtain ⟨_, O, R, e2, e3⟩ := e
        exact ⟨O, R, e2, fun k hk => by simpa using e3 k hk⟩
      have tm : touch S p.1 p.2 m = true := (hit_tops e).2
      rw [List.find?_eq_some_iff_append]
      refine ⟨by rw [touch_sub w w' sub mn', tm]; simp [mo], O, R, e2, fun k hk => ?_⟩
      by_cases z : k ∈ blk S o
      · simp [z]
      · have kn : k ∈ names S := by
          have : k ∈ tops S := by rw [e2]; simp [hk]
          obtain ⟨c, hc, rfl, _⟩ := tops_shown w this
          exact mem_names.mpr ⟨c, hc, rfl⟩
        rw [touch_sub w w' sub (cut_names.mpr ⟨kn, z⟩), e3 k hk]
        simp
    unfold hitIn
    rw [this]
    exact decide_eq_true ((blk_sub_mem w w' sub hn' mn').mpr mb)
end Fo

/-! Typed values: how they stand as data; when they are equal. -/
namespace Ty
open PySem Dx Fo
class Enc (α : Type) where
  enc : α → D
open Enc (enc)
structure T1 (α : Type) where
  a : α
deriving DecidableEq
structure T3 (α β γ : Type) where
  a : α
  b : β
  c : γ
deriving DecidableEq
structure T4 (α β γ δ : Type) where
  a : α
  b : β
  c : γ
  d : δ
deriving DecidableEq
structure T5 (α β γ δ ε : Type) where
  a : α
  b : β
  c : γ
  d : δ
  e : ε
deriving DecidableEq
structure T6 (α β γ δ ε ζ : Type) where
  a : α
  b : β
  c : γ
  d : δ
  e : ε
  f : ζ
deriving DecidableEq
/-- a tuple of like things -/
structure Tu (α : Type) where
  l : List α
deriving DecidableEq
structure Dc (κ α : Type) where
  l : List (κ × α)
deriving DecidableEq
structure Fz where
  l : List Int
class KeyT (κ : Type) where
  key : κ → L2.Key
  inj : ∀ a b, key a = key b → a = b
instance : KeyT Int := ⟨.inl, fun _ _ h => by cases h; rfl⟩
instance : KeyT Str := ⟨.inr, fun _ _ h => by cases h; rfl⟩
section
variable {α β γ δ ε ζ κ : Type}
instance : Enc Int := ⟨.int⟩
instance : Enc Bool := ⟨.bl⟩
instance : Enc Str := ⟨.str⟩
instance : Enc Unit := ⟨fun _ => .non⟩
instance : Enc D := ⟨id⟩
instance : Enc Box := ⟨Box.D⟩
instance : Enc Fz := ⟨fun x => .frz x.l⟩
instance [Enc α] : Enc (List α) := ⟨fun xs => .lst (xs.map enc)⟩
instance [Enc α] : Enc (Tu α) := ⟨fun x => .tup (x.l.map enc)⟩
instance [Enc α] : Enc (Option α) := ⟨fun x => match x with | some a => enc a | none => .non⟩
instance [Enc α] : Enc (T1 α) := ⟨fun x => .tup [enc x.a]⟩
instance [Enc α] [Enc β] : Enc (α × β) := ⟨fun x => .tup [enc x.1, enc x.2]⟩
instance [Enc α] [Enc β] [Enc γ] : Enc (T3 α β γ) := ⟨fun x => .tup [enc x.a, enc x.b, enc x.c]⟩
instance [Enc α] [Enc β] [Enc γ] [Enc δ] : Enc (T4 α β γ δ) := ⟨fun x => .tup [enc x.a, enc x.b, enc x.c, enc x.d]⟩
instance [Enc α] [Enc β] [Enc γ] [Enc δ] [Enc ε] : Enc (T5 α β γ δ ε) := ⟨fun x => .tup [enc x.a, enc x.b, enc x.c, enc x.d, enc x.e]⟩
instance [Enc α] [Enc β] [Enc γ] [Enc δ] [Enc ε] [Enc ζ] : Enc (T6 α β γ δ ε ζ) := ⟨fun x => .tup [enc x.a, enc x.b, enc x.c, enc x.d, enc x.e, enc x.f]⟩
instance [KeyT κ] [Enc α] : Enc (Dc κ α) := ⟨fun x => .dic (x.l.map fun kv => (KeyT.key kv.1, enc kv.2))⟩
end
/-- data that is compared -/
class EncE (α : Type) [Enc α] where
  dep : Nat
  hdle : ∀ a : α, dle dep (enc a) = true
  heq : ∀ a b : α, eqD (enc a) (enc b) = true ↔ a = b
/-- never None -/
class EncN (α : Type) [Enc α] : Prop where
  nn : ∀ a : α, isN (enc a) = false
/-- None, a truth, a number, a text -/
class EncS (α : Type) [Enc α] : Prop where
  sc : ∀ a : α, scal0 (enc a) = true
theorem dle_succ : ∀ (n : Nat) (d : D), dle n d = true → dle (n + 1) d = true
  | 0, .non, _ => rfl
  | 0, .bl _, _ => rfl
  | 0, .int _, _ => rfl
  | 0, .str _, _ => rfl
  | 0, .tup _, h => by simp [dle] at h
  | 0, .lst _, h => by simp [dle] at h
  | 0, .dic _, h => by simp [dle] at h
  | 0, .frz _, h => by simp [dle] at h
  | n + 1, .non, _ => rfl
  | n + 1, .bl _, _ => rfl
  | n + 1, .int _, _ => rfl
  | n + 1, .str _, _ => rfl
  | n + 1, .dic _, h => by simp [dle] at h
  | n + 1, .frz _, h => by simp [dle] at h
  | n + 1, .tup xs, h => by
    simp only [dle, List.all_eq_true] at h ⊢
    exact fun x hx => dle_succ n x (h x hx)
  | n + 1, .lst xs, h => by
    simp only [dle, List.all_eq_true] at h ⊢
    exact fun x hx => dle_succ n x (h x hx)
theorem dle_le {m n : Nat} {d : D} (hm : m ≤ n) (h : dle m d = true) : dle n d = true := by
  induction hm with
  | refl => exact h
  | step _ ih => exact dle_succ _ _ ih
theorem eqDs_iff {α : Type} [Enc α] [EncE α] : ∀ xs ys : List α, eqDs (xs.map enc) (ys.map enc) = true ↔ xs = ys
  | [], [] => by simp [eqDs]
  | [], y :: ys => by simp [eqDs]
  | x :: xs, [] => by simp [eqDs]
  | x :: xs, y :: ys => by
    rw [List.map_cons, List.map_cons, eqDs, Bool.and_eq_true, EncE.heq, eqDs_iff xs ys]
    simp
section
variable {α β γ δ ε ζ κ : Type} [Enc α] [Enc β] [Enc γ] [Enc δ] [Enc ε] [Enc ζ]
instance : EncE Int := ⟨0, fun _ => rfl, fun a b => by show (a == b) = true ↔ _; simp⟩
instance : EncE Bool := ⟨0, fun _ => rfl, fun a b => by show (a == b) = true ↔ _; simp⟩
instance : EncE Str := ⟨0, fun _ => rfl, fun a b => by show (a == b) = true ↔ _; simp⟩
instance : EncE Unit := ⟨0, fun _ => rfl, fun a b => by simp [enc, eqD]⟩
instance : EncE Box := ⟨1, fun _ => rfl, fun a b => by
  cases a; cases b
  show eqD (.tup _) (.tup _) = true ↔ _
  simp [eqD, eqDs]⟩
theorem all_dle [EncE α] {n : Nat} (h : EncE.dep α ≤ n) (xs : List α) : (xs.map enc).all (dle n) = true := by
  rw [List.all_map, List.all_eq_true]
  exact fun a _ => dle_le h (EncE.hdle a)
instance [EncE α] : EncE (List α) := ⟨EncE.dep α + 1, fun xs => by
    show (xs.map enc).all (dle (EncE.dep α)) = true
    exact all_dle (Nat.le_refl _) xs, fun a b => by show eqDs _ _ = true ↔ _; exact eqDs_iff a b⟩
instance [EncE α] : EncE (Tu α) := ⟨EncE.dep α + 1, fun xs => by
    show (xs.l.map enc).all (dle (EncE.dep α)) = true
    exact all_dle (Nat.le_refl _) xs.l, fun a b => by
    show eqDs _ _ = true ↔ _
    rw [eqDs_iff]
    cases a; cases b; simp⟩
instance [EncE α] : EncE (T1 α) := ⟨EncE.dep α + 1, fun x => by
    show [enc x.a].all (dle _) = true
    simp [EncE.hdle], fun a b => by
    show eqDs [_] [_] = true ↔ _
    cases a; cases b; simp [eqDs, EncE.heq]⟩
instance [EncE α] [EncE β] : EncE (α × β) := ⟨max (EncE.dep α) (EncE.dep β) + 1, fun x => by
    show [enc x.1, enc x.2].all (dle _) = true
    simp only [List.all_cons, List.all_nil, Bool.and_true, Bool.and_eq_true]
    exact ⟨dle_le (by omega) (EncE.hdle x.1), dle_le (by omega) (EncE.hdle x.2)⟩, fun a b => by
    show eqDs [_, _] [_, _] = true ↔ _
    cases a; cases b; simp [eqDs, EncE.heq]⟩
instance [EncE α] [EncE β] [EncE γ] : EncE (T3 α β γ) := ⟨max (max (EncE.dep α) (EncE.dep β)) (EncE.dep γ) + 1, fun x => by
    show [enc x.a, enc x.b, enc x.c].all (dle _) = true
    simp only [List.all_cons, List.all_nil, Bool.and_true, Bool.and_eq_true]
    exact ⟨dle_le (by omega) (EncE.hdle x.a), dle_le (by omega) (EncE.hdle x.b), dle_le (by omega) (EncE.hdle x.c)⟩, fun a b => by
    show eqDs [_, _, _] [_, _, _] = true ↔ _
    cases a; cases b; simp [eqDs, EncE.heq]⟩
instance [EncE α] [EncE β] [EncE γ] [EncE δ] : EncE (T4 α β γ δ) := ⟨max (max (EncE.dep α) (EncE.dep β)) (max (EncE.dep γ) (EncE.dep δ)) + 1, fun x => by
    show [enc x.a, enc x.b, enc x.c, enc x.d].all (dle _) = true
    simp only [List.all_cons, List.all_nil, Bool.and_true, Bool.and_eq_true]
    exact ⟨dle_le (by omega) (EncE.hdle x.a), dle_le (by omega) (EncE.hdle x.b), dle_le (by omega) (EncE.hdle x.c), dle_le (by omega) (EncE.hdle x.d)⟩, fun a b => by
    show eqDs [_, _, _, _] [_, _, _, _] = true ↔ _
    cases a; cases b; simp [eqDs, EncE.heq]⟩
instance [EncE α] [EncE β] [EncE γ] [EncE δ] [EncE ε] : EncE (T5 α β γ δ ε) := ⟨max (max (max (EncE.dep α) (EncE.dep β)) (max (EncE.dep γ) (EncE.dep δ))) (EncE.dep ε) + 1, fun x => by
    show [enc x.a, enc x.b, enc x.c, enc x.d, enc x.e].all (dle _) = true
    simp only [List.all_cons, List.all_nil, Bool.and_true, Bool.and_eq_true]
    exact ⟨dle_le (by omega) (EncE.hdle x.a), dle_le (by omega) (EncE.hdle x.b), dle_le (by omega) (EncE.hdle x.c), dle_le (by omega) (EncE.hdle x.d), dle_le (by omega) (EncE.hdle x.e)⟩, fun a b => by
    show eqDs [_, _, _, _, _] [_, _, _, _, _] = true ↔ _
    cases a; cases b; simp [eqDs, EncE.heq]⟩
instance [EncE α] [EncN α] : EncE (Option α) := ⟨EncE.dep α, fun x => by
    cases x with
    | none => exact dle_le (Nat.zero_le _) (show dle 0 D.non = true from rfl)
    | some a => exact EncE.hdle a, fun a b => by
    have non_l : ∀ d : D, isN d = false → eqD .non d = false := fun d h => by cases d <;> simp_all [isN, eqD]
    have non_r : ∀ d : D, isN d = false → eqD d .non = false := fun d h => by cases d <;> simp_all [isN, eqD]
    cases a with
    | none => cases b with
      | none => exact ⟨fun _ => rfl, fun _ => rfl⟩
      | some b => exact ⟨fun h => Bool.noConfusion ((non_l _ (EncN.nn b)).symm.trans h), fun h => nomatch h⟩
    | some a => cases b with
      | none => exact ⟨fun h => Bool.noConfusion ((non_r _ (EncN.nn a)).symm.trans h), fun h => nomatch h⟩
      | some b => exact (EncE.heq a b).trans ⟨fun h => by rw [h], fun h => by cases h; rfl⟩⟩
instance : EncN Int := ⟨fun _ => rfl⟩
instance : EncN Bool := ⟨fun _ => rfl⟩
instance : EncN Str := ⟨fun _ => rfl⟩
instance : EncN Box := ⟨fun _ => rfl⟩
instance : EncN (List α) := ⟨fun _ => rfl⟩
instance : EncN (Tu α) := ⟨fun _ => rfl⟩
instance : EncN (T1 α) := ⟨fun _ => rfl⟩
instance : EncN (α × β) := ⟨fun _ => rfl⟩
instance : EncN (T3 α β γ) := ⟨fun _ => rfl⟩
instance : EncN (T4 α β γ δ) := ⟨fun _ => rfl⟩
instance : EncN (T5 α β γ δ ε) := ⟨fun _ => rfl⟩
instance : EncN (T6 α β γ δ ε ζ) := ⟨fun _ => rfl⟩
instance [KeyT κ] : EncN (Dc κ α) := ⟨fun _ => rfl⟩
instance : EncS Int := ⟨fun _ => rfl⟩
instance : EncS Bool := ⟨fun _ => rfl⟩
instance : EncS Str := ⟨fun _ => rfl⟩
/-- one type as another one -/
class Co (α β : Type) [Enc α] [Enc β] where
  f : α → β
  h : ∀ a, enc (f a) = enc a
instance (priority := 2000) : Co α α := ⟨id, fun _ => rfl⟩
instance (priority := 1500) : Co α D := ⟨enc, fun _ => rfl⟩
instance [Co α β] : Co (Option α) (Option β) := ⟨fun x => x.map (Co.f (β := β)), fun x => by cases x with | none => rfl | some a => exact Co.h a⟩
instance (priority := 900) [Co α β] : Co α (Option β) := ⟨fun x => some (Co.f x), fun x => Co.h x⟩
instance (priority := 1200) : Co Unit (Option β) := ⟨fun _ => none, fun _ => rfl⟩
theorem co_map [Co α β] (xs : List α) : (xs.map (Co.f (β := β))).map enc = xs.map enc := by
  rw [List.map_map]
  exact List.map_congr_left fun a _ => Co.h a
instance [Co α β] : Co (List α) (List β) := ⟨fun xs => xs.map Co.f, fun xs => by show D.lst _ = D.lst _; rw [co_map]⟩
instance [Co α β] : Co (Tu α) (Tu β) := ⟨fun xs => ⟨xs.l.map Co.f⟩, fun xs => by show D.tup _ = D.tup _; rw [co_map]⟩
instance [Co α γ] [Co β δ] : Co (α × β) (γ × δ) := ⟨fun x => (Co.f x.1, Co.f x.2), fun x => by show D.tup [enc (Co.f x.1), enc (Co.f x.2)] = _; rw [Co.h, Co.h]; rfl⟩
instance {α' β' γ' : Type} [Enc α'] [Enc β'] [Enc γ'] [Co α α'] [Co β β'] [Co γ γ'] : Co (T3 α β γ) (T3 α' β' γ') := ⟨fun x => ⟨Co.f x.a, Co.f x.b, Co.f x.c⟩, fun x => by show D.tup [enc (Co.f x.a), enc (Co.f x.b), enc (Co.f x.c)] = _; rw [Co.h, Co.h, Co.h]; rfl⟩
instance [Co α γ] : Co (T1 α) (Tu γ) := ⟨fun x => ⟨[Co.f x.a]⟩, fun x => by show D.tup [enc (Co.f x.a)] = _; rw [Co.h]; rfl⟩
instance [Co α γ] [Co β γ] : Co (α × β) (Tu γ) := ⟨fun x => ⟨[Co.f x.1, Co.f x.2]⟩, fun x => by show D.tup [enc (Co.f x.1), enc (Co.f x.2)] = _; rw [Co.h, Co.h]; rfl⟩
instance [Co α δ] [Co β δ] [Co γ δ] : Co (T3 α β γ) (Tu δ) := ⟨fun x => ⟨[Co.f x.a, Co.f x.b, Co.f x.c]⟩, fun x => by show D.tup [enc (Co.f x.a), enc (Co.f x.b), enc (Co.f x.c)] = _; rw [Co.h, Co.h, Co.h]; rfl⟩
end
end Ty

/-! What a def computes, over typed values: judgements and rules. -/
namespace Ty
open PySem Dx Fo
open Enc (enc)
/-- r is what t tells -/
def Rr {α β : Type} (r : R β) (t : R α) (f : α → β) : Prop := match t with
  | .ok a => r = .ok (f a)
  | .exc c => r = .exc c
  | .bad => True
section
variable {α β γ δ : Type}
theorem rr_p {r : R β} {a : α} {f : α → β} (h : r = .ok (f a)) : Rr r (.ok a) f := h
theorem rr_self {r : R β} : Rr r r id := by cases r <;> first | rfl | trivial
theorem rr_D {r : R D} : Rr r r enc := by cases r <;> first | rfl | trivial
theorem rr_bad {r : R β} {f : α → β} : Rr r (.bad) f := trivial
theorem rr_bind {r : R β} {t : R α} {f : α → β} {k : β → R δ} {kt : α → R γ} {g : γ → δ} (h : Rr r t f) (hk : ∀ a, Rr (k (f a)) (kt a) g) : Rr (r >>= k) (t >>= kt) g := by
  cases t with
  | ok a => rw [show r = .ok (f a) from h]; exact hk a
  | exc c => rw [show r = .exc c from h]; rfl
  | bad => trivial
theorem ce_p {r : R β} {b : β} {k : β → R δ} {t : R γ} {g : γ → δ} (h : r = .ok b) (hk : Rr (k b) t g) : Rr (r >>= k) t g := by rw [h]; exact hk
theorem tp_bind {r : R β} {b : β} {k : β → R δ} {d : δ} (h : r = .ok b) (hk : k b = .ok d) : (r >>= k) = .ok d := by rw [h]; exact hk
theorem rr_ok {r : R β} {t : R α} {f : α → β} {a : α} (h : Rr r t f) (e : t = .ok a) : r = .ok (f a) := by subst e; exact h
theorem rr_exc {r : R β} {t : R α} {f : α → β} {c : Str} (h : Rr r t f) (e : t = .exc c) : r = .exc c := by subst e; exact h
theorem rr_map {r : R β} {t : R α} {f : α → β} {f' : γ → β} {g : α → γ} (h : Rr r t f) (e : ∀ a, f' (g a) = f a) : Rr r (t >>= fun a => .ok (g a)) f' := by
  cases t with
  | ok a => exact (show r = .ok (f a) from h).trans (congrArg R.ok (e a).symm)
  | exc c => exact h
  | bad => trivial
theorem rr_co [Enc α] [Enc γ] [Co α γ] {r : R D} {t : R α} (h : Rr r t enc) : Rr r (t >>= fun a => .ok (Co.f (β := γ) a)) enc := rr_map h Co.h
theorem tp_co [Enc α] [Enc γ] [Co α γ] {r : R D} {a : α} (h : r = .ok (enc a)) : r = .ok (enc (Co.f (β := γ) a)) := by rw [Co.h]; exact h
theorem tp_non {e : En} [Enc γ] [Co Unit γ] : eC .non e = .ok (enc (Co.f (β := γ) ())) := by rw [Co.h]; rfl
end
abbrev Pat := List (Option Slot)
def EnvIs (p : Pat) (e : En) : Prop := e.length = p.length ∧ ∀ (i : Nat) (s : Slot), p[i]? = some (some s) → e[i]? = some s
abbrev sv {α : Type} [Enc α] (a : α) : Option Slot := some (.d (enc a))
abbrev so {α : Type} [Enc α] (xs : List α) : Option Slot := some (.ol (xs.map enc))
def dcK {κ α : Type} [KeyT κ] [Enc α] (d : Dc κ α) : List (L2.Key × D) := d.l.map fun kv => (KeyT.key kv.1, enc kv.2)
abbrev sk {κ α : Type} [KeyT κ] [Enc α] (d : Dc κ α) : Option Slot := some (.od (dcK d))
section
variable {α β γ δ κ : Type} [Enc α] [Enc β] [Enc γ] [Enc δ] [KeyT κ] {p p' : Pat} {e : En} {i : Nat}
theorem EnvIs.set (H : EnvIs p e) {s : Slot} (i : Nat) : EnvIs (p.set i (some s)) (e.set i s) := by
  refine ⟨by rw [List.length_set, List.length_set]; exact H.1, fun j t h => ?_⟩
  by_cases hi : i = j
  · subst hi
    by_cases hl : i < p.length
    · rw [List.getElem?_set_self hl] at h; cases h
      exact List.getElem?_set_self (by rw [H.1]; exact hl)
    · rw [List.getElem?_eq_none (by rw [List.length_set]; omega)] at h; cases h
  · rw [List.getElem?_set_ne hi] at h ⊢
    exact H.2 j t h
theorem EnvIs.kill (H : EnvIs p e) {s : Slot} (i : Nat) : EnvIs (p.set i none) (e.set i s) := by
  refine ⟨by rw [List.length_set, List.length_set]; exact H.1, fun j t h => ?_⟩
  by_cases hi : i = j
  · subst hi
    by_cases hl : i < p.length
    · rw [List.getElem?_set_self hl] at h; cases h
    · rw [List.getElem?_eq_none (by rw [List.length_set]; omega)] at h; cases h
  · rw [List.getElem?_set_ne hi] at h ⊢
    exact H.2 j t h
def killP (is : List Nat) (p : Pat) : Pat := is.foldl (fun q i => q.set i none) p
theorem EnvIs.kills (H : EnvIs p e) (is : List Nat) : EnvIs (killP is p) (killS is e) := by
  induction is generalizing p e with
  | nil => exact H
  | cons i is ih => exact ih (H.kill i)
def wipeP (p : Pat) (is : List Nat) : Pat := is.foldr (fun i q => q.set i none) p
theorem EnvIs.wipe (H : EnvIs p e) (is : List Nat) : EnvIs (wipeP p is) (wipeE e is) := by
  induction is with
  | nil => exact H
  | cons i is ih => exact ih.kill i
/-- some entries are forgotten -/
def maskP : List Bool → Pat → Pat
  | b :: bs, s :: p => (if b then s else none) :: maskP bs p
  | [], p => p
  | _, [] => []
theorem EnvIs.mask : ∀ (bs : List Bool) {p : Pat} {e : En}, EnvIs p e → EnvIs (maskP bs p) e := by
  intro bs p e H
  have hl : ∀ (bs : List Bool) (p : Pat), (maskP bs p).length = p.length := by
    intro bs
    induction bs with
    | nil => intro p; rfl
    | cons b bs ih => intro p; cases p with
      | nil => rfl
      | cons s p => simp [maskP, ih]
  have hg : ∀ (bs : List Bool) (p : Pat) (i : Nat) (s : Slot), (maskP bs p)[i]? = some (some s) → p[i]? = some (some s) := by
    intro bs
    induction bs with
    | nil => intro p i s h; exact h
    | cons b bs ih => intro p i s h; cases p with
      | nil => simp [maskP] at h
      | cons t p =>
        cases i with
        | zero => cases b with
          | true => simpa [maskP] using h
          | false => simp [maskP] at h
        | succ i => simp [maskP] at h ⊢; exact ih p i s h
  exact ⟨by rw [hl]; exact H.1, fun i s h => H.2 i s (hg bs p i s h)⟩
theorem EnvIs.as (H : EnvIs p e) (h : p = p') : EnvIs p' e := h ▸ H
theorem EnvIs.of (ds : List D) (m : Nat) (h : (ds.map fun d => some (Slot.d d)) ++ List.replicate m none = p) : EnvIs p (ds.map Slot.d ++ List.replicate m .u) := by
  subst h
  refine ⟨by simp, fun i s h => ?_⟩
  rw [List.getElem?_append] at h ⊢
  rw [List.length_map] at h ⊢
  split at h
  · rename_i hl
    rw [if_pos hl]
    rw [List.getElem?_map] at h ⊢
    cases q : ds[i]? with
    | none => rw [q] at h; cases h
    | some d => rw [q] at h; cases h; rfl
  · rw [List.getElem?_replicate] at h
    split at h <;> cases h
theorem tp_var {a : α} (H : EnvIs p e) (h : p[i]? = some (sv a)) : getD' i e = .ok (enc a) := by
  unfold getD'; rw [H.2 i _ h]
theorem tp_varV {a : α} (H : EnvIs p e) (h : p[i]? = some (sv a)) : getV i e = .ok (enc a) := by
  unfold getV; rw [H.2 i _ h]
theorem tp_varO {xs : List α} (H : EnvIs p e) (h : p[i]? = some (so xs)) : getV i e = .ok (enc xs) := by
  unfold getV; rw [H.2 i _ h]; rfl
theorem tp_varK {d : Dc κ α} (H : EnvIs p e) (h : p[i]? = some (sk d)) : getV i e = .ok (enc d) := by
  unfold getV; rw [H.2 i _ h]; rfl
theorem tp_c {a : α} {d : D} (h : d = enc a) : eC d e = .ok (enc a) := by rw [h]; rfl
end

/-! ### words of expressions -/
section
variable {α β γ δ κ : Type} {e : En} {A B C : En → R D} {As : En → R (List D)} {t u : En → R Bool} {f : D → D → R D} {g : γ → D} {T : R γ}
theorem w_bin (h : Rr (A e >>= fun x => B e >>= fun y => f x y) T g) : Rr (eBin f A B e) T g := h
theorem w_un {β δ : Type} {A : En → R β} {f : β → R δ} {g : γ → δ} (h : Rr (A e >>= f) T g) : Rr (eUn f A e) T g := h
theorem w_ofF {As : En → R (List D)} (h : Rr (As e >>= fun xs => .ok (.lst xs)) T g) : Rr (eOfF As e) T g := h
theorem w_slice {l h' : En → R (Option Int)} (h : Rr (A e >>= fun x => l e >>= fun l => h' e >>= fun h => sliceR x l h) T g) : Rr (eSlice A l h' e) T g := h
theorem w_meth {ty : D → R D} {f : D → List D → R D} (h : Rr (A e >>= fun x => ty x >>= fun d => As e >>= f d) T g) : Rr (eMeth ty A As f e) T g := by
  have e1 : eMeth ty A As f e = (A e >>= fun x => ty x >>= fun d => As e >>= f d) := by
    show (A e >>= ty >>= fun d => As e >>= f d) = _
    cases A e <;> rfl
  rw [e1]; exact h
theorem w_get (h : Rr (A e >>= fun x => dictyR x >>= fun d => B e >>= fun y => getR d y) T g) : Rr (eGet A B e) T g := by
  have e1 : eGet A B e = (A e >>= fun x => dictyR x >>= fun d => B e >>= fun y => getR d y) := by
    show (A e >>= dictyR >>= fun d => B e >>= fun y => getR d y) = _
    cases A e <;> rfl
  rw [e1]; exact h
theorem w_get2 (h : Rr (A e >>= fun x => dictyR x >>= fun d => B e >>= fun y => C e >>= fun z => get2R d y z) T g) : Rr (eGet2 A B C e) T g := by
  have e1 : eGet2 A B C e = (A e >>= fun x => dictyR x >>= fun d => B e >>= fun y => C e >>= fun z => get2R d y z) := by
    show (A e >>= dictyR >>= fun d => B e >>= fun y => C e >>= fun z => get2R d y z) = _
    cases A e <;> rfl
  rw [e1]; exact h
theorem w_chain {f' : D → D → R D} (h : Rr (A e >>= fun x => B e >>= fun y => f x y >>= boolR >>= fun k => if k = true then C e >>= fun w => f' y w else .ok (.bl false)) T g) : Rr (eChain f f' A B C e) T g := h
theorem w_tbin {g : γ → Bool} (h : Rr (A e >>= fun x => B e >>= fun y => f x y >>= boolR) T g) : Rr (tBin f A B e) T g := h
theorem w_tchain {f' : D → D → R D} {g : γ → Bool} (h : Rr (A e >>= fun x => B e >>= fun y => chainR f f' x y (C e) >>= boolR) T g) : Rr (tChain f f' A B C e) T g := h
theorem w_tval {g : γ → Bool} (h : Rr (A e >>= boolR) T g) : Rr (tVal A e) T g := h
theorem rr_bool {r : R D} {t : R Bool} (h : Rr r t enc) : Rr (r >>= boolR) t id := by
  cases t with
  | ok a => rw [show r = .ok (.bl a) from h]; rfl
  | exc c => rw [show r = .exc c from h]; rfl
  | bad => trivial
-- arguments
theorem a_nil : aNil e = .ok [] := rfl
theorem a_cons [Enc α] {a : α} {ds : List D} (h : A e = .ok (enc a)) (hs : As e = .ok ds) : aCons A As e = .ok (enc a :: ds) := by show (A e >>= fun x => As e >>= fun xs => R.ok (x :: xs)) = _; rw [h, hs]; rfl
theorem am_nil {K : List D → R δ} {T : R γ} {g : γ → δ} (h : Rr (K []) T g) : Rr (aNil e >>= K) T g := h
theorem am_p [Enc α] {a : α} {K : List D → R δ} {T : R γ} {g : γ → δ} (h : A e = .ok (enc a)) (hs : Rr (As e >>= fun ds => K (enc a :: ds)) T g) : Rr (aCons A As e >>= K) T g := by
  have e1 : (aCons A As e >>= K) = (As e >>= fun ds => K (enc a :: ds)) := by
    show ((A e >>= fun x => As e >>= fun xs => R.ok (x :: xs)) >>= K) = _
    rw [h]; show ((As e >>= fun xs => R.ok (enc a :: xs)) >>= K) = _
    cases As e <;> rfl
  rw [e1]; exact hs
theorem am_m [Enc α] {ta : R α} {K : List D → R δ} {T : α → R γ} {g : γ → δ} (h : Rr (A e) ta enc) (hs : ∀ a, Rr (As e >>= fun ds => K (enc a :: ds)) (T a) g) : Rr (aCons A As e >>= K) (ta >>= T) g := by
  have e1 : (aCons A As e >>= K) = (A e >>= fun x => As e >>= fun ds => K (x :: ds)) := by
    show ((A e >>= fun x => As e >>= fun xs => R.ok (x :: xs)) >>= K) = _
    cases A e with
    | ok a => show ((As e >>= fun xs => R.ok (a :: xs)) >>= K) = _; cases As e <;> rfl
    | exc c => rfl
    | bad => rfl
  rw [e1]
  exact rr_bind h hs
theorem ce_m [Enc α] {r : R D} {k : D → R δ} {ta : R α} {kt : α → R γ} {g : γ → δ} (h : Rr r ta enc) (hk : ∀ a, Rr (k (enc a)) (kt a) g) : Rr (r >>= k) (ta >>= kt) g := rr_bind h hk
-- pure ones
theorem tp_bin [Enc α] [Enc β] {a : α} {b : β} {d : D} (ha : A e = .ok (enc a)) (hb : B e = .ok (enc b)) (h : f (enc a) (enc b) = .ok d) : eBin f A B e = .ok d := by
  show (A e >>= fun x => B e >>= fun y => f x y) = _; rw [ha, hb]; exact h
theorem tp_un {β δ : Type} {A : En → R β} {f : β → R δ} {b : β} {d : δ} (ha : A e = .ok b) (h : f b = .ok d) : eUn f A e = .ok d := by
  show (A e >>= f) = _; rw [ha]; exact h
theorem tp_ofF [Enc α] {As : En → R (List D)} {xs : List α} (h : As e = .ok (xs.map enc)) : eOfF As e = .ok (enc xs) := by
  show (As e >>= fun xs => R.ok (D.lst xs)) = _; rw [h]; rfl
theorem tm_ofF [Enc α] {As : En → R (List D)} {t : R (List α)} (h : Rr (As e) t (List.map enc)) : Rr (eOfF As e) t enc := by
  cases t with
  | ok a => exact tp_ofF h
  | exc c => show (As e >>= fun xs => R.ok (D.lst xs)) = _; rw [show As e = .exc c from h]; rfl
  | bad => trivial
theorem tp_slice {l h' : En → R (Option Int)} {x d : D} {i j : Option Int} (ha : A e = .ok x) (hl : l e = .ok i) (hh : h' e = .ok j) (h : sliceR x i j = .ok d) : eSlice A l h' e = .ok d := by
  show (A e >>= fun x => l e >>= fun l => h' e >>= fun h => sliceR x l h) = _; rw [ha, hl, hh]; exact h
theorem o_none : oNone e = .ok none := rfl
theorem o_some {i : Int} (h : A e = .ok (enc i)) : eUn optR A e = .ok (some i) := by show (A e >>= optR) = _; rw [h]; rfl
theorem o_someM {ti : R Int} (h : Rr (A e) ti enc) : Rr (eUn optR A e) ti some := by
  cases ti with
  | ok a => show (A e >>= optR) = _; rw [show A e = .ok (enc a) from h]; rfl
  | exc c => show (A e >>= optR) = _; rw [show A e = .exc c from h]; rfl
  | bad => trivial
theorem ceo {r : R (Option Int)} {k : Option Int → R δ} {ti : R Int} {kt : Int → R γ} {g : γ → δ} (h : Rr r ti some) (hk : ∀ i, Rr (k (some i)) (kt i) g) : Rr (r >>= k) (ti >>= kt) g := rr_bind h hk
theorem tt_bin [Enc α] [Enc β] {a : α} {b : β} {c : Bool} (ha : A e = .ok (enc a)) (hb : B e = .ok (enc b)) (h : f (enc a) (enc b) = .ok (enc c)) : tBin f A B e = .ok c := by
  show (A e >>= fun x => B e >>= fun y => f x y >>= boolR) = _; rw [ha, hb]; show (f (enc a) (enc b) >>= boolR) = _; rw [h]; rfl
theorem tt_val {c : Bool} (ha : A e = .ok (enc c)) : tVal A e = .ok c := by show (A e >>= boolR) = _; rw [ha]; rfl
theorem tm_val {t : R Bool} (ha : Rr (A e) t enc) : Rr (tVal A e) t id := rr_bool ha
theorem tt_not {c : Bool} (h : t e = .ok c) : tNot t e = .ok (!c) := by show (t e >>= fun k => R.ok (!k)) = _; rw [h]; rfl
theorem tm_not {c : R Bool} (h : Rr (t e) c id) : Rr (tNot t e) (c >>= fun k => .ok (!k)) id := rr_bind h fun a => rfl
theorem tt_and {a b : Bool} (h : t e = .ok a) (h' : u e = .ok b) : tAnd t u e = .ok (a && b) := by show (t e >>= fun k => if k = true then u e else R.ok false) = _; rw [h]; cases a; rfl; exact h'
theorem tt_or {a b : Bool} (h : t e = .ok a) (h' : u e = .ok b) : tOr t u e = .ok (a || b) := by show (t e >>= fun k => if k = true then R.ok true else u e) = _; rw [h]; cases a; exact h'; rfl
theorem tm_andP {a : Bool} {b : R Bool} (h : t e = .ok a) (h' : Rr (u e) b id) : Rr (tAnd t u e) (if a = true then b else .ok false) id := by
  show Rr (t e >>= fun k => if k = true then u e else R.ok false) _ _; rw [h]; cases a; rfl; exact h'
theorem tm_orP {a : Bool} {b : R Bool} (h : t e = .ok a) (h' : Rr (u e) b id) : Rr (tOr t u e) (if a = true then .ok true else b) id := by
  show Rr (t e >>= fun k => if k = true then R.ok true else u e) _ _; rw [h]; cases a; exact h'; rfl
theorem tm_andM {a b : R Bool} (h : Rr (t e) a id) (h' : Rr (u e) b id) : Rr (tAnd t u e) (a >>= fun a => if a = true then b else .ok false) id := rr_bind h fun a => by cases a; rfl; exact h'
theorem tm_orM {a b : R Bool} (h : Rr (t e) a id) (h' : Rr (u e) b id) : Rr (tOr t u e) (a >>= fun a => if a = true then .ok true else b) id := rr_bind h fun a => by cases a; exact h'; rfl
theorem te_and {a b : Bool} (h : A e = .ok (enc a)) (h' : B e = .ok (enc b)) : eAnd A B e = .ok (enc (a && b)) := by show (A e >>= fun x => boolR x >>= fun k => if k = true then B e else R.ok (D.bl false)) = _; rw [h]; cases a; rfl; exact h'
theorem te_or {a b : Bool} (h : A e = .ok (enc a)) (h' : B e = .ok (enc b)) : eOr A B e = .ok (enc (a || b)) := by show (A e >>= fun x => boolR x >>= fun k => if k = true then R.ok (D.bl true) else B e) = _; rw [h]; cases a; exact h'; rfl
theorem tem_andP {a : Bool} {b : R Bool} (h : A e = .ok (enc a)) (h' : Rr (B e) b enc) : Rr (eAnd A B e) (if a = true then b else .ok false) enc := by
  show Rr (A e >>= fun x => boolR x >>= fun k => if k = true then B e else R.ok (D.bl false)) _ _; rw [h]; cases a; rfl; exact h'
theorem tem_orP {a : Bool} {b : R Bool} (h : A e = .ok (enc a)) (h' : Rr (B e) b enc) : Rr (eOr A B e) (if a = true then .ok true else b) enc := by
  show Rr (A e >>= fun x => boolR x >>= fun k => if k = true then R.ok (D.bl true) else B e) _ _; rw [h]; cases a; exact h'; rfl
theorem tem_andM {a b : R Bool} (h : Rr (A e) a enc) (h' : Rr (B e) b enc) : Rr (eAnd A B e) (a >>= fun a => if a = true then b else .ok false) enc := rr_bind h fun a => by cases a; rfl; exact h'
theorem tem_orM {a b : R Bool} (h : Rr (A e) a enc) (h' : Rr (B e) b enc) : Rr (eOr A B e) (a >>= fun a => if a = true then .ok true else b) enc := rr_bind h fun a => by cases a; exact h'; rfl
theorem te_if [Enc α] {c : Bool} {a b : α} (h : t e = .ok c) (ha : A e = .ok (enc a)) (hb : B e = .ok (enc b)) : eIf t A B e = .ok (enc (if c = true then a else b)) := by
  show (t e >>= fun k => if k = true then A e else B e) = _; rw [h]; cases c; exact hb; exact ha
theorem tem_if [Enc α] {c : Bool} {a b : R α} (h : t e = .ok c) (ha : Rr (A e) a enc) (hb : Rr (B e) b enc) : Rr (eIf t A B e) (if c = true then a else b) enc := by
  show Rr (t e >>= fun k => if k = true then A e else B e) _ _; rw [h]; cases c; exact hb; exact ha
theorem tem_ifM [Enc α] {c : R Bool} {a b : R α} (h : Rr (t e) c id) (ha : Rr (A e) a enc) (hb : Rr (B e) b enc) : Rr (eIf t A B e) (c >>= fun c => if c = true then a else b) enc := rr_bind h fun c => by
  cases c; exact hb; exact ha
end
end Ty

/-! Operators over typed values. -/
namespace Ty
open PySem Dx Fo
open Enc (enc)
section
variable {α β γ δ ε ζ κ : Type} [Enc α] [Enc β] [Enc γ] [Enc δ] [Enc ε] [Enc ζ] [KeyT κ]
-- numbers
theorem op_add (a b : Int) : addR (enc a) (enc b) = .ok (enc (a + b)) := (rfl)
theorem op_sub (a b : Int) : subR (enc a) (enc b) = .ok (enc (a - b)) := (rfl)
theorem op_neg (a : Int) : negR (enc a) = .ok (enc (-a)) := (rfl)
theorem op_lt (a b : Int) : ltR (enc a) (enc b) = .ok (enc (decide (a < b))) := (rfl)
theorem op_le (a b : Int) : leR (enc a) (enc b) = .ok (enc (decide (a ≤ b))) := (rfl)
theorem op_gt (a b : Int) : gtR (enc a) (enc b) = .ok (enc (decide (b < a))) := (rfl)
theorem op_ge (a b : Int) : geR (enc a) (enc b) = .ok (enc (decide (b ≤ a))) := (rfl)
def ltS (a b : Str) : Bool := decide (a.cps.toList < b.cps.toList)
theorem op_ltS (a b : Str) : ltR (enc a) (enc b) = .ok (enc (ltS a b)) := (rfl)
theorem op_mulL (a b : Int) (h : -(2 ^ 64) < a ∧ a < 2 ^ 64) : mulR (enc a) (enc b) = .ok (enc (a * b)) := if_pos (Or.inl h)
theorem op_mulR (a b : Int) (h : -(2 ^ 64) < b ∧ b < 2 ^ 64) : mulR (enc a) (enc b) = .ok (enc (a * b)) := if_pos (Or.inr h)
def mulG (a b : Int) : R Int := if (-(2 ^ 64) < a ∧ a < 2 ^ 64) ∨ (-(2 ^ 64) < b ∧ b < 2 ^ 64) then .ok (a * b) else .bad
theorem ro_mul (a b : Int) : Rr (mulR (enc a) (enc b)) (mulG a b) enc := by
  unfold mulG; split
  · rename_i h; exact if_pos h
  · trivial
theorem op_mod (a k : Int) (h : 0 < k) : modR (enc a) (enc k) = .ok (enc (a % k)) := if_pos h
def modG (a k : Int) : R Int := if 0 < k then .ok (a % k) else .bad
theorem ro_mod (a k : Int) : Rr (modR (enc a) (enc k)) (modG a k) enc := by
  unfold modG; split
  · rename_i h; exact if_pos h
  · trivial
theorem op_div (a k : Int) (h : 0 < k ∧ k < 1073741824) : divR (enc a) (enc k) = .ok (enc (a / k)) := if_pos h
def divG (a k : Int) : R Int := if 0 < k ∧ k < 1073741824 then .ok (a / k) else .bad
theorem ro_div (a k : Int) : Rr (divR (enc a) (enc k)) (divG a k) enc := by
  unfold divG; split
  · rename_i h; exact if_pos h
  · trivial
def absI (i : Int) : Int := if i < 0 then -i else i
def maxI (i j : Int) : Int := if j > i then j else i
def minI (i j : Int) : Int := if j < i then j else i
theorem op_abs (a : Int) : absR [enc a] = .ok (enc (absI a)) := (rfl)
theorem op_max (a b : Int) : max2R [enc a, enc b] = .ok (enc (maxI a b)) := (rfl)
theorem op_min (a b : Int) : min2R [enc a, enc b] = .ok (enc (minI a b)) := (rfl)
theorem op_int (a : Int) : int1R [enc a] = .ok (enc a) := (rfl)
def b2i (b : Bool) : Int := if b then 1 else 0
theorem op_intB (a : Bool) : int1R [enc a] = .ok (enc (b2i a)) := (rfl)
-- truths
theorem op_not (a : Bool) : notR (enc a) = .ok (enc (!a)) := (rfl)
theorem eqR_of {x y : D} (hx : dle 64 x = true) (hy : dle 64 y = true) (b : Bool) (h : eqD x y = true ↔ b = true) : eqR x y = .ok (.bl b) := by
  unfold eqR
  have e : eqD x y = b := by
    cases b with
    | true => exact h.mpr rfl
    | false => cases q : eqD x y with
      | false => rfl
      | true => exact absurd (h.mp q) (by simp)
  split
  · rename_i ns; simp [dle] at hx
  · rw [hx, hy, e]; rfl
theorem neR_of {x y : D} (hx : dle 64 x = true) (hy : dle 64 y = true) (b : Bool) (h : eqD x y = true ↔ b = true) : neR x y = .ok (.bl (!b)) := by
  unfold neR
  have e : eqD x y = b := by
    cases b with
    | true => exact h.mpr rfl
    | false => cases q : eqD x y with
      | false => rfl
      | true => exact absurd (h.mp q) (by simp)
  split
  · rename_i ns; simp [dle] at hx
  · rw [hx, hy, e]; rfl
theorem op_eq [EncE α] [DecidableEq α] (h : EncE.dep α ≤ 64) (a b : α) : eqR (enc a) (enc b) = .ok (enc (decide (a = b))) := eqR_of (dle_le h (EncE.hdle a)) (dle_le h (EncE.hdle b)) _ ((EncE.heq a b).trans decide_eq_true_iff.symm)
theorem op_ne [EncE α] [DecidableEq α] (h : EncE.dep α ≤ 64) (a b : α) : neR (enc a) (enc b) = .ok (enc (!decide (a = b))) := neR_of (dle_le h (EncE.hdle a)) (dle_le h (EncE.hdle b)) _ ((EncE.heq a b).trans decide_eq_true_iff.symm)
theorem op_isNon [EncN α] (a : Option α) : isR (enc a) (.non) = .ok (enc a.isNone) := by
  cases a with
  | none => rfl
  | some a => show (if isN .non = true then R.ok (D.bl (isN (enc a))) else .bad) = _; rw [EncN.nn]; rfl
theorem op_isNot [EncN α] (a : Option α) : isNotR (enc a) (.non) = .ok (enc a.isSome) := by
  cases a with
  | none => rfl
  | some a => show (if isN .non = true then R.ok (D.bl (!isN (enc a))) else .bad) = _; rw [EncN.nn]; rfl
theorem op_isD (a : D) : isR (enc a) .non = .ok (enc (isN a)) := (rfl)
theorem op_isNotD (a : D) : isNotR (enc a) .non = .ok (enc (!isN a)) := (rfl)
/-- what is in an option -/
def unO (x : Option α) : R α := match x with | some a => .ok a | none => .bad
theorem rr_unO {r : R D} {x : Option α} (h : r = .ok (enc x)) : Rr r (unO x) enc := by cases x with | none => trivial | some a => exact h
theorem rr_unOM {r : R D} {t : R (Option α)} (h : Rr r t enc) : Rr r (t >>= unO) enc := by
  cases t with
  | ok x => exact rr_unO h
  | exc c => exact h
  | bad => trivial
-- in
theorem any_iff [EncE α] (a : α) (xs : List α) : ((xs.map enc).any fun z => eqD z (enc a)) = true ↔ a ∈ xs := by
  rw [List.any_map, List.any_eq_true]
  constructor
  · rintro ⟨x, hx, h⟩
    rw [(EncE.heq x a).mp h] at hx
    exact hx
  · exact fun h => ⟨a, h, (EncE.heq a a).mpr rfl⟩
theorem inB_list [EncE α] (h : EncE.dep α ≤ 63) (a : α) (xs : List α) [Decidable (a ∈ xs)] : inB (enc a) (enc xs) = .ok (decide (a ∈ xs)) := by
  have e : inB (enc a) (enc xs) = if dle 64 (enc a) && dle 64 (enc xs) then .ok ((xs.map enc).any fun z => eqD z (enc a)) else .bad := by
    show inB _ (.lst (xs.map enc)) = _
    unfold inB; simp only; rfl
  rw [e, dle_le (Nat.le_trans h (by decide)) (EncE.hdle a), show dle 64 (enc xs) = true from all_dle h xs]
  show R.ok _ = _
  congr 1
  by_cases q : a ∈ xs
  · rw [decide_eq_true q]; exact (any_iff a xs).mpr q
  · rw [decide_eq_false q]
    cases z : (xs.map enc).any fun z => eqD z (enc a) with
    | false => rfl
    | true => exact absurd ((any_iff a xs).mp z) q
theorem inB_tu [EncE α] [EncS α] (a : α) (xs : Tu α) [Decidable (a ∈ xs.l)] : inB (enc a) (enc xs) = .ok (decide (a ∈ xs.l)) := by
  have e : inB (enc a) (enc xs) = if scal0 (enc a) && (xs.l.map enc).all scal0 then .ok ((xs.l.map enc).any fun z => eqD z (enc a)) else .bad := by
    show inB _ (.tup (xs.l.map enc)) = _
    unfold inB; simp only
  have hs : (xs.l.map enc).all scal0 = true := by rw [List.all_map, List.all_eq_true]; exact fun x _ => EncS.sc x
  rw [e, EncS.sc, hs]
  show R.ok _ = _
  congr 1
  by_cases q : a ∈ xs.l
  · rw [decide_eq_true q]; exact (any_iff a xs.l).mpr q
  · rw [decide_eq_false q]
    cases z : (xs.l.map enc).any fun z => eqD z (enc a) with
    | false => rfl
    | true => exact absurd ((any_iff a xs.l).mp z) q
def hasC (c : Nat) (z : Str) : Bool := decide (c ∈ z.cps.toList)
theorem inB_sign {s : Str} {c : Nat} (e : s.cps.toList = [c]) (z : Str) : inB (enc s) (enc z) = .ok (hasC c z) := by
  show inB (.str s) (.str z) = _
  unfold inB; simp only; rw [e]; rfl
def signIn (s z : Str) : R Bool := match s.cps.toList with
  | [c] => .ok (hasC c z)
  | _ => .bad
theorem ro_signIn (s z : Str) : Rr (inB (enc s) (enc z)) (signIn s z) id := by
  show Rr (inB (.str s) (.str z)) _ _
  unfold inB signIn; simp only
  generalize s.cps.toList = l
  match l with
  | [] => trivial
  | [c] => rfl
  | _ :: _ :: _ => trivial
def hasK [DecidableEq κ] (d : Dc κ α) (k : κ) : Bool := d.l.any fun kv => decide (kv.1 = k)
def getK [DecidableEq κ] (d : Dc κ α) (k : κ) : Option α := (d.l.find? fun kv => decide (kv.1 = k)).map (·.2)
theorem keyOf_enc (k : κ) [Enc κ] (h : keyOf (enc k) = some (KeyT.key k)) : keyOf (enc k) = some (KeyT.key k) := h
theorem keyOf_I (k : Int) : keyOf (enc k) = some (KeyT.key k) := rfl
theorem keyOf_S (k : Str) : keyOf (enc k) = some (KeyT.key k) := rfl
theorem valD_enc [DecidableEq κ] (d : Dc κ α) (k : κ) : valD (dcK d) (KeyT.key k) = (getK d k).map enc := by
  unfold valD dcK getK
  rw [List.find?_map]
  have : (fun kv : L2.Key × D => decide (kv.1 = KeyT.key k)) ∘ (fun kv : κ × α => (KeyT.key kv.1, enc kv.2)) = fun kv => decide (kv.1 = k) := by
    funext kv
    simp only [Function.comp]
    by_cases h : kv.1 = k
    · obtain ⟨a, b⟩ := kv; cases h; simp
    · have : ¬ (KeyT.key kv.1 = (KeyT.key k : L2.Key)) := fun z => h (KeyT.inj _ _ z)
      simp [h, this]
  rw [this]
  cases (d.l.find? fun kv => decide (kv.1 = k)) <;> rfl
theorem hasK_get [DecidableEq κ] (d : Dc κ α) (k : κ) : hasK d k = (getK d k).isSome := by
  unfold hasK getK
  induction d.l with
  | nil => rfl
  | cons kv t ih =>
    rw [List.any_cons, List.find?_cons]
    by_cases h : kv.1 = k
    · simp [h]
    · simp [h]; simpa using ih
class KeyE (κ : Type) [KeyT κ] [Enc κ] : Prop where
  h : ∀ k : κ, keyOf (enc k) = some (KeyT.key k)
instance : KeyE Int := ⟨fun _ => rfl⟩
instance : KeyE Str := ⟨fun _ => rfl⟩
variable [Enc κ] [KeyE κ] [DecidableEq κ]
theorem any_key (d : Dc κ α) (k : κ) : ((dcK d).any fun kv => decide (kv.1 = KeyT.key k)) = hasK d k := by
  unfold dcK hasK
  rw [List.any_map]
  congr 1
  funext kv
  simp only [Function.comp]
  by_cases h : kv.1 = k
  · obtain ⟨a, b⟩ := kv; cases h; simp
  · have : ¬ (KeyT.key kv.1 = (KeyT.key k : L2.Key)) := fun z => h (KeyT.inj _ _ z)
    simp [h, this]
theorem inB_dic (d : Dc κ α) (k : κ) : inB (enc k) (enc d) = .ok (hasK d k) := by
  show inB (enc k) (.dic (dcK d)) = _
  unfold inB; simp only
  rw [KeyE.h]
  simp only
  rw [valD_enc, hasK_get]
  cases getK d k <;> rfl
theorem op_in {x y : D} {b : Bool} (h : inB x y = .ok b) : inR x y = .ok (enc b) := by unfold inR; rw [h]; rfl
theorem op_notIn {x y : D} {b : Bool} (h : inB x y = .ok b) : notInR x y = .ok (enc (!b)) := by unfold notInR; rw [h]; rfl
theorem ro_in {x y : D} {t : R Bool} (h : Rr (inB x y) t id) : Rr (inR x y) t enc := by
  unfold inR
  cases t with
  | ok a => rw [show inB x y = .ok a from h]; rfl
  | exc c => rw [show inB x y = .exc c from h]; rfl
  | bad => trivial
theorem ro_notIn {x y : D} {t : R Bool} (h : Rr (inB x y) t id) : Rr (notInR x y) (t >>= fun k => .ok (!k)) enc := by
  unfold notInR
  cases t with
  | ok a => rw [show inB x y = .ok a from h]; rfl
  | exc c => rw [show inB x y = .exc c from h]; rfl
  | bad => trivial
-- lists, texts
def catL (xs ys : List α) : R (List α) := if xs.length + ys.length ≤ sizeLine then .ok (xs ++ ys) else .bad
theorem ro_catL (xs ys : List α) : Rr (addR (enc xs) (enc ys)) (catL xs ys) enc := by
  unfold catL; split
  · rename_i h
    show addR (.lst _) (.lst _) = _
    unfold addR; simp only [List.length_map]; rw [if_pos h]
    show _ = R.ok (D.lst ((xs ++ ys).map enc)); rw [List.map_append]
  · trivial
def catU (xs ys : Tu α) : R (Tu α) := if xs.l.length + ys.l.length ≤ sizeLine then .ok ⟨xs.l ++ ys.l⟩ else .bad
theorem ro_catU (xs ys : Tu α) : Rr (addR (enc xs) (enc ys)) (catU xs ys) enc := by
  unfold catU; split
  · rename_i h
    show addR (.tup _) (.tup _) = _
    unfold addR; simp only [List.length_map]; rw [if_pos h]
    show _ = R.ok (D.tup ((xs.l ++ ys.l).map enc)); rw [List.map_append]
  · trivial
def catS (x y : Str) : R Str := if x.length + y.length ≤ sizeLine then .ok (x ++ y) else .bad
theorem ro_catS (x y : Str) : Rr (addR (enc x) (enc y)) (catS x y) enc := by
  unfold catS; split
  · rename_i h; exact if_pos h
  · trivial
def repL (xs : List α) (k : Int) : R (List α) := if -(2 ^ 63) ≤ k ∧ k < 2 ^ 63 ∧ xs.length * k.toNat ≤ sizeLine then .ok (List.replicate k.toNat xs).flatten else .bad
theorem ro_repL (xs : List α) (k : Int) : Rr (mulR (enc xs) (enc k)) (repL xs k) enc := by
  unfold repL; split
  · rename_i h
    show mulR (.lst _) (.int _) = _
    unfold mulR; simp only [List.length_map]; rw [if_pos h]
    show _ = R.ok (D.lst (((List.replicate k.toNat xs).flatten).map enc))
    rw [List.map_flatten, List.map_replicate]
  · trivial
theorem op_lst {ds : List D} (xs : List α) (h : ds = xs.map enc) (hl : xs.length ≤ sizeLine) : lstR ds = .ok (xs.map enc) := by
  subst h; exact if_pos (by rw [List.length_map]; exact hl)
theorem op_tup {ds : List D} (h : ds.length ≤ sizeLine) : tupR ds = .ok (.tup ds) := if_pos h
theorem sml {n : Nat} (h : n ≤ 1000) : n ≤ sizeLine := by rw [sizeLine_eq]; omega
theorem op_len (xs : List α) : lenR [enc xs] = .ok (enc (xs.length : Int)) := by show R.ok (D.int ((xs.map enc).length : Nat)) = _; rw [List.length_map]; rfl
theorem op_lenU (xs : Tu α) : lenR [enc xs] = .ok (enc (xs.l.length : Int)) := by show R.ok (D.int ((xs.l.map enc).length : Nat)) = _; rw [List.length_map]; rfl
theorem op_lenS (z : Str) : lenR [enc z] = .ok (enc (z.length : Int)) := (rfl)
theorem op_lenF (z : Fz) : lenR [enc z] = .ok (enc (z.l.length : Int)) := (rfl)
theorem op_lenD (d : Dc κ α) : lenR [enc d] = .ok (enc (d.l.length : Int)) := by show R.ok (D.int ((dcK d).length : Nat)) = _; unfold dcK; rw [List.length_map]; rfl
theorem op_rev (xs : List α) : revF (enc xs) = .ok (xs.reverse.map enc) := by show R.ok (xs.map enc).reverse = _; rw [List.map_reverse]
theorem op_revI (xs : List α) : revI (enc xs) = .ok (xs.reverse.map enc) := by show R.ok (xs.map enc).reverse = _; rw [List.map_reverse]
theorem cutL_map (xs : List α) (i j : Option Int) : cutL (xs.map enc) i j = (cutL xs i j).map enc := by
  unfold cutL; rw [List.length_map, List.map_take, List.map_drop]
theorem op_cut (xs : List α) (i j : Option Int) : sliceR (enc xs) i j = .ok (enc (cutL xs i j)) := by
  show R.ok (D.lst (cutL (xs.map enc) i j)) = _; rw [cutL_map]; rfl
theorem op_cutU (xs : Tu α) (i j : Option Int) : sliceR (enc xs) i j = .ok (enc (Tu.mk (cutL xs.l i j))) := by
  show R.ok (D.tup (cutL (xs.l.map enc) i j)) = _; rw [cutL_map]; rfl
theorem op_cutS (z : Str) (i j : Option Int) : sliceR (enc z) i j = .ok (enc (L2.cutS z i j)) := (rfl)
theorem atI_map {α β : Type} (f : α → β) (xs : List α) (i : Int) : L2.atI (xs.map f) i = (L2.atI xs i).map f := by
  unfold L2.atI
  rw [List.length_map]
  cases L2.ixN xs.length i with
  | none => rfl
  | some j => simp
def ixL (xs : List α) (i : Int) : R α := match L2.atI xs i with | some a => .ok a | none => .bad
theorem ro_ixL (xs : List α) (i : Int) : Rr (ixR (enc xs) (enc i)) (ixL xs i) enc := by
  show Rr (match L2.atI (xs.map enc) i with | some x => R.ok x | none => .bad) _ _
  rw [atI_map]
  unfold ixL
  cases L2.atI xs i <;> first | rfl | trivial
theorem ro_ixU (xs : Tu α) (i : Int) : Rr (ixR (enc xs) (enc i)) (ixL xs.l i) enc := by
  show Rr (match L2.atI (xs.l.map enc) i with | some x => R.ok x | none => .bad) _ _
  rw [atI_map]
  unfold ixL
  cases L2.atI xs.l i <;> first | rfl | trivial
theorem ro_ixF (x : Fz) (i : Int) : Rr (ixR (enc x) (enc i)) (ixL x.l i) enc := by
  show Rr (match L2.atI x.l i with | some x => R.ok (D.int x) | none => .bad) _ _
  unfold ixL
  cases L2.atI x.l i <;> first | rfl | trivial
def ixS (z : Str) (i : Int) : R Str := match L2.atI z.cps.toList i with | some c => .ok ⟨#[c]⟩ | none => .bad
theorem ro_ixS (z : Str) (i : Int) : Rr (ixR (enc z) (enc i)) (ixS z i) enc := by
  show Rr (match L2.atI z.cps.toList i with | some c => R.ok (D.str ⟨#[c]⟩) | none => .bad) _ _
  unfold ixS
  cases L2.atI z.cps.toList i <;> first | rfl | trivial
def ixK (d : Dc κ α) (k : κ) : R α := match getK d k with | some a => .ok a | none => .bad
theorem ro_ixK (d : Dc κ α) (k : κ) : Rr (ixR (enc d) (enc k)) (ixK d k) enc := by
  have e : ixR (enc d) (enc k) = (match valD (dcK d) (KeyT.key k) with | some x => .ok x | none => .bad) := by
    show (match keyOf (enc k) with | some k => (match valD (dcK d) k with | some x => R.ok x | none => .bad) | none => .bad) = _
    rw [KeyE.h]
  rw [e, valD_enc]
  unfold ixK
  cases getK d k <;> first | rfl | trivial
theorem op_get (d : Dc κ α) (k : κ) : getR (enc d) (enc k) = .ok (enc (getK d k)) := by
  have e : getR (enc d) (enc k) = .ok ((valD (dcK d) (KeyT.key k)).getD .non) := by
    show (match keyOf (enc k) with | some k => R.ok ((valD (dcK d) k).getD .non) | none => .bad) = _
    rw [KeyE.h]
  rw [e, valD_enc]
  cases getK d k <;> rfl
theorem op_get2 (d : Dc κ α) (k : κ) (a : α) : get2R (enc d) (enc k) (enc a) = .ok (enc ((getK d k).getD a)) := by
  have e : get2R (enc d) (enc k) (enc a) = .ok ((valD (dcK d) (KeyT.key k)).getD (enc a)) := by
    show (match keyOf (enc k) with | some k => R.ok ((valD (dcK d) k).getD (enc a)) | none => .bad) = _
    rw [KeyE.h]
  rw [e, valD_enc]
  cases getK d k <;> rfl
theorem op_dicty (d : Dc κ α) : dictyR (enc d) = .ok (enc d) := (rfl)
theorem op_lsty (d : List α) : lstyR (enc d) = .ok (enc d) := (rfl)
def posL [DecidableEq α] (xs : List α) (a : α) : R Int := if a ∈ xs then .ok ((xs.findIdx fun x => decide (x = a) : Nat) : Int) else .bad
theorem idxOf_enc [EncE α] [DecidableEq α] : ∀ (xs : List α) (a : α), a ∈ xs → idxOf (xs.map enc) (enc a) = some (xs.findIdx fun x => decide (x = a))
  | [], _, h => by cases h
  | x :: xs, a, h => by
    rw [List.map_cons]
    unfold idxOf
    by_cases e : x = a
    · subst e; rw [if_pos ((EncE.heq x x).mpr rfl)]; simp [List.findIdx_cons]
    · have ha : a ∈ xs := (List.mem_cons.mp h).resolve_left fun z => e z.symm
      rw [if_neg fun z => e ((EncE.heq x a).mp z), idxOf_enc xs a ha]
      rw [List.findIdx_cons]
      simp [e]
theorem ro_pos [EncE α] [DecidableEq α] (h : EncE.dep α ≤ 63) (xs : List α) (a : α) : Rr (indexR (enc xs) [enc a]) (posL xs a) enc := by
  unfold posL; split
  · rename_i hm
    show indexR (.lst (xs.map enc)) [enc a] = _
    unfold indexR
    simp only
    rw [dle_le (Nat.le_trans h (by decide)) (EncE.hdle a), show dle 64 (.lst (xs.map enc)) = true from all_dle h xs, idxOf_enc xs a hm]
    rfl
  · trivial
theorem intsOf_enc (xs : List Int) : intsOf (xs.map enc) = some xs := by
  induction xs with
  | nil => rfl
  | cons x xs ih => show (intsOf (xs.map enc)).map (x :: ·) = _; rw [ih]; rfl
theorem strsOf_enc (xs : List Str) : strsOf (xs.map enc) = some xs := by
  induction xs with
  | nil => rfl
  | cons x xs ih => show (strsOf (xs.map enc)).map (x :: ·) = _; rw [ih]; rfl
theorem blsOf_enc (xs : List Bool) : blsOf (xs.map enc) = some xs := by
  induction xs with
  | nil => rfl
  | cons x xs ih => show (blsOf (xs.map enc)).map (x :: ·) = _; rw [ih]; rfl
theorem pairsOf_enc (xs : List (Int × Int)) : pairsOf (xs.map enc) = some xs := by
  induction xs with
  | nil => rfl
  | cons x xs ih => show (pairsOf (xs.map enc)).map ((x.1, x.2) :: ·) = _; rw [ih]; rfl
theorem op_sum (xs : List Int) : sumR [enc xs] = .ok (enc xs.sum) := by show (match intsOf (xs.map enc) with | some ns => R.ok (D.int ns.sum) | none => .bad) = _; rw [intsOf_enc]; rfl
theorem op_all (xs : List Bool) : allR [enc xs] = .ok (enc (xs.all id)) := by show (match blsOf (xs.map enc) with | some ns => R.ok (D.bl (ns.all id)) | none => .bad) = _; rw [blsOf_enc]; rfl
theorem op_any (xs : List Bool) : anyR [enc xs] = .ok (enc (xs.any id)) := by show (match blsOf (xs.map enc) with | some ns => R.ok (D.bl (ns.any id)) | none => .bad) = _; rw [blsOf_enc]; rfl
theorem op_sortI (xs : List Int) : sortedR [enc xs] = .ok (enc (sortI xs)) := by
  show (match intsOf (xs.map enc) with | some ns => R.ok (D.lst ((sortI ns).map .int)) | none => _) = _
  rw [intsOf_enc]; rfl
def sortSG (xs : List Str) : R (List Str) := if xs.length < 64 then .ok (sortS xs) else .bad
theorem ro_sortS (xs : List Str) : Rr (sortedR [enc xs]) (sortSG xs) enc := by
  cases xs with
  | nil => rfl
  | cons x xs =>
    have e : sortedR [enc (x :: xs)] = (match strsOf ((x :: xs).map enc) with | some ss => if ss.length < 64 then .ok (.lst ((sortS ss).map .str)) else .bad | none => .bad) := rfl
    rw [e, strsOf_enc]
    unfold sortSG
    simp only
    split
    · rfl
    · trivial
theorem op_sortP (xs : List (Int × Int)) : sortedPR [enc xs] = .ok (enc (sortP xs)) := by
  show (match pairsOf (xs.map enc) with | some ps => R.ok (D.lst ((sortP ps).map pairD0)) | none => .bad) = _
  rw [pairsOf_enc]; rfl
theorem keysI_enc (d : Dc Int α) : keysI (dcK d) = some (d.l.map (·.1)) := by
  unfold dcK
  induction d.l with
  | nil => rfl
  | cons kv t ih => show (keysI (t.map _)).map (kv.1 :: ·) = _; rw [ih]; rfl
def sortDIG (d : Dc Int α) : R (List Int) := if d.l.length < 64 then .ok (sortI (d.l.map (·.1))) else .bad
theorem ro_sortDI (d : Dc Int α) : Rr (sortedDIR [enc d]) (sortDIG d) enc := by
  unfold sortDIG; split
  · rename_i h
    show (match keysI (dcK d) with | some ks => if ks.length < 64 then R.ok (D.lst ((sortI ks).map .int)) else .bad | none => .bad) = _
    rw [keysI_enc]
    simp only [List.length_map]
    rw [if_pos h]; rfl
  · trivial
class KeyD (κ : Type) [KeyT κ] [Enc κ] : Prop where
  h : ∀ k : κ, keyD (KeyT.key k) = enc k
instance : KeyD Int := ⟨fun _ => rfl⟩
instance : KeyD Str := ⟨fun _ => rfl⟩
def keysG (d : Dc κ α) : R (List κ) := if d.l.length ≤ sizeLine then .ok (d.l.map (·.1)) else .bad
theorem ro_keys [KeyD κ] (d : Dc κ α) : Rr (listDR [enc d]) (keysG d) enc := by
  unfold keysG; split
  · rename_i h
    show (if (dcK d).length ≤ sizeLine then R.ok (D.lst ((dcK d).map fun kv => keyD kv.1)) else .bad) = _
    unfold dcK
    rw [List.length_map, if_pos h, List.map_map]
    show R.ok (D.lst _) = R.ok (D.lst ((d.l.map (·.1)).map enc))
    rw [List.map_map]
    congr 2
    exact List.map_congr_left fun kv _ => KeyD.h kv.1
  · trivial
theorem op_tuple (xs : List α) : tupleR [enc xs] = .ok (enc (Tu.mk xs)) := (rfl)
theorem op_tupleU (xs : Tu α) : tupleR [enc xs] = .ok (enc xs) := (rfl)
theorem op_list (xs : List α) : listR [enc xs] = .ok (enc xs) := (rfl)
theorem op_listU (xs : Tu α) : listR [enc xs] = .ok (enc xs.l) := (rfl)
def rngG (n : Int) : R (List Int) := if -16777216 ≤ n ∧ n ≤ 16777216 then .ok ((List.range n.toNat).map fun i : Nat => (i : Int)) else .bad
theorem ro_rng1 (n : Int) : Rr (range1R (enc n)) (rngG n) (List.map enc) := by
  unfold rngG; split
  · rename_i h
    show (if _ then R.ok (rngD 0 n.toNat) else .bad) = _
    rw [if_pos h]
    unfold rngD
    rw [List.map_map]
    congr 1
    exact List.map_congr_left fun i _ => by show D.int (0 + (i : Int)) = D.int _; rw [Int.zero_add]
  · trivial
def rng2G (a b : Int) : R (List Int) := if -8388608 ≤ a ∧ a ≤ 8388608 ∧ -8388608 ≤ b ∧ b ≤ 8388608 then .ok ((List.range (b - a).toNat).map fun i : Nat => a + (i : Int)) else .bad
theorem ro_rng2 (a b : Int) : Rr (range2R (enc a) (enc b)) (rng2G a b) (List.map enc) := by
  unfold rng2G; split
  · rename_i h
    show (if _ then R.ok (rngD a (b - a).toNat) else .bad) = _
    rw [if_pos h]
    unfold rngD
    rw [List.map_map]; rfl
  · trivial
def rngLG (n : Int) : R (List Int) := if 0 ≤ n ∧ n ≤ 16777216 then .ok ((List.range n.toNat).map fun i : Nat => (i : Int)) else .bad
theorem ro_rngL (n : Int) : Rr (rangeLR (enc n)) (rngLG n) (List.map enc) := by
  unfold rngLG; split
  · rename_i h
    show (if _ then R.ok _ else .bad) = _
    rw [if_pos h, List.map_map]; rfl
  · trivial
def enumI (xs : List α) : List (Int × α) := xs.zipIdx.map fun p => ((p.2 : Int), p.1)
theorem pairs0_enc (xs : List α) : pairs0 (xs.map enc) = (enumI xs).map enc := by
  unfold pairs0 enumI
  rw [List.zipIdx_map, List.map_map, List.map_map]
  rfl
theorem it_list (xs : List α) : itemsR (enc xs) = .ok (xs.map enc) := (rfl)
theorem it_tu (xs : Tu α) : itemsR (enc xs) = .ok (xs.l.map enc) := (rfl)
def chars (z : Str) : List Str := z.cps.toList.map fun c => ⟨#[c]⟩
theorem charsD_enc (z : Str) : charsD z = (chars z).map enc := by unfold charsD chars; rw [List.map_map]; rfl
theorem it_str (z : Str) : itemsR (enc z) = .ok ((chars z).map enc) := by show R.ok (charsD z) = _; rw [charsD_enc]
variable {e : En} {A : En → R D}
theorem en_list {xs : List α} (h : A e = .ok (enc xs)) : fEn A e = .ok ((enumI xs).map enc) := by
  rw [← pairs0_enc]; unfold fEn; rw [h]; rfl
theorem en_tu {xs : Tu α} (h : A e = .ok (enc xs)) : fEnT A e = .ok ((enumI xs.l).map enc) := by
  rw [← pairs0_enc]; unfold fEnT; rw [h]; rfl
theorem en_str {z : Str} (h : A e = .ok (enc z)) : fEnT A e = .ok ((enumI (chars z)).map enc) := by
  rw [← pairs0_enc, ← charsD_enc]; unfold fEnT; rw [h]; rfl
theorem en_listM {t : R (List α)} (h : Rr (A e) t enc) : Rr (fEn A e) (t >>= fun xs => .ok (enumI xs)) (List.map enc) := by
  cases t with
  | ok xs => exact en_list h
  | exc c => unfold fEn; rw [show A e = .exc c from h]; rfl
  | bad => trivial
end
end Ty

/-! Statements over typed values. -/
namespace Ty
open PySem Dx Fo
open Enc (enc)
def letT {α β : Type} (a : α) (k : α → β) : β := k a
inductive OT (σ α : Type) where
  | nx (s : σ)
  | rt (a : α)
  | bk (s : σ)
  | ct (s : σ)
  | exc (c : Str)
  | bad
section
variable {σ σ' α β γ : Type}
/-- what follows a value that may fail -/
def OT.bd (r : R β) (k : β → OT σ α) : OT σ α := match r with
  | .ok b => k b
  | .exc c => .exc c
  | .bad => .bad
/-- what follows a part -/
def OT.sq (t : OT σ' α) (k : σ' → OT σ α) : OT σ α := match t with
  | .nx s => k s
  | .rt a => .rt a
  | .exc c => .exc c
  | _ => .bad
/-- the rest of a def behind a loop that may return -/
def OT.thn (t : OT σ α) (k : σ → R α) : R α := match t with
  | .nx s => k s
  | .rt a => .ok a
  | .exc c => .exc c
  | _ => .bad
def forT (f : σ → β → OT σ α) : List β → σ → OT σ α
  | [], s => .nx s
  | x :: xs, s => match f s x with
    | .nx s => forT f xs s
    | .ct s => forT f xs s
    | .bk s => .nx s
    | .rt a => .rt a
    | .exc c => .exc c
    | .bad => .bad
def foldR (f : σ → β → R σ) : List β → σ → R σ
  | [], s => .ok s
  | x :: xs, s => f s x >>= fun s => foldR f xs s
def whileT (c : σ → R Bool) (f : σ → R σ) : Nat → σ → R σ
  | 0, _ => .bad
  | n + 1, s => c s >>= fun k => if k = true then f s >>= fun s => whileT c f n s else .ok s
def compR (p : β → R Bool) (g : β → R γ) : List β → R (List γ)
  | [] => .ok []
  | x :: xs => match p x with
    | .ok true => (match g x with
      | .ok y => compR p g xs >>= fun ys => .ok (y :: ys)
      | _ => .bad)
    | .ok false => compR p g xs
    | _ => .bad
end
section
variable {σ σ' α β γ δ ε ζ κ : Type} [Enc α] [Enc β] [Enc γ] [Enc δ] [Enc ε] [Enc ζ] [KeyT κ] {p p' : Pat} {e : En} {i : Nat}
def TR (o : Out) (t : R α) : Prop := match t with
  | .ok a => ∃ e, o = .rt (enc a) e
  | .exc c => ∃ e, o = .exc c e
  | .bad => True
def TN (P : σ → Pat) (o : Out) (t : R σ) : Prop := match t with
  | .ok s => ∃ e, o = .nx e ∧ EnvIs (P s) e
  | .exc c => ∃ e, o = .exc c e
  | .bad => True
def TO (P : σ → Pat) (o : Out) (t : OT σ α) : Prop := match t with
  | .nx s => ∃ e, o = .nx e ∧ EnvIs (P s) e
  | .rt a => ∃ e, o = .rt (enc a) e
  | .bk s => ∃ e, o = .bk e ∧ EnvIs (P s) e
  | .ct s => ∃ e, o = .ct e ∧ EnvIs (P s) e
  | .exc c => ∃ e, o = .exc c e
  | .bad => True
variable {P : σ → Pat} {P' : σ' → Pat} {A B : En → R D} {As : En → R (List D)} {Ak : En → R (List (L2.Key × D))} {G G1 G2 : En → Out} {t : En → R Bool} {o : Out}
-- a def
theorem fn_of {n m : Nat} {ds : List D} {T : R α} {p0 : Pat} (hl : ds.length = n) (hp : (ds.map fun d => some (Slot.d d)) ++ List.replicate m none = p0) (h : ∀ e, EnvIs p0 e → TR (G e) T) : Rr (defR n m G ds) T enc := by
  have h := h _ (EnvIs.of ds m hp)
  unfold defR
  rw [if_pos hl]
  unfold runB
  cases T with
  | ok a => obtain ⟨e, h⟩ := h; rw [h]; rfl
  | exc c => obtain ⟨e, h⟩ := h; rw [h]; rfl
  | bad => trivial
theorem fn_ofN {n m : Nat} {ds : List D} {T : R Unit} {p0 : Pat} (hl : ds.length = n) (hp : (ds.map fun d => some (Slot.d d)) ++ List.replicate m none = p0) (h : ∀ e, EnvIs p0 e → TN (fun _ : Unit => []) (endK [] (G e)) T ∨ True) : True := trivial
-- return
theorem tr_ret {T : R α} (h : Rr (A e) T enc) : TR (sRet A e) T := by
  cases T with
  | ok a => exact ⟨e, by show liftO (A e) e _ = _; rw [show A e = .ok (enc a) from h]; rfl⟩
  | exc c => exact ⟨e, by show liftO (A e) e _ = _; rw [show A e = .exc c from h]; rfl⟩
  | bad => trivial
theorem tr_retN : TR (sRetN e) (.ok ()) := ⟨e, rfl⟩
theorem to_ret {a : α} (h : A e = .ok (enc a)) : TO P (sRet A e) (.rt a) := ⟨e, by show liftO (A e) e _ = _; rw [h]; rfl⟩
theorem to_retM {T : R α} (h : Rr (A e) T enc) : TO P (sRet A e) (OT.bd T OT.rt) := by
  cases T with
  | ok a => exact ⟨e, by show liftO (A e) e _ = _; rw [show A e = .ok (enc a) from h]; rfl⟩
  | exc c => exact ⟨e, by show liftO (A e) e _ = _; rw [show A e = .exc c from h]; rfl⟩
  | bad => trivial
theorem to_retN : TO (α := Unit) P (sRetN e) (.rt ()) := ⟨e, rfl⟩
theorem tr_raise {c : Str} : TR (α := α) (sRaise c e) (.exc c) := ⟨e, rfl⟩
theorem tn_raise {c : Str} : TN P (sRaise c e) (.exc c) := ⟨e, rfl⟩
theorem to_raise {c : Str} : TO (α := α) P (sRaise c e) (.exc c) := ⟨e, rfl⟩
-- the end of a block
theorem tn_nil {s : σ} (H : EnvIs (P s) e) : TN P (sNil e) (.ok s) := ⟨e, rfl, H⟩
theorem to_nil {s : σ} (H : EnvIs (P s) e) : TO (α := α) P (sNil e) (.nx s) := ⟨e, rfl, H⟩
theorem to_bk {s : σ} (H : EnvIs (P s) e) : TO (α := α) P (sBrk e) (.bk s) := ⟨e, rfl, H⟩
theorem to_ct {s : σ} (H : EnvIs (P s) e) : TO (α := α) P (sCnt e) (.ct s) := ⟨e, rfl, H⟩
/-- a statement alone is a statement with nothing behind it -/
theorem seq_nil : sSeq G sNil e = G e := by show seqO (G e) sNil = _; cases G e <;> rfl
theorem tr_nil {T : R α} (h : TR (sSeq G sNil e) T) : TR (G e) T := by rw [seq_nil] at h; exact h
theorem tn_one {T : R σ} (h : TN P (sSeq G sNil e) T) : TN P (G e) T := by rw [seq_nil] at h; exact h
theorem to_one {T : OT σ α} (h : TO P (sSeq G sNil e) T) : TO P (G e) T := by rw [seq_nil] at h; exact h
theorem tn_end {is : List Nat} {T : R σ} {Q : σ → Pat} (h : TN Q (G e) T) (hp : ∀ s, killP is (Q s) = P s) : TN P (sEnd is G e) T := by
  unfold sEnd
  cases T with
  | ok s => obtain ⟨e', h1, h2⟩ := h; rw [h1]; exact ⟨killS is e', rfl, hp s ▸ h2.kills is⟩
  | exc c => obtain ⟨e', h1⟩ := h; rw [h1]; exact ⟨e', rfl⟩
  | bad => trivial
theorem to_end {is : List Nat} {T : OT σ α} {Q : σ → Pat} (h : TO Q (G e) T) (hp : ∀ s, killP is (Q s) = P s) : TO P (sEnd is G e) T := by
  unfold sEnd
  cases T with
  | nx s => obtain ⟨e', h1, h2⟩ := h; rw [h1]; exact ⟨killS is e', rfl, hp s ▸ h2.kills is⟩
  | bk s => obtain ⟨e', h1, h2⟩ := h; rw [h1]; exact ⟨killS is e', rfl, hp s ▸ h2.kills is⟩
  | ct s => obtain ⟨e', h1, h2⟩ := h; rw [h1]; exact ⟨killS is e', rfl, hp s ▸ h2.kills is⟩
  | rt a => obtain ⟨e', h1⟩ := h; rw [h1]; exact ⟨e', rfl⟩
  | exc c => obtain ⟨e', h1⟩ := h; rw [h1]; exact ⟨e', rfl⟩
  | bad => trivial
theorem tr_end {is : List Nat} {T : R α} (h : TR (G e) T) : TR (sEnd is G e) T := by
  unfold sEnd
  cases T with
  | ok s => obtain ⟨e', h1⟩ := h; rw [h1]; exact ⟨e', rfl⟩
  | exc c => obtain ⟨e', h1⟩ := h; rw [h1]; exact ⟨e', rfl⟩
  | bad => trivial
-- one step: G e goes on with e' where p' tells a
def Stp (p : Nat → Pat) : Prop := True
/-- J: one of TR, TN P, TO P -/
structure Jd {τ : Type} (J : Out → τ → Prop) (bd : ∀ {β : Type}, R β → (β → τ) → τ) : Prop where
  exc : ∀ {c : Str} {β : Type} {k : β → τ} {e : En}, J (.exc c e) (bd (.exc c) k)
  bad : ∀ {o : Out} {β : Type} {k : β → τ}, J o (bd .bad k)
  ok : ∀ {o : Out} {β : Type} {b : β} {k : β → τ}, J o (k b) → J o (bd (.ok b) k)
theorem jTR : Jd (TR (α := α)) (fun r k => r >>= k) := ⟨⟨_, rfl⟩, trivial, fun h => h⟩
theorem jTN : Jd (TN P) (fun r k => r >>= k) := ⟨⟨_, rfl⟩, trivial, fun h => h⟩
theorem jTO : Jd (TO (α := α) P) (fun r k => OT.bd r k) := ⟨⟨_, rfl⟩, trivial, fun h => h⟩
section
variable {τ : Type} {J : Out → τ → Prop} {bd : ∀ {β : Type}, R β → (β → τ) → τ} {T : τ}
/-- x = e, e told -/
theorem j_set {a : α} {k : α → τ} {q : α → Pat} (H : EnvIs p e) (h : A e = .ok (enc a)) (hq : ∀ a : α, p.set i (sv a) = q a) (hk : ∀ a e, EnvIs (q a) e → J (G e) (k a)) : J (sSeq (sSet i A) G e) (letT a k) := by
  have e1 : sSeq (sSet i A) G e = G (e.set i (.d (enc a))) := by show seqO (liftO (A e) e _) G = _; rw [h]; rfl
  rw [e1]
  exact hk a _ (hq a ▸ H.set i)
theorem j_setM (hJ : Jd J bd) {r : R α} {k : α → τ} {q : α → Pat} (H : EnvIs p e) (h : Rr (A e) r enc) (hq : ∀ a : α, p.set i (sv a) = q a) (hk : ∀ a e, EnvIs (q a) e → J (G e) (k a)) : J (sSeq (sSet i A) G e) (bd r k) := by
  cases r with
  | ok a =>
    have e1 : sSeq (sSet i A) G e = G (e.set i (.d (enc a))) := by show seqO (liftO (A e) e _) G = _; rw [show A e = .ok (enc a) from h]; rfl
    rw [e1]; exact hJ.ok (hk a _ (hq a ▸ H.set i))
  | exc c => rw [show sSeq (sSet i A) G e = .exc c e by show seqO (liftO (A e) e _) G = _; rw [show A e = .exc c from h]; rfl]; exact hJ.exc
  | bad => exact hJ.bad
/-- x = [..], a list of its own -/
theorem j_setF {xs : List α} {k : List α → τ} {q : List α → Pat} (H : EnvIs p e) (h : As e = .ok (xs.map enc)) (hq : ∀ xs : List α, p.set i (so xs) = q xs) (hk : ∀ xs e, EnvIs (q xs) e → J (G e) (k xs)) : J (sSeq (sSetF i As) G e) (letT xs k) := by
  have e1 : sSeq (sSetF i As) G e = G (e.set i (.ol (xs.map enc))) := by show seqO (liftO (As e) e _) G = _; rw [h]; rfl
  rw [e1]
  exact hk xs _ (hq xs ▸ H.set i)
theorem j_setFM (hJ : Jd J bd) {r : R (List α)} {k : List α → τ} {q : List α → Pat} (H : EnvIs p e) (h : Rr (As e) r (List.map enc)) (hq : ∀ xs : List α, p.set i (so xs) = q xs) (hk : ∀ xs e, EnvIs (q xs) e → J (G e) (k xs)) : J (sSeq (sSetF i As) G e) (bd r k) := by
  cases r with
  | ok xs =>
    have e1 : sSeq (sSetF i As) G e = G (e.set i (.ol (xs.map enc))) := by show seqO (liftO (As e) e _) G = _; rw [show As e = .ok (xs.map enc) from h]; rfl
    rw [e1]; exact hJ.ok (hk xs _ (hq xs ▸ H.set i))
  | exc c => rw [show sSeq (sSetF i As) G e = .exc c e by show seqO (liftO (As e) e _) G = _; rw [show As e = .exc c from h]; rfl]; exact hJ.exc
  | bad => exact hJ.bad
/-- x = [.. for ..], data -/
theorem j_setD {xs : List α} {k : List α → τ} {q : List α → Pat} (H : EnvIs p e) (h : As e = .ok (xs.map enc)) (hq : ∀ xs : List α, p.set i (sv xs) = q xs) (hk : ∀ xs e, EnvIs (q xs) e → J (G e) (k xs)) : J (sSeq (sSetFD i As) G e) (letT xs k) := by
  have e1 : sSeq (sSetFD i As) G e = G (e.set i (.d (enc xs))) := by show seqO (liftO (As e) e _) G = _; rw [h]; rfl
  rw [e1]
  exact hk xs _ (hq xs ▸ H.set i)
theorem j_setDM (hJ : Jd J bd) {r : R (List α)} {k : List α → τ} {q : List α → Pat} (H : EnvIs p e) (h : Rr (As e) r (List.map enc)) (hq : ∀ xs : List α, p.set i (sv xs) = q xs) (hk : ∀ xs e, EnvIs (q xs) e → J (G e) (k xs)) : J (sSeq (sSetFD i As) G e) (bd r k) := by
  cases r with
  | ok xs =>
    have e1 : sSeq (sSetFD i As) G e = G (e.set i (.d (enc xs))) := by show seqO (liftO (As e) e _) G = _; rw [show As e = .ok (xs.map enc) from h]; rfl
    rw [e1]; exact hJ.ok (hk xs _ (hq xs ▸ H.set i))
  | exc c => rw [show sSeq (sSetFD i As) G e = .exc c e by show seqO (liftO (As e) e _) G = _; rw [show As e = .exc c from h]; rfl]; exact hJ.exc
  | bad => exact hJ.bad
/-- x = {..}, a dict of its own -/
theorem j_setK {d : Dc κ α} {k : Dc κ α → τ} {q : Dc κ α → Pat} (H : EnvIs p e) (h : Ak e = .ok (dcK d)) (hq : ∀ d : Dc κ α, p.set i (sk d) = q d) (hk : ∀ d e, EnvIs (q d) e → J (G e) (k d)) : J (sSeq (sSetK i Ak) G e) (letT d k) := by
  have e1 : sSeq (sSetK i Ak) G e = G (e.set i (.od (dcK d))) := by show seqO (liftO (Ak e) e _) G = _; rw [h]; rfl
  rw [e1]
  exact hk d _ (hq d ▸ H.set i)
theorem j_setKM (hJ : Jd J bd) {r : R (Dc κ α)} {k : Dc κ α → τ} {q : Dc κ α → Pat} (H : EnvIs p e) (h : Rr (Ak e) r dcK) (hq : ∀ d : Dc κ α, p.set i (sk d) = q d) (hk : ∀ d e, EnvIs (q d) e → J (G e) (k d)) : J (sSeq (sSetK i Ak) G e) (bd r k) := by
  cases r with
  | ok d =>
    have e1 : sSeq (sSetK i Ak) G e = G (e.set i (.od (dcK d))) := by show seqO (liftO (Ak e) e _) G = _; rw [show Ak e = .ok (dcK d) from h]; rfl
    rw [e1]; exact hJ.ok (hk d _ (hq d ▸ H.set i))
  | exc c => rw [show sSeq (sSetK i Ak) G e = .exc c e by show seqO (liftO (Ak e) e _) G = _; rw [show Ak e = .exc c from h]; rfl]; exact hJ.exc
  | bad => exact hJ.bad
/-- a, b = e -/
theorem j_asg {a : α} {k : α → τ} {Tg : D → En → R En} {q : α → Pat} (h : A e = .ok (enc a)) (ht : ∀ a : α, ∃ e', Tg (enc a) e = .ok e' ∧ EnvIs (q a) e') (hk : ∀ a e, EnvIs (q a) e → J (G e) (k a)) : J (sSeq (sAsg Tg A) G e) (letT a k) := by
  obtain ⟨e', h1, h2⟩ := ht a
  have e1 : sSeq (sAsg Tg A) G e = G e' := by show seqO (liftO (A e) e _) G = _; rw [h]; show seqO (match Tg (enc a) e with | .ok env' => .nx env' | _ => .bad) G = _; rw [h1]; rfl
  rw [e1]
  exact hk a _ h2
theorem j_asgM (hJ : Jd J bd) {r : R α} {k : α → τ} {Tg : D → En → R En} {q : α → Pat} (h : Rr (A e) r enc) (ht : ∀ a : α, ∃ e', Tg (enc a) e = .ok e' ∧ EnvIs (q a) e') (hk : ∀ a e, EnvIs (q a) e → J (G e) (k a)) : J (sSeq (sAsg Tg A) G e) (bd r k) := by
  cases r with
  | ok a =>
    obtain ⟨e', h1, h2⟩ := ht a
    have e1 : sSeq (sAsg Tg A) G e = G e' := by show seqO (liftO (A e) e _) G = _; rw [show A e = .ok (enc a) from h]; show seqO (match Tg (enc a) e with | .ok env' => .nx env' | _ => .bad) G = _; rw [h1]; rfl
    rw [e1]; exact hJ.ok (hk a _ h2)
  | exc c => rw [show sSeq (sAsg Tg A) G e = .exc c e by show seqO (liftO (A e) e _) G = _; rw [show A e = .exc c from h]; rfl]; exact hJ.exc
  | bad => exact hJ.bad
/-- an expression as a statement -/
theorem j_expr {d : D} (h : A e = .ok d) (hk : J (G e) T) : J (sSeq (sExpr A) G e) T := by
  have e1 : sSeq (sExpr A) G e = G e := by show seqO (liftO (A e) e _) G = _; rw [h]; rfl
  rw [e1]; exact hk
theorem j_exprM (hJ : Jd J bd) {r : R α} {k : α → τ} (h : Rr (A e) r enc) (hk : ∀ a, J (G e) (k a)) : J (sSeq (sExpr A) G e) (bd r k) := by
  cases r with
  | ok a =>
    have e1 : sSeq (sExpr A) G e = G e := by show seqO (liftO (A e) e _) G = _; rw [show A e = .ok (enc a) from h]; rfl
    rw [e1]; exact hJ.ok (hk a)
  | exc c => rw [show sSeq (sExpr A) G e = .exc c e by show seqO (liftO (A e) e _) G = _; rw [show A e = .exc c from h]; rfl]; exact hJ.exc
  | bad => exact hJ.bad
/-- a name that owned a list gives it up -/
theorem frz_of {s : Slot} (H : EnvIs p e) (h : p[i]? = some (some s)) : EnvIs (p.set i (some s.fz)) (frz i e) := by
  unfold frz; rw [H.2 i s h]; exact H.set i
theorem j_frz {G : En → Out} {s : Slot} {q : Pat} (H : EnvIs p e) (h : p[i]? = some (some s)) (hq : p.set i (some s.fz) = q) (hk : ∀ e, EnvIs q e → J (G e) T) : J (sFrz i G e) T := hk _ (hq ▸ frz_of H h)
/-- if, at the end of a block -/
theorem j_if {c : Bool} {T1 T2 : τ} (h : t e = .ok c) (h1 : J (G1 e) T1) (h2 : J (G2 e) T2) : J (sIf t G1 G2 e) (if c = true then T1 else T2) := by
  show J (liftO (t e) e _) _; rw [h]; cases c; exact h2; exact h1
theorem j_ifM (hJ : Jd J bd) {r : R Bool} {T1 T2 : τ} (h : Rr (t e) r id) (h1 : J (G1 e) T1) (h2 : J (G2 e) T2) : J (sIf t G1 G2 e) (bd r fun c => if c = true then T1 else T2) := by
  show J (liftO (t e) e _) _
  cases r with
  | ok c => rw [show t e = .ok c from h]; cases c; exact hJ.ok h2; exact hJ.ok h1
  | exc c => rw [show t e = .exc c from h]; exact hJ.exc
  | bad => exact hJ.bad
/-- if c: a return, a raise; the rest -/
theorem j_ifX {c : Bool} {T1 T2 : τ} (h : t e = .ok c) (h1 : J (seqO (G1 e) G) T1) (h2 : J (seqO (G2 e) G) T2) : J (sSeq (sIf t G1 G2) G e) (if c = true then T1 else T2) := by
  show J (seqO (liftO (t e) e _) G) _; rw [h]; cases c; exact h2; exact h1
theorem j_ifXM (hJ : Jd J bd) {r : R Bool} {T1 T2 : τ} (h : Rr (t e) r id) (h1 : J (seqO (G1 e) G) T1) (h2 : J (seqO (G2 e) G) T2) : J (sSeq (sIf t G1 G2) G e) (bd r fun c => if c = true then T1 else T2) := by
  show J (seqO (liftO (t e) e _) G) _
  cases r with
  | ok c => rw [show t e = .ok c from h]; cases c; exact hJ.ok h2; exact hJ.ok h1
  | exc c => rw [show t e = .exc c from h]; exact hJ.exc
  | bad => exact hJ.bad
theorem j_seqnil (h : J (G e) T) : J (seqO (sNil e) G) T := h
end
/-- what returns or raises does not come to the rest -/
theorem tr_x {T : R α} (h : TR o T) : TR (seqO o G) T := by
  cases T with
  | ok a => obtain ⟨e, h⟩ := h; rw [h]; exact ⟨e, rfl⟩
  | exc c => obtain ⟨e, h⟩ := h; rw [h]; exact ⟨e, rfl⟩
  | bad => trivial
/-- the same in a loop: returns, raises, break, continue -/
def OT.esc : OT σ α → Prop
  | .nx _ => False
  | _ => True
theorem to_x {T : OT Empty α} (h : TO (σ := Empty) (fun _ => []) o T) : TO (α := α) P (seqO o G) (OT.sq T fun z => nomatch z) := by
  cases T with
  | nx s => exact nomatch s
  | bk s => exact nomatch s
  | ct s => exact nomatch s
  | rt a => obtain ⟨e, h⟩ := h; rw [h]; exact ⟨e, rfl⟩
  | exc c => obtain ⟨e, h⟩ := h; rw [h]; exact ⟨e, rfl⟩
  | bad => trivial
theorem seqO_escT {T : OT σ α} {o : Out} (h : TO P o T) (hx : T.esc) : TO P (seqO o G) T := by
  cases T with
  | nx s => exact hx.elim
  | bk s => obtain ⟨e, h, h2⟩ := h; rw [h]; exact ⟨e, rfl, h2⟩
  | ct s => obtain ⟨e, h, h2⟩ := h; rw [h]; exact ⟨e, rfl, h2⟩
  | rt a => obtain ⟨e, h⟩ := h; rw [h]; exact ⟨e, rfl⟩
  | exc c => obtain ⟨e, h⟩ := h; rw [h]; exact ⟨e, rfl⟩
  | bad => trivial
-- a part that ends, and the rest
theorem j_sqN {τ : Type} {J : Out → τ → Prop} {bd : ∀ {β : Type}, R β → (β → τ) → τ} (hJ : Jd J bd) {T : R σ'} {k : σ' → τ} (h : TN P' (G1 e) T) (hk : ∀ s e, EnvIs (P' s) e → J (G e) (k s)) : J (sSeq G1 G e) (bd T k) := by
  show J (seqO (G1 e) G) _
  cases T with
  | ok s => obtain ⟨e', h1, h2⟩ := h; rw [h1]; exact hJ.ok (hk s e' h2)
  | exc c => obtain ⟨e', h1⟩ := h; rw [h1]; exact hJ.exc
  | bad => exact hJ.bad
theorem j_sqP {τ : Type} {J : Out → τ → Prop} {s : σ'} {k : σ' → τ} (h : TN P' (G1 e) (.ok s)) (hk : ∀ s e, EnvIs (P' s) e → J (G e) (k s)) : J (sSeq G1 G e) (letT s k) := by
  show J (seqO (G1 e) G) _
  obtain ⟨e', h1, h2⟩ := h; rw [h1]; exact hk s e' h2
theorem tr_sqO {T : OT σ' α} {k : σ' → R α} (h : TO P' (G1 e) T) (hk : ∀ s e, EnvIs (P' s) e → TR (G e) (k s)) : TR (sSeq G1 G e) (OT.thn T k) := by
  show TR (seqO (G1 e) G) _
  cases T with
  | nx s => obtain ⟨e', h1, h2⟩ := h; rw [h1]; exact hk s e' h2
  | rt a => obtain ⟨e', h1⟩ := h; rw [h1]; exact ⟨e', rfl⟩
  | exc c => obtain ⟨e', h1⟩ := h; rw [h1]; exact ⟨e', rfl⟩
  | bk s => trivial
  | ct s => trivial
  | bad => trivial
theorem to_sqO {T : OT σ' α} {k : σ' → OT σ α} (h : TO P' (G1 e) T) (hk : ∀ s e, EnvIs (P' s) e → TO P (G e) (k s)) : TO P (sSeq G1 G e) (OT.sq T k) := by
  show TO P (seqO (G1 e) G) _
  cases T with
  | nx s => obtain ⟨e', h1, h2⟩ := h; rw [h1]; exact hk s e' h2
  | rt a => obtain ⟨e', h1⟩ := h; rw [h1]; exact ⟨e', rfl⟩
  | exc c => obtain ⟨e', h1⟩ := h; rw [h1]; exact ⟨e', rfl⟩
  | bk s => trivial
  | ct s => trivial
  | bad => trivial
-- targets
theorem tg_name (H : EnvIs p e) {a : α} {q : Pat} (hq : p.set i (sv a) = q) : ∃ e', nameT i (enc a) e = .ok e' ∧ EnvIs q e' := ⟨_, rfl, hq ▸ H.set i⟩
theorem tg_2 (H : EnvIs p e) {i j : Nat} {a : α × β} {q : Pat} (hq : (p.set i (sv a.1)).set j (sv a.2) = q) : ∃ e', tupT [i, j] (enc a) e = .ok e' ∧ EnvIs q e' := ⟨_, rfl, hq ▸ (H.set i).set j⟩
theorem tg_3 (H : EnvIs p e) {i j k : Nat} {a : T3 α β γ} {q : Pat} (hq : ((p.set i (sv a.a)).set j (sv a.b)).set k (sv a.c) = q) : ∃ e', tupT [i, j, k] (enc a) e = .ok e' ∧ EnvIs q e' := ⟨_, rfl, hq ▸ ((H.set i).set j).set k⟩
theorem tg_4 (H : EnvIs p e) {i j k l : Nat} {a : T4 α β γ δ} {q : Pat} (hq : (((p.set i (sv a.a)).set j (sv a.b)).set k (sv a.c)).set l (sv a.d) = q) : ∃ e', tupT [i, j, k, l] (enc a) e = .ok e' ∧ EnvIs q e' := ⟨_, rfl, hq ▸ (((H.set i).set j).set k).set l⟩
theorem tg_5 (H : EnvIs p e) {i j k l m : Nat} {a : T5 α β γ δ ε} {q : Pat} (hq : ((((p.set i (sv a.a)).set j (sv a.b)).set k (sv a.c)).set l (sv a.d)).set m (sv a.e) = q) : ∃ e', tupT [i, j, k, l, m] (enc a) e = .ok e' ∧ EnvIs q e' := ⟨_, rfl, hq ▸ ((((H.set i).set j).set k).set l).set m⟩
-- loops
theorem tn_foldl {Tg : D → En → R En} {B : En → Out} {f : σ → β → σ} {q : σ → β → Pat} (xs : List β) (s0 : σ) (H : EnvIs (P s0) e)
    (ht : ∀ x s e, EnvIs (P s) e → ∃ e', Tg (enc x) e = .ok e' ∧ EnvIs (q s x) e')
    (hb : ∀ x s e, EnvIs (q s x) e → TN P (B e) (.ok (f s x))) : TN P (forO Tg B (xs.map enc) e) (.ok (xs.foldl f s0)) := by
  induction xs generalizing s0 e with
  | nil => exact ⟨e, rfl, H⟩
  | cons x xs ih =>
    obtain ⟨e', h1, h2⟩ := ht x s0 e H
    obtain ⟨e2, h3, h4⟩ := hb x s0 e' h2
    rw [List.map_cons]
    unfold forO
    rw [h1]
    simp only
    rw [h3]
    exact ih (f s0 x) h4
theorem tn_foldR {Tg : D → En → R En} {B : En → Out} {f : σ → β → R σ} {q : σ → β → Pat} (xs : List β) (s0 : σ) (H : EnvIs (P s0) e)
    (ht : ∀ x s e, EnvIs (P s) e → ∃ e', Tg (enc x) e = .ok e' ∧ EnvIs (q s x) e')
    (hb : ∀ x s e, EnvIs (q s x) e → TN P (B e) (f s x)) : TN P (forO Tg B (xs.map enc) e) (foldR f xs s0) := by
  induction xs generalizing s0 e with
  | nil => exact ⟨e, rfl, H⟩
  | cons x xs ih =>
    obtain ⟨e', h1, h2⟩ := ht x s0 e H
    have h3 := hb x s0 e' h2
    rw [List.map_cons]
    unfold forO foldR
    rw [h1]
    simp only
    cases hf : f s0 x with
    | ok s => rw [hf] at h3; obtain ⟨e2, h4, h5⟩ := h3; rw [h4]; exact ih s h5
    | exc c => rw [hf] at h3; obtain ⟨e2, h4⟩ := h3; rw [h4]; exact ⟨e2, rfl⟩
    | bad => trivial
theorem to_for {Tg : D → En → R En} {B : En → Out} {f : σ → β → OT σ α} {q : σ → β → Pat} (xs : List β) (s0 : σ) (H : EnvIs (P s0) e)
    (ht : ∀ x s e, EnvIs (P s) e → ∃ e', Tg (enc x) e = .ok e' ∧ EnvIs (q s x) e')
    (hb : ∀ x s e, EnvIs (q s x) e → TO P (B e) (f s x)) : TO P (forO Tg B (xs.map enc) e) (forT f xs s0) := by
  induction xs generalizing s0 e with
  | nil => exact ⟨e, rfl, H⟩
  | cons x xs ih =>
    obtain ⟨e', h1, h2⟩ := ht x s0 e H
    have h3 := hb x s0 e' h2
    rw [List.map_cons]
    unfold forO forT
    rw [h1]
    simp only
    cases hf : f s0 x with
    | nx s => rw [hf] at h3; obtain ⟨e2, h4, h5⟩ := h3; rw [h4]; exact ih s h5
    | ct s => rw [hf] at h3; obtain ⟨e2, h4, h5⟩ := h3; rw [h4]; exact ih s h5
    | bk s => rw [hf] at h3; obtain ⟨e2, h4, h5⟩ := h3; rw [h4]; exact ⟨e2, rfl, h5⟩
    | rt a => rw [hf] at h3; obtain ⟨e2, h4⟩ := h3; rw [h4]; exact ⟨e2, rfl⟩
    | exc c => rw [hf] at h3; obtain ⟨e2, h4⟩ := h3; rw [h4]; exact ⟨e2, rfl⟩
    | bad => trivial
variable {I : En → R (List D)} {Tg : D → En → R En} {Bo : En → Out}
theorem tn_forP {f : σ → β → σ} {q : σ → β → Pat} {xs : List β} {s0 : σ} (hi : I e = .ok (xs.map enc)) (H : EnvIs (P s0) e)
    (ht : ∀ x s e, EnvIs (P s) e → ∃ e', Tg (enc x) e = .ok e' ∧ EnvIs (q s x) e') (hb : ∀ x s e, EnvIs (q s x) e → TN P (Bo e) (.ok (f s x))) : TN P (sFor I Tg Bo e) (.ok (xs.foldl f s0)) := by
  show TN P (liftO (I e) e _) _; rw [hi]; exact tn_foldl xs s0 H ht hb
theorem tn_forR {f : σ → β → R σ} {q : σ → β → Pat} {xs : List β} {s0 : σ} (hi : I e = .ok (xs.map enc)) (H : EnvIs (P s0) e)
    (ht : ∀ x s e, EnvIs (P s) e → ∃ e', Tg (enc x) e = .ok e' ∧ EnvIs (q s x) e') (hb : ∀ x s e, EnvIs (q s x) e → TN P (Bo e) (f s x)) : TN P (sFor I Tg Bo e) (foldR f xs s0) := by
  show TN P (liftO (I e) e _) _; rw [hi]; exact tn_foldR xs s0 H ht hb
theorem tn_forM {f : σ → β → R σ} {q : σ → β → Pat} {r : R (List β)} {s0 : σ} (hi : Rr (I e) r (List.map enc)) (H : EnvIs (P s0) e)
    (ht : ∀ x s e, EnvIs (P s) e → ∃ e', Tg (enc x) e = .ok e' ∧ EnvIs (q s x) e') (hb : ∀ x s e, EnvIs (q s x) e → TN P (Bo e) (f s x)) : TN P (sFor I Tg Bo e) (r >>= fun xs => foldR f xs s0) := by
  show TN P (liftO (I e) e _) _
  cases r with
  | ok xs => rw [show I e = .ok (xs.map enc) from hi]; exact tn_foldR xs s0 H ht hb
  | exc c => rw [show I e = .exc c from hi]; exact ⟨e, rfl⟩
  | bad => trivial
theorem to_forP {f : σ → β → OT σ α} {q : σ → β → Pat} {xs : List β} {s0 : σ} (hi : I e = .ok (xs.map enc)) (H : EnvIs (P s0) e)
    (ht : ∀ x s e, EnvIs (P s) e → ∃ e', Tg (enc x) e = .ok e' ∧ EnvIs (q s x) e') (hb : ∀ x s e, EnvIs (q s x) e → TO P (Bo e) (f s x)) : TO P (sFor I Tg Bo e) (forT f xs s0) := by
  show TO P (liftO (I e) e _) _; rw [hi]; exact to_for xs s0 H ht hb
theorem to_forM {f : σ → β → OT σ α} {q : σ → β → Pat} {r : R (List β)} {s0 : σ} (hi : Rr (I e) r (List.map enc)) (H : EnvIs (P s0) e)
    (ht : ∀ x s e, EnvIs (P s) e → ∃ e', Tg (enc x) e = .ok e' ∧ EnvIs (q s x) e') (hb : ∀ x s e, EnvIs (q s x) e → TO P (Bo e) (f s x)) : TO P (sFor I Tg Bo e) (OT.bd r fun xs => forT f xs s0) := by
  show TO P (liftO (I e) e _) _
  cases r with
  | ok xs => rw [show I e = .ok (xs.map enc) from hi]; exact to_for xs s0 H ht hb
  | exc c => rw [show I e = .exc c from hi]; exact ⟨e, rfl⟩
  | bad => trivial
theorem tn_while {c : σ → R Bool} {f : σ → R σ} (n : Nat) {s0 : σ} (H : EnvIs (P s0) e) (hc : ∀ s e, EnvIs (P s) e → Rr (t e) (c s) id) (hb : ∀ s e, EnvIs (P s) e → TN P (Bo e) (f s)) : TN P (sWhile t Bo n e) (whileT c f n s0) := by
  show TN P (whileO t Bo n e) _
  induction n generalizing s0 e with
  | zero => trivial
  | succ n ih =>
    unfold whileO whileT
    have h1 := hc s0 e H
    cases q : c s0 with
    | ok k =>
      rw [q] at h1; rw [show t e = .ok k from h1]
      cases k with
      | false => exact ⟨e, rfl, H⟩
      | true =>
        have h2 := hb s0 e H
        show TN P (match Bo e with | .nx e => _ | .ct e => _ | .bk e => _ | o => o) (f s0 >>= _)
        cases z : f s0 with
        | ok s => rw [z] at h2; obtain ⟨e2, h4, h5⟩ := h2; rw [h4]; exact ih h5
        | exc c => rw [z] at h2; obtain ⟨e2, h4⟩ := h2; rw [h4]; exact ⟨e2, rfl⟩
        | bad => trivial
    | exc c => rw [q] at h1; rw [show t e = .exc c from h1]; exact ⟨e, rfl⟩
    | bad => trivial
-- comprehensions
theorem comp_go {T : D → En → R En} {C : En → R Bool} {F : En → R D} {g : β → R γ} {pr : β → R Bool} : ∀ (xs : List β), (∀ x : β, ∃ e1, T (enc x) e = .ok e1 ∧ Rr (C e1) (pr x) id ∧ Rr (F e1) (g x) enc) → Rr (compO T C F e (xs.map enc)) (compR pr g xs) (List.map enc)
  | [], _ => rfl
  | x :: xs, h => by
    obtain ⟨e1, h1, h2, h3⟩ := h x
    have ih := comp_go xs h
    rw [List.map_cons]
    unfold compO compR
    rw [h1]
    simp only
    cases q : pr x with
    | ok b =>
      rw [q] at h2; rw [show C e1 = .ok b from h2]
      cases b with
      | false => exact ih
      | true =>
        simp only
        cases z : g x with
        | ok y =>
          rw [z] at h3; rw [show F e1 = .ok (enc y) from h3]
          exact rr_bind ih fun ys => rfl
        | exc c => trivial
        | bad => trivial
    | exc c => trivial
    | bad => trivial
theorem compR_pp (p : β → Bool) (g : β → γ) : ∀ xs : List β, compR (fun x => .ok (p x)) (fun x => .ok (g x)) xs = .ok ((xs.filter p).map g)
  | [] => rfl
  | x :: xs => by
    unfold compR
    rw [compR_pp p g xs, List.filter_cons]
    cases p x <;> rfl
theorem compR_p (g : β → γ) : ∀ xs : List β, compR (fun _ => .ok true) (fun x => .ok (g x)) xs = .ok (xs.map g)
  | [] => rfl
  | x :: xs => by
    unfold compR
    rw [compR_p g xs]; rfl
variable {T : D → En → R En} {C : En → R Bool} {F : En → R D} {own : List Nat}
/-- [g x for x in xs if p x] -/
theorem lc_pp {xs : List β} {pr : β → Bool} {g : β → γ} {p1 : Pat} {q : β → Pat} (H : EnvIs p e) (hp : wipeP p own = p1) (hi : I e = .ok (xs.map enc)) (ht : ∀ x e, EnvIs p1 e → ∃ e1, T (enc x) e = .ok e1 ∧ EnvIs (q x) e1)
    (hc : ∀ x e, EnvIs (q x) e → C e = .ok (pr x)) (hf : ∀ x e, EnvIs (q x) e → F e = .ok (enc (g x))) : eComp I T C F own e = .ok (((xs.filter pr).map g).map enc) := by
  show (I e >>= fun ds => compO T C F (wipeE e own) ds) = _
  rw [hi]
  have := comp_go (e := wipeE e own) (T := T) (C := C) (F := F) (pr := fun x => .ok (pr x)) (g := fun x => .ok (g x)) xs fun x => by
    obtain ⟨e1, h1, h2⟩ := ht x (wipeE e own) (hp ▸ H.wipe own)
    exact ⟨e1, h1, hc x e1 h2, hf x e1 h2⟩
  rw [compR_pp] at this
  exact this
theorem lc_p {xs : List β} {g : β → γ} {p1 : Pat} {q : β → Pat} (H : EnvIs p e) (hp : wipeP p own = p1) (hi : I e = .ok (xs.map enc)) (ht : ∀ x e, EnvIs p1 e → ∃ e1, T (enc x) e = .ok e1 ∧ EnvIs (q x) e1)
    (hf : ∀ x e, EnvIs (q x) e → F e = .ok (enc (g x))) : eComp I T tTrue F own e = .ok ((xs.map g).map enc) := by
  show (I e >>= fun ds => compO T tTrue F (wipeE e own) ds) = _
  rw [hi]
  have := comp_go (e := wipeE e own) (T := T) (C := tTrue) (F := F) (pr := fun x => .ok true) (g := fun x => .ok (g x)) xs fun x => by
    obtain ⟨e1, h1, h2⟩ := ht x (wipeE e own) (hp ▸ H.wipe own)
    exact ⟨e1, h1, rfl, hf x e1 h2⟩
  rw [compR_p] at this
  exact this
theorem lc_m {r : R (List β)} {pr : β → R Bool} {g : β → R γ} {p1 : Pat} {q : β → Pat} (H : EnvIs p e) (hp : wipeP p own = p1) (hi : Rr (I e) r (List.map enc)) (ht : ∀ x e, EnvIs p1 e → ∃ e1, T (enc x) e = .ok e1 ∧ EnvIs (q x) e1)
    (hc : ∀ x e, EnvIs (q x) e → Rr (C e) (pr x) id) (hf : ∀ x e, EnvIs (q x) e → Rr (F e) (g x) enc) : Rr (eComp I T C F own e) (r >>= fun xs => compR pr g xs) (List.map enc) := by
  show Rr (I e >>= fun ds => compO T C F (wipeE e own) ds) _ _
  exact rr_bind hi fun xs => comp_go (e := wipeE e own) xs fun x => by
    obtain ⟨e1, h1, h2⟩ := ht x (wipeE e own) (hp ▸ H.wipe own)
    exact ⟨e1, h1, hc x e1 h2, hf x e1 h2⟩
theorem lc_xm {xs : List β} {pr : β → R Bool} {g : β → R γ} {p1 : Pat} {q : β → Pat} (H : EnvIs p e) (hp : wipeP p own = p1) (hi : I e = .ok (xs.map enc)) (ht : ∀ x e, EnvIs p1 e → ∃ e1, T (enc x) e = .ok e1 ∧ EnvIs (q x) e1)
    (hc : ∀ x e, EnvIs (q x) e → Rr (C e) (pr x) id) (hf : ∀ x e, EnvIs (q x) e → Rr (F e) (g x) enc) : Rr (eComp I T C F own e) (compR pr g xs) (List.map enc) := lc_m (r := .ok xs) H hp hi ht hc hf
theorem c_true : Rr (tTrue e) (.ok true) id := rfl
-- owned lists and dicts
section
variable {τ : Type} {J : Out → τ → Prop} {bd : ∀ {β : Type}, R β → (β → τ) → τ}
def pushL {α : Type} (xs : List α) (a : α) : R (List α) := if xs.length < sizeLine then .ok (xs ++ [a]) else .bad
theorem j_push (hJ : Jd J bd) {xs : List α} {a : α} {k : List α → τ} {q : List α → Pat} (H : EnvIs p e) (hx : p[i]? = some (so xs)) (h : A e = .ok (enc a)) (hq : ∀ xs : List α, p.set i (so xs) = q xs) (hk : ∀ xs e, EnvIs (q xs) e → J (G e) (k xs)) :
    J (sSeq (sMeth i A appO) G e) (bd (pushL xs a) k) := by
  have hx' := H.2 i _ hx
  unfold pushL
  split
  · rename_i hl
    have e1 : sSeq (sMeth i A appO) G e = G (e.set i (.ol ((xs ++ [a]).map enc))) := by
      show seqO (match e[i]? with | some (.ol _) => liftO (A e) e (appO i e) | _ => .bad) G = _
      rw [hx']; simp only; rw [h]
      show seqO (appO i e (enc a)) G = _
      unfold appO; rw [hx']; simp only [List.length_map]; rw [if_pos hl]
      rw [List.map_append]; rfl
    rw [e1]; exact hJ.ok (hk _ _ (hq _ ▸ H.set i))
  · exact hJ.bad
theorem j_pushM (hJ : Jd J bd) {xs : List α} {r : R α} {k : List α → τ} {q : List α → Pat} (H : EnvIs p e) (hx : p[i]? = some (so xs)) (h : Rr (A e) r enc) (hq : ∀ xs : List α, p.set i (so xs) = q xs) (hk : ∀ xs e, EnvIs (q xs) e → J (G e) (k xs)) :
    J (sSeq (sMeth i A appO) G e) (bd (r >>= fun a => pushL xs a) k) := by
  cases r with
  | ok a => exact j_push hJ H hx h hq hk
  | exc c =>
    have e1 : sSeq (sMeth i A appO) G e = .exc c e := by
      show seqO (match e[i]? with | some (.ol _) => liftO (A e) e (appO i e) | _ => .bad) G = _
      rw [H.2 i _ hx]; simp only; rw [show A e = .exc c from h]; rfl
    rw [e1]; exact hJ.exc
  | bad => exact hJ.bad
theorem j_ext (hJ : Jd J bd) {xs ys : List α} {k : List α → τ} {q : List α → Pat} (H : EnvIs p e) (hx : p[i]? = some (so xs)) (h : A e = .ok (enc ys)) (hq : ∀ xs : List α, p.set i (so xs) = q xs) (hk : ∀ xs e, EnvIs (q xs) e → J (G e) (k xs)) :
    J (sSeq (sMeth i A extO) G e) (bd (catL xs ys) k) := by
  have hx' := H.2 i _ hx
  unfold catL
  split
  · rename_i hl
    have e1 : sSeq (sMeth i A extO) G e = G (e.set i (.ol ((xs ++ ys).map enc))) := by
      show seqO (match e[i]? with | some (.ol _) => liftO (A e) e (extO i e) | _ => .bad) G = _
      rw [hx']; simp only; rw [h]
      show seqO (extO i e (.lst (ys.map enc))) G = _
      unfold extO; rw [hx']; simp only [List.length_map]; rw [if_pos hl]
      rw [List.map_append]; rfl
    rw [e1]; exact hJ.ok (hk _ _ (hq _ ▸ H.set i))
  · exact hJ.bad
theorem j_extM (hJ : Jd J bd) {xs : List α} {r : R (List α)} {k : List α → τ} {q : List α → Pat} (H : EnvIs p e) (hx : p[i]? = some (so xs)) (h : Rr (A e) r enc) (hq : ∀ xs : List α, p.set i (so xs) = q xs) (hk : ∀ xs e, EnvIs (q xs) e → J (G e) (k xs)) :
    J (sSeq (sMeth i A extO) G e) (bd (r >>= fun a => catL xs a) k) := by
  cases r with
  | ok a => exact j_ext hJ H hx h hq hk
  | exc c =>
    have e1 : sSeq (sMeth i A extO) G e = .exc c e := by
      show seqO (match e[i]? with | some (.ol _) => liftO (A e) e (extO i e) | _ => .bad) G = _
      rw [H.2 i _ hx]; simp only; rw [show A e = .exc c from h]; rfl
    rw [e1]; exact hJ.exc
  | bad => exact hJ.bad
/-- x = l.pop() -/
def popL {α : Type} (xs : List α) : R (α × List α) := match xs.getLast? with
  | some a => .ok (a, xs.dropLast)
  | none => .bad
theorem j_pop (hJ : Jd J bd) {j : Nat} {xs : List α} {k : α × List α → τ} {q : α × List α → Pat} (H : EnvIs p e) (hx : p[i]? = some (so xs)) (hq : ∀ x : α × List α, (p.set i (so x.2)).set j (sv x.1) = q x) (hk : ∀ x e, EnvIs (q x) e → J (G e) (k x)) :
    J (sSeq (sPop i (nameT j)) G e) (bd (popL xs) k) := by
  have hx' := H.2 i _ hx
  unfold popL
  cases hl : xs.getLast? with
  | none => exact hJ.bad
  | some a =>
    have e1 : sSeq (sPop i (nameT j)) G e = G ((e.set i (.ol (xs.dropLast.map enc))).set j (.d (enc a))) := by
      show seqO (popO i e (tgO (nameT j))) G = _
      unfold popO; rw [hx']; simp only; rw [List.getLast?_map, hl]; simp only [Option.map_some]
      show seqO (.nx _) G = _
      rw [List.map_dropLast]; rfl
    rw [e1]; exact hJ.ok (hk (a, xs.dropLast) _ (hq _ ▸ (H.set i).set j))
def putK [DecidableEq κ] (d : Dc κ α) (k : κ) (a : α) : Dc κ α := if hasK d k = true then ⟨d.l.map fun kv => if kv.1 = k then (kv.1, a) else kv⟩ else ⟨d.l ++ [(k, a)]⟩
theorem putD_enc [Enc κ] [KeyE κ] [DecidableEq κ] (d : Dc κ α) (k : κ) (a : α) : putD (dcK d) (KeyT.key k) (enc a) = dcK (putK d k a) := by
  unfold putD putK
  rw [any_key]
  split
  · unfold dcK
    rw [List.map_map, List.map_map]
    refine List.map_congr_left fun kv _ => ?_
    simp only [Function.comp]
    obtain ⟨x, y⟩ := kv
    by_cases h : x = k
    · subst h; simp
    · have : ¬ (KeyT.key x = (KeyT.key k : L2.Key)) := fun z => h (KeyT.inj _ _ z)
      simp [h, this]
  · unfold dcK; rw [List.map_append]; rfl
def putG [DecidableEq κ] (d : Dc κ α) (k : κ) (a : α) : R (Dc κ α) := if d.l.length < sizeLine then .ok (putK d k a) else .bad
theorem j_put [Enc κ] [KeyE κ] [DecidableEq κ] (hJ : Jd J bd) {d : Dc κ α} {y : κ} {a : α} {k : Dc κ α → τ} {q : Dc κ α → Pat} (H : EnvIs p e) (hx : p[i]? = some (sk d)) (hb : B e = .ok (enc y)) (h : A e = .ok (enc a)) (hq : ∀ d : Dc κ α, p.set i (sk d) = q d) (hk : ∀ d e, EnvIs (q d) e → J (G e) (k d)) :
    J (sSeq (sPut i B A) G e) (bd (putG d y a) k) := by
  have hx' := H.2 i _ hx
  unfold putG
  split
  · rename_i hl
    have e1 : sSeq (sPut i B A) G e = G (e.set i (.od (dcK (putK d y a)))) := by
      show seqO (match e[i]? with | some (.od _) => liftO (A e) e fun v => liftO (B e) e fun y => putO i y v e | _ => .bad) G = _
      rw [hx']; simp only; rw [h, hb]
      show seqO (putO i (enc y) (enc a) e) G = _
      unfold putO; rw [hx', KeyE.h]; simp only
      rw [if_pos (by show (dcK d).length < _; unfold dcK; rw [List.length_map]; exact hl), putD_enc]; rfl
    rw [e1]; exact hJ.ok (hk _ _ (hq _ ▸ H.set i))
  · exact hJ.bad
/-- e first, then the key -/
theorem j_putM [Enc κ] [KeyE κ] [DecidableEq κ] (hJ : Jd J bd) {d : Dc κ α} {ry : R κ} {r : R α} {k : Dc κ α → τ} {q : Dc κ α → Pat} (H : EnvIs p e) (hx : p[i]? = some (sk d)) (hb : Rr (B e) ry enc) (h : Rr (A e) r enc) (hq : ∀ d : Dc κ α, p.set i (sk d) = q d) (hk : ∀ d e, EnvIs (q d) e → J (G e) (k d)) :
    J (sSeq (sPut i B A) G e) (bd (r >>= fun a => ry >>= fun y => putG d y a) k) := by
  cases r with
  | ok a => cases ry with
    | ok y => exact j_put hJ H hx hb h hq hk
    | exc c =>
      have e1 : sSeq (sPut i B A) G e = .exc c e := by
        show seqO (match e[i]? with | some (.od _) => liftO (A e) e fun v => liftO (B e) e fun y => putO i y v e | _ => .bad) G = _
        rw [H.2 i _ hx]; simp only; rw [show A e = .ok (enc a) from h, show B e = .exc c from hb]; rfl
      rw [e1]; exact hJ.exc
    | bad => exact hJ.bad
  | exc c =>
    have e1 : sSeq (sPut i B A) G e = .exc c e := by
      show seqO (match e[i]? with | some (.od _) => liftO (A e) e fun v => liftO (B e) e fun y => putO i y v e | _ => .bad) G = _
      rw [H.2 i _ hx]; simp only; rw [show A e = .exc c from h]; rfl
    rw [e1]; exact hJ.exc
  | bad => exact hJ.bad
def dropK [DecidableEq κ] (d : Dc κ α) (k : κ) : R (Dc κ α) := if hasK d k = true then .ok ⟨d.l.filter fun kv => decide (kv.1 ≠ k)⟩ else .bad
theorem j_dropM [Enc κ] [KeyE κ] [DecidableEq κ] (hJ : Jd J bd) {d : Dc κ α} {r : R κ} {k : Dc κ α → τ} {q : Dc κ α → Pat} (H : EnvIs p e) (hx : p[i]? = some (sk d)) (h : Rr (B e) r enc) (hq : ∀ d : Dc κ α, p.set i (sk d) = q d) (hk : ∀ d e, EnvIs (q d) e → J (G e) (k d)) :
    J (sSeq (sPopK i B) G e) (bd (r >>= fun y => dropK d y) k) := by
  have hx' := H.2 i _ hx
  cases r with
  | ok y =>
    show J _ (bd (dropK d y) k)
    unfold dropK
    split
    · rename_i hh
      have e1 : sSeq (sPopK i B) G e = G (e.set i (.od (dcK (⟨d.l.filter fun kv => decide (kv.1 ≠ y)⟩ : Dc κ α)))) := by
        show seqO (match e[i]? with | some (.od _) => liftO (B e) e fun y => popKO i y e | _ => .bad) G = _
        rw [hx']; simp only; rw [show B e = .ok (enc y) from h]
        show seqO (popKO i (enc y) e) G = _
        unfold popKO; rw [hx', KeyE.h]; simp only
        rw [valD_enc]
        rw [hasK_get] at hh
        cases hg : getK d y with
        | none => rw [hg] at hh; cases hh
        | some a =>
          show seqO (.nx (e.set i (.od (dropD (dcK d) (KeyT.key y))))) G = _
          have : dropD (dcK d) (KeyT.key y) = dcK (⟨d.l.filter fun kv => decide (kv.1 ≠ y)⟩ : Dc κ α) := by
            unfold dropD dcK
            rw [List.filter_map]
            congr 1
            refine List.filter_congr fun kv _ => ?_
            simp only [Function.comp]
            obtain ⟨a, b⟩ := kv
            by_cases z : a = y
            · subst z; simp
            · have : ¬ (KeyT.key a = (KeyT.key y : L2.Key)) := fun w => z (KeyT.inj _ _ w)
              simp [z, this]
          rw [this]; rfl
      rw [e1]; exact hJ.ok (hk _ _ (hq _ ▸ H.set i))
    · exact hJ.bad
  | exc c =>
    have e1 : sSeq (sPopK i B) G e = .exc c e := by
      show seqO (match e[i]? with | some (.od _) => liftO (B e) e fun y => popKO i y e | _ => .bad) G = _
      rw [hx']; simp only; rw [show B e = .exc c from h]; rfl
    rw [e1]; exact hJ.exc
  | bad => exact hJ.bad
end
end
end Ty
namespace Ty
open PySem Dx Fo
open Enc (enc)
section
variable {σ σ' α β γ δ ε ζ κ τ : Type} [Enc α] [Enc β] [Enc γ] [Enc δ] [Enc ε] [Enc ζ] [KeyT κ] {p p' : Pat} {e : En} {i : Nat} {A B C : En → R D} {As : En → R (List D)} {G G1 G2 : En → Out} {t : En → R Bool} {o : Out} {P : σ → Pat}
/-- a block that ends, and fails nowhere -/
def TNp (P : σ → Pat) (o : Out) (s : σ) : Prop := TN P o (.ok s)
theorem tnp_nil {s : σ} (H : EnvIs (P s) e) : TNp P (sNil e) s := ⟨e, rfl, H⟩
theorem tnp_one {T : σ} (h : TNp P (sSeq G sNil e) T) : TNp P (G e) T := by rw [seq_nil] at h; exact h
theorem tnp_end {is : List Nat} {T : σ} {Q : σ → Pat} (h : TNp Q (G e) T) (hp : ∀ s, killP is (Q s) = P s) : TNp P (sEnd is G e) T := tn_end (T := .ok T) h hp
theorem tn_p {s : σ} (h : TNp P o s) : TN P o (.ok s) := h
/-- what never comes to its end -/
def TX (P : σ → Pat) (o : Out) (T : OT σ α) : Prop := ∀ G, TO P (seqO o G) T
theorem jTX : Jd (TX (α := α) P) (fun r k => OT.bd r k) := ⟨fun _ => ⟨_, rfl⟩, fun _ => trivial, fun h => h⟩
theorem to_tx {T : OT σ α} (h : TX P o T) : TO P (seqO o G) T := h G
theorem tx_ret {a : α} (h : A e = .ok (enc a)) : TX P (sRet A e) (.rt a) := fun G => ⟨e, by show seqO (liftO (A e) e _) G = _; rw [h]; rfl⟩
theorem tx_retM {T : R α} (h : Rr (A e) T enc) : TX P (sRet A e) (OT.bd T OT.rt) := fun G => by
  cases T with
  | ok a => exact ⟨e, by show seqO (liftO (A e) e _) G = _; rw [show A e = .ok (enc a) from h]; rfl⟩
  | exc c => exact ⟨e, by show seqO (liftO (A e) e _) G = _; rw [show A e = .exc c from h]; rfl⟩
  | bad => trivial
theorem tx_raise {c : Str} : TX (α := α) P (sRaise c e) (.exc c) := fun _ => ⟨e, rfl⟩
theorem tx_bk {s : σ} (H : EnvIs (P s) e) : TX (α := α) P (sBrk e) (.bk s) := fun _ => ⟨e, rfl, H⟩
theorem tx_ct {s : σ} (H : EnvIs (P s) e) : TX (α := α) P (sCnt e) (.ct s) := fun _ => ⟨e, rfl, H⟩
theorem tx_one {T : OT σ α} (h : TX P (sSeq G sNil e) T) : TX P (G e) T := by rw [seq_nil] at h; exact h
theorem tpa {r : R D} (a : α) (h : r = .ok (enc a)) : r = .ok (enc a) := h
theorem tpl {r : R (List D)} (xs : List α) (h : r = .ok (xs.map enc)) : r = .ok (xs.map enc) := h
theorem tma {r : R D} (t : R α) (h : Rr r t enc) : Rr r t enc := h
theorem tml {r : R (List D)} (t : R (List α)) (h : Rr r t (List.map enc)) : Rr r t (List.map enc) := h
theorem ttb {r : R Bool} (b : Bool) (h : r = .ok b) : r = .ok b := h
theorem ttm {r : R Bool} (t : R Bool) (h : Rr r t id) : Rr r t id := h
theorem op_addT {xs ys zs : List D} (hz : xs ++ ys = zs) (h : xs.length + ys.length ≤ 1000) : addR (.tup xs) (.tup ys) = .ok (.tup zs) := by subst hz; exact if_pos (sml h)
def eqDG (x y : D) : R Bool := if (dle 64 x && dle 64 y) = true then .ok (eqD x y) else .bad
theorem ro_eqD (x y : D) : Rr (eqR x y) (eqDG x y) enc := by
  unfold eqDG; split
  · rename_i h
    rw [Bool.and_eq_true] at h
    exact eqR_of h.1 h.2 _ Iff.rfl
  · trivial
theorem ro_neD (x y : D) : Rr (neR x y) (eqDG x y >>= fun k => .ok (!k)) enc := by
  unfold eqDG; split
  · rename_i h
    rw [Bool.and_eq_true] at h
    exact neR_of h.1 h.2 _ Iff.rfl
  · trivial
theorem op_isNo [EncN α] (a : α) : isR (enc a) .non = .ok (enc false) := by show (if isN .non = true then R.ok (D.bl (isN (enc a))) else .bad) = _; rw [EncN.nn]; rfl
theorem op_isNotNo [EncN α] (a : α) : isNotR (enc a) .non = .ok (enc true) := by show (if isN .non = true then R.ok (D.bl (!isN (enc a))) else .bad) = _; rw [EncN.nn]; rfl
def isiG (T : String) (x : D) : R Bool := if (T = "int" ∨ T = "bool" ∨ T = "str" ∨ T = "tuple") ∧ isFrz x = false then .ok (isTy T x) else .bad
theorem ro_isi (T : String) (x : D) : Rr (isiR T x) (isiG T x) enc := by
  unfold isiG isiR; split
  · rfl
  · trivial
theorem sc_of [EncS α] (a : α) : scR (enc a) = .ok (enc a) := by
  have h := EncS.sc a
  revert h
  generalize enc a = d
  intro h
  cases d <;> first | rfl | cases h
theorem rr_sc [EncS α] {r : R D} {T : R α} (h : Rr r T enc) : Rr (r >>= scR) T enc := by
  cases T with
  | ok a => rw [show r = .ok (enc a) from h]; exact sc_of a
  | exc c => rw [show r = .exc c from h]; rfl
  | bad => trivial
theorem w_callS {F : List D → R D} {γ : Type} {g : γ → D} {T : R γ} (h : Rr (As e >>= fun ds => F ds >>= scR) T g) : Rr (eCallS As F e) T g := h
theorem tp_callS [EncS α] {F : List D → R D} {ds : List D} {a : α} (h : As e = .ok ds) (h2 : F ds = .ok (enc a)) : eCallS As F e = .ok (enc a) := by
  show (As e >>= fun ds => F ds >>= scR) = _; rw [h]; show (F ds >>= scR) = _; rw [h2]; exact sc_of a
theorem tt_chain {f f' : D → D → R D} {x y z : D} {b c : Bool} (ha : A e = .ok x) (hb : B e = .ok y) (hc : C e = .ok z) (h1 : f x y = .ok (enc b)) (h2 : f' y z = .ok (enc c)) : tChain f f' A B C e = .ok (b && c) := by
  show (A e >>= fun x => B e >>= fun y => chainR f f' x y (C e) >>= boolR) = _
  rw [ha, hb, hc]; show (chainR f f' x y (.ok z) >>= boolR) = _
  unfold chainR; rw [h1]
  cases b
  · rfl
  · show (f' y z >>= boolR) = _; rw [h2]; rfl
theorem te_chain {f f' : D → D → R D} {x y z : D} {b c : Bool} (ha : A e = .ok x) (hb : B e = .ok y) (hc : C e = .ok z) (h1 : f x y = .ok (enc b)) (h2 : f' y z = .ok (enc c)) : eChain f f' A B C e = .ok (enc (b && c)) := by
  show (A e >>= fun x => B e >>= fun y => chainR f f' x y (C e)) = _
  rw [ha, hb, hc]; show chainR f f' x y (.ok z) = _
  unfold chainR; rw [h1]
  cases b
  · rfl
  · exact h2
theorem rr_chain {f f' : D → D → R D} {x y : D} {Cz : R D} {tb tc : R Bool} (h1 : Rr (f x y) tb enc) (h2 : Rr (Cz >>= fun z => f' y z) tc enc) : Rr (chainR f f' x y Cz) (tb >>= fun b => if b = true then tc else .ok false) enc := by
  unfold chainR
  cases tb with
  | ok b =>
    rw [show f x y = .ok (.bl b) from h1]
    cases b
    · rfl
    · exact h2
  | exc c => rw [show f x y = .exc c from h1]; rfl
  | bad => trivial
theorem w_chain' {f f' : D → D → R D} {T : R Bool} (h : Rr (A e >>= fun x => B e >>= fun y => chainR f f' x y (C e)) T enc) : Rr (eChain f f' A B C e) T enc := h
/-- a def that ends without return -/
theorem fn_N {n m : Nat} {ds : List D} {T : R Unit} {p0 : Pat} (hl : ds.length = n) (hp : (ds.map fun d => some (Slot.d d)) ++ List.replicate m none = p0) (h : ∀ e, EnvIs p0 e → TN (fun _ : Unit => List.replicate (n + m) none) (G e) T) : Rr (defR n m G ds) T enc := by
  have h := h _ (EnvIs.of ds m hp)
  unfold defR
  rw [if_pos hl]
  unfold runB
  cases T with
  | ok a => obtain ⟨e, h, _⟩ := h; rw [h]; rfl
  | exc c => obtain ⟨e, h⟩ := h; rw [h]; rfl
  | bad => trivial
theorem k_nil : kNil e = .ok (dcK (Dc.mk ([] : List (κ × α)))) := rfl
theorem tx_end {is : List Nat} {T : OT σ α} (h : TX P (G e) T) (hp : ∀ s, killP is (P s) = P s := by intro _; rfl) : TX P (sEnd is G e) T := fun G' => by
  have h := h sNil
  show TO P (seqO (endK is (G e)) G') T
  cases T with
  | nx s =>
    have h := fun G' => (by exact ‹TX P (G e) (.nx s)› G' : TO P (seqO (G e) G') (.nx s))
    have h1 := h fun e => .exc "" e
    cases q : G e with
    | nx e2 => rw [q] at h1; obtain ⟨e3, h2, _⟩ := h1; cases h2
    | _ => rw [q] at h1; obtain ⟨e3, h2, _⟩ := h1; cases h2
  | bk s =>
    obtain ⟨e2, h1, h2⟩ := h
    cases q : G e with
    | nx e3 => rw [q] at h1; cases h1
    | bk e3 => rw [q] at h1; cases h1; exact ⟨_, rfl, hp s ▸ h2.kills is⟩
    | _ => rw [q] at h1; cases h1
  | ct s =>
    obtain ⟨e2, h1, h2⟩ := h
    cases q : G e with
    | nx e3 => rw [q] at h1; cases h1
    | ct e3 => rw [q] at h1; cases h1; exact ⟨_, rfl, hp s ▸ h2.kills is⟩
    | _ => rw [q] at h1; cases h1
  | rt a =>
    obtain ⟨e2, h1⟩ := h
    cases q : G e with
    | nx e3 => rw [q] at h1; cases h1
    | rt d e3 => rw [q] at h1; cases h1; exact ⟨_, rfl⟩
    | _ => rw [q] at h1; cases h1
  | exc c =>
    obtain ⟨e2, h1⟩ := h
    cases q : G e with
    | nx e3 => rw [q] at h1; cases h1
    | exc d e3 => rw [q] at h1; cases h1; exact ⟨_, rfl⟩
    | _ => rw [q] at h1; cases h1
  | bad => trivial
theorem tr_endO {is : List Nat} {T : R α} (h : TR (G e) T) : TR (endK is (G e)) T := tr_end (is := is) h
theorem tx_endO {is : List Nat} {T : OT σ α} (h : TX P (G e) T) (hp : ∀ s, killP is (P s) = P s := by intro _; rfl) : TX P (endK is (G e)) T := tx_end (is := is) h hp
section
variable {J : Out → τ → Prop} {bd : ∀ {β : Type}, R β → (β → τ) → τ} {T : τ}
theorem j_ifE {is : List Nat} {c : Bool} {T1 T2 : τ} {q : Pat} (h : t e = .ok c) (h1 : J (seqO (endK is (G1 e)) G) T1) (H : EnvIs p e) (hq : killP is p = q) (hk : ∀ e, EnvIs q e → J (G e) T2) : J (sSeq (sEnd is (sIf t G1 sNil)) G e) (if c = true then T1 else T2) := by
  show J (seqO (endK is (liftO (t e) e _)) G) _; rw [h]; cases c
  · exact hk _ (hq ▸ H.kills is)
  · exact h1
theorem j_ifEM (hJ : Jd J bd) {is : List Nat} {r : R Bool} {T1 T2 : τ} {q : Pat} (h : Rr (t e) r id) (h1 : J (seqO (endK is (G1 e)) G) T1) (H : EnvIs p e) (hq : killP is p = q) (hk : ∀ e, EnvIs q e → J (G e) T2) : J (sSeq (sEnd is (sIf t G1 sNil)) G e) (bd r fun c => if c = true then T1 else T2) := by
  show J (seqO (endK is (liftO (t e) e _)) G) _
  cases r with
  | ok c =>
    rw [show t e = .ok c from h]; cases c
    · exact hJ.ok (hk _ (hq ▸ H.kills is))
    · exact hJ.ok h1
  | exc c => rw [show t e = .exc c from h]; exact hJ.exc
  | bad => exact hJ.bad
theorem j_frzS {s : Slot} {q : Pat} (H : EnvIs p e) (h : p[i]? = some (some s)) (hq : p.set i (some s.fz) = q) (hk : ∀ e, EnvIs q e → J (sSeq G1 G e) T) : J (sSeq (sFrz i G1) G e) T := hk _ (hq ▸ frz_of H h)
end
theorem tn_forMP {P' : σ' → Pat} {I : En → R (List D)} {Tg : D → En → R En} {Bo : En → Out} {f : σ' → β → σ'} {q : σ' → β → Pat} {r : R (List β)} {s0 : σ'} (hi : Rr (I e) r (List.map enc)) (H : EnvIs (P' s0) e)
    (ht : ∀ x s e, EnvIs (P' s) e → ∃ e', Tg (enc x) e = .ok e' ∧ EnvIs (q s x) e') (hb : ∀ x s e, EnvIs (q s x) e → TN P' (Bo e) (.ok (f s x))) : TN P' (sFor I Tg Bo e) (r >>= fun xs => .ok (xs.foldl f s0)) := by
  show TN P' (liftO (I e) e _) _
  cases r with
  | ok xs => rw [show I e = .ok (xs.map enc) from hi]; exact tn_foldl xs s0 H ht hb
  | exc c => rw [show I e = .exc c from hi]; exact ⟨e, rfl⟩
  | bad => trivial
theorem tpF_co [Co α γ] {r : R (List D)} {xs : List α} (h : r = .ok (xs.map enc)) : r = .ok ((xs.map (Co.f (β := γ))).map enc) := by rw [co_map]; exact h
theorem rrF_co [Co α γ] {r : R (List D)} {T : R (List α)} (h : Rr r T (List.map enc)) : Rr r (T >>= fun a => .ok (a.map (Co.f (β := γ)))) (List.map enc) := rr_map h fun xs => co_map xs
theorem tp_ofK {Ak : En → R (List (L2.Key × D))} {d : Dc κ α} (h : Ak e = .ok (dcK d)) : eOfK Ak e = .ok (enc d) := by show (Ak e >>= fun xs => R.ok (D.dic xs)) = _; rw [h]; rfl
def DP (F : En → R (List (L2.Key × D))) (e : En) (l : List (κ × α)) : Prop := F e = .ok (l.map fun kv => (KeyT.key kv.1, enc kv.2))
theorem ps_nil : DP (κ := κ) (α := α) pNil e [] := rfl
theorem ps_cons [Enc κ] [KeyE κ] {F : En → R (List (L2.Key × D))} {k : κ} {a : α} {l : List (κ × α)} (hk : A e = .ok (enc k)) (ha : B e = .ok (enc a)) (h : DP F e l) : DP (pCons A B F) e ((k, a) :: l) := by
  show (A e >>= fun y => B e >>= fun v => F e >>= fun r => kvR y v r) = _
  rw [hk, ha, show F e = _ from h]
  show kvR (enc k) (enc a) _ = _
  unfold kvR; rw [KeyE.h]; rfl
theorem k_disp [DecidableEq κ] {F : En → R (List (L2.Key × D))} (d : Dc κ α) (h : DP F e d.l) (hm : (d.l.foldl (fun acc kv => putK acc kv.1 kv.2) (Dc.mk [])) = d) (hl : d.l.length ≤ 15) [Enc κ] [KeyE κ] : kDisp F e = .ok (dcK d) := by
  show (F e >>= dispR) = _
  rw [show F e = _ from h]
  show dispR (dcK d) = _
  unfold dispR
  rw [if_pos (by show (dcK d).length ≤ 15; unfold dcK; rw [List.length_map]; exact hl)]
  have go : ∀ (l : List (κ × α)) (acc : Dc κ α), (l.map fun kv => ((KeyT.key kv.1 : L2.Key), enc kv.2)).foldl (fun acc kv => putD acc kv.1 kv.2) (dcK acc) = dcK (l.foldl (fun acc kv => putK acc kv.1 kv.2) acc) := by
    intro l
    induction l with
    | nil => intro acc; rfl
    | cons kv l ih => intro acc; rw [List.map_cons, List.foldl_cons, List.foldl_cons]; simp only; rw [putD_enc]; exact ih _
  have := go d.l (Dc.mk [])
  rw [hm] at this
  exact congrArg R.ok this
theorem w_rng2 {γ : Type} {g : γ → List D} {T : R γ} (h : Rr (A e >>= fun x => B e >>= fun y => range2R x y) T g) : Rr (fRng2 A B e) T g := h
def lenG (d : D) : R Int := match d with
  | .lst xs => .ok xs.length
  | .tup xs => .ok xs.length
  | .str z => .ok z.length
  | .frz ns => .ok ns.length
  | .dic kvs => .ok kvs.length
  | _ => .bad
theorem ro_lenG (d : D) : Rr (lenR [enc d]) (lenG d) enc := by
  cases d <;> first | rfl | trivial
theorem rr_boolD {r : R D} : Rr r (r >>= boolR) enc := by
  cases r with
  | ok d => cases d <;> first | rfl | trivial
  | exc c => rfl
  | bad => trivial
theorem op_tn (n : Nat) (hn : n ≤ 1000) {ds : List D} (h : ds.length = n) : tupR ds = .ok (.tup ds) := op_tup (sml (h ▸ hn))
theorem smn (n : Nat) (hn : n ≤ 1000) {m : Nat} (h : m = n) : m ≤ sizeLine := sml (h ▸ hn)
theorem op_addTn (n : Nat) (hn : n ≤ 1000) {xs ys zs : List D} (hz : xs ++ ys = zs) (h : xs.length + ys.length = n) : addR (.tup xs) (.tup ys) = .ok (.tup zs) := op_addT hz (h ▸ hn)
/-- a def that fails nowhere -/
def TRp (o : Out) (a : α) : Prop := TR o (.ok a)
theorem trp_ret {a : α} (h : A e = .ok (enc a)) : TRp (sRet A e) a := tr_ret (T := .ok a) h
theorem trp_x {a : α} (h : TRp o a) : TRp (seqO o G) a := tr_x (T := .ok a) h
theorem trp_one {a : α} (h : TRp (sSeq G sNil e) a) : TRp (G e) a := tr_nil (T := .ok a) h
theorem trp_end {is : List Nat} {a : α} (h : TRp (G e) a) : TRp (sEnd is G e) a := tr_end (T := .ok a) h
theorem trp_endO {is : List Nat} {a : α} (h : TRp (G e) a) : TRp (endK is (G e)) a := tr_endO (T := .ok a) h
theorem fn_ofP {n m : Nat} {ds : List D} {a : α} {p0 : Pat} (hl : ds.length = n) (hp : (ds.map fun d => some (Slot.d d)) ++ List.replicate m none = p0) (h : ∀ e, EnvIs p0 e → TRp (G e) a) : defR n m G ds = .ok (enc a) := fn_of (T := .ok a) hl hp h
def dictG [DecidableEq κ] (xs : List (κ × α)) : Dc κ α := xs.foldl (fun d kv => putK d kv.1 kv.2) (Dc.mk [])
theorem op_dictP [Enc κ] [KeyE κ] [DecidableEq κ] (xs : List (κ × α)) : dictPR [enc xs] = .ok (enc (dictG xs)) := by
  have e : kvsOf (xs.map enc) = some (xs.map fun kv => ((KeyT.key kv.1 : L2.Key), enc kv.2)) := by
    induction xs with
    | nil => rfl
    | cons kv xs ih =>
      show (match keyOf (enc kv.1) with | some key => (kvsOf (xs.map enc)).map ((key, enc kv.2) :: ·) | none => none) = _
      rw [KeyE.h, ih]; rfl
  show (match kvsOf (xs.map enc) with | some kvs => R.ok (D.dic (mergeD kvs)) | none => .bad) = _
  rw [e]
  have go : ∀ (l : List (κ × α)) (acc : Dc κ α), (l.map fun kv => ((KeyT.key kv.1 : L2.Key), enc kv.2)).foldl (fun acc kv => putD acc kv.1 kv.2) (dcK acc) = dcK (l.foldl (fun acc kv => putK acc kv.1 kv.2) acc) := by
    intro l
    induction l with
    | nil => intro acc; rfl
    | cons kv l ih => intro acc; rw [List.map_cons, List.foldl_cons, List.foldl_cons]; simp only; rw [putD_enc]; exact ih _
  exact congrArg (fun z => R.ok (D.dic z)) (go xs (Dc.mk []))
def lenSetG {κ : Type} [DecidableEq κ] (xs : List κ) : R Int := if xs.length < 4000 then .ok ((Sx.nub xs).length : Nat) else .bad
theorem ro_lenSetI (xs : List Int) : Rr (lenSetR (enc xs)) (lenSetG xs) enc := by
  unfold lenSetG; split
  · rename_i h
    show lenSetR (.lst (xs.map enc)) = _
    unfold lenSetR
    simp only [List.length_map, intsOf_enc]
    rw [if_pos h]; rfl
  · trivial
theorem ro_lenSetS (xs : List Str) : Rr (lenSetR (enc xs)) (lenSetG xs) enc := by
  unfold lenSetG; split
  · rename_i h
    show lenSetR (.lst (xs.map enc)) = _
    unfold lenSetR
    simp only [List.length_map]
    rw [if_pos h]
    cases xs with
    | nil => rfl
    | cons x xs =>
      have : intsOf ((x :: xs).map enc) = none := rfl
      simp only [this, strsOf_enc]; rfl
  · trivial
def sortSetI (xs : List Int) : R (List Int) := if xs.length < 4000 ∧ (Sx.nub xs).length < 64 then .ok (sortI (Sx.nub xs)) else .bad
theorem ro_sortSetI (xs : List Int) : Rr (sortedSetR (enc xs)) (sortSetI xs) enc := by
  unfold sortSetI; split
  · rename_i h
    show sortedSetR (.lst (xs.map enc)) = _
    unfold sortedSetR
    simp only [List.length_map, intsOf_enc]
    rw [if_pos h.1, if_pos h.2]; rfl
  · trivial
def sortSetS (xs : List Str) : R (List Str) := if xs.length < 4000 ∧ (Sx.nub xs).length < 64 then .ok (sortS (Sx.nub xs)) else .bad
theorem ro_sortSetS (xs : List Str) : Rr (sortedSetR (enc xs)) (sortSetS xs) enc := by
  unfold sortSetS; split
  · rename_i h
    show sortedSetR (.lst (xs.map enc)) = _
    unfold sortedSetR
    simp only [List.length_map]
    rw [if_pos h.1]
    cases xs with
    | nil => rfl
    | cons x xs =>
      have : intsOf ((x :: xs).map enc) = none := rfl
      simp only [this, strsOf_enc]
      rw [if_pos h.2]; rfl
  · trivial
def sortSetT (z : Str) : R (List Str) := if z.cps.size < 4000 ∧ (Sx.nub (chars z)).length < 64 then .ok (sortS (Sx.nub (chars z))) else .bad
theorem ro_sortSetT (z : Str) : Rr (sortedSetR (enc z)) (sortSetT z) enc := by
  unfold sortSetT; split
  · rename_i h
    show sortedSetR (.str z) = _
    unfold sortedSetR
    simp only
    rw [if_pos h.1]
    show (if (Sx.nub (chars z)).length < 64 then _ else _) = _
    rw [if_pos h.2]; rfl
  · trivial
end
end Ty

/-! Typed functions that were mirrored by hand. -/
namespace Ty
open PySem Dx Dn Fo
open Enc (enc)
noncomputable section
open Classical
theorem enc_sc (S : Tu Box) : enc S = scD S.l := rfl
theorem enc_ss (xs : List Str) : enc xs = sL xs := rfl
def g_drawn (ns : Fz) (k many : Int) : R Int := if ns.l.length ≤ 63 ∧ 0 < many then .ok (drawn ns.l k many) else .bad
theorem kg_drawn (ns : Fz) (k many : Int) : Rr (den__law_drawn [enc ns, enc k, enc many]) (g_drawn ns k many) enc := by
  unfold g_drawn; split
  · rename_i h; exact drawn_ok h.1 k h.2
  · trivial
theorem g_drawn_ok {ns : Fz} (h : ns.l.length ≤ 63) (k : Int) {many : Int} (hm : 0 < many) : g_drawn ns k many = .ok (drawn ns.l k many) := if_pos ⟨h, hm⟩
def g_scene (ns : Fz) (k : Int) : R (Tu Box) := if ns.l.length ≤ 63 then .ok ⟨scene ns.l k⟩ else .bad
theorem kg_scene (ns : Fz) (k : Int) : Rr (den__law_scene [enc ns, enc k]) (g_scene ns k) enc := by
  unfold g_scene; split
  · rename_i h; exact m_scene h k
  · trivial
theorem g_scene_ok {ns : Fz} (h : ns.l.length ≤ 63) (k : Int) : g_scene ns k = .ok ⟨scene ns.l k⟩ := if_pos h
/-- a scene as it should be -/
def okS (S : Tu Box) : Prop := wf [] S.l ∧ S.l.length ≤ 100
def g_box_of (S : Tu Box) (n : Str) : R Box := match findB S.l n with | some b => .ok b | none => .exc "NoBox"
theorem kg_box_of (S : Tu Box) (n : Str) : Rr (den_box_of [enc S, enc n]) (g_box_of S n) enc := by
  have h := m_box_of S.l n
  unfold g_box_of
  rw [show den_box_of [enc S, enc n] = _ from h]
  cases findB S.l n <;> rfl
def g_path_of (S : Tu Box) (n : Str) : R (List Str) := if okS S then (if n ∈ names S.l then .ok (path S.l n) else .exc "NoBox") else .bad
theorem kg_path_of (S : Tu Box) (n : Str) : Rr (den_path_of [enc S, enc n]) (g_path_of S n) enc := by
  unfold g_path_of; split
  · rename_i h
    split
    · rename_i hn; exact m_path_of h.1 h.2 hn
    · rename_i hn; exact m_path_none S.l hn
  · trivial
def g_children (S : Tu Box) (n : Str) : R (List Str) := .ok (children S.l n)
theorem kg_children (S : Tu Box) (n : Str) : Rr (den_children [enc S, enc n]) (g_children S n) enc := m_children S.l n
def g_painted (S : Tu Box) : R (List Str) := if okS S then .ok (kids S.l "") else .bad
theorem kg_painted (S : Tu Box) : Rr (den_painted [enc S]) (g_painted S) enc := by
  unfold g_painted; split
  · rename_i h; exact m_painted h.1 h.2
  · trivial
def g_below (S : Tu Box) (n : Str) : R (List Str) := if okS S then (if n ∈ names S.l then .ok (blk S.l n) else .exc "NoBox") else .bad
theorem kg_below (S : Tu Box) (n : Str) : Rr (den_below [enc S, enc n]) (g_below S n) enc := by
  unfold g_below; split
  · rename_i h
    split
    · rename_i hn; exact m_below h.1 h.2 hn
    · rename_i hn; exact m_below_none S.l hn
  · trivial
abbrev A4 := T4 Int Int Int Int
def ar4 (a : Area) : A4 := ⟨a.l, a.t, a.r, a.b⟩
theorem m_area_none (S : List Box) {n : Str} (hn : n ∉ names S) : den_area_of [scD S, .str n] = .exc "NoBox" := by
  have h := m_path_none S hn
  show runB _ g_area_of [scD S, .str n] = _
  unfold runB g_area_of
  simp [h]
def g_area_of (S : Tu Box) (n : Str) : R A4 := if okS S then (match findB S.l n with | some b => .ok (ar4 (areaA S.l b)) | none => .exc "NoBox") else .bad
theorem kg_area_of (S : Tu Box) (n : Str) : Rr (den_area_of [enc S, enc n]) (g_area_of S n) enc := by
  unfold g_area_of; split
  · rename_i h
    by_cases hn : n ∈ names S.l
    · obtain ⟨b, e, hb, rfl⟩ := find_some h.1 hn
      rw [e]; exact m_area_of h.1 h.2 hb
    · rw [find_none hn]; exact m_area_none S.l hn
  · trivial
theorem m_cut_none (S : List Box) {n : Str} (hn : n ∉ names S) : den_cut [scD S, .str n] = .exc "NoBox" := by
  have h := m_below_none S hn
  show runB _ g_cut [scD S, .str n] = _
  unfold runB g_cut
  simp [h]
theorem m_raised_none (S : List Box) {n : Str} (hn : n ∉ names S) : den_raised [scD S, .str n] = .exc "NoBox" := by
  have h := m_below_none S hn
  show runB _ g_raised [scD S, .str n] = _
  unfold runB g_raised
  simp [h]
def g_cut (S : Tu Box) (n : Str) : R (Tu Box) := if okS S then (if n ∈ names S.l then .ok ⟨cutS S.l n⟩ else .exc "NoBox") else .bad
theorem kg_cut (S : Tu Box) (n : Str) : Rr (den_cut [enc S, enc n]) (g_cut S n) enc := by
  unfold g_cut; split
  · rename_i h
    split
    · rename_i hn; exact m_cut h.1 h.2 hn
    · rename_i hn; exact m_cut_none S.l hn
  · trivial
def g_raised (S : Tu Box) (n : Str) : R (Tu Box) := if okS S then (if n ∈ names S.l then .ok ⟨raisedS S.l n⟩ else .exc "NoBox") else .bad
theorem kg_raised (S : Tu Box) (n : Str) : Rr (den_raised [enc S, enc n]) (g_raised S n) enc := by
  unfold g_raised; split
  · rename_i h
    split
    · rename_i hn; exact m_raised h.1 h.2 hn
    · rename_i hn; exact m_raised_none S.l hn
  · trivial
def g_is_touched (S : Tu Box) (n : Str) (x y : Int) : R Bool := if okS S ∧ n ∈ names S.l then .ok (touch S.l x y n) else .bad
theorem kg_is_touched (S : Tu Box) (n : Str) (x y : Int) : Rr (den_is_touched [enc S, enc n, enc x, enc y]) (g_is_touched S n x y) enc := by
  unfold g_is_touched; split
  · rename_i h
    obtain ⟨b, e, hb, e2⟩ := find_some h.1.1 h.2
    subst e2; exact m_is_touched h.1.1 h.1.2 hb x y
  · trivial
def g_is_shown (S : Tu Box) (n : Str) : R Bool := if okS S ∧ n ∈ names S.l then .ok (shown S.l n) else .bad
theorem kg_is_shown (S : Tu Box) (n : Str) : Rr (den_is_shown [enc S, enc n]) (g_is_shown S n) enc := by
  unfold g_is_shown; split
  · rename_i h
    obtain ⟨b, e, hb, e2⟩ := find_some h.1.1 h.2
    subst e2; exact m_is_shown h.1.1 h.1.2 hb
  · trivial
def g_all_hits (S : Tu Box) (x y : Int) : R (List Str) := if okS S then .ok (hits S.l x y) else .bad
theorem kg_all_hits (S : Tu Box) (x y : Int) : Rr (den_all_hits [enc S, enc x, enc y]) (g_all_hits S x y) enc := by
  unfold g_all_hits; split
  · rename_i h; exact m_all_hits h.1 h.2 x y
  · trivial
def hitO (S : List Box) (x y : Int) : Option Str := (hits S x y).head?
def g_hit (S : Tu Box) (x y : Int) : R (Option Str) := if okS S then .ok (hitO S.l x y) else .bad
theorem kg_hit (S : Tu Box) (x y : Int) : Rr (den_hit [enc S, enc x, enc y]) (g_hit S x y) enc := by
  unfold g_hit; split
  · rename_i h
    refine (m_hit h.1 h.2 x y).trans ?_
    unfold hitD hitO
    cases hits S.l x y <;> rfl
  · trivial
def g_hit_path (S : Tu Box) (x y : Int) : R (List Str) := if okS S then .ok (hitPath S.l x y) else .bad
theorem kg_hit_path (S : Tu Box) (x y : Int) : Rr (den_hit_path [enc S, enc x, enc y]) (g_hit_path S x y) enc := by
  unfold g_hit_path; split
  · rename_i h; exact m_hit_path h.1 h.2 x y
  · trivial
def g_points_of (S : Tu Box) (n : Str) : R Int := if okS S ∧ small S.l ∧ n ∈ names S.l then .ok (cntN S.l n : Nat) else .bad
theorem kg_points_of (S : Tu Box) (n : Str) : Rr (den_points_of [enc S, enc n]) (g_points_of S n) enc := by
  unfold g_points_of; split
  · rename_i h
    obtain ⟨b, e, hb, e2⟩ := find_some h.1.1 h.2.2
    subst e2
    have : cntN S.l b.nm = cnt S.l b := by unfold cntN; rw [e]
    rw [this]
    exact m_points_of h.1.1 h.1.2 h.2.1 hb
  · trivial
def g_law_box (S : Tu Box) (n : Str) : R Box := if okS S then (match findB S.l n with | some b => .ok b | none => .bad) else .bad
theorem kg_law_box (S : Tu Box) (n : Str) : Rr (den__law_box [enc S, enc n]) (g_law_box S n) enc := by
  unfold g_law_box; split
  · rename_i h
    by_cases hn : n ∈ names S.l
    · obtain ⟨b, e, hb, rfl⟩ := find_some h.1 hn
      rw [e]; exact m_law_box h.1 hb
    · rw [find_none hn]; trivial
  · trivial
def g_law_path (S : Tu Box) (n : Str) : R (List Str) := if okS S ∧ n ∈ names S.l then .ok (path S.l n) else .bad
theorem kg_law_path (S : Tu Box) (n : Str) : Rr (den__law_path [enc S, enc n]) (g_law_path S n) enc := by
  unfold g_law_path; split
  · rename_i h; exact m_law_path h.1.1 h.1.2 h.2
  · trivial
def g_law_hits (S : Tu Box) (x y : Int) : R (List Str) := if wf [] S.l ∧ S.l.length ≤ 8 then .ok (hits S.l x y) else .bad
theorem kg_law_hits (S : Tu Box) (x y : Int) : Rr (den__law_hits [enc S, enc x, enc y]) (g_law_hits S x y) enc := by
  unfold g_law_hits; split
  · rename_i h; exact m_law_hits h.1 h.2 x y
  · trivial
def g_law_hit_path (S : Tu Box) (x y : Int) : R (List Str) := if wf [] S.l ∧ S.l.length ≤ 8 then .ok (hitPath S.l x y) else .bad
theorem kg_law_hit_path (S : Tu Box) (x y : Int) : Rr (den__law_hit_path [enc S, enc x, enc y]) (g_law_hit_path S x y) enc := by
  unfold g_law_hit_path; split
  · rename_i h; exact m_law_hit_path h.1 h.2 x y
  · trivial
end
-- known ones, by computing
def isTr : R D → Bool
  | .ok (.bl true) => true
  | _ => false
theorem isTr_ok {r : R D} (h : isTr r = true) : r = .ok (.bl true) := by
  unfold isTr at h; split at h
  · rfl
  · cases h
theorem kg_known_touches : den__law_known_touches [] = .ok (enc true) := isTr_ok (by decide +kernel)
end Ty

/-! Reasoning about typed programs. -/
namespace Ty
open PySem Dx Fo
section
variable {σ α β γ κ : Type}
theorem foldR_ok (f : σ → β → R σ) (g : σ → β → σ) (I : σ → Prop) (xs : List β) (h : ∀ s x, I s → x ∈ xs → f s x = .ok (g s x) ∧ I (g s x)) (s : σ) (hs : I s) : foldR f xs s = .ok (xs.foldl g s) ∧ I (xs.foldl g s) := by
  induction xs generalizing s with
  | nil => exact ⟨rfl, hs⟩
  | cons x xs ih =>
    obtain ⟨h1, h2⟩ := h s x hs List.mem_cons_self
    unfold foldR
    rw [h1]
    exact ih (fun s x hs hx => h s x hs (List.mem_cons_of_mem _ hx)) _ h2
/-- by what is done -/
theorem foldR_inv (f : σ → β → R σ) (inv : List β → σ) (xs : List β) (h : ∀ pre x post, xs = pre ++ x :: post → f (inv pre) x = .ok (inv (pre ++ [x]))) : foldR f xs (inv []) = .ok (inv xs) := by
  have go : ∀ (rest pre : List β), xs = pre ++ rest → foldR f rest (inv pre) = .ok (inv xs) := by
    intro rest
    induction rest with
    | nil => intro pre e; rw [List.append_nil] at e; rw [e]; rfl
    | cons x rest ih =>
      intro pre e
      unfold foldR
      rw [h pre x rest e]
      exact ih (pre ++ [x]) (by rw [e]; simp)
  exact go xs [] rfl
theorem compR_ok (p : β → R Bool) (g : β → R γ) (p' : β → Bool) (g' : β → γ) (xs : List β) (h : ∀ x ∈ xs, p x = .ok (p' x) ∧ (p' x = true → g x = .ok (g' x))) : compR p g xs = .ok ((xs.filter p').map g') := by
  induction xs with
  | nil => rfl
  | cons x xs ih =>
    obtain ⟨h1, h2⟩ := h x List.mem_cons_self
    have ih := ih fun y hy => h y (List.mem_cons_of_mem _ hy)
    unfold compR
    rw [h1, List.filter_cons]
    cases q : p' x with
    | true => simp only [h2 q, ih, if_true]; rfl
    | false => simp only [ih, Bool.false_eq_true, if_false]
theorem compR_map (p : β → R Bool) (g : β → R γ) (g' : β → γ) (xs : List β) (hp : ∀ x ∈ xs, p x = .ok true) (hg : ∀ x ∈ xs, g x = .ok (g' x)) : compR p g xs = .ok (xs.map g') := by
  rw [compR_ok p g (fun _ => true) g' xs fun x hx => ⟨hp x hx, fun _ => hg x hx⟩, List.filter_eq_self.mpr fun _ _ => rfl]
theorem forT_same (f : σ → β → OT σ α) (xs : List β) (s : σ) (h : ∀ x ∈ xs, f s x = .nx s) : forT f xs s = .nx s := by
  induction xs with
  | nil => rfl
  | cons x xs ih =>
    unfold forT
    rw [h x List.mem_cons_self]
    exact ih fun y hy => h y (List.mem_cons_of_mem _ hy)
theorem forT_inv (f : σ → β → OT σ α) (inv : List β → σ) (xs : List β) (h : ∀ pre x post, xs = pre ++ x :: post → f (inv pre) x = .nx (inv (pre ++ [x])) ∨ f (inv pre) x = .ct (inv (pre ++ [x]))) : forT f xs (inv []) = .nx (inv xs) := by
  have go : ∀ (rest pre : List β), xs = pre ++ rest → forT f rest (inv pre) = .nx (inv xs) := by
    intro rest
    induction rest with
    | nil => intro pre e; rw [List.append_nil] at e; rw [e]; rfl
    | cons x rest ih =>
      intro pre e
      unfold forT
      rcases h pre x rest e with q | q <;> rw [q] <;> exact ih (pre ++ [x]) (by rw [e]; simp)
  exact go xs [] rfl
/-- an invariant that need not be a function of what is done -/
theorem forT_keep (f : σ → β → OT σ α) (I : List β → σ → Prop) (xs : List β) (h : ∀ pre x post s, xs = pre ++ x :: post → I pre s → ∃ s', (f s x = .nx s' ∨ f s x = .ct s') ∧ I (pre ++ [x]) s') (s : σ) (hs : I [] s) : ∃ s', forT f xs s = .nx s' ∧ I xs s' := by
  have go : ∀ (rest pre : List β) (s : σ), xs = pre ++ rest → I pre s → ∃ s', forT f rest s = .nx s' ∧ I xs s' := by
    intro rest
    induction rest with
    | nil => intro pre s e hs; rw [List.append_nil] at e; rw [e]; exact ⟨s, rfl, hs⟩
    | cons x rest ih =>
      intro pre s e hs
      obtain ⟨s', h1, h2⟩ := h pre x rest s e hs
      obtain ⟨s2, h3, h4⟩ := ih (pre ++ [x]) s' (by rw [e]; simp) h2
      refine ⟨s2, ?_, h4⟩
      unfold forT
      rcases h1 with q | q <;> rw [q] <;> exact h3
  exact go xs [] s rfl hs
theorem foldR_keep (f : σ → β → R σ) (I : List β → σ → Prop) (xs : List β) (h : ∀ pre x post s, xs = pre ++ x :: post → I pre s → ∃ s', f s x = .ok s' ∧ I (pre ++ [x]) s') (s : σ) (hs : I [] s) : ∃ s', foldR f xs s = .ok s' ∧ I xs s' := by
  have go : ∀ (rest pre : List β) (s : σ), xs = pre ++ rest → I pre s → ∃ s', foldR f rest s = .ok s' ∧ I xs s' := by
    intro rest
    induction rest with
    | nil => intro pre s e hs; rw [List.append_nil] at e; rw [e]; exact ⟨s, rfl, hs⟩
    | cons x rest ih =>
      intro pre s e hs
      obtain ⟨s', h1, h2⟩ := h pre x rest s e hs
      obtain ⟨s2, h3, h4⟩ := ih (pre ++ [x]) s' (by rw [e]; simp) h2
      refine ⟨s2, ?_, h4⟩
      unfold foldR
      rw [h1]; exact h3
  exact go xs [] s rfl hs
theorem bind_ex {α β : Type} {r : R β} {m : R α} {k : α → R β} {P : α → Prop} (h : ∃ a, m = .ok a ∧ P a) (hk : ∀ a, P a → k a = r) : (m >>= k) = r := by
  obtain ⟨a, h1, h2⟩ := h
  rw [h1]; exact hk a h2
theorem catL_ok {xs ys : List α} (h : xs.length + ys.length ≤ 16777216) : catL xs ys = .ok (xs ++ ys) := if_pos (by rw [sizeLine_eq]; exact h)
theorem catU_ok {xs ys : Tu α} (h : xs.l.length + ys.l.length ≤ 16777216) : catU xs ys = .ok ⟨xs.l ++ ys.l⟩ := if_pos (by rw [sizeLine_eq]; exact h)
theorem pushL_ok {xs : List α} {a : α} (h : xs.length < 16777216) : pushL xs a = .ok (xs ++ [a]) := if_pos (by rw [sizeLine_eq]; exact h)
theorem catS_ok {x y : Str} (h : x.length + y.length ≤ 16777216) : catS x y = .ok (x ++ y) := if_pos (by rw [sizeLine_eq]; exact h)
theorem rngG_ok {n : Int} (h : -16777216 ≤ n ∧ n ≤ 16777216) : rngG n = .ok ((List.range n.toNat).map fun i : Nat => (i : Int)) := if_pos h
theorem rngLG_ok {n : Int} (h : 0 ≤ n ∧ n ≤ 16777216) : rngLG n = .ok ((List.range n.toNat).map fun i : Nat => (i : Int)) := if_pos h
theorem rngLG_nat {n : Nat} (h : n ≤ 16777216) : rngLG (n : Int) = .ok ((List.range n).map fun i : Nat => (i : Int)) := by rw [rngLG_ok ⟨by omega, by omega⟩]; simp
theorem rng2G_ok {a b : Int} (h : -8388608 ≤ a ∧ a ≤ 8388608 ∧ -8388608 ≤ b ∧ b ≤ 8388608) : rng2G a b = .ok ((List.range (b - a).toNat).map fun i : Nat => a + (i : Int)) := if_pos h
theorem ixL_nat {xs : List α} {i : Nat} (h : i < xs.length) : ixL xs (i : Int) = .ok xs[i] := by
  unfold ixL; rw [atI_nat, List.getElem?_eq_getElem h]
theorem ixL_ok {xs : List α} {i : Int} (h0 : 0 ≤ i) (h1 : i < xs.length) : ∃ a, ixL xs i = .ok a ∧ a ∈ xs ∧ xs[i.toNat]? = some a := by
  obtain ⟨j, rfl⟩ := Int.eq_ofNat_of_zero_le h0
  have hj : j < xs.length := by omega
  exact ⟨xs[j], ixL_nat hj, List.getElem_mem _, by simp [hj]⟩
theorem ixL_0 (x : α) (xs : List α) : ixL (x :: xs) (0 : Int) = .ok x := by
  have := ixL_nat (xs := x :: xs) (i := 0) (by simp)
  simpa using this
theorem ixL_last {xs : List α} (h : xs ≠ []) : ixL xs (-(1 : Int)) = .ok (xs.getLast h) := by
  have hl : 0 < xs.length := List.length_pos_iff.mpr h
  unfold ixL L2.atI L2.ixN
  rw [if_neg (by omega), if_pos (by omega)]
  have e : (-(1 : Int) + (xs.length : Int)).toNat = xs.length - 1 := by omega
  simp only [Option.bind_some]
  rw [e, ← List.getLast?_eq_getElem?, List.getLast?_eq_some_getLast h]
theorem posL_ok [DecidableEq α] {xs : List α} {a : α} (h : a ∈ xs) : posL xs a = .ok ((xs.findIdx fun x => decide (x = a) : Nat) : Int) := if_pos h
theorem bool_R {b : Bool} (h : b = true) : (R.ok b : R Bool) = .ok true := by rw [h]
-- dicts
variable [KeyT κ] [DecidableEq κ]
def keysD (d : Dc κ α) : List κ := d.l.map (·.1)
theorem hasK_iff (d : Dc κ α) (k : κ) : hasK d k = true ↔ k ∈ keysD d := by
  unfold hasK keysD; rw [List.any_eq_true, List.mem_map]
  constructor
  · rintro ⟨kv, h, e⟩; exact ⟨kv, h, of_decide_eq_true e⟩
  · rintro ⟨kv, h, e⟩; exact ⟨kv, h, decide_eq_true e⟩
theorem putK_new {d : Dc κ α} {k : κ} {a : α} (h : k ∉ keysD d) : putK d k a = ⟨d.l ++ [(k, a)]⟩ := by
  unfold putK
  rw [if_neg fun z => h ((hasK_iff d k).mp z)]
theorem putG_ok {d : Dc κ α} {k : κ} {a : α} (h : d.l.length < 16777216) : putG d k a = .ok (putK d k a) := if_pos (by rw [sizeLine_eq]; exact h)
theorem getK_map {f : κ → α} {ks : List κ} {k : κ} (h : k ∈ ks) : getK (Dc.mk (ks.map fun k => (k, f k))) k = some (f k) := by
  unfold getK
  simp only
  induction ks with
  | nil => cases h
  | cons x xs ih =>
    rw [List.map_cons, List.find?_cons]
    by_cases e : x = k
    · subst e; simp
    · have := ih ((List.mem_cons.mp h).resolve_left fun z => e z.symm)
      simp only [decide_eq_false e]
      exact this
theorem getK_none {d : Dc κ α} {k : κ} (h : k ∉ keysD d) : getK d k = none := by
  unfold getK
  rw [Option.map_eq_none_iff, List.find?_eq_none]
  intro kv hkv z
  exact h (List.mem_map.mpr ⟨kv, hkv, of_decide_eq_true z⟩)
theorem getK_mem {d : Dc κ α} (nd : (keysD d).Nodup) {k : κ} {a : α} (h : (k, a) ∈ d.l) : getK d k = some a := by
  obtain ⟨l⟩ := d
  unfold getK
  unfold keysD at nd
  simp only at *
  induction l with
  | nil => cases h
  | cons x xs ih =>
    rw [List.map_cons, List.nodup_cons] at nd
    rw [List.find?_cons]
    rcases List.mem_cons.mp h with e | e
    · subst e; simp
    · have hne : ¬ x.1 = k := fun z => nd.1 (List.mem_map.mpr ⟨(k, a), e, z.symm⟩)
      simp only [decide_eq_false hne]
      exact ih nd.2 e
theorem ixK_ok {d : Dc κ α} {k : κ} {a : α} (h : getK d k = some a) : ixK d k = .ok a := by unfold ixK; rw [h]
theorem fold_put (f : κ → α) : ∀ (ks : List κ) (d : Dc κ α), ks.Nodup → (∀ k ∈ ks, k ∉ keysD d) → d.l.length + ks.length ≤ 16777216 → foldR (fun d k => putG d k (f k)) ks d = .ok ⟨d.l ++ ks.map fun k => (k, f k)⟩
  | [], d, _, _, _ => by simp [foldR]
  | k :: ks, d, nd, hn, hl => by
    rw [List.nodup_cons] at nd
    rw [List.length_cons] at hl
    unfold foldR
    rw [putG_ok (by omega), putK_new (hn k List.mem_cons_self)]
    have := fold_put f ks ⟨d.l ++ [(k, f k)]⟩ nd.2 (fun k' hk' z => by
      unfold keysD at z
      simp only [List.map_append, List.mem_append, List.map_cons, List.map_nil, List.mem_singleton] at z
      rcases z with z | z
      · exact hn k' (List.mem_cons_of_mem _ hk') z
      · subst z; exact nd.1 hk') (by simp; omega)
    show foldR _ ks _ = _
    rw [this]
    simp
end
end Ty

/-! Typed rules: texts, zip, count, walks of dicts. -/
namespace Ty
open PySem Dx Fo
open Enc (enc)
section
variable {α β γ δ κ τ : Type} [Enc α] [Enc β] {e : En} {A B : En → R D} {p : Pat} {i : Nat}
instance {ε δ : Type} [Enc ε] [Enc γ] [Enc δ] [Co α ε] [Co β ε] [Co γ ε] [Co δ ε] : Co (T4 α β γ δ) (Tu ε) := ⟨fun x => ⟨[Co.f x.a, Co.f x.b, Co.f x.c, Co.f x.d]⟩, fun x => by show D.tup [enc (Co.f x.a), enc (Co.f x.b), enc (Co.f x.c), enc (Co.f x.d)] = _; rw [Co.h, Co.h, Co.h, Co.h]; rfl⟩
/-! ### a text none or one time -/
def mulSG (a : Str) (n : Int) : R Str := if n = 0 then .ok "" else if n = 1 then .ok a else .bad
theorem ro_mulS (a : Str) (n : Int) : Rr (mulSR (enc a) (enc n)) (mulSG a n) enc := by
  unfold mulSG
  show Rr (if n = 0 then R.ok (D.str "") else if n = 1 then R.ok (D.str a) else R.bad) _ _
  split
  · rfl
  · split
    · rfl
    · trivial
/-! ### join, split -/
def joinG (a : Str) (ys : List Str) : R Str := if (ys.map (·.length)).sum + ys.length * a.length ≤ 16777216 ∧ sOk (Txt.join a ys) = true then .ok (Txt.join a ys) else .bad
theorem ro_join (a : Str) (ys : List Str) : Rr (joinR (enc a) (enc ys)) (joinG a ys) enc := by
  unfold joinG; split
  · rename_i h
    show joinR (.str a) (.lst (ys.map enc)) = _
    unfold joinR
    have : (itsLT (.lst (ys.map enc))).bind strsOf = some ys := strsOf_map ys
    rw [this]
    show (if _ then _ else _) = _
    rw [if_pos h]; rfl
  · trivial
theorem op_str (a : Str) : strR (enc a) = .ok (enc a) := (rfl)
theorem w_join {T : R γ} {g : γ → D} (h : Rr (A e >>= fun x => strR x >>= fun x => B e >>= fun y => joinR x y) T g) : Rr (eJoin A B e) T g := by
  unfold eJoin
  rw [R.assoc]; exact h
def splitG (a b : Str) : R (List Str) := if (b.length == 0) = false ∧ a.length + 2 ≤ sizeLine ∧ (Txt.split a b).length ≤ sizeLine ∧ (Txt.split a b).all sOk = true then .ok (Txt.split a b) else .bad
theorem ro_split (a b : Str) : Rr (splitR (enc a) (enc b)) (splitG a b) (List.map enc) := by
  unfold splitG; split
  · rename_i h
    show (if _ then _ else _) = _
    rw [if_pos h]; rfl
  · trivial
theorem w_split {T : R γ} {g : γ → List D} (h : Rr (A e >>= fun x => strR x >>= fun x => B e >>= fun y => splitR x y) T g) : Rr (eSplit A B e) T g := by
  unfold eSplit
  rw [R.assoc]; exact h
/-! ### str, int -/
def strG (i : Int) : R Str := if i.natAbs.log2 < 1920 ∧ sOk (strOfI i) = true then .ok (strOfI i) else .bad
theorem ro_strI (i : Int) : Rr (str1R [enc i]) (strG i) enc := by
  unfold strG; split
  · rename_i h; exact if_pos h
  · trivial
theorem op_strS (a : Str) : str1R [enc a] = .ok (enc a) := (rfl)
def strDG (d : D) : R Str := match d with
  | .int i => strG i
  | .str a => .ok a
  | _ => .bad
theorem ro_strD (d : D) : Rr (str1R [enc d]) (strDG d) enc := by
  cases d with
  | int i => exact ro_strI i
  | str a => exact (rfl : str1R [.str a] = .ok (.str a))
  | _ => trivial
def intTG (a : Str) : R Int := match PySem.intText? a with
  | some n => if a.length ≤ 640 then .ok n else .bad
  | none => .bad
theorem ro_intT (a : Str) : Rr (intTR [enc a]) (intTG a) enc := by
  unfold intTG
  split
  · rename_i n h
    split
    · rename_i hz
      show (match PySem.intText? a with | some n => if a.length ≤ 640 then R.ok (D.int n) else .bad | none => .bad) = _
      rw [h]; exact if_pos hz
    · trivial
  · trivial
/-! ### count -/
instance [EncS α] : EncS (Option α) := ⟨fun x => by
  cases x with
  | none => rfl
  | some a => exact EncS.sc a⟩
def countG [DecidableEq α] (xs : List α) (a : α) : Int := ((xs.countP fun z => decide (z = a) : Nat) : Int)
theorem op_count [EncE α] [EncS α] [DecidableEq α] (xs : List α) (a : α) : countR (enc xs) [enc a] = .ok (enc (countG xs a)) := by
  have hs : (xs.map enc).all scal0 = true := by rw [List.all_map, List.all_eq_true]; exact fun x _ => EncS.sc x
  show (if (scal0 (enc a) && (xs.map enc).all scal0) = true then _ else _) = _
  rw [if_pos (by rw [EncS.sc, hs]; rfl), List.countP_map]
  have : (((fun z => eqD z (enc a)) ∘ enc) : α → Bool) = fun z => decide (z = a) := by
    funext z
    have := EncE.heq z a
    by_cases h : z = a
    · simp [h, (EncE.heq a a).mpr rfl]
    · simp [h]
      cases q : eqD (enc z) (enc a)
      · rfl
      · exact absurd (this.mp q) h
  rw [this]; rfl
/-! ### zip -/
def zipR (x y : D) : R (List D) := itsD x >>= fun xs => itsD y >>= fun ys => .ok (pairs2 xs ys)
theorem w_zip {T : R γ} {g : γ → List D} (h : Rr (A e >>= fun x => B e >>= fun y => zipR x y) T g) : Rr (fZip A B e) T g := h
theorem iz_list (xs : List α) : itsD (enc xs) = .ok (xs.map enc) := (rfl)
theorem iz_tu (xs : Tu α) : itsD (enc xs) = .ok (xs.l.map enc) := (rfl)
theorem iz_str (z : Str) : itsD (enc z) = .ok ((chars z).map enc) := by show R.ok (charsD z) = _; rw [charsD_enc]
theorem op_zip {x y : D} {xs : List α} {ys : List β} (h1 : itsD x = .ok (xs.map enc)) (h2 : itsD y = .ok (ys.map enc)) : zipR x y = .ok ((xs.zip ys).map enc) := by
  unfold zipR; rw [h1, h2]
  show R.ok (pairs2 _ _) = _
  unfold pairs2
  rw [List.zip_map, List.map_map]; rfl
theorem tp_zip {x y : D} {xs : List α} {ys : List β} (ha : A e = .ok x) (hb : B e = .ok y) (h1 : itsD x = .ok (xs.map enc)) (h2 : itsD y = .ok (ys.map enc)) : fZip A B e = .ok ((xs.zip ys).map enc) := by
  show (A e >>= fun x => B e >>= fun y => zipR x y) = _
  rw [ha, hb]; exact op_zip h1 h2
instance : Co Box (Tu D) := ⟨fun b => ⟨[.str b.nm, .str b.ar, .int b.l, .int b.t, .int b.w, .int b.h, .str b.ms]⟩, fun _ => rfl⟩
/-! ### walks of dicts -/
theorem it_keys [KeyT κ] [Enc κ] [KeyD κ] (d : Dc κ α) : keysR (enc d) = .ok (((d.l.map (·.1))).map enc) := by
  show R.ok ((dcK d).map fun kv => keyD kv.1) = _
  unfold dcK
  rw [List.map_map, List.map_map]
  congr 1
  exact List.map_congr_left fun kv _ => KeyD.h kv.1
theorem j_ownK [KeyT κ] {J : Out → τ → Prop} {T : τ} {G1 G : En → Out} {d : Dc κ α} (H : EnvIs p e) (h : p[i]? = some (sk d)) (hk : J (sSeq G1 G e) T) : J (sSeq (sOwnK i G1) G e) T := by
  have : sOwnK i G1 e = G1 e := by unfold sOwnK; rw [H.2 i _ h]
  unfold sSeq at hk ⊢
  rw [this]; exact hk
end
end Ty

/-! Scenes whose boxes are changed, but for names and what is around them. -/
namespace Fo
open PySem Dx
section
variable {f : Box → Box}
/-- names and places in the tree stay -/
structure KeepB (f : Box → Box) : Prop where
  nm : ∀ b, (f b).nm = b.nm
  ar : ∀ b, (f b).ar = b.ar
theorem mp_names (k : KeepB f) (S : List Box) : names (S.map f) = names S := by
  unfold names
  rw [List.map_map]
  exact List.map_congr_left fun b _ => k.nm b
theorem mp_wf (k : KeepB f) : ∀ {S : List Box} {K : List Str}, wf K S → wf K (S.map f)
  | [], _, _ => trivial
  | b :: S, K, ⟨h0, h1, h2, h3⟩ => by
    show (f b).nm ≠ "" ∧ (f b).nm ∉ K ∧ ((f b).ar = "" ∨ (f b).ar ∈ K) ∧ wf ((f b).nm :: K) (S.map f)
    rw [k.nm, k.ar]
    exact ⟨h0, h1, h2, mp_wf k h3⟩
theorem mp_kids (k : KeepB f) : ∀ (S : List Box) (n : Str), kids (S.map f) n = kids S n
  | [], _ => rfl
  | b :: S, n => by
    show (if (f b).ar = n then (f b).nm :: kids (S.map f) (f b).nm ++ kids (S.map f) n else kids (S.map f) n) = _
    rw [k.nm, k.ar, mp_kids k S n, mp_kids k S b.nm]; rfl
theorem mp_pathR (k : KeepB f) : ∀ (S : List Box) (n : Str), pathR (S.map f) n = pathR S n
  | [], _ => rfl
  | b :: S, n => by
    show (if n = (f b).nm then pathR (S.map f) (f b).ar ++ [n] else pathR (S.map f) n) = _
    rw [k.nm, k.ar, mp_pathR k S n, mp_pathR k S b.ar]; rfl
theorem mp_path (k : KeepB f) (S : List Box) (n : Str) : path (S.map f) n = path S n := by
  unfold path
  rw [← List.map_reverse, mp_pathR k]
theorem mp_blk (k : KeepB f) (S : List Box) (n : Str) : blk (S.map f) n = blk S n := by unfold blk; rw [mp_kids k]
theorem mp_find (k : KeepB f) : ∀ (S : List Box) (n : Str), findB (S.map f) n = (findB S n).map f
  | [], _ => rfl
  | b :: S, n => by
    have ih := mp_find k S n
    unfold findB at ih ⊢
    rw [List.map_cons, List.find?_cons, List.find?_cons, k.nm]
    cases decide (b.nm = n)
    · exact ih
    · rfl
theorem mp_children (k : KeepB f) (S : List Box) (n : Str) : children (S.map f) n = children S n := by
  unfold children
  rw [List.filter_map, List.map_map]
  have : ((fun b : Box => decide (b.ar = n)) ∘ f) = fun b => decide (b.ar = n) := by funext b; simp [k.ar]
  rw [this]
  exact List.map_congr_left fun b _ => k.nm b
end
/-! ### marks -/
def setM (n : Str) (m : Str) (b : Box) : Box := if decide (b.nm = n) = true then { b with ms := m } else b
theorem setM_keep (n m : Str) : KeepB (setM n m) := ⟨fun b => by unfold setM; split <;> rfl, fun b => by unfold setM; split <;> rfl⟩
def setP (n : Str) (l t : Int) (b : Box) : Box := if decide (b.nm = n) = true then { b with l := l, t := t } else b
theorem setP_keep (n : Str) (l t : Int) : KeepB (setP n l t) := ⟨fun b => by unfold setP; split <;> rfl, fun b => by unfold setP; split <;> rfl⟩
theorem setM_other {n m : Str} {b : Box} (h : b.nm ≠ n) : setM n m b = b := by unfold setM; rw [if_neg (by simpa using h)]
theorem setP_other {n : Str} {l t : Int} {b : Box} (h : b.nm ≠ n) : setP n l t b = b := by unfold setP; rw [if_neg (by simpa using h)]
theorem setM_same {n m : Str} {b : Box} (h : b.nm = n) : setM n m b = { b with ms := m } := by unfold setM; rw [if_pos (by simpa using h)]
theorem setP_same {n : Str} {l t : Int} {b : Box} (h : b.nm = n) : setP n l t b = { b with l := l, t := t } := by unfold setP; rw [if_pos (by simpa using h)]
/-- boxes off the path do not matter -/
theorem offs_eq {S S' : List Box} : ∀ (ns : List Str), (∀ m ∈ ns, (findB S' m).map (fun b => (b.l, b.t)) = (findB S m).map fun b => (b.l, b.t)) → offs S' ns = offs S ns
  | [], _ => rfl
  | n :: ns, h => by
    rw [offs_cons, offs_cons, offs_eq ns fun m hm => h m (List.mem_cons_of_mem _ hm)]
    have := h n (by simp)
    cases e1 : findB S n <;> cases e2 : findB S' n <;> rw [e1, e2] at this <;> simp at this
    · show (_, _) = (_, _)
      rw [this.1, this.2]
section
variable {S : List Box} (w : wf [] S) {n : Str} (hn : n ∈ names S) {m : Str}
/-- a box hidden, all else as it was -/
theorem setM_offs (ns : List Str) : offs (S.map (setM n m)) ns = offs S ns := by
  refine offs_eq ns fun k _ => ?_
  rw [mp_find (setM_keep n m)]
  cases findB S k with
  | none => rfl
  | some b =>
    simp only [Option.map_some]
    by_cases h : b.nm = n
    · rw [setM_same h]
    · rw [setM_other h]
theorem setM_area {b b' : Box} (h1 : b'.nm = b.nm) (h2 : b'.w = b.w) (h3 : b'.h = b.h) : areaA (S.map (setM n m)) b' = areaA S b := by
  unfold areaA
  rw [h1, h2, h3, mp_path (setM_keep n m), setM_offs]
theorem setM_wh (b : Box) : (setM n m b).w = b.w ∧ (setM n m b).h = b.h := by unfold setM; split <;> exact ⟨rfl, rfl⟩
include w in
theorem setM_shown (hm : 104 ∈ m.cps.toList) {k : Str} (hk : k ∈ names S) : shown (S.map (setM n m)) k = (shown S k && !decide (n ∈ path S k)) := by
  unfold shown
  rw [mp_path (setM_keep n m)]
  have key : ∀ ns : List Str, (∀ j ∈ ns, j ∈ names S) → (ns.all fun j => match findB (S.map (setM n m)) j with | some b => !mark 104 b | none => true) = ((ns.all fun j => match findB S j with | some b => !mark 104 b | none => true) && !decide (n ∈ ns)) := by
    intro ns
    induction ns with
    | nil => intro _; simp
    | cons j ns ih =>
      intro hj
      rw [List.all_cons, List.all_cons, ih fun q hq => hj q (List.mem_cons_of_mem _ hq), mp_find (setM_keep n m)]
      obtain ⟨b, hb, hbS, e⟩ := find_some w (hj j (by simp))
      rw [hb]
      simp only [Option.map_some]
      by_cases h : b.nm = n
      · rw [setM_same h]
        have hjn : j = n := by rw [← e, h]
        have : mark 104 { b with ms := m } = true := by unfold mark; exact decide_eq_true hm
        rw [this]; simp [hjn]
      · rw [setM_other h]
        have hjn : n ≠ j := fun z => h (by rw [e, z])
        have : decide (n ∈ j :: ns) = decide (n ∈ ns) := by simp [hjn]
        rw [this]
        cases (!mark 104 b) <;> simp
  exact key _ fun j hj => path_names w hj
theorem setM_clips (ns : List Str) (h : n ∉ ns) : clips (S.map (setM n m)) ns = clips S ns := by
  induction ns with
  | nil => rfl
  | cons j ns ih =>
    have ih := ih fun z => h (List.mem_cons_of_mem _ z)
    show (match findB (S.map (setM n m)) j with | some b => if mark 99 b = true then [areaA (S.map (setM n m)) b] else [] | none => []) ++ clips (S.map (setM n m)) ns = (match findB S j with | some b => if mark 99 b = true then [areaA S b] else [] | none => []) ++ clips S ns
    rw [ih, mp_find (setM_keep n m)]
    cases e : findB S j with
    | none => rfl
    | some b =>
      have hb : b.nm = j := by
        have := List.find?_some e
        simpa using this
      simp only [Option.map_some]
      have : b.nm ≠ n := fun z => h (by rw [← z, hb]; simp)
      rw [setM_other this, setM_area rfl rfl rfl]
theorem touch_shown {S : List Box} {x y : Int} {k : Str} (h : touch S x y k = true) : shown S k = true := by
  unfold touch at h
  cases e : findB S k with
  | none => rw [e] at h; cases h
  | some b =>
    rw [e] at h
    have h : (shown S k && (has (areaA S b) x y && (clips S (path S k)).all fun a => has a x y)) = true := h
    exact (Bool.and_eq_true_iff.mp h).1
include w hn in
theorem setM_hits (hm : 104 ∈ m.cps.toList) (x y : Int) : hits (S.map (setM n m)) x y = (hits S x y).filter fun k => !decide (k ∈ blk S n) := by
  have n0 : n ≠ "" := (wf_new w n hn).1
  have mb : ∀ k ∈ names S, decide (n ∈ path S k) = decide (k ∈ blk S n) := fun k hk => by
    have := mem_blk w n0 hk
    by_cases z : k ∈ blk S n
    · rw [decide_eq_true z, decide_eq_true (this.mp z)]
    · rw [decide_eq_false z, decide_eq_false fun q => z (this.mpr q)]
  have tp : tops (S.map (setM n m)) = (tops S).filter fun k => !decide (k ∈ blk S n) := by
    unfold tops
    rw [mp_kids (setM_keep n m), List.filter_reverse, List.filter_filter]
    congr 1
    refine List.filter_congr fun k hk => ?_
    have hkn : k ∈ names S := kids_sub hk
    rw [setM_shown w hm hkn, mb k hkn]
    by_cases z : k ∈ blk S n
    · simp [z]
    · have hne : k ≠ n := fun e => z (by rw [e]; exact List.mem_cons_self ..)
      have : lets (S.map (setM n m)) k = lets S k := by
        unfold lets
        rw [mp_find (setM_keep n m)]
        obtain ⟨b, hb, hbS, e⟩ := find_some w hkn
        rw [hb]
        simp only [Option.map_some]
        rw [setM_other (by rw [e]; exact hne)]
      simp [z, this]
  unfold hits
  rw [tp, List.filter_filter, List.filter_filter]
  refine List.filter_congr fun k hk => ?_
  have hk : k ∈ kids S "" := by
    unfold tops at hk
    exact (List.mem_filter.mp (List.mem_reverse.mp hk)).1
  have hkn : k ∈ names S := kids_sub hk
  by_cases z : k ∈ blk S n
  · simp [z]
  · have hne : k ≠ n := fun e => z (by rw [e]; exact List.mem_cons_self ..)
    have hp : n ∉ path S k := fun q => z ((mem_blk w n0 hkn).mpr q)
    obtain ⟨b, hb, hbS, e⟩ := find_some w hkn
    have hb' : findB (S.map (setM n m)) k = some b := by rw [mp_find (setM_keep n m), hb]; simp [setM_other (show b.nm ≠ n from by rw [e]; exact hne)]
    have : touch (S.map (setM n m)) x y k = touch S x y k := by
      unfold touch
      rw [hb, hb']
      show (shown (S.map (setM n m)) k && (has (areaA (S.map (setM n m)) b) x y && (clips (S.map (setM n m)) (path (S.map (setM n m)) k)).all fun a => has a x y)) = (shown S k && (has (areaA S b) x y && (clips S (path S k)).all fun a => has a x y))
      rw [setM_shown w hm hkn, mb k hkn, setM_area rfl rfl rfl, mp_path (setM_keep n m), setM_clips _ hp]
      simp [z]
    simp [z, this]
include w hn in
theorem cut_hits (x y : Int) : hits (cutS S n) x y = (hits S x y).filter fun k => !decide (k ∈ blk S n) := by
  have w' := cut_wf w hn
  unfold hits tops
  rw [kids_cut w hn, List.filter_reverse, List.filter_reverse, List.filter_reverse, List.filter_filter, List.filter_filter, List.filter_filter, List.filter_filter]
  congr 1
  refine List.filter_congr fun k hk => ?_
  have hkn : k ∈ names S := kids_sub hk
  by_cases z : k ∈ blk S n
  · simp [z]
  · have hk' : k ∈ names (cutS S n) := cut_names.mpr ⟨hkn, z⟩
    rw [touch_sub w w' cut_subset hk', shown_sub w w' cut_subset hk', lets_sub w w' cut_subset hk']
    simp [z]
include w in
theorem raised_hits {b : Box} (hb : b ∈ S) (ha : b.ar = "") (x y : Int) : hits (raisedS S b.nm) x y = ((hits S x y).filter fun k => decide (k ∈ blk S b.nm)) ++ (hits S x y).filter fun k => !decide (k ∈ blk S b.nm) := by
  have hn : b.nm ∈ names S := mem_names.mpr ⟨b, hb, rfl⟩
  have w' := raised_wf w hn
  have pt : ∀ k ∈ kids S "", (touch (raisedS S b.nm) x y k && (shown (raisedS S b.nm) k && !lets (raisedS S b.nm) k)) = (touch S x y k && (shown S k && !lets S k)) := fun k hk => by
    have hk' : k ∈ names (raisedS S b.nm) := raised_names.mpr (kids_sub hk)
    rw [touch_sub w w' raised_subset hk', shown_sub w w' raised_subset hk', lets_sub w w' raised_subset hk']
  have e1 : ∀ T : List Box, hits T x y = ((kids T "").filter fun k => touch T x y k && (shown T k && !lets T k)).reverse := fun T => by
    unfold hits tops
    rw [List.filter_reverse, List.filter_filter]
  rw [e1, e1, kids_raised w hb ha, List.filter_append, List.reverse_append, List.filter_reverse, List.filter_reverse, List.filter_filter, List.filter_filter, List.filter_filter, List.filter_filter]
  congr 2
  · refine List.filter_congr fun k hk => ?_
    rw [pt k hk, Bool.and_comm]
  · refine List.filter_congr fun k hk => ?_
    rw [pt k hk, Bool.and_comm]
end
end Fo

/-! typed defs of k07, printed by tgen.py -/
namespace Ty
open PySem Dx Dn Fo
open Enc (enc)
noncomputable section
def t_marked (scene : (Tu Box)) (name1 : Str) (marks : Str) : R (Tu Box) :=
 ((g_box_of scene name1) >>= fun _ =>
 (R.ok (Tu.mk (List.map (fun (box : Box) => (if (decide (box.nm = name1)) = true then (Box.mk (T6.mk box.nm box.ar box.l box.t box.w box.h).a (T6.mk box.nm box.ar box.l box.t box.w box.h).b (T6.mk box.nm box.ar box.l box.t box.w box.h).c (T6.mk box.nm box.ar box.l box.t box.w box.h).d (T6.mk box.nm box.ar box.l box.t box.w box.h).e (T6.mk box.nm box.ar box.l box.t box.w box.h).f (T1.mk marks).a) else box)) (scene).l))))
theorem k_marked (scene : (Tu Box)) (name1 : Str) (marks : Str) : Rr (den_marked [enc scene, enc name1, enc marks]) (t_marked scene name1 marks) enc :=
  fn_of (p0 := [sv scene, sv name1, sv marks, none]) rfl rfl fun e H => (by unfold t_marked; exact (show TR (g_marked e) _ from
 (j_exprM (J := TR) jTR (tma (α := Box) (g_box_of scene name1) (w_un (am_p (tpa scene (tp_var H rfl)) (am_p (tpa name1 (tp_var H rfl)) (am_nil (kg_box_of _ _)))))) fun _ => (tr_ret (rr_p (tpa (Tu.mk (List.map (fun (box : Box) => (if (decide (box.nm = name1)) = true then (Box.mk (T6.mk box.nm box.ar box.l box.t box.w box.h).a (T6.mk box.nm box.ar box.l box.t box.w box.h).b (T6.mk box.nm box.ar box.l box.t box.w box.h).c (T6.mk box.nm box.ar box.l box.t box.w box.h).d (T6.mk box.nm box.ar box.l box.t box.w box.h).e (T6.mk box.nm box.ar box.l box.t box.w box.h).f (T1.mk marks).a) else box)) (scene).l)) (tp_un (a_cons (tp_ofF (tpl (List.map (fun (box : Box) => (if (decide (box.nm = name1)) = true then (Box.mk (T6.mk box.nm box.ar box.l box.t box.w box.h).a (T6.mk box.nm box.ar box.l box.t box.w box.h).b (T6.mk box.nm box.ar box.l box.t box.w box.h).c (T6.mk box.nm box.ar box.l box.t box.w box.h).d (T6.mk box.nm box.ar box.l box.t box.w box.h).e (T6.mk box.nm box.ar box.l box.t box.w box.h).f (T1.mk marks).a) else box)) (scene).l) (lc_p (p1 := [sv scene, sv name1, sv marks, none]) (q := fun box => [sv scene, sv name1, sv marks, sv box]) (g := fun (box : Box) => (if (decide (box.nm = name1)) = true then (Box.mk (T6.mk box.nm box.ar box.l box.t box.w box.h).a (T6.mk box.nm box.ar box.l box.t box.w box.h).b (T6.mk box.nm box.ar box.l box.t box.w box.h).c (T6.mk box.nm box.ar box.l box.t box.w box.h).d (T6.mk box.nm box.ar box.l box.t box.w box.h).e (T6.mk box.nm box.ar box.l box.t box.w box.h).f (T1.mk marks).a) else box)) H rfl (tpl (scene).l (tp_un (tpa scene (tp_var H rfl)) (it_tu _))) (fun box e H => tg_name H rfl) (fun box e H => (tpa (if (decide (box.nm = name1)) = true then (Box.mk (T6.mk box.nm box.ar box.l box.t box.w box.h).a (T6.mk box.nm box.ar box.l box.t box.w box.h).b (T6.mk box.nm box.ar box.l box.t box.w box.h).c (T6.mk box.nm box.ar box.l box.t box.w box.h).d (T6.mk box.nm box.ar box.l box.t box.w box.h).e (T6.mk box.nm box.ar box.l box.t box.w box.h).f (T1.mk marks).a) else box) (te_if (ttb (decide (box.nm = name1)) (tt_bin (tpa box.nm (tp_bin (tpa box (tp_var H rfl)) (tpa (0 : Int) (tp_c rfl)) (rfl))) (tpa name1 (tp_var H rfl)) (op_eq (α := Str) (by decide) _ _))) (tpa (Box.mk (T6.mk box.nm box.ar box.l box.t box.w box.h).a (T6.mk box.nm box.ar box.l box.t box.w box.h).b (T6.mk box.nm box.ar box.l box.t box.w box.h).c (T6.mk box.nm box.ar box.l box.t box.w box.h).d (T6.mk box.nm box.ar box.l box.t box.w box.h).e (T6.mk box.nm box.ar box.l box.t box.w box.h).f (T1.mk marks).a) (tp_bin (tpa (T6.mk box.nm box.ar box.l box.t box.w box.h) (tp_slice (tpa box (tp_var H rfl)) o_none (o_some (tpa (6 : Int) (tp_c rfl))) (rfl))) (tpa (T1.mk marks) (tp_un (a_cons (tpa marks (tp_var H rfl)) a_nil) (op_tn 1 (by decide) rfl))) (op_addTn 7 (by decide) rfl rfl))) (tpa box (tp_var H rfl)))))))) a_nil) (op_tuple _))))))))
def t_put_at (scene : (Tu Box)) (name1 : Str) (left1 : Int) (top : Int) : R (Tu Box) :=
 ((g_box_of scene name1) >>= fun _ =>
 (R.ok (Tu.mk (List.map (fun (box : Box) => (if (decide (box.nm = name1)) = true then (Box.mk (T4.mk (box.nm, box.ar).1 (box.nm, box.ar).2 (left1, top).1 (left1, top).2).a (T4.mk (box.nm, box.ar).1 (box.nm, box.ar).2 (left1, top).1 (left1, top).2).b (T4.mk (box.nm, box.ar).1 (box.nm, box.ar).2 (left1, top).1 (left1, top).2).c (T4.mk (box.nm, box.ar).1 (box.nm, box.ar).2 (left1, top).1 (left1, top).2).d (T3.mk box.w box.h box.ms).a (T3.mk box.w box.h box.ms).b (T3.mk box.w box.h box.ms).c) else box)) (scene).l))))
theorem k_put_at (scene : (Tu Box)) (name1 : Str) (left1 : Int) (top : Int) : Rr (den_put_at [enc scene, enc name1, enc left1, enc top]) (t_put_at scene name1 left1 top) enc :=
  fn_of (p0 := [sv scene, sv name1, sv left1, sv top, none]) rfl rfl fun e H => (by unfold t_put_at; exact (show TR (g_put_at e) _ from
 (j_exprM (J := TR) jTR (tma (α := Box) (g_box_of scene name1) (w_un (am_p (tpa scene (tp_var H rfl)) (am_p (tpa name1 (tp_var H rfl)) (am_nil (kg_box_of _ _)))))) fun _ => (tr_ret (rr_p (tpa (Tu.mk (List.map (fun (box : Box) => (if (decide (box.nm = name1)) = true then (Box.mk (T4.mk (box.nm, box.ar).1 (box.nm, box.ar).2 (left1, top).1 (left1, top).2).a (T4.mk (box.nm, box.ar).1 (box.nm, box.ar).2 (left1, top).1 (left1, top).2).b (T4.mk (box.nm, box.ar).1 (box.nm, box.ar).2 (left1, top).1 (left1, top).2).c (T4.mk (box.nm, box.ar).1 (box.nm, box.ar).2 (left1, top).1 (left1, top).2).d (T3.mk box.w box.h box.ms).a (T3.mk box.w box.h box.ms).b (T3.mk box.w box.h box.ms).c) else box)) (scene).l)) (tp_un (a_cons (tp_ofF (tpl (List.map (fun (box : Box) => (if (decide (box.nm = name1)) = true then (Box.mk (T4.mk (box.nm, box.ar).1 (box.nm, box.ar).2 (left1, top).1 (left1, top).2).a (T4.mk (box.nm, box.ar).1 (box.nm, box.ar).2 (left1, top).1 (left1, top).2).b (T4.mk (box.nm, box.ar).1 (box.nm, box.ar).2 (left1, top).1 (left1, top).2).c (T4.mk (box.nm, box.ar).1 (box.nm, box.ar).2 (left1, top).1 (left1, top).2).d (T3.mk box.w box.h box.ms).a (T3.mk box.w box.h box.ms).b (T3.mk box.w box.h box.ms).c) else box)) (scene).l) (lc_p (p1 := [sv scene, sv name1, sv left1, sv top, none]) (q := fun box => [sv scene, sv name1, sv left1, sv top, sv box]) (g := fun (box : Box) => (if (decide (box.nm = name1)) = true then (Box.mk (T4.mk (box.nm, box.ar).1 (box.nm, box.ar).2 (left1, top).1 (left1, top).2).a (T4.mk (box.nm, box.ar).1 (box.nm, box.ar).2 (left1, top).1 (left1, top).2).b (T4.mk (box.nm, box.ar).1 (box.nm, box.ar).2 (left1, top).1 (left1, top).2).c (T4.mk (box.nm, box.ar).1 (box.nm, box.ar).2 (left1, top).1 (left1, top).2).d (T3.mk box.w box.h box.ms).a (T3.mk box.w box.h box.ms).b (T3.mk box.w box.h box.ms).c) else box)) H rfl (tpl (scene).l (tp_un (tpa scene (tp_var H rfl)) (it_tu _))) (fun box e H => tg_name H rfl) (fun box e H => (tpa (if (decide (box.nm = name1)) = true then (Box.mk (T4.mk (box.nm, box.ar).1 (box.nm, box.ar).2 (left1, top).1 (left1, top).2).a (T4.mk (box.nm, box.ar).1 (box.nm, box.ar).2 (left1, top).1 (left1, top).2).b (T4.mk (box.nm, box.ar).1 (box.nm, box.ar).2 (left1, top).1 (left1, top).2).c (T4.mk (box.nm, box.ar).1 (box.nm, box.ar).2 (left1, top).1 (left1, top).2).d (T3.mk box.w box.h box.ms).a (T3.mk box.w box.h box.ms).b (T3.mk box.w box.h box.ms).c) else box) (te_if (ttb (decide (box.nm = name1)) (tt_bin (tpa box.nm (tp_bin (tpa box (tp_var H rfl)) (tpa (0 : Int) (tp_c rfl)) (rfl))) (tpa name1 (tp_var H rfl)) (op_eq (α := Str) (by decide) _ _))) (tpa (Box.mk (T4.mk (box.nm, box.ar).1 (box.nm, box.ar).2 (left1, top).1 (left1, top).2).a (T4.mk (box.nm, box.ar).1 (box.nm, box.ar).2 (left1, top).1 (left1, top).2).b (T4.mk (box.nm, box.ar).1 (box.nm, box.ar).2 (left1, top).1 (left1, top).2).c (T4.mk (box.nm, box.ar).1 (box.nm, box.ar).2 (left1, top).1 (left1, top).2).d (T3.mk box.w box.h box.ms).a (T3.mk box.w box.h box.ms).b (T3.mk box.w box.h box.ms).c) (tp_bin (tpa (T4.mk (box.nm, box.ar).1 (box.nm, box.ar).2 (left1, top).1 (left1, top).2) (tp_bin (tpa (box.nm, box.ar) (tp_slice (tpa box (tp_var H rfl)) o_none (o_some (tpa (2 : Int) (tp_c rfl))) (rfl))) (tpa (left1, top) (tp_un (a_cons (tpa left1 (tp_var H rfl)) (a_cons (tpa top (tp_var H rfl)) a_nil)) (op_tn 2 (by decide) rfl))) (op_addTn 4 (by decide) rfl rfl))) (tpa (T3.mk box.w box.h box.ms) (tp_slice (tpa box (tp_var H rfl)) (o_some (tpa (4 : Int) (tp_c rfl))) o_none (rfl))) (op_addTn 7 (by decide) rfl rfl))) (tpa box (tp_var H rfl)))))))) a_nil) (op_tuple _))))))))
def t_law_k07_b1 (shifted : (Tu Box)) (box : Box) : R (Tu Box) :=
 (if (decide (box.ar = ("" : Str))) = true then
 ((t_put_at shifted box.nm (box.l + (5 : Int)) (box.t - (4 : Int))) >>= fun shifted =>
 (.ok shifted))
 else
 (.ok shifted))
def t_law_k07_b3 (scene : (Tu Box)) (x : Int) (y : Int) (row : (List Str)) (name1 : Str) : OT Unit Bool :=
 (OT.bd ((g_box_of scene name1) >>= fun v9 => (.ok v9.ms)) fun marks =>
 (OT.bd (((g_is_touched scene name1 x y) >>= fun v10 => if v10 = true then (R.ok (!(hasC 108 marks))) else .ok false) >>= fun v11 => (.ok (!decide ((decide (name1 ∈ row)) = v11)))) fun v12 =>
 (if v12 = true then
 (.rt false)
 else
 (OT.bd (g_below scene name1) fun inner =>
 (OT.bd (((((catS marks ("h" : Str)) >>= fun v13 => (sortSetT v13)) >>= fun v14 => (joinG ("" : Str) v14)) >>= fun v15 => (t_marked scene name1 v15)) >>= fun v16 => (g_all_hits v16 x y)) fun hidden =>
 (OT.bd (if (!decide (hidden = (List.map (fun (one : Str) => one) (List.filter (fun (one : Str) => (!(decide (one ∈ inner)))) row)))) = true then .ok true else (((g_cut scene name1) >>= fun v17 => (g_all_hits v17 x y)) >>= fun v18 => (.ok (!decide (hidden = v18))))) fun v19 =>
 (if v19 = true then
 (.rt false)
 else
 (OT.bd (((g_hit scene x y) >>= fun v20 => (.ok (decide (v20 = (Co.f name1 : (Option Str)))))) >>= fun v22 => if v22 = true then ((g_path_of scene name1) >>= fun v21 => (.ok (decide (v21 = [name1])))) else .ok false) fun is_top =>
 (OT.bd (if is_top = true then (((g_raised scene name1) >>= fun v23 => (g_hit v23 x y)) >>= fun v24 => (.ok (!(decide (v24 ∈ (Co.f inner : (List (Option Str)))))))) else .ok false) fun v25 =>
 (if v25 = true then
 (.rt false)
 else
 (OT.bd (g_area_of scene name1) fun ⟨left1, top, right1, bottom⟩ =>
 (letT (!(((decide (left1 ≤ x)) && (decide (x < right1))) && ((decide (top ≤ y)) && (decide (y < bottom))))) fun is_out =>
 (if ((hasC 99 marks) && (is_out && (!decide ((List.map (fun (one : Str) => one) (List.filter (fun (one : Str) => (decide (one ∈ inner))) row)) = ([] : (List Str)))))) = true then
 (.rt false)
 else
 (.nx ()))))))))))))))
def t_law_k07_b2 (script : Fz) (scene : (Tu Box)) (shifted : (Tu Box)) (every : (List Str)) (k : Int) : OT Unit Bool :=
 (OT.bd ((g_drawn script ((100 : Int) + ((2 : Int) * k)) (16 : Int)) >>= fun v1 => (.ok (v1 - (4 : Int)))) fun x =>
 (OT.bd ((g_drawn script ((101 : Int) + ((2 : Int) * k)) (16 : Int)) >>= fun v2 => (.ok (v2 - (4 : Int)))) fun y =>
 (OT.bd (g_all_hits scene x y) fun row =>
 (OT.bd (compR (fun (name1 : Str) => R.ok true) (fun (name1 : Str) => (posL every name1)) row) fun places =>
 (OT.bd (if (!decide (places = (List.reverse (sortI places)))) = true then .ok true else ((g_hit scene x y) >>= fun v4 => (((catL (Co.f row : (List (Option Str))) (Co.f [()] : (List (Option Str)))) >>= fun v3 => (ixL v3 (0 : Int))) >>= fun v5 => (.ok (!decide (v4 = v5)))))) fun v6 =>
 (if v6 = true then
 (.rt false)
 else
 (OT.bd ((g_all_hits shifted (x + (5 : Int)) (y - (4 : Int))) >>= fun v7 => (.ok (!decide (v7 = row)))) fun v8 =>
 (if v8 = true then
 (.rt false)
 else
 (OT.sq (forT (fun (_ : Unit) (name1 : Str) => t_law_k07_b3 scene x y row name1) every ()) fun _ =>
 (.nx ()))))))))))
def t_law_k07 (script : Fz) : R Bool :=
 ((g_scene script (0 : Int)) >>= fun scene =>
 (letT scene fun shifted =>
 ((foldR (fun (shifted : (Tu Box)) (box : Box) => t_law_k07_b1 shifted box) (scene).l shifted) >>= fun shifted =>
 ((g_painted scene) >>= fun every =>
 (OT.thn (OT.bd (rngG (2 : Int)) fun v26 => forT (fun (_ : Unit) (k : Int) => t_law_k07_b2 script scene shifted every k) v26 ()) fun _ =>
 (R.ok true))))))
theorem k_law_k07 (script : Fz) : Rr (den_law_k07 [enc script]) (t_law_k07 script) enc :=
  fn_of (p0 := [sv script, none, none, none, none, none, none, none, none, none, none, none, none, none, none, none, none, none, none, none, none]) rfl rfl fun e H => (by unfold t_law_k07; exact (show TR (g_law_k07 e) _ from
 (j_setM (J := TR) jTR (q := fun scene => [sv script, sv scene, none, none, none, none, none, none, none, none, none, none, none, none, none, none, none, none, none, none, none]) H (tma (α := (Tu Box)) (g_scene script (0 : Int)) (w_un (am_p (tpa script (tp_var H rfl)) (am_p (tpa (0 : Int) (tp_c rfl)) (am_nil (kg_scene _ _)))))) (fun _ => rfl) fun scene e H => (j_set (J := TR)  (q := fun shifted => [sv script, sv scene, sv shifted, none, none, none, none, none, none, none, none, none, none, none, none, none, none, none, none, none, none]) H (tpa scene (tp_var H rfl)) (fun _ => rfl) fun shifted e H => (j_sqN (J := TR) jTR (P' := (fun (shifted : (Tu Box)) => [sv script, sv scene, sv shifted, none, none, none, none, none, none, none, none, none, none, none, none, none, none, none, none, none, none])) (tn_forR (P := (fun (shifted : (Tu Box)) => [sv script, sv scene, sv shifted, none, none, none, none, none, none, none, none, none, none, none, none, none, none, none, none, none, none])) (q := fun (shifted : (Tu Box)) (box : Box) => [sv script, sv scene, sv shifted, sv box, none, none, none, none, none, none, none, none, none, none, none, none, none, none, none, none, none]) (f := (fun (shifted : (Tu Box)) (box : Box) => t_law_k07_b1 shifted box)) (s0 := shifted) (tpl (scene).l (tp_un (tpa scene (tp_var H rfl)) (it_tu _))) ((EnvIs.mask [true, true, true, false, false, false, false, false, false, false, false, false, false, false, false, false, false, false, false, false, false] H).as rfl) (fun box shifted e H => tg_name H rfl) (fun box shifted e H => tn_end (Q := (fun (shifted : (Tu Box)) => [sv script, sv scene, sv shifted, none, none, none, none, none, none, none, none, none, none, none, none, none, none, none, none, none, none])) (j_if (J := TN (fun (shifted : (Tu Box)) => [sv script, sv scene, sv shifted, none, none, none, none, none, none, none, none, none, none, none, none, none, none, none, none, none, none])) (ttb (decide (box.ar = ("" : Str))) (tt_bin (tpa box.ar (tp_bin (tpa box (tp_var H rfl)) (tpa (1 : Int) (tp_c rfl)) (rfl))) (tpa ("" : Str) (tp_c rfl)) (op_eq (α := Str) (by decide) _ _)))
 (tn_one (j_setM (J := TN (fun (shifted : (Tu Box)) => [sv script, sv scene, sv shifted, none, none, none, none, none, none, none, none, none, none, none, none, none, none, none, none, none, none])) jTN (q := fun shifted => [sv script, sv scene, sv shifted, sv box, none, none, none, none, none, none, none, none, none, none, none, none, none, none, none, none, none]) H (tma (α := (Tu Box)) (t_put_at shifted box.nm (box.l + (5 : Int)) (box.t - (4 : Int))) (w_un (am_p (tpa shifted (tp_var H rfl)) (am_p (tpa box.nm (tp_bin (tpa box (tp_var H rfl)) (tpa (0 : Int) (tp_c rfl)) (rfl))) (am_p (tpa (box.l + (5 : Int)) (tp_bin (tpa box.l (tp_bin (tpa box (tp_var H rfl)) (tpa (2 : Int) (tp_c rfl)) (rfl))) (tpa (5 : Int) (tp_c rfl)) (op_add _ _))) (am_p (tpa (box.t - (4 : Int)) (tp_bin (tpa box.t (tp_bin (tpa box (tp_var H rfl)) (tpa (3 : Int) (tp_c rfl)) (rfl))) (tpa (4 : Int) (tp_c rfl)) (op_sub _ _))) (am_nil (k_put_at _ _ _ _)))))))) (fun _ => rfl) fun shifted e H => (tn_nil (P := (fun (shifted : (Tu Box)) => [sv script, sv scene, sv shifted, none, none, none, none, none, none, none, none, none, none, none, none, none, none, none, none, none, none])) (s := shifted) ((EnvIs.mask [true, true, true, false, false, false, false, false, false, false, false, false, false, false, false, false, false, false, false, false, false] H).as rfl))))
 (tn_nil (P := (fun (shifted : (Tu Box)) => [sv script, sv scene, sv shifted, none, none, none, none, none, none, none, none, none, none, none, none, none, none, none, none, none, none])) (s := shifted) ((EnvIs.mask [true, true, true, false, false, false, false, false, false, false, false, false, false, false, false, false, false, false, false, false, false] H).as rfl))) (fun _ => rfl))) fun shifted e H => (j_setM (J := TR) jTR (q := fun every => [sv script, sv scene, sv shifted, none, sv every, none, none, none, none, none, none, none, none, none, none, none, none, none, none, none, none]) H (tma (α := (List Str)) (g_painted scene) (w_un (am_p (tpa scene (tp_var H rfl)) (am_nil (kg_painted _))))) (fun _ => rfl) fun every e H => (tr_sqO (P' := (fun (_ : Unit) => [sv script, sv scene, sv shifted, none, sv every, none, none, none, none, none, none, none, none, none, none, none, none, none, none, none, none])) (to_forM (P := (fun (_ : Unit) => [sv script, sv scene, sv shifted, none, sv every, none, none, none, none, none, none, none, none, none, none, none, none, none, none, none, none])) (q := fun (_ : Unit) (k : Int) => [sv script, sv scene, sv shifted, none, sv every, sv k, none, none, none, none, none, none, none, none, none, none, none, none, none, none, none]) (f := (fun (_ : Unit) (k : Int) => t_law_k07_b2 script scene shifted every k)) (s0 := ()) (tml (α := Int) (rngG (2 : Int)) (w_un (ce_p (tpa (2 : Int) (tp_c rfl)) (ro_rng1 _)))) ((EnvIs.mask [true, true, true, false, true, false, false, false, false, false, false, false, false, false, false, false, false, false, false, false, false] H).as rfl) (fun k _ e H => tg_name H rfl) (fun k _ e H => to_end (Q := (fun (_ : Unit) => [sv script, sv scene, sv shifted, none, sv every, none, none, none, none, none, none, none, none, none, none, none, none, none, none, none, none])) (j_setM (J := TO (fun (_ : Unit) => [sv script, sv scene, sv shifted, none, sv every, none, none, none, none, none, none, none, none, none, none, none, none, none, none, none, none])) jTO (q := fun x => [sv script, sv scene, sv shifted, none, sv every, sv k, sv x, none, none, none, none, none, none, none, none, none, none, none, none, none, none]) H (tma (α := Int) ((g_drawn script ((100 : Int) + ((2 : Int) * k)) (16 : Int)) >>= fun v1 => (.ok (v1 - (4 : Int)))) (w_bin (ce_m (tma (α := Int) (g_drawn script ((100 : Int) + ((2 : Int) * k)) (16 : Int)) (w_un (am_p (tpa script (tp_var H rfl)) (am_p (tpa ((100 : Int) + ((2 : Int) * k)) (tp_bin (tpa (100 : Int) (tp_c rfl)) (tpa ((2 : Int) * k) (tp_bin (tpa (2 : Int) (tp_c rfl)) (tpa k (tp_var H rfl)) (op_mulL _ _ (by decide)))) (op_add _ _))) (am_p (tpa (16 : Int) (tp_c rfl)) (am_nil (kg_drawn _ _ _))))))) fun v1 => (ce_p (tpa (4 : Int) (tp_c rfl)) (rr_p (op_sub _ _)))))) (fun _ => rfl) fun x e H => (j_setM (J := TO (fun (_ : Unit) => [sv script, sv scene, sv shifted, none, sv every, none, none, none, none, none, none, none, none, none, none, none, none, none, none, none, none])) jTO (q := fun y => [sv script, sv scene, sv shifted, none, sv every, sv k, sv x, sv y, none, none, none, none, none, none, none, none, none, none, none, none, none]) H (tma (α := Int) ((g_drawn script ((101 : Int) + ((2 : Int) * k)) (16 : Int)) >>= fun v2 => (.ok (v2 - (4 : Int)))) (w_bin (ce_m (tma (α := Int) (g_drawn script ((101 : Int) + ((2 : Int) * k)) (16 : Int)) (w_un (am_p (tpa script (tp_var H rfl)) (am_p (tpa ((101 : Int) + ((2 : Int) * k)) (tp_bin (tpa (101 : Int) (tp_c rfl)) (tpa ((2 : Int) * k) (tp_bin (tpa (2 : Int) (tp_c rfl)) (tpa k (tp_var H rfl)) (op_mulL _ _ (by decide)))) (op_add _ _))) (am_p (tpa (16 : Int) (tp_c rfl)) (am_nil (kg_drawn _ _ _))))))) fun v2 => (ce_p (tpa (4 : Int) (tp_c rfl)) (rr_p (op_sub _ _)))))) (fun _ => rfl) fun y e H => (j_setM (J := TO (fun (_ : Unit) => [sv script, sv scene, sv shifted, none, sv every, none, none, none, none, none, none, none, none, none, none, none, none, none, none, none, none])) jTO (q := fun row => [sv script, sv scene, sv shifted, none, sv every, sv k, sv x, sv y, sv row, none, none, none, none, none, none, none, none, none, none, none, none]) H (tma (α := (List Str)) (g_all_hits scene x y) (w_un (am_p (tpa scene (tp_var H rfl)) (am_p (tpa x (tp_var H rfl)) (am_p (tpa y (tp_var H rfl)) (am_nil (kg_all_hits _ _ _))))))) (fun _ => rfl) fun row e H => (j_setDM (J := TO (fun (_ : Unit) => [sv script, sv scene, sv shifted, none, sv every, none, none, none, none, none, none, none, none, none, none, none, none, none, none, none, none])) jTO (q := fun places => [sv script, sv scene, sv shifted, none, sv every, sv k, sv x, sv y, sv row, sv places, none, none, none, none, none, none, none, none, none, none, none]) H (tml (α := Int) (compR (fun (name1 : Str) => R.ok true) (fun (name1 : Str) => (posL every name1)) row) (lc_xm (p1 := [sv script, sv scene, sv shifted, none, sv every, sv k, sv x, sv y, sv row, none, none, none, none, none, none, none, none, none, none, none, none]) (q := fun name1 => [sv script, sv scene, sv shifted, none, sv every, sv k, sv x, sv y, sv row, none, sv name1, none, none, none, none, none, none, none, none, none, none]) (pr := (fun (name1 : Str) => R.ok true)) (g := (fun (name1 : Str) => (posL every name1))) H rfl (tpl row (tp_un (tpa row (tp_var H rfl)) (it_list _))) (fun name1 e H => tg_name H rfl) (fun name1 e H => c_true) (fun name1 e H => (tma (α := Int) (posL every name1) (w_meth (ce_p (tpa every (tp_var H rfl)) (ce_p (op_lsty _) (am_p (tpa name1 (tp_var H rfl)) (am_nil (ro_pos (α := Str) (by decide) _ _)))))))))) (fun _ => rfl) fun places e H => (j_ifXM jTO (J := TO (fun (_ : Unit) => [sv script, sv scene, sv shifted, none, sv every, none, none, none, none, none, none, none, none, none, none, none, none, none, none, none, none])) (ttm (if (!decide (places = (List.reverse (sortI places)))) = true then .ok true else ((g_hit scene x y) >>= fun v4 => (((catL (Co.f row : (List (Option Str))) (Co.f [()] : (List (Option Str)))) >>= fun v3 => (ixL v3 (0 : Int))) >>= fun v5 => (.ok (!decide (v4 = v5)))))) (tm_orP (ttb (!decide (places = (List.reverse (sortI places)))) (tt_bin (tpa places (tp_var H rfl)) (tp_ofF (tpl (List.reverse (sortI places)) (tp_un (tpa (sortI places) (tp_un (a_cons (tpa places (tp_var H rfl)) a_nil) (op_sortI _))) (op_rev _)))) (op_ne (α := (List Int)) (by decide) _ _))) (ttm ((g_hit scene x y) >>= fun v4 => (((catL (Co.f row : (List (Option Str))) (Co.f [()] : (List (Option Str)))) >>= fun v3 => (ixL v3 (0 : Int))) >>= fun v5 => (.ok (!decide (v4 = v5))))) (w_tbin (ce_m (tma (α := (Option Str)) (g_hit scene x y) (w_un (am_p (tpa scene (tp_var H rfl)) (am_p (tpa x (tp_var H rfl)) (am_p (tpa y (tp_var H rfl)) (am_nil (kg_hit _ _ _))))))) fun v4 => (ce_m (tma (α := (Option Str)) ((catL (Co.f row : (List (Option Str))) (Co.f [()] : (List (Option Str)))) >>= fun v3 => (ixL v3 (0 : Int))) (w_bin (ce_m (tma (α := (List (Option Str))) (catL (Co.f row : (List (Option Str))) (Co.f [()] : (List (Option Str)))) (w_bin (ce_p (tp_co (γ := (List (Option Str))) (tpa row (tp_var H rfl))) (ce_p (tp_co (γ := (List (Option Str))) (tp_ofF (tpl [()] (tp_un (a_cons (tpa () (tp_c rfl)) a_nil) (op_lst [()] rfl (smn 1 (by decide) rfl)))))) (ro_catL _ _))))) fun v3 => (ce_p (tpa (0 : Int) (tp_c rfl)) (ro_ixL _ _))))) fun v5 => (rr_bool (rr_p (op_ne (α := (Option Str)) (by decide) _ _))))))))) (to_tx (tx_ret (tpa false (tp_c rfl)))) (j_seqnil (j_ifXM jTO (J := TO (fun (_ : Unit) => [sv script, sv scene, sv shifted, none, sv every, none, none, none, none, none, none, none, none, none, none, none, none, none, none, none, none])) (ttm ((g_all_hits shifted (x + (5 : Int)) (y - (4 : Int))) >>= fun v7 => (.ok (!decide (v7 = row)))) (w_tbin (ce_m (tma (α := (List Str)) (g_all_hits shifted (x + (5 : Int)) (y - (4 : Int))) (w_un (am_p (tpa shifted (tp_var H rfl)) (am_p (tpa (x + (5 : Int)) (tp_bin (tpa x (tp_var H rfl)) (tpa (5 : Int) (tp_c rfl)) (op_add _ _))) (am_p (tpa (y - (4 : Int)) (tp_bin (tpa y (tp_var H rfl)) (tpa (4 : Int) (tp_c rfl)) (op_sub _ _))) (am_nil (kg_all_hits _ _ _))))))) fun v7 => (ce_p (tpa row (tp_var H rfl)) (rr_bool (rr_p (op_ne (α := (List Str)) (by decide) _ _))))))) (to_tx (tx_ret (tpa false (tp_c rfl)))) (j_seqnil (to_one (to_sqO (P := (fun (_ : Unit) => [sv script, sv scene, sv shifted, none, sv every, none, none, none, none, none, none, none, none, none, none, none, none, none, none, none, none])) (P' := (fun (_ : Unit) => [sv script, sv scene, sv shifted, none, sv every, sv k, sv x, sv y, sv row, sv places, none, none, none, none, none, none, none, none, none, none, none])) (to_forP (P := (fun (_ : Unit) => [sv script, sv scene, sv shifted, none, sv every, sv k, sv x, sv y, sv row, sv places, none, none, none, none, none, none, none, none, none, none, none])) (q := fun (_ : Unit) (name1 : Str) => [sv script, sv scene, sv shifted, none, sv every, sv k, sv x, sv y, sv row, sv places, sv name1, none, none, none, none, none, none, none, none, none, none]) (f := (fun (_ : Unit) (name1 : Str) => t_law_k07_b3 scene x y row name1)) (s0 := ()) (tpl every (tp_un (tpa every (tp_var H rfl)) (it_list _))) ((EnvIs.mask [true, true, true, false, true, true, true, true, true, true, false, false, false, false, false, false, false, false, false, false, false] H).as rfl) (fun name1 _ e H => tg_name H rfl) (fun name1 _ e H => to_end (Q := (fun (_ : Unit) => [sv script, sv scene, sv shifted, none, sv every, sv k, sv x, sv y, sv row, sv places, none, none, none, none, none, none, none, none, none, none, none])) (j_setM (J := TO (fun (_ : Unit) => [sv script, sv scene, sv shifted, none, sv every, sv k, sv x, sv y, sv row, sv places, none, none, none, none, none, none, none, none, none, none, none])) jTO (q := fun marks => [sv script, sv scene, sv shifted, none, sv every, sv k, sv x, sv y, sv row, sv places, sv name1, sv marks, none, none, none, none, none, none, none, none, none]) H (tma (α := Str) ((g_box_of scene name1) >>= fun v9 => (.ok v9.ms)) (w_bin (ce_m (tma (α := Box) (g_box_of scene name1) (w_un (am_p (tpa scene (tp_var H rfl)) (am_p (tpa name1 (tp_var H rfl)) (am_nil (kg_box_of _ _)))))) fun v9 => (ce_p (tpa (6 : Int) (tp_c rfl)) (rr_p (rfl)))))) (fun _ => rfl) fun marks e H => (j_ifXM jTO (J := TO (fun (_ : Unit) => [sv script, sv scene, sv shifted, none, sv every, sv k, sv x, sv y, sv row, sv places, none, none, none, none, none, none, none, none, none, none, none])) (ttm (((g_is_touched scene name1 x y) >>= fun v10 => if v10 = true then (R.ok (!(hasC 108 marks))) else .ok false) >>= fun v11 => (.ok (!decide ((decide (name1 ∈ row)) = v11)))) (w_tbin (ce_p (tpa (decide (name1 ∈ row)) (tp_bin (tpa name1 (tp_var H rfl)) (tpa row (tp_var H rfl)) (op_in (inB_list (α := Str) (by decide) _ _)))) (ce_m (tma (α := Bool) ((g_is_touched scene name1 x y) >>= fun v10 => if v10 = true then (R.ok (!(hasC 108 marks))) else .ok false) (tem_andM (tma (α := Bool) (g_is_touched scene name1 x y) (w_un (am_p (tpa scene (tp_var H rfl)) (am_p (tpa name1 (tp_var H rfl)) (am_p (tpa x (tp_var H rfl)) (am_p (tpa y (tp_var H rfl)) (am_nil (kg_is_touched _ _ _ _)))))))) (rr_p (tpa (!(hasC 108 marks)) (tp_bin (tpa ("l" : Str) (tp_c rfl)) (tpa marks (tp_var H rfl)) (op_notIn (inB_sign (by decide +kernel) _))))))) fun v11 => (rr_bool (rr_p (op_ne (α := Bool) (by decide) _ _))))))) (to_tx (tx_ret (tpa false (tp_c rfl)))) (j_seqnil (j_setM (J := TO (fun (_ : Unit) => [sv script, sv scene, sv shifted, none, sv every, sv k, sv x, sv y, sv row, sv places, none, none, none, none, none, none, none, none, none, none, none])) jTO (q := fun inner => [sv script, sv scene, sv shifted, none, sv every, sv k, sv x, sv y, sv row, sv places, sv name1, sv marks, sv inner, none, none, none, none, none, none, none, none]) H (tma (α := (List Str)) (g_below scene name1) (w_un (am_p (tpa scene (tp_var H rfl)) (am_p (tpa name1 (tp_var H rfl)) (am_nil (kg_below _ _)))))) (fun _ => rfl) fun inner e H => (j_setM (J := TO (fun (_ : Unit) => [sv script, sv scene, sv shifted, none, sv every, sv k, sv x, sv y, sv row, sv places, none, none, none, none, none, none, none, none, none, none, none])) jTO (q := fun hidden => [sv script, sv scene, sv shifted, none, sv every, sv k, sv x, sv y, sv row, sv places, sv name1, sv marks, sv inner, sv hidden, none, none, none, none, none, none, none]) H (tma (α := (List Str)) (((((catS marks ("h" : Str)) >>= fun v13 => (sortSetT v13)) >>= fun v14 => (joinG ("" : Str) v14)) >>= fun v15 => (t_marked scene name1 v15)) >>= fun v16 => (g_all_hits v16 x y)) (w_un (am_m (tma (α := (Tu Box)) ((((catS marks ("h" : Str)) >>= fun v13 => (sortSetT v13)) >>= fun v14 => (joinG ("" : Str) v14)) >>= fun v15 => (t_marked scene name1 v15)) (w_un (am_p (tpa scene (tp_var H rfl)) (am_p (tpa name1 (tp_var H rfl)) (am_m (tma (α := Str) (((catS marks ("h" : Str)) >>= fun v13 => (sortSetT v13)) >>= fun v14 => (joinG ("" : Str) v14)) (w_join (ce_p (tpa ("" : Str) (tp_c rfl)) (ce_p (op_str _) (ce_m (tma (α := (List Str)) ((catS marks ("h" : Str)) >>= fun v13 => (sortSetT v13)) (w_un (ce_m (tma (α := Str) (catS marks ("h" : Str)) (w_bin (ce_p (tpa marks (tp_var H rfl)) (ce_p (tpa ("h" : Str) (tp_c rfl)) (ro_catS _ _))))) fun v13 => (ro_sortSetT _)))) fun v14 => (ro_join _ _)))))) fun v15 => (am_nil (k_marked _ _ _))))))) fun v16 => (am_p (tpa x (tp_var H rfl)) (am_p (tpa y (tp_var H rfl)) (am_nil (kg_all_hits _ _ _))))))) (fun _ => rfl) fun hidden e H => (j_ifXM jTO (J := TO (fun (_ : Unit) => [sv script, sv scene, sv shifted, none, sv every, sv k, sv x, sv y, sv row, sv places, none, none, none, none, none, none, none, none, none, none, none])) (ttm (if (!decide (hidden = (List.map (fun (one : Str) => one) (List.filter (fun (one : Str) => (!(decide (one ∈ inner)))) row)))) = true then .ok true else (((g_cut scene name1) >>= fun v17 => (g_all_hits v17 x y)) >>= fun v18 => (.ok (!decide (hidden = v18))))) (tm_orP (ttb (!decide (hidden = (List.map (fun (one : Str) => one) (List.filter (fun (one : Str) => (!(decide (one ∈ inner)))) row)))) (tt_bin (tpa hidden (tp_var H rfl)) (tp_ofF (tpl (List.map (fun (one : Str) => one) (List.filter (fun (one : Str) => (!(decide (one ∈ inner)))) row)) (lc_pp (p1 := [sv script, sv scene, sv shifted, none, sv every, sv k, sv x, sv y, sv row, sv places, sv name1, sv marks, sv inner, sv hidden, none, none, none, none, none, none, none]) (q := fun one => [sv script, sv scene, sv shifted, none, sv every, sv k, sv x, sv y, sv row, sv places, sv name1, sv marks, sv inner, sv hidden, none, none, none, none, none, none, sv one]) (pr := fun (one : Str) => (!(decide (one ∈ inner)))) (g := fun (one : Str) => one) H rfl (tpl row (tp_un (tpa row (tp_var H rfl)) (it_list _))) (fun one e H => tg_name H rfl) (fun one e H => (ttb (!(decide (one ∈ inner))) (tt_bin (tpa one (tp_var H rfl)) (tpa inner (tp_var H rfl)) (op_notIn (inB_list (α := Str) (by decide) _ _))))) (fun one e H => (tpa one (tp_var H rfl)))))) (op_ne (α := (List Str)) (by decide) _ _))) (ttm (((g_cut scene name1) >>= fun v17 => (g_all_hits v17 x y)) >>= fun v18 => (.ok (!decide (hidden = v18)))) (w_tbin (ce_p (tpa hidden (tp_var H rfl)) (ce_m (tma (α := (List Str)) ((g_cut scene name1) >>= fun v17 => (g_all_hits v17 x y)) (w_un (am_m (tma (α := (Tu Box)) (g_cut scene name1) (w_un (am_p (tpa scene (tp_var H rfl)) (am_p (tpa name1 (tp_var H rfl)) (am_nil (kg_cut _ _)))))) fun v17 => (am_p (tpa x (tp_var H rfl)) (am_p (tpa y (tp_var H rfl)) (am_nil (kg_all_hits _ _ _))))))) fun v18 => (rr_bool (rr_p (op_ne (α := (List Str)) (by decide) _ _))))))))) (to_tx (tx_ret (tpa false (tp_c rfl)))) (j_seqnil (j_setM (J := TO (fun (_ : Unit) => [sv script, sv scene, sv shifted, none, sv every, sv k, sv x, sv y, sv row, sv places, none, none, none, none, none, none, none, none, none, none, none])) jTO (q := fun is_top => [sv script, sv scene, sv shifted, none, sv every, sv k, sv x, sv y, sv row, sv places, sv name1, sv marks, sv inner, sv hidden, sv is_top, none, none, none, none, none, none]) H (tma (α := Bool) (((g_hit scene x y) >>= fun v20 => (.ok (decide (v20 = (Co.f name1 : (Option Str)))))) >>= fun v22 => if v22 = true then ((g_path_of scene name1) >>= fun v21 => (.ok (decide (v21 = [name1])))) else .ok false) (tem_andM (tma (α := Bool) ((g_hit scene x y) >>= fun v20 => (.ok (decide (v20 = (Co.f name1 : (Option Str)))))) (w_bin (ce_m (tma (α := (Option Str)) (g_hit scene x y) (w_un (am_p (tpa scene (tp_var H rfl)) (am_p (tpa x (tp_var H rfl)) (am_p (tpa y (tp_var H rfl)) (am_nil (kg_hit _ _ _))))))) fun v20 => (ce_p (tp_co (γ := (Option Str)) (tpa name1 (tp_var H rfl))) (rr_p (op_eq (α := (Option Str)) (by decide) _ _)))))) (tma (α := Bool) ((g_path_of scene name1) >>= fun v21 => (.ok (decide (v21 = [name1])))) (w_bin (ce_m (tma (α := (List Str)) (g_path_of scene name1) (w_un (am_p (tpa scene (tp_var H rfl)) (am_p (tpa name1 (tp_var H rfl)) (am_nil (kg_path_of _ _)))))) fun v21 => (ce_p (tp_ofF (tpl [name1] (tp_un (a_cons (tpa name1 (tp_var H rfl)) a_nil) (op_lst [name1] rfl (smn 1 (by decide) rfl))))) (rr_p (op_eq (α := (List Str)) (by decide) _ _)))))))) (fun _ => rfl) fun is_top e H => (j_ifXM jTO (J := TO (fun (_ : Unit) => [sv script, sv scene, sv shifted, none, sv every, sv k, sv x, sv y, sv row, sv places, none, none, none, none, none, none, none, none, none, none, none])) (ttm (if is_top = true then (((g_raised scene name1) >>= fun v23 => (g_hit v23 x y)) >>= fun v24 => (.ok (!(decide (v24 ∈ (Co.f inner : (List (Option Str)))))))) else .ok false) (tm_andP (tt_val (tpa is_top (tp_var H rfl))) (ttm (((g_raised scene name1) >>= fun v23 => (g_hit v23 x y)) >>= fun v24 => (.ok (!(decide (v24 ∈ (Co.f inner : (List (Option Str)))))))) (w_tbin (ce_m (tma (α := (Option Str)) ((g_raised scene name1) >>= fun v23 => (g_hit v23 x y)) (w_un (am_m (tma (α := (Tu Box)) (g_raised scene name1) (w_un (am_p (tpa scene (tp_var H rfl)) (am_p (tpa name1 (tp_var H rfl)) (am_nil (kg_raised _ _)))))) fun v23 => (am_p (tpa x (tp_var H rfl)) (am_p (tpa y (tp_var H rfl)) (am_nil (kg_hit _ _ _))))))) fun v24 => (ce_p (tp_co (γ := (List (Option Str))) (tpa inner (tp_var H rfl))) (rr_bool (rr_p (op_notIn (inB_list (α := (Option Str)) (by decide) _ _)))))))))) (to_tx (tx_ret (tpa false (tp_c rfl)))) (j_seqnil (j_asgM (J := TO (fun (_ : Unit) => [sv script, sv scene, sv shifted, none, sv every, sv k, sv x, sv y, sv row, sv places, none, none, none, none, none, none, none, none, none, none, none])) jTO (q := fun (⟨left1, top, right1, bottom⟩ : (T4 Int Int Int Int)) => [sv script, sv scene, sv shifted, none, sv every, sv k, sv x, sv y, sv row, sv places, sv name1, sv marks, sv inner, sv hidden, sv is_top, sv left1, sv top, sv right1, sv bottom, none, none]) (tma (α := (T4 Int Int Int Int)) (g_area_of scene name1) (w_un (am_p (tpa scene (tp_var H rfl)) (am_p (tpa name1 (tp_var H rfl)) (am_nil (kg_area_of _ _)))))) (fun (⟨left1, top, right1, bottom⟩ : (T4 Int Int Int Int)) => tg_4 H rfl) fun ⟨left1, top, right1, bottom⟩ e H => (j_set (J := TO (fun (_ : Unit) => [sv script, sv scene, sv shifted, none, sv every, sv k, sv x, sv y, sv row, sv places, none, none, none, none, none, none, none, none, none, none, none]))  (q := fun is_out => [sv script, sv scene, sv shifted, none, sv every, sv k, sv x, sv y, sv row, sv places, sv name1, sv marks, sv inner, sv hidden, sv is_top, sv left1, sv top, sv right1, sv bottom, sv is_out, none]) H (tpa (!(((decide (left1 ≤ x)) && (decide (x < right1))) && ((decide (top ≤ y)) && (decide (y < bottom))))) (tp_un (te_and (tpa ((decide (left1 ≤ x)) && (decide (x < right1))) (te_chain (tpa left1 (tp_var H rfl)) (tpa x (tp_var H rfl)) (tpa right1 (tp_var H rfl)) (op_le _ _) (op_lt _ _))) (tpa ((decide (top ≤ y)) && (decide (y < bottom))) (te_chain (tpa top (tp_var H rfl)) (tpa y (tp_var H rfl)) (tpa bottom (tp_var H rfl)) (op_le _ _) (op_lt _ _)))) (op_not _))) (fun _ => rfl) fun is_out e H => (j_if (J := TO (fun (_ : Unit) => [sv script, sv scene, sv shifted, none, sv every, sv k, sv x, sv y, sv row, sv places, none, none, none, none, none, none, none, none, none, none, none])) (tt_and (ttb (hasC 99 marks) (tt_bin (tpa ("c" : Str) (tp_c rfl)) (tpa marks (tp_var H rfl)) (op_in (inB_sign (by decide +kernel) _)))) (tt_and (tt_val (tpa is_out (tp_var H rfl))) (ttb (!decide ((List.map (fun (one : Str) => one) (List.filter (fun (one : Str) => (decide (one ∈ inner))) row)) = ([] : (List Str)))) (tt_bin (tp_ofF (tpl (List.map (fun (one : Str) => one) (List.filter (fun (one : Str) => (decide (one ∈ inner))) row)) (lc_pp (p1 := [sv script, sv scene, sv shifted, none, sv every, sv k, sv x, sv y, sv row, sv places, sv name1, sv marks, sv inner, sv hidden, sv is_top, sv left1, sv top, sv right1, sv bottom, sv is_out, none]) (q := fun one => [sv script, sv scene, sv shifted, none, sv every, sv k, sv x, sv y, sv row, sv places, sv name1, sv marks, sv inner, sv hidden, sv is_top, sv left1, sv top, sv right1, sv bottom, sv is_out, sv one]) (pr := fun (one : Str) => (decide (one ∈ inner))) (g := fun (one : Str) => one) H rfl (tpl row (tp_un (tpa row (tp_var H rfl)) (it_list _))) (fun one e H => tg_name H rfl) (fun one e H => (ttb (decide (one ∈ inner)) (tt_bin (tpa one (tp_var H rfl)) (tpa inner (tp_var H rfl)) (op_in (inB_list (α := Str) (by decide) _ _))))) (fun one e H => (tpa one (tp_var H rfl)))))) (tpa ([] : (List Str)) (tp_ofF (tp_un a_nil (if_pos (Nat.zero_le _))))) (op_ne (α := (List Str)) (by decide) _ _)))))
 (to_ret (tpa false (tp_c rfl)))
 (to_nil (P := (fun (_ : Unit) => [sv script, sv scene, sv shifted, none, sv every, sv k, sv x, sv y, sv row, sv places, none, none, none, none, none, none, none, none, none, none, none])) (s := ()) ((EnvIs.mask [true, true, true, false, true, true, true, true, true, true, false, false, false, false, false, false, false, false, false, false, false] H).as rfl))))))))))))))) (fun _ => rfl))) fun _ e H => (to_nil (P := (fun (_ : Unit) => [sv script, sv scene, sv shifted, none, sv every, none, none, none, none, none, none, none, none, none, none, none, none, none, none, none, none])) (s := ()) ((EnvIs.mask [true, true, true, false, true, false, false, false, false, false, false, false, false, false, false, false, false, false, false, false, false] H).as rfl)))))))))))) (fun _ => rfl))) fun _ e H => (tr_ret (rr_p (tpa true (tp_c rfl)))))))))))
end
end Ty

/-! Law k07: hits over the whole. -/
namespace Fo
open PySem Dx
/-- the whole laid elsewhere -/
def shB (dx dy : Int) (b : Box) : Box := if b.ar = "" then { b with l := b.l + dx, t := b.t + dy } else b
theorem shB_keep (dx dy : Int) : KeepB (shB dx dy) := ⟨fun b => by unfold shB; split <;> rfl, fun b => by unfold shB; split <;> rfl⟩
theorem shB_rest (dx dy : Int) (b : Box) : (shB dx dy b).w = b.w ∧ (shB dx dy b).h = b.h ∧ (shB dx dy b).ms = b.ms := by unfold shB; split <;> exact ⟨rfl, rfl, rfl⟩
section
variable {S : List Box} (w : wf [] S) (dx dy : Int)
include w in
theorem sh_offs : ∀ (k : Nat) (b : Box), b ∈ S → (path S b.nm).length ≤ k → offs (S.map (shB dx dy)) (path S b.nm) = ((offs S (path S b.nm)).1 + dx, (offs S (path S b.nm)).2 + dy)
  | 0, b, hb, h => by rw [path_step w hb] at h; simp at h
  | k + 1, b, hb, h => by
    have one : offs S [b.nm] = (b.l, b.t) := by rw [offs_cons, find_of w hb]; simp [offs]
    have one' : offs (S.map (shB dx dy)) [b.nm] = ((shB dx dy b).l, (shB dx dy b).t) := by rw [offs_cons, mp_find (shB_keep dx dy), find_of w hb]; simp [offs]
    rw [path_step w hb, offs_append, offs_append, one, one']
    by_cases ha : b.ar = ""
    · rw [ha, path_empty w]
      unfold shB; rw [if_pos ha]; simp [offs]
    · obtain ⟨S1, S2, e⟩ := List.append_of_mem hb
      have w1 := w
      rw [e] at w1
      have hna : b.ar ∈ names S := by
        rw [e, names_append]
        exact List.mem_append_left _ ((wf_split w1).2.2.2.resolve_left ha)
      obtain ⟨c, hc, hcn⟩ := mem_names.mp hna
      have hl : (path S c.nm).length ≤ k := by
        rw [path_step w hb, List.length_append] at h
        rw [hcn]; simp at h; omega
      have ih := sh_offs k c hc hl
      rw [hcn] at ih
      rw [ih]
      unfold shB; rw [if_neg ha]; simp only [Prod.mk.injEq]; omega
def shA (dx dy : Int) (a : Area) : Area := ⟨a.l + dx, a.t + dy, a.r + dx, a.b + dy⟩
theorem shA_has (a : Area) (x y : Int) : has (shA dx dy a) (x + dx) (y + dy) = has a x y := by
  unfold has shA
  refine Bool.eq_iff_iff.mpr ?_
  simp only [Bool.and_eq_true, decide_eq_true_eq]
  constructor <;> rintro ⟨⟨_, _⟩, _, _⟩ <;> exact ⟨⟨by omega, by omega⟩, by omega, by omega⟩
include w in
theorem sh_area {b : Box} (hb : b ∈ S) : areaA (S.map (shB dx dy)) (shB dx dy b) = shA dx dy (areaA S b) := by
  unfold areaA shA
  rw [(shB_keep dx dy).nm, mp_path (shB_keep dx dy), sh_offs w dx dy _ b hb (Nat.le_refl _), (shB_rest dx dy b).1, (shB_rest dx dy b).2.1]
  simp only [Area.mk.injEq]
  refine ⟨trivial, trivial, ?_, ?_⟩ <;> omega
include w in
theorem sh_clips : ∀ (ns : List Str), clips (S.map (shB dx dy)) ns = (clips S ns).map (shA dx dy)
  | [] => rfl
  | j :: ns => by
    show (match findB (S.map (shB dx dy)) j with | some b => if mark 99 b = true then [areaA (S.map (shB dx dy)) b] else [] | none => []) ++ clips (S.map (shB dx dy)) ns = ((match findB S j with | some b => if mark 99 b = true then [areaA S b] else [] | none => []) ++ clips S ns).map (shA dx dy)
    rw [sh_clips ns, mp_find (shB_keep dx dy), List.map_append]
    cases e : findB S j with
    | none => rfl
    | some b =>
      have hb : b ∈ S := List.mem_of_find?_eq_some e
      simp only [Option.map_some]
      have : mark 99 (shB dx dy b) = mark 99 b := by unfold mark; rw [(shB_rest dx dy b).2.2]
      rw [this, sh_area w dx dy hb]
      by_cases hm : mark 99 b = true
      · rw [if_pos hm, if_pos hm]; rfl
      · rw [if_neg hm, if_neg hm]; rfl
include w in
theorem sh_shown (k : Str) : shown (S.map (shB dx dy)) k = shown S k := by
  unfold shown
  rw [mp_path (shB_keep dx dy)]
  congr 1
  funext j
  rw [mp_find (shB_keep dx dy)]
  cases findB S j with
  | none => rfl
  | some b => simp only [Option.map_some]; unfold mark; rw [(shB_rest dx dy b).2.2]
include w in
theorem sh_touch (k : Str) (x y : Int) : touch (S.map (shB dx dy)) (x + dx) (y + dy) k = touch S x y k := by
  unfold touch
  rw [mp_find (shB_keep dx dy)]
  cases e : findB S k with
  | none => rfl
  | some b =>
    have hb : b ∈ S := List.mem_of_find?_eq_some e
    simp only [Option.map_some]
    rw [sh_shown w, sh_area w dx dy hb, shA_has, mp_path (shB_keep dx dy), sh_clips w, List.all_map]
    congr 2
    congr 1
    funext a
    exact shA_has dx dy a x y
include w in
theorem sh_hits (x y : Int) : hits (S.map (shB dx dy)) (x + dx) (y + dy) = hits S x y := by
  have ht : tops (S.map (shB dx dy)) = tops S := by
    unfold tops
    rw [mp_kids (shB_keep dx dy)]
    congr 1
    refine List.filter_congr fun k _ => ?_
    rw [sh_shown w]
    congr 2
    unfold lets
    rw [mp_find (shB_keep dx dy)]
    cases findB S k with
    | none => rfl
    | some b => simp only [Option.map_some]; unfold mark; rw [(shB_rest dx dy b).2.2]
  unfold hits
  rw [ht]
  exact List.filter_congr fun k _ => sh_touch w dx dy k x y
end
/-- what marks a drawn box has -/
def msAll : List Str := ["", "c", "f", "h", "l", "cf", "ch", "cl", "fh", "fl", "hl", "cfh", "cfl", "chl", "fhl", "cfhl"]
theorem scene_ms {ns : List Int} (at_ : Int) : ∀ b ∈ scene ns at_, b.ms ∈ msAll := by
  have one : ∀ p : Nat × Nat → Bool, (⟨((marks4.filter p).map (·.2)).toArray⟩ : Str) ∈ msAll := by
    intro p
    unfold marks4
    rw [List.filter_cons, List.filter_cons, List.filter_cons, List.filter_cons, List.filter_nil]
    cases p (0, 99) <;> cases p (1, 102) <;> cases p (2, 104) <;> cases p (3, 108) <;> decide +kernel
  have all : ∀ k, ∀ b ∈ mkSc ns at_ k, b.ms ∈ msAll := by
    intro k
    induction k with
    | zero => intro b hb; cases hb
    | succ k ih =>
      intro b hb
      rw [mkSc, List.mem_append] at hb
      rcases hb with hb | hb
      · exact ih b hb
      · rw [List.mem_singleton] at hb
        rw [hb]
        exact one _
  exact all _
end Fo
namespace Ty
open PySem Dx Dn Fo
open Enc (enc)
theorem put_ok {S : List Box} {n : Str} (w : wf [] S) (hn : n ∈ names S) (l t : Int) : t_put_at ⟨S⟩ n l t = .ok ⟨S.map (setP n l t)⟩ := by
  obtain ⟨b, hb, hbS, e⟩ := find_some w hn
  unfold t_put_at g_box_of
  rw [show findB (Tu.mk S).l n = some b from hb]
  rfl
theorem marked_ok {S : List Box} {n : Str} (w : wf [] S) (hn : n ∈ names S) (m : Str) : t_marked ⟨S⟩ n m = .ok ⟨S.map (setM n m)⟩ := by
  obtain ⟨b, hb, hbS, e⟩ := find_some w hn
  unfold t_marked g_box_of
  rw [show findB (Tu.mk S).l n = some b from hb]
  rfl
def shUp (done : List Str) (b : Box) : Box := if b.nm ∈ done then shB 5 (-4) b else b
theorem shUp_keep (done : List Str) : KeepB (shUp done) := ⟨fun b => by unfold shUp; split; exact (shB_keep _ _).nm b; rfl, fun b => by unfold shUp; split; exact (shB_keep _ _).ar b; rfl⟩
theorem shift_all {S : List Box} (w : wf [] S) (hs : S.length ≤ 100) : foldR (fun (shifted : Tu Box) (box : Box) => t_law_k07_b1 shifted box) S ⟨S⟩ = .ok ⟨S.map (shB 5 (-4))⟩ := by
  have key := foldR_inv (fun (shifted : Tu Box) (box : Box) => t_law_k07_b1 shifted box) (fun pre => (⟨S.map (shUp (names pre))⟩ : Tu Box)) S fun pre b post e => ?_
  · have e0 : S.map (shUp (names [])) = S := by
      have : shUp (names []) = id := by funext b; unfold shUp; rw [if_neg (by simp [names])]; rfl
      rw [this, List.map_id]
    have e1 : S.map (shUp (names S)) = S.map (shB 5 (-4)) := List.map_congr_left fun b hb => by unfold shUp; rw [if_pos (mem_names.mpr ⟨b, hb, rfl⟩)]
    rw [e0, e1] at key
    exact key
  · have hb : b ∈ S := by rw [e]; simp
    have nd := wf_nodup w
    show t_law_k07_b1 ⟨S.map (shUp (names pre))⟩ b = .ok ⟨S.map (shUp (names (pre ++ [b])))⟩
    unfold t_law_k07_b1
    have hnew : b.nm ∉ names pre := by
      rw [e, names_append, names_cons] at nd
      intro z
      exact (List.nodup_append.mp nd).2.2 _ z _ (by simp) rfl
    by_cases ha : b.ar = ""
    · rw [if_pos (decide_eq_true ha), put_ok (mp_wf (shUp_keep _) w) (by rw [mp_names (shUp_keep _)]; exact mem_names.mpr ⟨b, hb, rfl⟩)]
      simp only [R.ok_bind, List.map_map]
      congr 2
      refine List.map_congr_left fun c hc => ?_
      show setP b.nm (b.l + 5) (b.t - 4) (shUp (names pre) c) = shUp (names (pre ++ [b])) c
      by_cases hcb : c.nm = b.nm
      · have : c = b := by
          have h1 := find_of w hc
          have h2 := find_of w hb
          rw [hcb, h2] at h1; cases h1; rfl
        subst this
        have e1 : shUp (names pre) c = c := by unfold shUp; rw [if_neg hnew]
        rw [e1, setP_same rfl]
        unfold shUp shB
        rw [if_pos (by rw [names_append]; simp [names]), if_pos ha]; rfl
      · rw [setP_other (by rw [(shUp_keep _).nm]; exact hcb)]
        unfold shUp
        have : c.nm ∈ names (pre ++ [b]) ↔ c.nm ∈ names pre := by rw [names_append]; simp [names, hcb]
        by_cases q : c.nm ∈ names pre
        · rw [if_pos q, if_pos (this.mpr q)]
        · rw [if_neg q, if_neg fun z => q (this.mp z)]
    · rw [if_neg (by simpa using ha)]
      show R.ok _ = R.ok _
      congr 2
      refine List.map_congr_left fun c hc => ?_
      unfold shUp
      by_cases hcb : c.nm = b.nm
      · have : c = b := by
          have h1 := find_of w hc
          have h2 := find_of w hb
          rw [hcb, h2] at h1; cases h1; rfl
        subst this
        rw [if_neg hnew, if_pos (by rw [names_append]; simp [names])]
        unfold shB; rw [if_neg ha]
      · have : c.nm ∈ names (pre ++ [b]) ↔ c.nm ∈ names pre := by rw [names_append]; simp [names, hcb]
        by_cases q : c.nm ∈ names pre
        · rw [if_pos q, if_pos (this.mpr q)]
        · rw [if_neg q, if_neg fun z => q (this.mp z)]
/-- h is put among the marks -/
theorem hid_ok : ∀ ms ∈ msAll, ∃ z, ((((catS ms ("h" : Str)) >>= fun v13 => (sortSetT v13)) >>= fun v14 => (joinG ("" : Str) v14))) = .ok z ∧ 104 ∈ z.cps.toList := by
  have one : ∀ ms : Str, (match ((((catS ms ("h" : Str)) >>= fun v13 => (sortSetT v13)) >>= fun v14 => (joinG ("" : Str) v14))) with | .ok z => decide (104 ∈ z.cps.toList) | _ => false) = true → ∃ z, ((((catS ms ("h" : Str)) >>= fun v13 => (sortSetT v13)) >>= fun v14 => (joinG ("" : Str) v14))) = .ok z ∧ 104 ∈ z.cps.toList := by
    intro ms h
    cases e : ((((catS ms ("h" : Str)) >>= fun v13 => (sortSetT v13)) >>= fun v14 => (joinG ("" : Str) v14))) with
    | ok z => rw [e] at h; exact ⟨z, rfl, of_decide_eq_true h⟩
    | exc c => rw [e] at h; cases h
    | bad => rw [e] at h; cases h
  intro ms hm
  refine one ms ?_
  have : (msAll.all fun ms => (match ((((catS ms ("h" : Str)) >>= fun v13 => (sortSetT v13)) >>= fun v14 => (joinG ("" : Str) v14))) with | .ok z => decide (104 ∈ z.cps.toList) | _ => false)) = true := by decide +kernel
  exact List.all_eq_true.mp this ms hm
end Ty

/-! typed defs of k05, printed by tgen.py -/
namespace Ty
open PySem Dx Dn Fo
open Enc (enc)
noncomputable section
def t_is_within (thing : Int) (low : Int) (high : Int) : R Bool :=
 ((isiG "int" (Co.f thing : D)) >>= fun v3 => if v3 = true then (((isiG "bool" (Co.f thing : D)) >>= fun v1 => (.ok (!v1))) >>= fun v2 => if v2 = true then (R.ok ((decide (low ≤ thing)) && (decide (thing ≤ high)))) else .ok false) else .ok false)
theorem k_is_within (thing : Int) (low : Int) (high : Int) : Rr (den_is_within [enc thing, enc low, enc high]) (t_is_within thing low high) enc :=
  fn_of (p0 := [sv thing, sv low, sv high]) rfl rfl fun e H => (by unfold t_is_within; exact (show TR (g_is_within e) _ from
 (tr_ret (tma (α := Bool) ((isiG "int" (Co.f thing : D)) >>= fun v3 => if v3 = true then (((isiG "bool" (Co.f thing : D)) >>= fun v1 => (.ok (!v1))) >>= fun v2 => if v2 = true then (R.ok ((decide (low ≤ thing)) && (decide (thing ≤ high)))) else .ok false) else .ok false) (tem_andM (tma (α := Bool) (isiG "int" (Co.f thing : D)) (w_un (ce_p (tp_co (γ := D) (tpa thing (tp_var H rfl))) (ro_isi _ _)))) (tma (α := Bool) (((isiG "bool" (Co.f thing : D)) >>= fun v1 => (.ok (!v1))) >>= fun v2 => if v2 = true then (R.ok ((decide (low ≤ thing)) && (decide (thing ≤ high)))) else .ok false) (tem_andM (tma (α := Bool) ((isiG "bool" (Co.f thing : D)) >>= fun v1 => (.ok (!v1))) (w_un (ce_m (tma (α := Bool) (isiG "bool" (Co.f thing : D)) (w_un (ce_p (tp_co (γ := D) (tpa thing (tp_var H rfl))) (ro_isi _ _)))) fun v1 => (rr_p (op_not _))))) (rr_p (tpa ((decide (low ≤ thing)) && (decide (thing ≤ high))) (te_chain (tpa low (tp_var H rfl)) (tpa thing (tp_var H rfl)) (tpa high (tp_var H rfl)) (op_le _ _) (op_le _ _)))))))))))
def t_is_name (thing : Str) : R Bool :=
 ((isiG "str" (Co.f thing : D)) >>= fun v2 => if v2 = true then (if ((decide ((1 : Int) ≤ ((thing).length : Int))) && (decide (((thing).length : Int) ≤ (3 : Int)))) = true then ((compR (fun (sign : Str) => R.ok true) (fun (sign : Str) => (signIn sign ("abcdefghijklmnopqrstuvwxyz" : Str))) (chars thing)) >>= fun v1 => (.ok (List.all v1 id))) else .ok false) else .ok false)
theorem k_is_name (thing : Str) : Rr (den_is_name [enc thing]) (t_is_name thing) enc :=
  fn_of (p0 := [sv thing, none]) rfl rfl fun e H => (by unfold t_is_name; exact (show TR (g_is_name e) _ from
 (tr_ret (tma (α := Bool) ((isiG "str" (Co.f thing : D)) >>= fun v2 => if v2 = true then (if ((decide ((1 : Int) ≤ ((thing).length : Int))) && (decide (((thing).length : Int) ≤ (3 : Int)))) = true then ((compR (fun (sign : Str) => R.ok true) (fun (sign : Str) => (signIn sign ("abcdefghijklmnopqrstuvwxyz" : Str))) (chars thing)) >>= fun v1 => (.ok (List.all v1 id))) else .ok false) else .ok false) (tem_andM (tma (α := Bool) (isiG "str" (Co.f thing : D)) (w_un (ce_p (tp_co (γ := D) (tpa thing (tp_var H rfl))) (ro_isi _ _)))) (tma (α := Bool) (if ((decide ((1 : Int) ≤ ((thing).length : Int))) && (decide (((thing).length : Int) ≤ (3 : Int)))) = true then ((compR (fun (sign : Str) => R.ok true) (fun (sign : Str) => (signIn sign ("abcdefghijklmnopqrstuvwxyz" : Str))) (chars thing)) >>= fun v1 => (.ok (List.all v1 id))) else .ok false) (tem_andP (tpa ((decide ((1 : Int) ≤ ((thing).length : Int))) && (decide (((thing).length : Int) ≤ (3 : Int)))) (te_chain (tpa (1 : Int) (tp_c rfl)) (tpa ((thing).length : Int) (tp_un (a_cons (tpa thing (tp_var H rfl)) a_nil) (op_lenS _))) (tpa (3 : Int) (tp_c rfl)) (op_le _ _) (op_le _ _))) (tma (α := Bool) ((compR (fun (sign : Str) => R.ok true) (fun (sign : Str) => (signIn sign ("abcdefghijklmnopqrstuvwxyz" : Str))) (chars thing)) >>= fun v1 => (.ok (List.all v1 id))) (w_un (am_m (tm_ofF (tml (α := Bool) (compR (fun (sign : Str) => R.ok true) (fun (sign : Str) => (signIn sign ("abcdefghijklmnopqrstuvwxyz" : Str))) (chars thing)) (lc_xm (p1 := [sv thing, none]) (q := fun sign => [sv thing, sv sign]) (pr := (fun (sign : Str) => R.ok true)) (g := (fun (sign : Str) => (signIn sign ("abcdefghijklmnopqrstuvwxyz" : Str)))) H rfl (tpl (chars thing) (tp_un (tpa thing (tp_var H rfl)) (it_str _))) (fun sign e H => tg_name H rfl) (fun sign e H => c_true) (fun sign e H => (tma (α := Bool) (signIn sign ("abcdefghijklmnopqrstuvwxyz" : Str)) (w_bin (ce_p (tpa sign (tp_var H rfl)) (ce_p (tpa ("abcdefghijklmnopqrstuvwxyz" : Str) (tp_c rfl)) (ro_in (ro_signIn _ _)))))))))) fun v1 => (am_nil (rr_p (op_all _)))))))))))))
def t_are_marks (thing : Str) : R Bool :=
 ((((isiG "str" (Co.f thing : D)) >>= fun v1 => .ok (!v1)) >>= fun v4 => if v4 = true then .ok true else (((compR (fun (sign : Str) => R.ok true) (fun (sign : Str) => (signIn sign ("cfhl" : Str))) (chars thing)) >>= fun v2 => (.ok (List.all v2 id))) >>= fun v3 => .ok (!v3))) >>= fun v5 =>
 (if v5 = true then
 (R.ok false)
 else
 (R.ok (List.all (List.map (fun (⟨one, other⟩ : (Str × Str)) => (ltS one other)) (List.zip (chars thing) (chars (L2.cutS thing (some (1 : Int)) none)))) id))))
theorem k_are_marks (thing : Str) : Rr (den_are_marks [enc thing]) (t_are_marks thing) enc :=
  fn_of (p0 := [sv thing, none, none, none]) rfl rfl fun e H => (by unfold t_are_marks; exact (show TR (g_are_marks e) _ from
 (j_ifXM jTR (J := TR) (ttm (((isiG "str" (Co.f thing : D)) >>= fun v1 => .ok (!v1)) >>= fun v4 => if v4 = true then .ok true else (((compR (fun (sign : Str) => R.ok true) (fun (sign : Str) => (signIn sign ("cfhl" : Str))) (chars thing)) >>= fun v2 => (.ok (List.all v2 id))) >>= fun v3 => .ok (!v3))) (tm_orM (tm_not (tm_val (tma (α := Bool) (isiG "str" (Co.f thing : D)) (w_un (ce_p (tp_co (γ := D) (tpa thing (tp_var H rfl))) (ro_isi _ _)))))) (tm_not (tm_val (tma (α := Bool) ((compR (fun (sign : Str) => R.ok true) (fun (sign : Str) => (signIn sign ("cfhl" : Str))) (chars thing)) >>= fun v2 => (.ok (List.all v2 id))) (w_un (am_m (tm_ofF (tml (α := Bool) (compR (fun (sign : Str) => R.ok true) (fun (sign : Str) => (signIn sign ("cfhl" : Str))) (chars thing)) (lc_xm (p1 := [sv thing, none, none, none]) (q := fun sign => [sv thing, sv sign, none, none]) (pr := (fun (sign : Str) => R.ok true)) (g := (fun (sign : Str) => (signIn sign ("cfhl" : Str)))) H rfl (tpl (chars thing) (tp_un (tpa thing (tp_var H rfl)) (it_str _))) (fun sign e H => tg_name H rfl) (fun sign e H => c_true) (fun sign e H => (tma (α := Bool) (signIn sign ("cfhl" : Str)) (w_bin (ce_p (tpa sign (tp_var H rfl)) (ce_p (tpa ("cfhl" : Str) (tp_c rfl)) (ro_in (ro_signIn _ _)))))))))) fun v2 => (am_nil (rr_p (op_all _)))))))))) (tr_x (tr_ret (rr_p (tpa false (tp_c rfl))))) (j_seqnil (tr_ret (rr_p (tpa (List.all (List.map (fun (⟨one, other⟩ : (Str × Str)) => (ltS one other)) (List.zip (chars thing) (chars (L2.cutS thing (some (1 : Int)) none)))) id) (tp_un (a_cons (tp_ofF (tpl (List.map (fun (⟨one, other⟩ : (Str × Str)) => (ltS one other)) (List.zip (chars thing) (chars (L2.cutS thing (some (1 : Int)) none)))) (lc_p (p1 := [sv thing, none, none, none]) (q := fun ⟨one, other⟩ => [sv thing, none, sv one, sv other]) (g := fun (⟨one, other⟩ : (Str × Str)) => (ltS one other)) H rfl (tpl (List.zip (chars thing) (chars (L2.cutS thing (some (1 : Int)) none))) (tp_zip (tpa thing (tp_var H rfl)) (tpa (L2.cutS thing (some (1 : Int)) none) (tp_slice (tpa thing (tp_var H rfl)) (o_some (tpa (1 : Int) (tp_c rfl))) o_none (op_cutS _ _ _))) (iz_str _) (iz_str _))) (fun ⟨one, other⟩ e H => tg_2 H rfl) (fun ⟨one, other⟩ e H => (tpa (ltS one other) (tp_bin (tpa one (tp_var H rfl)) (tpa other (tp_var H rfl)) (op_ltS _ _))))))) a_nil) (op_all _)))))))))
def t_is_box (thing : Box) : R Bool :=
 ((((isiG "tuple" (Co.f thing : D)) >>= fun v1 => .ok (!v1)) >>= fun v5 => if v5 = true then .ok true else (if (!decide ((((Co.f thing : (Tu D))).l.length : Int) = (7 : Int))) = true then .ok true else (((t_is_name thing.nm) >>= fun v2 => .ok (!v2)) >>= fun v4 => if v4 = true then .ok true else ((t_are_marks thing.ms) >>= fun v3 => .ok (!v3))))) >>= fun v6 =>
 (if v6 = true then
 (R.ok false)
 else
 ((((isiG "str" (Co.f thing.ar : D)) >>= fun v7 => .ok (!v7)) >>= fun v10 => if v10 = true then .ok true else (((compR (fun (at1 : Int) => R.ok true) (fun (at1 : Int) => (t_is_within at1 ((0 : Int) - (20 : Int)) (20 : Int))) ((Co.f (thing.l, thing.t) : (Tu Int))).l) >>= fun v8 => (.ok (List.all v8 id))) >>= fun v9 => .ok (!v9))) >>= fun v11 =>
 (if v11 = true then
 (R.ok false)
 else
 ((compR (fun (size : Int) => R.ok true) (fun (size : Int) => (t_is_within size (0 : Int) (20 : Int))) ((Co.f (thing.w, thing.h) : (Tu Int))).l) >>= fun v12 => (.ok (List.all v12 id)))))))
theorem k_is_box (thing : Box) : Rr (den_is_box [enc thing]) (t_is_box thing) enc :=
  fn_of (p0 := [sv thing, none, none]) rfl rfl fun e H => (by unfold t_is_box; exact (show TR (g_is_box e) _ from
 (j_ifXM jTR (J := TR) (ttm (((isiG "tuple" (Co.f thing : D)) >>= fun v1 => .ok (!v1)) >>= fun v5 => if v5 = true then .ok true else (if (!decide ((((Co.f thing : (Tu D))).l.length : Int) = (7 : Int))) = true then .ok true else (((t_is_name thing.nm) >>= fun v2 => .ok (!v2)) >>= fun v4 => if v4 = true then .ok true else ((t_are_marks thing.ms) >>= fun v3 => .ok (!v3))))) (tm_orM (tm_not (tm_val (tma (α := Bool) (isiG "tuple" (Co.f thing : D)) (w_un (ce_p (tp_co (γ := D) (tpa thing (tp_var H rfl))) (ro_isi _ _)))))) (ttm (if (!decide ((((Co.f thing : (Tu D))).l.length : Int) = (7 : Int))) = true then .ok true else (((t_is_name thing.nm) >>= fun v2 => .ok (!v2)) >>= fun v4 => if v4 = true then .ok true else ((t_are_marks thing.ms) >>= fun v3 => .ok (!v3)))) (tm_orP (ttb (!decide ((((Co.f thing : (Tu D))).l.length : Int) = (7 : Int))) (tt_bin (tpa (((Co.f thing : (Tu D))).l.length : Int) (tp_un (a_cons (tp_co (γ := (Tu D)) (tpa thing (tp_var H rfl))) a_nil) (op_lenU _))) (tpa (7 : Int) (tp_c rfl)) (op_ne (α := Int) (by decide) _ _))) (ttm (((t_is_name thing.nm) >>= fun v2 => .ok (!v2)) >>= fun v4 => if v4 = true then .ok true else ((t_are_marks thing.ms) >>= fun v3 => .ok (!v3))) (tm_orM (tm_not (tm_val (tma (α := Bool) (t_is_name thing.nm) (w_un (am_p (tpa thing.nm (tp_bin (tpa thing (tp_var H rfl)) (tpa (0 : Int) (tp_c rfl)) (rfl))) (am_nil (k_is_name _))))))) (tm_not (tm_val (tma (α := Bool) (t_are_marks thing.ms) (w_un (am_p (tpa thing.ms (tp_bin (tpa thing (tp_var H rfl)) (tpa (6 : Int) (tp_c rfl)) (rfl))) (am_nil (k_are_marks _))))))))))))) (tr_x (tr_ret (rr_p (tpa false (tp_c rfl))))) (j_seqnil (j_ifXM jTR (J := TR) (ttm (((isiG "str" (Co.f thing.ar : D)) >>= fun v7 => .ok (!v7)) >>= fun v10 => if v10 = true then .ok true else (((compR (fun (at1 : Int) => R.ok true) (fun (at1 : Int) => (t_is_within at1 ((0 : Int) - (20 : Int)) (20 : Int))) ((Co.f (thing.l, thing.t) : (Tu Int))).l) >>= fun v8 => (.ok (List.all v8 id))) >>= fun v9 => .ok (!v9))) (tm_orM (tm_not (tm_val (tma (α := Bool) (isiG "str" (Co.f thing.ar : D)) (w_un (ce_p (tp_co (γ := D) (tpa thing.ar (tp_bin (tpa thing (tp_var H rfl)) (tpa (1 : Int) (tp_c rfl)) (rfl)))) (ro_isi _ _)))))) (tm_not (tm_val (tma (α := Bool) ((compR (fun (at1 : Int) => R.ok true) (fun (at1 : Int) => (t_is_within at1 ((0 : Int) - (20 : Int)) (20 : Int))) ((Co.f (thing.l, thing.t) : (Tu Int))).l) >>= fun v8 => (.ok (List.all v8 id))) (w_un (am_m (tm_ofF (tml (α := Bool) (compR (fun (at1 : Int) => R.ok true) (fun (at1 : Int) => (t_is_within at1 ((0 : Int) - (20 : Int)) (20 : Int))) ((Co.f (thing.l, thing.t) : (Tu Int))).l) (lc_xm (p1 := [sv thing, none, none]) (q := fun at1 => [sv thing, sv at1, none]) (pr := (fun (at1 : Int) => R.ok true)) (g := (fun (at1 : Int) => (t_is_within at1 ((0 : Int) - (20 : Int)) (20 : Int)))) H rfl (tpl ((Co.f (thing.l, thing.t) : (Tu Int))).l (tp_un (tp_co (γ := (Tu Int)) (tpa (thing.l, thing.t) (tp_slice (tpa thing (tp_var H rfl)) (o_some (tpa (2 : Int) (tp_c rfl))) (o_some (tpa (4 : Int) (tp_c rfl))) (rfl)))) (it_tu _))) (fun at1 e H => tg_name H rfl) (fun at1 e H => c_true) (fun at1 e H => (tma (α := Bool) (t_is_within at1 ((0 : Int) - (20 : Int)) (20 : Int)) (w_un (am_p (tpa at1 (tp_var H rfl)) (am_p (tpa ((0 : Int) - (20 : Int)) (tp_bin (tpa (0 : Int) (tp_c rfl)) (tpa (20 : Int) (tp_c rfl)) (op_sub _ _))) (am_p (tpa (20 : Int) (tp_c rfl)) (am_nil (k_is_within _ _ _))))))))))) fun v8 => (am_nil (rr_p (op_all _)))))))))) (tr_x (tr_ret (rr_p (tpa false (tp_c rfl))))) (j_seqnil (tr_ret (tma (α := Bool) ((compR (fun (size : Int) => R.ok true) (fun (size : Int) => (t_is_within size (0 : Int) (20 : Int))) ((Co.f (thing.w, thing.h) : (Tu Int))).l) >>= fun v12 => (.ok (List.all v12 id))) (w_un (am_m (tm_ofF (tml (α := Bool) (compR (fun (size : Int) => R.ok true) (fun (size : Int) => (t_is_within size (0 : Int) (20 : Int))) ((Co.f (thing.w, thing.h) : (Tu Int))).l) (lc_xm (p1 := [sv thing, none, none]) (q := fun size => [sv thing, none, sv size]) (pr := (fun (size : Int) => R.ok true)) (g := (fun (size : Int) => (t_is_within size (0 : Int) (20 : Int)))) H rfl (tpl ((Co.f (thing.w, thing.h) : (Tu Int))).l (tp_un (tp_co (γ := (Tu Int)) (tpa (thing.w, thing.h) (tp_slice (tpa thing (tp_var H rfl)) (o_some (tpa (4 : Int) (tp_c rfl))) (o_some (tpa (6 : Int) (tp_c rfl))) (rfl)))) (it_tu _))) (fun size e H => tg_name H rfl) (fun size e H => c_true) (fun size e H => (tma (α := Bool) (t_is_within size (0 : Int) (20 : Int)) (w_un (am_p (tpa size (tp_var H rfl)) (am_p (tpa (0 : Int) (tp_c rfl)) (am_p (tpa (20 : Int) (tp_c rfl)) (am_nil (k_is_within _ _ _))))))))))) fun v12 => (am_nil (rr_p (op_all _)))))))))))))
def t_is_scene (thing : (Tu Box)) : R Bool :=
 ((((isiG "tuple" (Co.f thing : D)) >>= fun v1 => .ok (!v1)) >>= fun v4 => if v4 = true then .ok true else (if (decide ((12 : Int) < ((thing).l.length : Int))) = true then .ok true else (((compR (fun (box : Box) => R.ok true) (fun (box : Box) => (t_is_box box)) (thing).l) >>= fun v2 => (.ok (List.all v2 id))) >>= fun v3 => .ok (!v3)))) >>= fun v5 =>
 (if v5 = true then
 (R.ok false)
 else
 (letT (List.map (fun (box : Box) => box.nm) (thing).l) fun names =>
 (((lenSetG names) >>= fun v6 => (.ok (decide (v6 < ((names).length : Int))))) >>= fun v7 =>
 (if v7 = true then
 (R.ok false)
 else
 (R.ok (List.all (List.map (fun (⟨at1, box⟩ : (Int × Box)) => ((decide (box.ar = ("" : Str))) || (decide (box.ar ∈ (cutL names none (some at1)))))) (enumI (thing).l)) id)))))))
theorem k_is_scene (thing : (Tu Box)) : Rr (den_is_scene [enc thing]) (t_is_scene thing) enc :=
  fn_of (p0 := [sv thing, none, none, none]) rfl rfl fun e H => (by unfold t_is_scene; exact (show TR (g_is_scene e) _ from
 (j_ifXM jTR (J := TR) (ttm (((isiG "tuple" (Co.f thing : D)) >>= fun v1 => .ok (!v1)) >>= fun v4 => if v4 = true then .ok true else (if (decide ((12 : Int) < ((thing).l.length : Int))) = true then .ok true else (((compR (fun (box : Box) => R.ok true) (fun (box : Box) => (t_is_box box)) (thing).l) >>= fun v2 => (.ok (List.all v2 id))) >>= fun v3 => .ok (!v3)))) (tm_orM (tm_not (tm_val (tma (α := Bool) (isiG "tuple" (Co.f thing : D)) (w_un (ce_p (tp_co (γ := D) (tpa thing (tp_var H rfl))) (ro_isi _ _)))))) (ttm (if (decide ((12 : Int) < ((thing).l.length : Int))) = true then .ok true else (((compR (fun (box : Box) => R.ok true) (fun (box : Box) => (t_is_box box)) (thing).l) >>= fun v2 => (.ok (List.all v2 id))) >>= fun v3 => .ok (!v3))) (tm_orP (ttb (decide ((12 : Int) < ((thing).l.length : Int))) (tt_bin (tpa ((thing).l.length : Int) (tp_un (a_cons (tpa thing (tp_var H rfl)) a_nil) (op_lenU _))) (tpa (12 : Int) (tp_c rfl)) (op_gt _ _))) (tm_not (tm_val (tma (α := Bool) ((compR (fun (box : Box) => R.ok true) (fun (box : Box) => (t_is_box box)) (thing).l) >>= fun v2 => (.ok (List.all v2 id))) (w_un (am_m (tm_ofF (tml (α := Bool) (compR (fun (box : Box) => R.ok true) (fun (box : Box) => (t_is_box box)) (thing).l) (lc_xm (p1 := [sv thing, none, none, none]) (q := fun box => [sv thing, none, sv box, none]) (pr := (fun (box : Box) => R.ok true)) (g := (fun (box : Box) => (t_is_box box))) H rfl (tpl (thing).l (tp_un (tpa thing (tp_var H rfl)) (it_tu _))) (fun box e H => tg_name H rfl) (fun box e H => c_true) (fun box e H => (tma (α := Bool) (t_is_box box) (w_un (am_p (tpa box (tp_var H rfl)) (am_nil (k_is_box _))))))))) fun v2 => (am_nil (rr_p (op_all _)))))))))))) (tr_x (tr_ret (rr_p (tpa false (tp_c rfl))))) (j_seqnil (j_set (J := TR)  (q := fun names => [sv thing, sv names, none, none]) H (tp_ofF (tpl (List.map (fun (box : Box) => box.nm) (thing).l) (lc_p (p1 := [sv thing, none, none, none]) (q := fun box => [sv thing, none, sv box, none]) (g := fun (box : Box) => box.nm) H rfl (tpl (thing).l (tp_un (tpa thing (tp_var H rfl)) (it_tu _))) (fun box e H => tg_name H rfl) (fun box e H => (tpa box.nm (tp_bin (tpa box (tp_var H rfl)) (tpa (0 : Int) (tp_c rfl)) (rfl))))))) (fun _ => rfl) fun names e H => (j_ifXM jTR (J := TR) (ttm ((lenSetG names) >>= fun v6 => (.ok (decide (v6 < ((names).length : Int))))) (w_tbin (ce_m (tma (α := Int) (lenSetG names) (w_un (ce_p (tpa names (tp_var H rfl)) (ro_lenSetS _)))) fun v6 => (ce_p (tpa ((names).length : Int) (tp_un (a_cons (tpa names (tp_var H rfl)) a_nil) (op_len _))) (rr_bool (rr_p (op_lt _ _))))))) (tr_x (tr_ret (rr_p (tpa false (tp_c rfl))))) (j_seqnil (tr_ret (rr_p (tpa (List.all (List.map (fun (⟨at1, box⟩ : (Int × Box)) => ((decide (box.ar = ("" : Str))) || (decide (box.ar ∈ (cutL names none (some at1)))))) (enumI (thing).l)) id) (tp_un (a_cons (tp_ofF (tpl (List.map (fun (⟨at1, box⟩ : (Int × Box)) => ((decide (box.ar = ("" : Str))) || (decide (box.ar ∈ (cutL names none (some at1)))))) (enumI (thing).l)) (lc_p (p1 := [sv thing, sv names, none, none]) (q := fun ⟨at1, box⟩ => [sv thing, sv names, sv box, sv at1]) (g := fun (⟨at1, box⟩ : (Int × Box)) => ((decide (box.ar = ("" : Str))) || (decide (box.ar ∈ (cutL names none (some at1)))))) H rfl (tpl (enumI (thing).l) (en_tu (tpa thing (tp_var H rfl)))) (fun ⟨at1, box⟩ e H => tg_2 H rfl) (fun ⟨at1, box⟩ e H => (te_or (tpa (decide (box.ar = ("" : Str))) (tp_bin (tpa box.ar (tp_bin (tpa box (tp_var H rfl)) (tpa (1 : Int) (tp_c rfl)) (rfl))) (tpa ("" : Str) (tp_c rfl)) (op_eq (α := Str) (by decide) _ _))) (tpa (decide (box.ar ∈ (cutL names none (some at1)))) (tp_bin (tpa box.ar (tp_bin (tpa box (tp_var H rfl)) (tpa (1 : Int) (tp_c rfl)) (rfl))) (tpa (cutL names none (some at1)) (tp_slice (tpa names (tp_var H rfl)) o_none (o_some (tpa at1 (tp_var H rfl))) (op_cut _ _ _))) (op_in (inB_list (α := Str) (by decide) _ _))))))))) a_nil) (op_all _))))))))))))
def t_law_k05_b2 (scene : (Tu Box)) (top : (Tu Box)) (one : Str) : OT Unit Bool :=
 (OT.bd (((g_path_of top one) >>= fun v27 => ((g_path_of scene one) >>= fun v28 => (.ok (!decide (v27 = v28))))) >>= fun v31 => if v31 = true then .ok true else ((g_box_of top one) >>= fun v29 => ((g_box_of scene one) >>= fun v30 => (.ok (!decide (v29 = v30)))))) fun v32 =>
 (if v32 = true then
 (.rt false)
 else
 (.nx ())))
def t_law_k05_b3 (scene : (Tu Box)) (inner : (List Str)) (other : (Tu Box)) (one : Str) : OT Unit Bool :=
 (OT.bd (g_area_of scene one) fun before =>
 (OT.bd (ixL [((0 : Int), (0 : Int)), ((-(2 : Int)), (3 : Int))] (b2i (decide (one ∈ inner)))) fun by1 =>
 (OT.bd ((g_area_of other one) >>= fun v39 => (.ok (!decide (v39 = (T4.mk (before.a + by1.1) (before.b + by1.2) (before.c + by1.1) (before.d + by1.2)))))) fun v40 =>
 (if v40 = true then
 (.rt false)
 else
 (.nx ())))))
def t_law_k05_b1 (scene : (Tu Box)) (box : Box) : OT Unit Bool :=
 (letT box.nm fun name1 =>
 (OT.bd (g_below scene name1) fun inner =>
 (OT.bd (g_cut scene name1) fun less =>
 (OT.bd (g_raised scene name1) fun top =>
 (OT.bd (((t_is_scene less) >>= fun v1 => .ok (!v1)) >>= fun v3 => if v3 = true then .ok true else ((t_is_scene top) >>= fun v2 => .ok (!v2))) fun v4 =>
 (if v4 = true then
 (.rt false)
 else
 (OT.bd ((g_painted less) >>= fun v7 => ((((g_painted scene) >>= fun v5 => .ok v5) >>= fun v6 => compR (fun (one : Str) => (R.ok (!(decide (one ∈ inner))))) (fun (one : Str) => (R.ok one)) v6) >>= fun v8 => (.ok (!decide (v7 = v8))))) fun v9 =>
 (if v9 = true then
 (.rt false)
 else
 (OT.bd ((((g_children top box.ar) >>= fun v10 => (ixL v10 (-(1 : Int)))) >>= fun v11 => (.ok (!decide (v11 = name1)))) >>= fun v15 => if v15 = true then .ok true else (((g_below top name1) >>= fun v12 => (.ok (!decide (v12 = inner)))) >>= fun v14 => if v14 = true then .ok true else ((g_raised top name1) >>= fun v13 => (.ok (!decide (v13 = top)))))) fun v16 =>
 (if v16 = true then
 (.rt false)
 else
 (OT.bd (((((g_painted top) >>= fun v17 => .ok v17) >>= fun v18 => compR (fun (one : Str) => (R.ok (!(decide (one ∈ inner))))) (fun (one : Str) => (R.ok one)) v18) >>= fun v19 => ((g_painted less) >>= fun v20 => (.ok (!decide (v19 = v20))))) >>= fun v22 => if v22 = true then .ok true else ((g_cut top name1) >>= fun v21 => (.ok (!decide (v21 = less))))) fun v23 =>
 (if v23 = true then
 (.rt false)
 else
 (OT.bd (if (!decide (box.ar = ("" : Str))) = true then (((g_below top box.ar) >>= fun v24 => (.ok (cutL v24 (some (-((inner).length : Int))) none))) >>= fun v25 => (.ok (!decide (v25 = inner)))) else .ok false) fun v26 =>
 (if v26 = true then
 (.rt false)
 else
 (OT.sq (forT (fun (_ : Unit) (one : Str) => t_law_k05_b2 scene top one) inner ()) fun _ =>
 (OT.bd (t_put_at scene name1 (box.l - (2 : Int)) (box.t + (3 : Int))) fun other =>
 (OT.bd (((t_put_at other name1 box.l box.t) >>= fun v33 => (.ok (!decide (v33 = scene)))) >>= fun v36 => if v36 = true then .ok true else (((t_marked scene name1 ("h" : Str)) >>= fun v34 => (t_marked v34 name1 box.ms)) >>= fun v35 => (.ok (!decide (v35 = scene))))) fun v37 =>
 (if v37 = true then
 (.rt false)
 else
 (OT.sq (OT.bd ((g_painted scene) >>= fun v38 => .ok v38) fun v41 => forT (fun (_ : Unit) (one : Str) => t_law_k05_b3 scene inner other one) v41 ()) fun _ =>
 (.nx ()))))))))))))))))))))
def t_law_k05 (script : Fz) : R Bool :=
 ((g_scene script (0 : Int)) >>= fun scene =>
 (OT.thn (forT (fun (_ : Unit) (box : Box) => t_law_k05_b1 scene box) (scene).l ()) fun _ =>
 (R.ok true)))
theorem k_law_k05 (script : Fz) : Rr (den_law_k05 [enc script]) (t_law_k05 script) enc :=
  fn_of (p0 := [sv script, none, none, none, none, none, none, none, none, none, none]) rfl rfl fun e H => (by unfold t_law_k05; exact (show TR (g_law_k05 e) _ from
 (j_setM (J := TR) jTR (q := fun scene => [sv script, sv scene, none, none, none, none, none, none, none, none, none]) H (tma (α := (Tu Box)) (g_scene script (0 : Int)) (w_un (am_p (tpa script (tp_var H rfl)) (am_p (tpa (0 : Int) (tp_c rfl)) (am_nil (kg_scene _ _)))))) (fun _ => rfl) fun scene e H => (tr_sqO (P' := (fun (_ : Unit) => [sv script, sv scene, none, none, none, none, none, none, none, none, none])) (to_forP (P := (fun (_ : Unit) => [sv script, sv scene, none, none, none, none, none, none, none, none, none])) (q := fun (_ : Unit) (box : Box) => [sv script, sv scene, sv box, none, none, none, none, none, none, none, none]) (f := (fun (_ : Unit) (box : Box) => t_law_k05_b1 scene box)) (s0 := ()) (tpl (scene).l (tp_un (tpa scene (tp_var H rfl)) (it_tu _))) ((EnvIs.mask [true, true, false, false, false, false, false, false, false, false, false] H).as rfl) (fun box _ e H => tg_name H rfl) (fun box _ e H => to_end (Q := (fun (_ : Unit) => [sv script, sv scene, none, none, none, none, none, none, none, none, none])) (j_set (J := TO (fun (_ : Unit) => [sv script, sv scene, none, none, none, none, none, none, none, none, none]))  (q := fun name1 => [sv script, sv scene, sv box, sv name1, none, none, none, none, none, none, none]) H (tpa box.nm (tp_bin (tpa box (tp_var H rfl)) (tpa (0 : Int) (tp_c rfl)) (rfl))) (fun _ => rfl) fun name1 e H => (j_setM (J := TO (fun (_ : Unit) => [sv script, sv scene, none, none, none, none, none, none, none, none, none])) jTO (q := fun inner => [sv script, sv scene, sv box, sv name1, sv inner, none, none, none, none, none, none]) H (tma (α := (List Str)) (g_below scene name1) (w_un (am_p (tpa scene (tp_var H rfl)) (am_p (tpa name1 (tp_var H rfl)) (am_nil (kg_below _ _)))))) (fun _ => rfl) fun inner e H => (j_setM (J := TO (fun (_ : Unit) => [sv script, sv scene, none, none, none, none, none, none, none, none, none])) jTO (q := fun less => [sv script, sv scene, sv box, sv name1, sv inner, sv less, none, none, none, none, none]) H (tma (α := (Tu Box)) (g_cut scene name1) (w_un (am_p (tpa scene (tp_var H rfl)) (am_p (tpa name1 (tp_var H rfl)) (am_nil (kg_cut _ _)))))) (fun _ => rfl) fun less e H => (j_setM (J := TO (fun (_ : Unit) => [sv script, sv scene, none, none, none, none, none, none, none, none, none])) jTO (q := fun top => [sv script, sv scene, sv box, sv name1, sv inner, sv less, sv top, none, none, none, none]) H (tma (α := (Tu Box)) (g_raised scene name1) (w_un (am_p (tpa scene (tp_var H rfl)) (am_p (tpa name1 (tp_var H rfl)) (am_nil (kg_raised _ _)))))) (fun _ => rfl) fun top e H => (j_ifXM jTO (J := TO (fun (_ : Unit) => [sv script, sv scene, none, none, none, none, none, none, none, none, none])) (ttm (((t_is_scene less) >>= fun v1 => .ok (!v1)) >>= fun v3 => if v3 = true then .ok true else ((t_is_scene top) >>= fun v2 => .ok (!v2))) (tm_orM (tm_not (tm_val (tma (α := Bool) (t_is_scene less) (w_un (am_p (tpa less (tp_var H rfl)) (am_nil (k_is_scene _))))))) (tm_not (tm_val (tma (α := Bool) (t_is_scene top) (w_un (am_p (tpa top (tp_var H rfl)) (am_nil (k_is_scene _))))))))) (to_tx (tx_ret (tpa false (tp_c rfl)))) (j_seqnil (j_ifXM jTO (J := TO (fun (_ : Unit) => [sv script, sv scene, none, none, none, none, none, none, none, none, none])) (ttm ((g_painted less) >>= fun v7 => ((((g_painted scene) >>= fun v5 => .ok v5) >>= fun v6 => compR (fun (one : Str) => (R.ok (!(decide (one ∈ inner))))) (fun (one : Str) => (R.ok one)) v6) >>= fun v8 => (.ok (!decide (v7 = v8))))) (w_tbin (ce_m (tma (α := (List Str)) (g_painted less) (w_un (am_p (tpa less (tp_var H rfl)) (am_nil (kg_painted _))))) fun v7 => (ce_m (tm_ofF (tml (α := Str) (((g_painted scene) >>= fun v5 => .ok v5) >>= fun v6 => compR (fun (one : Str) => (R.ok (!(decide (one ∈ inner))))) (fun (one : Str) => (R.ok one)) v6) (lc_m (p1 := [sv script, sv scene, sv box, sv name1, sv inner, sv less, sv top, none, none, none, none]) (q := fun one => [sv script, sv scene, sv box, sv name1, sv inner, sv less, sv top, sv one, none, none, none]) (pr := (fun (one : Str) => (R.ok (!(decide (one ∈ inner)))))) (g := (fun (one : Str) => (R.ok one))) H rfl (tml (α := Str) ((g_painted scene) >>= fun v5 => .ok v5) (w_un (ce_m (tma (α := (List Str)) (g_painted scene) (w_un (am_p (tpa scene (tp_var H rfl)) (am_nil (kg_painted _))))) fun v5 => (rr_p (it_list _))))) (fun one e H => tg_name H rfl) (fun one e H => (rr_p (ttb (!(decide (one ∈ inner))) (tt_bin (tpa one (tp_var H rfl)) (tpa inner (tp_var H rfl)) (op_notIn (inB_list (α := Str) (by decide) _ _)))))) (fun one e H => (rr_p (tpa one (tp_var H rfl))))))) fun v8 => (rr_bool (rr_p (op_ne (α := (List Str)) (by decide) _ _))))))) (to_tx (tx_ret (tpa false (tp_c rfl)))) (j_seqnil (j_ifXM jTO (J := TO (fun (_ : Unit) => [sv script, sv scene, none, none, none, none, none, none, none, none, none])) (ttm ((((g_children top box.ar) >>= fun v10 => (ixL v10 (-(1 : Int)))) >>= fun v11 => (.ok (!decide (v11 = name1)))) >>= fun v15 => if v15 = true then .ok true else (((g_below top name1) >>= fun v12 => (.ok (!decide (v12 = inner)))) >>= fun v14 => if v14 = true then .ok true else ((g_raised top name1) >>= fun v13 => (.ok (!decide (v13 = top)))))) (tm_orM (ttm (((g_children top box.ar) >>= fun v10 => (ixL v10 (-(1 : Int)))) >>= fun v11 => (.ok (!decide (v11 = name1)))) (w_tbin (ce_m (tma (α := Str) ((g_children top box.ar) >>= fun v10 => (ixL v10 (-(1 : Int)))) (w_bin (ce_m (tma (α := (List Str)) (g_children top box.ar) (w_un (am_p (tpa top (tp_var H rfl)) (am_p (tpa box.ar (tp_bin (tpa box (tp_var H rfl)) (tpa (1 : Int) (tp_c rfl)) (rfl))) (am_nil (kg_children _ _)))))) fun v10 => (ce_p (tpa (-(1 : Int)) (tp_un (tpa (1 : Int) (tp_c rfl)) (op_neg _))) (ro_ixL _ _))))) fun v11 => (ce_p (tpa name1 (tp_var H rfl)) (rr_bool (rr_p (op_ne (α := Str) (by decide) _ _))))))) (ttm (((g_below top name1) >>= fun v12 => (.ok (!decide (v12 = inner)))) >>= fun v14 => if v14 = true then .ok true else ((g_raised top name1) >>= fun v13 => (.ok (!decide (v13 = top))))) (tm_orM (ttm ((g_below top name1) >>= fun v12 => (.ok (!decide (v12 = inner)))) (w_tbin (ce_m (tma (α := (List Str)) (g_below top name1) (w_un (am_p (tpa top (tp_var H rfl)) (am_p (tpa name1 (tp_var H rfl)) (am_nil (kg_below _ _)))))) fun v12 => (ce_p (tpa inner (tp_var H rfl)) (rr_bool (rr_p (op_ne (α := (List Str)) (by decide) _ _))))))) (ttm ((g_raised top name1) >>= fun v13 => (.ok (!decide (v13 = top)))) (w_tbin (ce_m (tma (α := (Tu Box)) (g_raised top name1) (w_un (am_p (tpa top (tp_var H rfl)) (am_p (tpa name1 (tp_var H rfl)) (am_nil (kg_raised _ _)))))) fun v13 => (ce_p (tpa top (tp_var H rfl)) (rr_bool (rr_p (op_ne (α := (Tu Box)) (by decide) _ _))))))))))) (to_tx (tx_ret (tpa false (tp_c rfl)))) (j_seqnil (j_ifXM jTO (J := TO (fun (_ : Unit) => [sv script, sv scene, none, none, none, none, none, none, none, none, none])) (ttm (((((g_painted top) >>= fun v17 => .ok v17) >>= fun v18 => compR (fun (one : Str) => (R.ok (!(decide (one ∈ inner))))) (fun (one : Str) => (R.ok one)) v18) >>= fun v19 => ((g_painted less) >>= fun v20 => (.ok (!decide (v19 = v20))))) >>= fun v22 => if v22 = true then .ok true else ((g_cut top name1) >>= fun v21 => (.ok (!decide (v21 = less))))) (tm_orM (ttm ((((g_painted top) >>= fun v17 => .ok v17) >>= fun v18 => compR (fun (one : Str) => (R.ok (!(decide (one ∈ inner))))) (fun (one : Str) => (R.ok one)) v18) >>= fun v19 => ((g_painted less) >>= fun v20 => (.ok (!decide (v19 = v20))))) (w_tbin (ce_m (tm_ofF (tml (α := Str) (((g_painted top) >>= fun v17 => .ok v17) >>= fun v18 => compR (fun (one : Str) => (R.ok (!(decide (one ∈ inner))))) (fun (one : Str) => (R.ok one)) v18) (lc_m (p1 := [sv script, sv scene, sv box, sv name1, sv inner, sv less, sv top, none, none, none, none]) (q := fun one => [sv script, sv scene, sv box, sv name1, sv inner, sv less, sv top, sv one, none, none, none]) (pr := (fun (one : Str) => (R.ok (!(decide (one ∈ inner)))))) (g := (fun (one : Str) => (R.ok one))) H rfl (tml (α := Str) ((g_painted top) >>= fun v17 => .ok v17) (w_un (ce_m (tma (α := (List Str)) (g_painted top) (w_un (am_p (tpa top (tp_var H rfl)) (am_nil (kg_painted _))))) fun v17 => (rr_p (it_list _))))) (fun one e H => tg_name H rfl) (fun one e H => (rr_p (ttb (!(decide (one ∈ inner))) (tt_bin (tpa one (tp_var H rfl)) (tpa inner (tp_var H rfl)) (op_notIn (inB_list (α := Str) (by decide) _ _)))))) (fun one e H => (rr_p (tpa one (tp_var H rfl))))))) fun v19 => (ce_m (tma (α := (List Str)) (g_painted less) (w_un (am_p (tpa less (tp_var H rfl)) (am_nil (kg_painted _))))) fun v20 => (rr_bool (rr_p (op_ne (α := (List Str)) (by decide) _ _))))))) (ttm ((g_cut top name1) >>= fun v21 => (.ok (!decide (v21 = less)))) (w_tbin (ce_m (tma (α := (Tu Box)) (g_cut top name1) (w_un (am_p (tpa top (tp_var H rfl)) (am_p (tpa name1 (tp_var H rfl)) (am_nil (kg_cut _ _)))))) fun v21 => (ce_p (tpa less (tp_var H rfl)) (rr_bool (rr_p (op_ne (α := (Tu Box)) (by decide) _ _))))))))) (to_tx (tx_ret (tpa false (tp_c rfl)))) (j_seqnil (j_ifXM jTO (J := TO (fun (_ : Unit) => [sv script, sv scene, none, none, none, none, none, none, none, none, none])) (ttm (if (!decide (box.ar = ("" : Str))) = true then (((g_below top box.ar) >>= fun v24 => (.ok (cutL v24 (some (-((inner).length : Int))) none))) >>= fun v25 => (.ok (!decide (v25 = inner)))) else .ok false) (tm_andP (ttb (!decide (box.ar = ("" : Str))) (tt_bin (tpa box.ar (tp_bin (tpa box (tp_var H rfl)) (tpa (1 : Int) (tp_c rfl)) (rfl))) (tpa ("" : Str) (tp_c rfl)) (op_ne (α := Str) (by decide) _ _))) (ttm (((g_below top box.ar) >>= fun v24 => (.ok (cutL v24 (some (-((inner).length : Int))) none))) >>= fun v25 => (.ok (!decide (v25 = inner)))) (w_tbin (ce_m (tma (α := (List Str)) ((g_below top box.ar) >>= fun v24 => (.ok (cutL v24 (some (-((inner).length : Int))) none))) (w_slice (ce_m (tma (α := (List Str)) (g_below top box.ar) (w_un (am_p (tpa top (tp_var H rfl)) (am_p (tpa box.ar (tp_bin (tpa box (tp_var H rfl)) (tpa (1 : Int) (tp_c rfl)) (rfl))) (am_nil (kg_below _ _)))))) fun v24 => (ce_p (o_some (tpa (-((inner).length : Int)) (tp_un (tpa ((inner).length : Int) (tp_un (a_cons (tpa inner (tp_var H rfl)) a_nil) (op_len _))) (op_neg _)))) (ce_p o_none (rr_p (op_cut _ _ _))))))) fun v25 => (ce_p (tpa inner (tp_var H rfl)) (rr_bool (rr_p (op_ne (α := (List Str)) (by decide) _ _))))))))) (to_tx (tx_ret (tpa false (tp_c rfl)))) (j_seqnil (to_sqO (P := (fun (_ : Unit) => [sv script, sv scene, none, none, none, none, none, none, none, none, none])) (P' := (fun (_ : Unit) => [sv script, sv scene, sv box, sv name1, sv inner, sv less, sv top, none, none, none, none])) (to_forP (P := (fun (_ : Unit) => [sv script, sv scene, sv box, sv name1, sv inner, sv less, sv top, none, none, none, none])) (q := fun (_ : Unit) (one : Str) => [sv script, sv scene, sv box, sv name1, sv inner, sv less, sv top, sv one, none, none, none]) (f := (fun (_ : Unit) (one : Str) => t_law_k05_b2 scene top one)) (s0 := ()) (tpl inner (tp_un (tpa inner (tp_var H rfl)) (it_list _))) ((EnvIs.mask [true, true, true, true, true, true, true, false, false, false, false] H).as rfl) (fun one _ e H => tg_name H rfl) (fun one _ e H => to_end (Q := (fun (_ : Unit) => [sv script, sv scene, sv box, sv name1, sv inner, sv less, sv top, none, none, none, none])) (j_ifM jTO (J := TO (fun (_ : Unit) => [sv script, sv scene, sv box, sv name1, sv inner, sv less, sv top, none, none, none, none])) (ttm (((g_path_of top one) >>= fun v27 => ((g_path_of scene one) >>= fun v28 => (.ok (!decide (v27 = v28))))) >>= fun v31 => if v31 = true then .ok true else ((g_box_of top one) >>= fun v29 => ((g_box_of scene one) >>= fun v30 => (.ok (!decide (v29 = v30)))))) (tm_orM (ttm ((g_path_of top one) >>= fun v27 => ((g_path_of scene one) >>= fun v28 => (.ok (!decide (v27 = v28))))) (w_tbin (ce_m (tma (α := (List Str)) (g_path_of top one) (w_un (am_p (tpa top (tp_var H rfl)) (am_p (tpa one (tp_var H rfl)) (am_nil (kg_path_of _ _)))))) fun v27 => (ce_m (tma (α := (List Str)) (g_path_of scene one) (w_un (am_p (tpa scene (tp_var H rfl)) (am_p (tpa one (tp_var H rfl)) (am_nil (kg_path_of _ _)))))) fun v28 => (rr_bool (rr_p (op_ne (α := (List Str)) (by decide) _ _))))))) (ttm ((g_box_of top one) >>= fun v29 => ((g_box_of scene one) >>= fun v30 => (.ok (!decide (v29 = v30))))) (w_tbin (ce_m (tma (α := Box) (g_box_of top one) (w_un (am_p (tpa top (tp_var H rfl)) (am_p (tpa one (tp_var H rfl)) (am_nil (kg_box_of _ _)))))) fun v29 => (ce_m (tma (α := Box) (g_box_of scene one) (w_un (am_p (tpa scene (tp_var H rfl)) (am_p (tpa one (tp_var H rfl)) (am_nil (kg_box_of _ _)))))) fun v30 => (rr_bool (rr_p (op_ne (α := Box) (by decide) _ _)))))))))
 (to_ret (tpa false (tp_c rfl)))
 (to_nil (P := (fun (_ : Unit) => [sv script, sv scene, sv box, sv name1, sv inner, sv less, sv top, none, none, none, none])) (s := ()) ((EnvIs.mask [true, true, true, true, true, true, true, false, false, false, false] H).as rfl))) (fun _ => rfl))) fun _ e H => (j_setM (J := TO (fun (_ : Unit) => [sv script, sv scene, none, none, none, none, none, none, none, none, none])) jTO (q := fun other => [sv script, sv scene, sv box, sv name1, sv inner, sv less, sv top, none, sv other, none, none]) H (tma (α := (Tu Box)) (t_put_at scene name1 (box.l - (2 : Int)) (box.t + (3 : Int))) (w_un (am_p (tpa scene (tp_var H rfl)) (am_p (tpa name1 (tp_var H rfl)) (am_p (tpa (box.l - (2 : Int)) (tp_bin (tpa box.l (tp_bin (tpa box (tp_var H rfl)) (tpa (2 : Int) (tp_c rfl)) (rfl))) (tpa (2 : Int) (tp_c rfl)) (op_sub _ _))) (am_p (tpa (box.t + (3 : Int)) (tp_bin (tpa box.t (tp_bin (tpa box (tp_var H rfl)) (tpa (3 : Int) (tp_c rfl)) (rfl))) (tpa (3 : Int) (tp_c rfl)) (op_add _ _))) (am_nil (k_put_at _ _ _ _)))))))) (fun _ => rfl) fun other e H => (j_ifXM jTO (J := TO (fun (_ : Unit) => [sv script, sv scene, none, none, none, none, none, none, none, none, none])) (ttm (((t_put_at other name1 box.l box.t) >>= fun v33 => (.ok (!decide (v33 = scene)))) >>= fun v36 => if v36 = true then .ok true else (((t_marked scene name1 ("h" : Str)) >>= fun v34 => (t_marked v34 name1 box.ms)) >>= fun v35 => (.ok (!decide (v35 = scene))))) (tm_orM (ttm ((t_put_at other name1 box.l box.t) >>= fun v33 => (.ok (!decide (v33 = scene)))) (w_tbin (ce_m (tma (α := (Tu Box)) (t_put_at other name1 box.l box.t) (w_un (am_p (tpa other (tp_var H rfl)) (am_p (tpa name1 (tp_var H rfl)) (am_p (tpa box.l (tp_bin (tpa box (tp_var H rfl)) (tpa (2 : Int) (tp_c rfl)) (rfl))) (am_p (tpa box.t (tp_bin (tpa box (tp_var H rfl)) (tpa (3 : Int) (tp_c rfl)) (rfl))) (am_nil (k_put_at _ _ _ _)))))))) fun v33 => (ce_p (tpa scene (tp_var H rfl)) (rr_bool (rr_p (op_ne (α := (Tu Box)) (by decide) _ _))))))) (ttm (((t_marked scene name1 ("h" : Str)) >>= fun v34 => (t_marked v34 name1 box.ms)) >>= fun v35 => (.ok (!decide (v35 = scene)))) (w_tbin (ce_m (tma (α := (Tu Box)) ((t_marked scene name1 ("h" : Str)) >>= fun v34 => (t_marked v34 name1 box.ms)) (w_un (am_m (tma (α := (Tu Box)) (t_marked scene name1 ("h" : Str)) (w_un (am_p (tpa scene (tp_var H rfl)) (am_p (tpa name1 (tp_var H rfl)) (am_p (tpa ("h" : Str) (tp_c rfl)) (am_nil (k_marked _ _ _))))))) fun v34 => (am_p (tpa name1 (tp_var H rfl)) (am_p (tpa box.ms (tp_bin (tpa box (tp_var H rfl)) (tpa (6 : Int) (tp_c rfl)) (rfl))) (am_nil (k_marked _ _ _))))))) fun v35 => (ce_p (tpa scene (tp_var H rfl)) (rr_bool (rr_p (op_ne (α := (Tu Box)) (by decide) _ _))))))))) (to_tx (tx_ret (tpa false (tp_c rfl)))) (j_seqnil (to_one (to_sqO (P := (fun (_ : Unit) => [sv script, sv scene, none, none, none, none, none, none, none, none, none])) (P' := (fun (_ : Unit) => [sv script, sv scene, sv box, sv name1, sv inner, sv less, sv top, none, sv other, none, none])) (to_forM (P := (fun (_ : Unit) => [sv script, sv scene, sv box, sv name1, sv inner, sv less, sv top, none, sv other, none, none])) (q := fun (_ : Unit) (one : Str) => [sv script, sv scene, sv box, sv name1, sv inner, sv less, sv top, sv one, sv other, none, none]) (f := (fun (_ : Unit) (one : Str) => t_law_k05_b3 scene inner other one)) (s0 := ()) (tml (α := Str) ((g_painted scene) >>= fun v38 => .ok v38) (w_un (ce_m (tma (α := (List Str)) (g_painted scene) (w_un (am_p (tpa scene (tp_var H rfl)) (am_nil (kg_painted _))))) fun v38 => (rr_p (it_list _))))) ((EnvIs.mask [true, true, true, true, true, true, true, false, true, false, false] H).as rfl) (fun one _ e H => tg_name H rfl) (fun one _ e H => to_end (Q := (fun (_ : Unit) => [sv script, sv scene, sv box, sv name1, sv inner, sv less, sv top, none, sv other, none, none])) (j_setM (J := TO (fun (_ : Unit) => [sv script, sv scene, sv box, sv name1, sv inner, sv less, sv top, none, sv other, none, none])) jTO (q := fun before => [sv script, sv scene, sv box, sv name1, sv inner, sv less, sv top, sv one, sv other, sv before, none]) H (tma (α := (T4 Int Int Int Int)) (g_area_of scene one) (w_un (am_p (tpa scene (tp_var H rfl)) (am_p (tpa one (tp_var H rfl)) (am_nil (kg_area_of _ _)))))) (fun _ => rfl) fun before e H => (j_setM (J := TO (fun (_ : Unit) => [sv script, sv scene, sv box, sv name1, sv inner, sv less, sv top, none, sv other, none, none])) jTO (q := fun by1 => [sv script, sv scene, sv box, sv name1, sv inner, sv less, sv top, sv one, sv other, sv before, sv by1]) H (tma (α := (Int × Int)) (ixL [((0 : Int), (0 : Int)), ((-(2 : Int)), (3 : Int))] (b2i (decide (one ∈ inner)))) (w_bin (ce_p (tp_ofF (tpl [((0 : Int), (0 : Int)), ((-(2 : Int)), (3 : Int))] (tp_un (a_cons (tpa ((0 : Int), (0 : Int)) (tp_un (a_cons (tpa (0 : Int) (tp_c rfl)) (a_cons (tpa (0 : Int) (tp_c rfl)) a_nil)) (op_tn 2 (by decide) rfl))) (a_cons (tpa ((-(2 : Int)), (3 : Int)) (tp_un (a_cons (tpa (-(2 : Int)) (tp_un (tpa (2 : Int) (tp_c rfl)) (op_neg _))) (a_cons (tpa (3 : Int) (tp_c rfl)) a_nil)) (op_tn 2 (by decide) rfl))) a_nil)) (op_lst [((0 : Int), (0 : Int)), ((-(2 : Int)), (3 : Int))] rfl (smn 2 (by decide) rfl))))) (ce_p (tpa (b2i (decide (one ∈ inner))) (tp_un (a_cons (tpa (decide (one ∈ inner)) (tp_bin (tpa one (tp_var H rfl)) (tpa inner (tp_var H rfl)) (op_in (inB_list (α := Str) (by decide) _ _)))) a_nil) (op_intB _))) (ro_ixL _ _))))) (fun _ => rfl) fun by1 e H => (j_ifM jTO (J := TO (fun (_ : Unit) => [sv script, sv scene, sv box, sv name1, sv inner, sv less, sv top, none, sv other, none, none])) (ttm ((g_area_of other one) >>= fun v39 => (.ok (!decide (v39 = (T4.mk (before.a + by1.1) (before.b + by1.2) (before.c + by1.1) (before.d + by1.2)))))) (w_tbin (ce_m (tma (α := (T4 Int Int Int Int)) (g_area_of other one) (w_un (am_p (tpa other (tp_var H rfl)) (am_p (tpa one (tp_var H rfl)) (am_nil (kg_area_of _ _)))))) fun v39 => (ce_p (tpa (T4.mk (before.a + by1.1) (before.b + by1.2) (before.c + by1.1) (before.d + by1.2)) (tp_un (a_cons (tpa (before.a + by1.1) (tp_bin (tpa before.a (tp_bin (tpa before (tp_var H rfl)) (tpa (0 : Int) (tp_c rfl)) (rfl))) (tpa by1.1 (tp_bin (tpa by1 (tp_var H rfl)) (tpa (0 : Int) (tp_c rfl)) (rfl))) (op_add _ _))) (a_cons (tpa (before.b + by1.2) (tp_bin (tpa before.b (tp_bin (tpa before (tp_var H rfl)) (tpa (1 : Int) (tp_c rfl)) (rfl))) (tpa by1.2 (tp_bin (tpa by1 (tp_var H rfl)) (tpa (1 : Int) (tp_c rfl)) (rfl))) (op_add _ _))) (a_cons (tpa (before.c + by1.1) (tp_bin (tpa before.c (tp_bin (tpa before (tp_var H rfl)) (tpa (2 : Int) (tp_c rfl)) (rfl))) (tpa by1.1 (tp_bin (tpa by1 (tp_var H rfl)) (tpa (0 : Int) (tp_c rfl)) (rfl))) (op_add _ _))) (a_cons (tpa (before.d + by1.2) (tp_bin (tpa before.d (tp_bin (tpa before (tp_var H rfl)) (tpa (3 : Int) (tp_c rfl)) (rfl))) (tpa by1.2 (tp_bin (tpa by1 (tp_var H rfl)) (tpa (1 : Int) (tp_c rfl)) (rfl))) (op_add _ _))) a_nil)))) (op_tn 4 (by decide) rfl))) (rr_bool (rr_p (op_ne (α := (T4 Int Int Int Int)) (by decide) _ _)))))))
 (to_ret (tpa false (tp_c rfl)))
 (to_nil (P := (fun (_ : Unit) => [sv script, sv scene, sv box, sv name1, sv inner, sv less, sv top, none, sv other, none, none])) (s := ()) ((EnvIs.mask [true, true, true, true, true, true, true, false, true, false, false] H).as rfl))))) (fun _ => rfl))) fun _ e H => (to_nil (P := (fun (_ : Unit) => [sv script, sv scene, none, none, none, none, none, none, none, none, none])) (s := ()) ((EnvIs.mask [true, true, false, false, false, false, false, false, false, false, false] H).as rfl)))))))))))))))))))))) (fun _ => rfl))) fun _ e H => (tr_ret (rr_p (tpa true (tp_c rfl))))))))
end
end Ty

/-! When is_scene tells True. -/
namespace Ty
open PySem Dx Dn Fo
open Enc (enc)
theorem within_ok (i lo hi : Int) : t_is_within i lo hi = .ok (decide (lo ≤ i) && decide (i ≤ hi)) := rfl
def okNm (n : Str) : Prop := t_is_name n = .ok true
def okMs (m : Str) : Prop := t_are_marks m = .ok true
structure BxO (b : Box) : Prop where
  nm : okNm b.nm
  ms : okMs b.ms
  l : -20 ≤ b.l ∧ b.l ≤ 20
  t : -20 ≤ b.t ∧ b.t ≤ 20
  w : 0 ≤ b.w ∧ b.w ≤ 20
  h : 0 ≤ b.h ∧ b.h ≤ 20
theorem box_ok {b : Box} (o : BxO b) : t_is_box b = .ok true := by
  unfold t_is_box
  rw [show isiG "tuple" (Co.f b : D) = .ok true from rfl, show isiG "str" (Co.f b.ar : D) = .ok true from rfl, show t_is_name b.nm = .ok true from o.nm, show t_are_marks b.ms = .ok true from o.ms]
  have e1 : compR (fun (at1 : Int) => R.ok true) (fun (at1 : Int) => (t_is_within at1 ((0 : Int) - (20 : Int)) (20 : Int))) ((Co.f (b.l, b.t) : (Tu Int))).l = .ok [true, true] := by
    show ((R.ok (decide ((0 : Int) - 20 ≤ b.l) && decide (b.l ≤ 20))) >>= fun y => ((R.ok (decide ((0 : Int) - 20 ≤ b.t) && decide (b.t ≤ 20))) >>= fun z => R.ok [z]) >>= fun ys => R.ok (y :: ys)) = _
    have h1 := o.l; have h2 := o.t
    rw [decide_eq_true (show (0 : Int) - 20 ≤ b.l by omega), decide_eq_true h1.2, decide_eq_true (show (0 : Int) - 20 ≤ b.t by omega), decide_eq_true h2.2]; rfl
  have e2 : compR (fun (size : Int) => R.ok true) (fun (size : Int) => (t_is_within size (0 : Int) (20 : Int))) ((Co.f (b.w, b.h) : (Tu Int))).l = .ok [true, true] := by
    show ((R.ok (decide ((0 : Int) ≤ b.w) && decide (b.w ≤ 20))) >>= fun y => ((R.ok (decide ((0 : Int) ≤ b.h) && decide (b.h ≤ 20))) >>= fun z => R.ok [z]) >>= fun ys => R.ok (y :: ys)) = _
    have h1 := o.w; have h2 := o.h
    rw [decide_eq_true h1.1, decide_eq_true h1.2, decide_eq_true h2.1, decide_eq_true h2.2]; rfl
  rw [e1, e2]
  rfl
theorem wf_at : ∀ {S : List Box} {K : List Str}, wf K S → ∀ (i : Nat) (b : Box), S[i]? = some b → b.ar = "" ∨ b.ar ∈ (names S).take i ∨ b.ar ∈ K
  | [], _, _, i, b, h => by simp at h
  | c :: S, K, ⟨_, _, h2, h3⟩, 0, b, h => by
    simp at h; subst h
    rcases h2 with z | z
    · exact .inl z
    · exact .inr (.inr z)
  | c :: S, K, ⟨_, _, h2, h3⟩, i + 1, b, h => by
    rcases wf_at h3 i b (by simpa using h) with z | z | z
    · exact .inl z
    · exact .inr (.inl (by rw [names_cons, List.take_succ_cons]; exact List.mem_cons_of_mem _ z))
    · rcases List.mem_cons.mp z with z | z
      · exact .inr (.inl (by rw [names_cons, List.take_succ_cons, z]; simp))
      · exact .inr (.inr z)
theorem nub_self {κ : Type} [DecidableEq κ] : ∀ {ks : List κ}, ks.Nodup → Sx.nub ks = ks
  | [], _ => rfl
  | k :: ks, h => by
    rw [List.nodup_cons] at h
    unfold Sx.nub
    rw [if_neg h.1, nub_self h.2]
theorem scene_ok {S : List Box} (w : wf [] S) (hl : S.length ≤ 12) (ho : ∀ b ∈ S, BxO b) : t_is_scene ⟨S⟩ = .ok true := by
  unfold t_is_scene
  have e1 : compR (fun (box : Box) => R.ok true) (fun (box : Box) => (t_is_box box)) (Tu.mk S).l = .ok (S.map fun _ => true) := compR_map _ _ _ _ (fun _ _ => rfl) fun b hb => box_ok (ho b hb)
  rw [show isiG "tuple" (Co.f (Tu.mk S) : D) = .ok true from rfl, e1]
  have e2 : decide ((12 : Int) < ((Tu.mk S).l.length : Int)) = false := decide_eq_false (by show ¬ (12 : Int) < (S.length : Int); omega)
  rw [e2]
  have e3 : List.all (S.map fun _ => true) id = true := by simp
  simp only [R.ok_bind, Bool.not_true, e3, if_false, Bool.false_eq_true, letT]
  have e4 : lenSetG (S.map fun box => box.nm) = .ok (S.length : Nat) := by
    unfold lenSetG
    rw [List.length_map, if_pos (by omega), nub_self (show (S.map fun box => box.nm).Nodup from wf_nodup w), List.length_map]
  rw [e4]
  simp only [R.ok_bind, List.length_map]
  rw [if_neg (by simp)]
  congr 1
  rw [List.all_map, List.all_eq_true]
  rintro ⟨i, b0⟩ hm
  unfold enumI at hm
  obtain ⟨⟨b, j⟩, hj, e⟩ := List.mem_map.mp hm
  cases e
  have hj' := List.mem_zipIdx hj
  have hb : S[j]? = some b := by
    have := hj'.2.2
    simp at this
    have hlt : j < S.length := by have := hj'.2.1; omega
    rw [List.getElem?_eq_getElem hlt]; simp [this]
  show (decide (b.ar = "") || decide (b.ar ∈ cutL (S.map fun box => box.nm) none (some (j : Int)))) = true
  rw [cutL_to]
  rcases wf_at w j b hb with z | z | z
  · rw [decide_eq_true z]; rfl
  · rw [decide_eq_true (show b.ar ∈ (S.map fun box => box.nm).take j from z), Bool.or_true]
  · cases z
theorem ms_okM : ∀ m ∈ msAll, okMs m := by
  have one : ∀ m : Str, (match t_are_marks m with | .ok b => b | _ => false) = true → okMs m := by
    intro m h
    unfold okMs
    cases e : t_are_marks m with
    | ok b => rw [e] at h; simp at h; rw [h]
    | exc c => rw [e] at h; cases h
    | bad => rw [e] at h; cases h
  intro m hm
  refine one m ?_
  have : (msAll.all fun m => (match t_are_marks m with | .ok b => b | _ => false)) = true := by decide +kernel
  exact List.all_eq_true.mp this m hm
theorem letter_okN (i : Nat) : okNm (letter i) := by
  have one : ∀ m : Str, (match t_is_name m with | .ok b => b | _ => false) = true → okNm m := by
    intro m h
    unfold okNm
    cases e : t_is_name m with
    | ok b => rw [e] at h; simp at h; rw [h]
    | exc c => rw [e] at h; cases h
    | bad => rw [e] at h; cases h
  refine one _ ?_
  have : ((List.range 8).all fun i => (match t_is_name (letter i) with | .ok b => b | _ => false)) = true := by decide +kernel
  have h := List.all_eq_true.mp this (i % 8) (List.mem_range.mpr (Nat.mod_lt _ (by decide)))
  have e : letter (i % 8) = letter i := by unfold letter; rw [Nat.mod_mod]
  rw [e] at h; exact h
theorem scene_bx {ns : List Int} (h : ns.length ≤ 63) (at_ : Int) : ∀ b ∈ scene ns at_, BxO b := by
  intro b hb
  have hs := mkSc_small h at_ _ b hb
  have hm := ms_okM _ (scene_ms at_ b hb)
  have hn : ∃ i, b.nm = letter i := by
    have : b.nm ∈ names (scene ns at_) := mem_names.mpr ⟨b, hb, rfl⟩
    unfold scene at this
    rw [mkSc_names, List.mem_map] at this
    obtain ⟨i, _, e⟩ := this
    exact ⟨_, e.symm⟩
  obtain ⟨i, hi⟩ := hn
  exact ⟨hi ▸ letter_okN i, hm, by omega, by omega, by omega, by omega⟩
end Ty

/-! typed defs, printed by tgen.py -/
namespace Ty
open PySem Dx Dn Fo
open Enc (enc)
noncomputable section
def t_number_in (word : Str) : R Int :=
 (letT (if (decide ((L2.cutS word none (some (1 : Int))) = ("-" : Str))) = true then (L2.cutS word (some (1 : Int)) none) else word) fun figures =>
 ((if (!((decide ((1 : Int) ≤ ((figures).length : Int))) && (decide (((figures).length : Int) ≤ (3 : Int))))) = true then .ok true else (((compR (fun (sign : Str) => R.ok true) (fun (sign : Str) => (signIn sign ("0123456789" : Str))) (chars figures)) >>= fun v1 => (.ok (List.all v1 id))) >>= fun v2 => .ok (!v2))) >>= fun v3 =>
 (if v3 = true then
 (.exc "NoText")
 else
 (intTG word))))
theorem k_number_in (word : Str) : Rr (den_number_in [enc word]) (t_number_in word) enc :=
  fn_of (p0 := [sv word, none, none]) rfl rfl fun e H => (by unfold t_number_in; exact (show TR (g_number_in e) _ from
 (j_set (J := TR)  (q := fun figures => [sv word, sv figures, none]) H (tpa (if (decide ((L2.cutS word none (some (1 : Int))) = ("-" : Str))) = true then (L2.cutS word (some (1 : Int)) none) else word) (te_if (ttb (decide ((L2.cutS word none (some (1 : Int))) = ("-" : Str))) (tt_bin (tpa (L2.cutS word none (some (1 : Int))) (tp_slice (tpa word (tp_var H rfl)) o_none (o_some (tpa (1 : Int) (tp_c rfl))) (op_cutS _ _ _))) (tpa ("-" : Str) (tp_c rfl)) (op_eq (α := Str) (by decide) _ _))) (tpa (L2.cutS word (some (1 : Int)) none) (tp_slice (tpa word (tp_var H rfl)) (o_some (tpa (1 : Int) (tp_c rfl))) o_none (op_cutS _ _ _))) (tpa word (tp_var H rfl)))) (fun _ => rfl) fun figures e H => (j_ifXM jTR (J := TR) (ttm (if (!((decide ((1 : Int) ≤ ((figures).length : Int))) && (decide (((figures).length : Int) ≤ (3 : Int))))) = true then .ok true else (((compR (fun (sign : Str) => R.ok true) (fun (sign : Str) => (signIn sign ("0123456789" : Str))) (chars figures)) >>= fun v1 => (.ok (List.all v1 id))) >>= fun v2 => .ok (!v2))) (tm_orP (tt_not (ttb ((decide ((1 : Int) ≤ ((figures).length : Int))) && (decide (((figures).length : Int) ≤ (3 : Int)))) (tt_chain (tpa (1 : Int) (tp_c rfl)) (tpa ((figures).length : Int) (tp_un (a_cons (tpa figures (tp_var H rfl)) a_nil) (op_lenS _))) (tpa (3 : Int) (tp_c rfl)) (op_le _ _) (op_le _ _)))) (tm_not (tm_val (tma (α := Bool) ((compR (fun (sign : Str) => R.ok true) (fun (sign : Str) => (signIn sign ("0123456789" : Str))) (chars figures)) >>= fun v1 => (.ok (List.all v1 id))) (w_un (am_m (tm_ofF (tml (α := Bool) (compR (fun (sign : Str) => R.ok true) (fun (sign : Str) => (signIn sign ("0123456789" : Str))) (chars figures)) (lc_xm (p1 := [sv word, sv figures, none]) (q := fun sign => [sv word, sv figures, sv sign]) (pr := (fun (sign : Str) => R.ok true)) (g := (fun (sign : Str) => (signIn sign ("0123456789" : Str)))) H rfl (tpl (chars figures) (tp_un (tpa figures (tp_var H rfl)) (it_str _))) (fun sign e H => tg_name H rfl) (fun sign e H => c_true) (fun sign e H => (tma (α := Bool) (signIn sign ("0123456789" : Str)) (w_bin (ce_p (tpa sign (tp_var H rfl)) (ce_p (tpa ("0123456789" : Str) (tp_c rfl)) (ro_in (ro_signIn _ _)))))))))) fun v1 => (am_nil (rr_p (op_all _)))))))))) (tr_x tr_raise) (j_seqnil (tr_ret (tma (α := Int) (intTG word) (w_un (am_p (tpa word (tp_var H rfl)) (am_nil (ro_intT _)))))))))))
def t_text_in (word : Str) : Str :=
 (if (decide (word = ("-" : Str))) = true then ("" : Str) else word)
theorem k_text_in (word : Str) : den_text_in [enc word] = .ok (enc (t_text_in word)) :=
  fn_ofP (p0 := [sv word]) rfl rfl fun e H => (by unfold t_text_in; exact (show TRp (g_text_in e) _ from
 (trp_ret (tpa (if (decide (word = ("-" : Str))) = true then ("" : Str) else word) (te_if (ttb (decide (word = ("-" : Str))) (tt_bin (tpa word (tp_var H rfl)) (tpa ("-" : Str) (tp_c rfl)) (op_eq (α := Str) (by decide) _ _))) (tpa ("" : Str) (tp_c rfl)) (tpa word (tp_var H rfl)))))))
end
end Ty

/-! the box that a line tells -/
namespace Ty
open PySem Dx Dn Fo
open Enc (enc)
noncomputable section
def nB (w : Str) : R Int := match t_number_in w with | .ok i => .ok i | _ => .bad
def box7 : List Str → R Box
  | [a, b, c, d, e, f, g] => nB c >>= fun l => nB d >>= fun t => nB e >>= fun w => nB f >>= fun h => .ok ⟨a, t_text_in b, l, t, w, h, t_text_in g⟩
  | _ => .exc "NoText"
def gt_box_in (line : Str) : R Box := splitG line " " >>= box7
theorem nB_ok {w : Str} {i : Int} (h : nB w = .ok i) : den_number_in [enc w] = .ok (enc i) := by
  have k := k_number_in w
  unfold nB at h
  cases e : t_number_in w with
  | ok j => rw [e] at h k; cases h; exact k
  | exc c => rw [e] at h; cases h
  | bad => rw [e] at h; cases h
theorem nB_cases (w : Str) : (∃ i, nB w = .ok i) ∨ nB w = .bad := by
  unfold nB
  cases t_number_in w with
  | ok j => exact .inl ⟨j, rfl⟩
  | exc c => exact .inr rfl
  | bad => exact .inr rfl
theorem kg_box_in (line : Str) : Rr (den_box_in [enc line]) (gt_box_in line) enc := by
  have hs := ro_split line " "
  unfold gt_box_in
  cases hw : splitG line " " with
  | bad => trivial
  | exc c =>
    exfalso
    unfold splitG at hw
    split at hw <;> cases hw
  | ok ws =>
    rw [hw] at hs
    have hs : splitR (enc line) (.str " ") = .ok (ws.map enc) := hs
    have hr : strR (enc line) = .ok (enc line) := rfl
    show Rr (runB 2 g_box_in [enc line]) (box7 ws) enc
    have h1 : eSplit (getD' 0) (eC (.str " ")) [.d (enc line), .u, .u] = .ok (ws.map enc) := by
      unfold eSplit
      simp [hr, hs]
    unfold runB g_box_in
    by_cases hl : ws.length = 7
    · match ws, hl with
      | [a, b, c, d, e, f, g], _ =>
        have l7 : lenR [.lst [enc a, enc b, enc c, enc d, enc e, enc f, enc g]] = .ok (.int 7) := rfl
        have n7 : neR (.int 7) (.int 7) = .ok (.bl false) := rfl
        have x0 : ixR (.lst [enc a, enc b, enc c, enc d, enc e, enc f, enc g]) (.int 0) = .ok (enc a) := rfl
        have x1 : ixR (.lst [enc a, enc b, enc c, enc d, enc e, enc f, enc g]) (.int 1) = .ok (enc b) := rfl
        have x6 : ixR (.lst [enc a, enc b, enc c, enc d, enc e, enc f, enc g]) (.int 6) = .ok (enc g) := rfl
        have sl : sliceR (.lst [enc a, enc b, enc c, enc d, enc e, enc f, enc g]) (some 2) (some 6) = .ok (.lst [enc c, enc d, enc e, enc f]) := rfl
        have tb := k_text_in b
        have tg := k_text_in g
        rcases nB_cases c with ⟨l, hc⟩ | hc
        · rcases nB_cases d with ⟨t, hd⟩ | hd
          · rcases nB_cases e with ⟨w, he⟩ | he
            · rcases nB_cases f with ⟨h, hf⟩ | hf
              · have c1 := nB_ok hc; have c2 := nB_ok hd; have c3 := nB_ok he; have c4 := nB_ok hf
                simp only [box7, hc, hd, he, hf, R.ok_bind]
                have hc1 : compO (nameT 2) tTrue (eUn den_number_in (aCons (getD' 2) aNil)) [.d (enc line), .d (.lst [enc a, enc b, enc c, enc d, enc e, enc f, enc g]), .u] [enc c, enc d, enc e, enc f] = .ok [enc l, enc t, enc w, enc h] := by
                  simp [compO, nameT, tTrue, c1, c2, c3, c4]
                have is : itemsR (.lst [enc c, enc d, enc e, enc f]) = .ok [enc c, enc d, enc e, enc f] := rfl
                have t1 : tupleR [.lst [enc l, enc t, enc w, enc h]] = .ok (.tup [enc l, enc t, enc w, enc h]) := rfl
                have t2 : ∀ x y : D, tupR [x, y] = .ok (.tup [x, y]) := fun _ _ => rfl
                have t3 : ∀ x : D, tupR [x] = .ok (.tup [x]) := fun _ => rfl
                have l4 : lstR [enc l, enc t, enc w, enc h] = .ok [enc l, enc t, enc w, enc h] := rfl
                have a1 : ∀ x y z u v v' : D, addR (.tup [x, y]) (.tup [z, u, v, v']) = .ok (.tup [x, y, z, u, v, v']) := fun _ _ _ _ _ _ => rfl
                have a2 : ∀ x y z u v v' o : D, addR (.tup [x, y, z, u, v, v']) (.tup [o]) = .ok (.tup [x, y, z, u, v, v', o]) := fun _ _ _ _ _ _ _ => rfl
                have o2 : optR (.int 2) = .ok (some 2) := rfl
                have o6 : optR (.int 6) = .ok (some 6) := rfl
                simp [h1, l7, n7, x0, x1, x6, sl, tb, tg, hc1, is, t1, t2, t3, l4, a1, a2, o2, o6, List.map, wipeE]
                rfl
              · simp only [box7, hc, hd, he, hf, R.ok_bind, R.bad_bind]; trivial
            · simp only [box7, hc, hd, he, R.ok_bind, R.bad_bind]; trivial
          · simp only [box7, hc, hd, R.ok_bind, R.bad_bind]; trivial
        · simp only [box7, hc, R.bad_bind]; trivial
    · have hb : box7 ws = .exc "NoText" := by
        unfold box7
        split
        · exact absurd rfl hl
        · rfl
      rw [hb]
      have ln : lenR [.lst (ws.map enc)] = .ok (.int ws.length) := by simp [lenR]
      have n7 : neR (.int ws.length) (.int 7) = .ok (.bl true) := by
        simp [ne_int]
        omega
      simp [h1, ln, n7]
      rfl
end
end Ty

/-! typed defs, printed by tgen.py -/
namespace Ty
open PySem Dx Dn Fo
open Enc (enc)
noncomputable section
def t_or_bar (text : Str) : Str :=
 (if (!decide (text = ("" : Str))) = true then text else ("-" : Str))
theorem k_or_bar (text : Str) : den_or_bar [enc text] = .ok (enc (t_or_bar text)) :=
  fn_ofP (p0 := [sv text]) rfl rfl fun e H => (by unfold t_or_bar; exact (show TRp (g_or_bar e) _ from
 (trp_ret (tpa (if (!decide (text = ("" : Str))) = true then text else ("-" : Str)) (te_if (ttb (!decide (text = ("" : Str))) (tt_bin (tpa text (tp_var H rfl)) (tpa ("" : Str) (tp_c rfl)) (op_ne (α := Str) (by decide) _ _))) (tpa text (tp_var H rfl)) (tpa ("-" : Str) (tp_c rfl)))))))
def t_box_text (box : Box) : R Str :=
 ((((compR (fun (number : Int) => R.ok true) (fun (number : Int) => (strG number)) ((Co.f (T4.mk box.l box.t box.w box.h) : (Tu Int))).l) >>= fun v1 => (catL [box.nm, (t_or_bar box.ar)] v1)) >>= fun v2 => (catL v2 [(t_or_bar box.ms)])) >>= fun v3 => (joinG (" " : Str) v3))
theorem k_box_text (box : Box) : Rr (den_box_text [enc box]) (t_box_text box) enc :=
  fn_of (p0 := [sv box, none]) rfl rfl fun e H => (by unfold t_box_text; exact (show TR (g_box_text e) _ from
 (tr_ret (tma (α := Str) ((((compR (fun (number : Int) => R.ok true) (fun (number : Int) => (strG number)) ((Co.f (T4.mk box.l box.t box.w box.h) : (Tu Int))).l) >>= fun v1 => (catL [box.nm, (t_or_bar box.ar)] v1)) >>= fun v2 => (catL v2 [(t_or_bar box.ms)])) >>= fun v3 => (joinG (" " : Str) v3)) (w_join (ce_p (tpa (" " : Str) (tp_c rfl)) (ce_p (op_str _) (ce_m (tma (α := (List Str)) (((compR (fun (number : Int) => R.ok true) (fun (number : Int) => (strG number)) ((Co.f (T4.mk box.l box.t box.w box.h) : (Tu Int))).l) >>= fun v1 => (catL [box.nm, (t_or_bar box.ar)] v1)) >>= fun v2 => (catL v2 [(t_or_bar box.ms)])) (w_bin (ce_m (tma (α := (List Str)) ((compR (fun (number : Int) => R.ok true) (fun (number : Int) => (strG number)) ((Co.f (T4.mk box.l box.t box.w box.h) : (Tu Int))).l) >>= fun v1 => (catL [box.nm, (t_or_bar box.ar)] v1)) (w_bin (ce_p (tp_ofF (tpl [box.nm, (t_or_bar box.ar)] (tp_un (a_cons (tpa box.nm (tp_bin (tpa box (tp_var H rfl)) (tpa (0 : Int) (tp_c rfl)) (rfl))) (a_cons (tpa (t_or_bar box.ar) (tp_un (a_cons (tpa box.ar (tp_bin (tpa box (tp_var H rfl)) (tpa (1 : Int) (tp_c rfl)) (rfl))) a_nil) (k_or_bar _))) a_nil)) (op_lst [box.nm, (t_or_bar box.ar)] rfl (smn 2 (by decide) rfl))))) (ce_m (tm_ofF (tml (α := Str) (compR (fun (number : Int) => R.ok true) (fun (number : Int) => (strG number)) ((Co.f (T4.mk box.l box.t box.w box.h) : (Tu Int))).l) (lc_xm (p1 := [sv box, none]) (q := fun number => [sv box, sv number]) (pr := (fun (number : Int) => R.ok true)) (g := (fun (number : Int) => (strG number))) H rfl (tpl ((Co.f (T4.mk box.l box.t box.w box.h) : (Tu Int))).l (tp_un (tp_co (γ := (Tu Int)) (tpa (T4.mk box.l box.t box.w box.h) (tp_slice (tpa box (tp_var H rfl)) (o_some (tpa (2 : Int) (tp_c rfl))) (o_some (tpa (6 : Int) (tp_c rfl))) (rfl)))) (it_tu _))) (fun number e H => tg_name H rfl) (fun number e H => c_true) (fun number e H => (tma (α := Str) (strG number) (w_un (am_p (tpa number (tp_var H rfl)) (am_nil (ro_strI _))))))))) fun v1 => (ro_catL _ _))))) fun v2 => (ce_p (tp_ofF (tpl [(t_or_bar box.ms)] (tp_un (a_cons (tpa (t_or_bar box.ms) (tp_un (a_cons (tpa box.ms (tp_bin (tpa box (tp_var H rfl)) (tpa (6 : Int) (tp_c rfl)) (rfl))) a_nil) (k_or_bar _))) a_nil) (op_lst [(t_or_bar box.ms)] rfl (smn 1 (by decide) rfl))))) (ro_catL _ _))))) fun v3 => (ro_join _ _)))))))))
def t_written (scene : (Tu Box)) : R Str :=
 ((compR (fun (box : Box) => R.ok true) (fun (box : Box) => ((t_box_text box) >>= fun v1 => (catS v1 ("\n" : Str)))) (scene).l) >>= fun v2 => (joinG ("" : Str) v2))
theorem k_written (scene : (Tu Box)) : Rr (den_written [enc scene]) (t_written scene) enc :=
  fn_of (p0 := [sv scene, none]) rfl rfl fun e H => (by unfold t_written; exact (show TR (g_written e) _ from
 (tr_ret (tma (α := Str) ((compR (fun (box : Box) => R.ok true) (fun (box : Box) => ((t_box_text box) >>= fun v1 => (catS v1 ("\n" : Str)))) (scene).l) >>= fun v2 => (joinG ("" : Str) v2)) (w_join (ce_p (tpa ("" : Str) (tp_c rfl)) (ce_p (op_str _) (ce_m (tm_ofF (tml (α := Str) (compR (fun (box : Box) => R.ok true) (fun (box : Box) => ((t_box_text box) >>= fun v1 => (catS v1 ("\n" : Str)))) (scene).l) (lc_xm (p1 := [sv scene, none]) (q := fun box => [sv scene, sv box]) (pr := (fun (box : Box) => R.ok true)) (g := (fun (box : Box) => ((t_box_text box) >>= fun v1 => (catS v1 ("\n" : Str))))) H rfl (tpl (scene).l (tp_un (tpa scene (tp_var H rfl)) (it_tu _))) (fun box e H => tg_name H rfl) (fun box e H => c_true) (fun box e H => (tma (α := Str) ((t_box_text box) >>= fun v1 => (catS v1 ("\n" : Str))) (w_bin (ce_m (tma (α := Str) (t_box_text box) (w_un (am_p (tpa box (tp_var H rfl)) (am_nil (k_box_text _))))) fun v1 => (ce_p (tpa ("\n" : Str) (tp_c rfl)) (ro_catS _ _))))))))) fun v2 => (ro_join _ _)))))))))
def t_read (text : Str) : R (Tu Box) :=
 ((((((splitG text ("\n" : Str)) >>= fun v1 => (.ok (cutL v1 none (some (-(1 : Int)))))) >>= fun v2 => .ok v2) >>= fun v3 => compR (fun (line : Str) => R.ok true) (fun (line : Str) => (gt_box_in line)) v3) >>= fun v4 => (.ok (Tu.mk v4))) >>= fun found =>
 ((((t_is_scene found) >>= fun v5 => .ok (!v5)) >>= fun v7 => if v7 = true then .ok true else ((t_written found) >>= fun v6 => (.ok (!decide (v6 = text))))) >>= fun v8 =>
 (if v8 = true then
 (.exc "NoText")
 else
 (R.ok found))))
theorem k_read (text : Str) : Rr (den_read [enc text]) (t_read text) enc :=
  fn_of (p0 := [sv text, none, none]) rfl rfl fun e H => (by unfold t_read; exact (show TR (g_read e) _ from
 (j_setM (J := TR) jTR (q := fun found => [sv text, sv found, none]) H (tma (α := (Tu Box)) (((((splitG text ("\n" : Str)) >>= fun v1 => (.ok (cutL v1 none (some (-(1 : Int)))))) >>= fun v2 => .ok v2) >>= fun v3 => compR (fun (line : Str) => R.ok true) (fun (line : Str) => (gt_box_in line)) v3) >>= fun v4 => (.ok (Tu.mk v4))) (w_un (am_m (tm_ofF (tml (α := Box) ((((splitG text ("\n" : Str)) >>= fun v1 => (.ok (cutL v1 none (some (-(1 : Int)))))) >>= fun v2 => .ok v2) >>= fun v3 => compR (fun (line : Str) => R.ok true) (fun (line : Str) => (gt_box_in line)) v3) (lc_m (p1 := [sv text, none, none]) (q := fun line => [sv text, none, sv line]) (pr := (fun (line : Str) => R.ok true)) (g := (fun (line : Str) => (gt_box_in line))) H rfl (tml (α := Str) (((splitG text ("\n" : Str)) >>= fun v1 => (.ok (cutL v1 none (some (-(1 : Int)))))) >>= fun v2 => .ok v2) (w_un (ce_m (tma (α := (List Str)) ((splitG text ("\n" : Str)) >>= fun v1 => (.ok (cutL v1 none (some (-(1 : Int)))))) (w_slice (ce_m (tm_ofF (tml (α := Str) (splitG text ("\n" : Str)) (w_split (ce_p (tpa text (tp_var H rfl)) (ce_p (op_str _) (ce_p (tpa ("\n" : Str) (tp_c rfl)) (ro_split _ _))))))) fun v1 => (ce_p o_none (ce_p (o_some (tpa (-(1 : Int)) (tp_un (tpa (1 : Int) (tp_c rfl)) (op_neg _)))) (rr_p (op_cut _ _ _))))))) fun v2 => (rr_p (it_list _))))) (fun line e H => tg_name H rfl) (fun line e H => c_true) (fun line e H => (tma (α := Box) (gt_box_in line) (w_un (am_p (tpa line (tp_var H rfl)) (am_nil (kg_box_in _))))))))) fun v4 => (am_nil (rr_p (op_tuple _)))))) (fun _ => rfl) fun found e H => (j_ifXM jTR (J := TR) (ttm (((t_is_scene found) >>= fun v5 => .ok (!v5)) >>= fun v7 => if v7 = true then .ok true else ((t_written found) >>= fun v6 => (.ok (!decide (v6 = text))))) (tm_orM (tm_not (tm_val (tma (α := Bool) (t_is_scene found) (w_un (am_p (tpa found (tp_var H rfl)) (am_nil (k_is_scene _))))))) (ttm ((t_written found) >>= fun v6 => (.ok (!decide (v6 = text)))) (w_tbin (ce_m (tma (α := Str) (t_written found) (w_un (am_p (tpa found (tp_var H rfl)) (am_nil (k_written _))))) fun v6 => (ce_p (tpa text (tp_var H rfl)) (rr_bool (rr_p (op_ne (α := Str) (by decide) _ _))))))))) (tr_x tr_raise) (j_seqnil (tr_ret (rr_p (tpa found (tp_var H rfl)))))))))
def t_law_k50_b1 (text : Str) (box : Box) : R Str :=
 ((compR (fun (part : D) => R.ok true) (fun (part : D) => (strDG part)) ((Co.f box : (Tu D))).l) >>= fun words =>
 (((((compR (fun (word : Str) => R.ok true) (fun (word : Str) => ((mulSG ("-" : Str) (b2i (decide (word = ("" : Str))))) >>= fun v1 => (catS word v1))) words) >>= fun v2 => (joinG (" " : Str) v2)) >>= fun v3 => (catS text v3)) >>= fun v4 => (catS v4 ("\n" : Str))) >>= fun text =>
 (.ok text)))
def t_law_k50 (script : Fz) : R Bool :=
 ((g_scene script (0 : Int)) >>= fun scene =>
 (letT ("" : Str) fun text =>
 ((foldR (fun (text : Str) (box : Box) => t_law_k50_b1 text box) (scene).l text) >>= fun text =>
 (((t_written scene) >>= fun v5 => (.ok (decide (v5 = text)))) >>= fun v7 => if v7 = true then ((t_read text) >>= fun v6 => (.ok (decide (v6 = scene)))) else .ok false))))
theorem k_law_k50 (script : Fz) : Rr (den_law_k50 [enc script]) (t_law_k50 script) enc :=
  fn_of (p0 := [sv script, none, none, none, none, none, none]) rfl rfl fun e H => (by unfold t_law_k50; exact (show TR (g_law_k50 e) _ from
 (j_setM (J := TR) jTR (q := fun scene => [sv script, sv scene, none, none, none, none, none]) H (tma (α := (Tu Box)) (g_scene script (0 : Int)) (w_un (am_p (tpa script (tp_var H rfl)) (am_p (tpa (0 : Int) (tp_c rfl)) (am_nil (kg_scene _ _)))))) (fun _ => rfl) fun scene e H => (j_set (J := TR)  (q := fun text => [sv script, sv scene, sv text, none, none, none, none]) H (tpa ("" : Str) (tp_c rfl)) (fun _ => rfl) fun text e H => (j_sqN (J := TR) jTR (P' := (fun (text : Str) => [sv script, sv scene, sv text, none, none, none, none])) (tn_forR (P := (fun (text : Str) => [sv script, sv scene, sv text, none, none, none, none])) (q := fun (text : Str) (box : Box) => [sv script, sv scene, sv text, sv box, none, none, none]) (f := (fun (text : Str) (box : Box) => t_law_k50_b1 text box)) (s0 := text) (tpl (scene).l (tp_un (tpa scene (tp_var H rfl)) (it_tu _))) ((EnvIs.mask [true, true, true, false, false, false, false] H).as rfl) (fun box text e H => tg_name H rfl) (fun box text e H => tn_end (Q := (fun (text : Str) => [sv script, sv scene, sv text, none, none, none, none])) (j_setDM (J := TN (fun (text : Str) => [sv script, sv scene, sv text, none, none, none, none])) jTN (q := fun words => [sv script, sv scene, sv text, sv box, sv words, none, none]) H (tml (α := Str) (compR (fun (part : D) => R.ok true) (fun (part : D) => (strDG part)) ((Co.f box : (Tu D))).l) (lc_xm (p1 := [sv script, sv scene, sv text, sv box, none, none, none]) (q := fun part => [sv script, sv scene, sv text, sv box, none, sv part, none]) (pr := (fun (part : D) => R.ok true)) (g := (fun (part : D) => (strDG part))) H rfl (tpl ((Co.f box : (Tu D))).l (tp_un (tp_co (γ := (Tu D)) (tpa box (tp_var H rfl))) (it_tu _))) (fun part e H => tg_name H rfl) (fun part e H => c_true) (fun part e H => (tma (α := Str) (strDG part) (w_un (am_p (tpa part (tp_var H rfl)) (am_nil (ro_strD _)))))))) (fun _ => rfl) fun words e H => (tn_one (j_setM (J := TN (fun (text : Str) => [sv script, sv scene, sv text, none, none, none, none])) jTN (q := fun text => [sv script, sv scene, sv text, sv box, sv words, none, none]) H (tma (α := Str) ((((compR (fun (word : Str) => R.ok true) (fun (word : Str) => ((mulSG ("-" : Str) (b2i (decide (word = ("" : Str))))) >>= fun v1 => (catS word v1))) words) >>= fun v2 => (joinG (" " : Str) v2)) >>= fun v3 => (catS text v3)) >>= fun v4 => (catS v4 ("\n" : Str))) (w_bin (ce_m (tma (α := Str) (((compR (fun (word : Str) => R.ok true) (fun (word : Str) => ((mulSG ("-" : Str) (b2i (decide (word = ("" : Str))))) >>= fun v1 => (catS word v1))) words) >>= fun v2 => (joinG (" " : Str) v2)) >>= fun v3 => (catS text v3)) (w_bin (ce_p (tpa text (tp_var H rfl)) (ce_m (tma (α := Str) ((compR (fun (word : Str) => R.ok true) (fun (word : Str) => ((mulSG ("-" : Str) (b2i (decide (word = ("" : Str))))) >>= fun v1 => (catS word v1))) words) >>= fun v2 => (joinG (" " : Str) v2)) (w_join (ce_p (tpa (" " : Str) (tp_c rfl)) (ce_p (op_str _) (ce_m (tm_ofF (tml (α := Str) (compR (fun (word : Str) => R.ok true) (fun (word : Str) => ((mulSG ("-" : Str) (b2i (decide (word = ("" : Str))))) >>= fun v1 => (catS word v1))) words) (lc_xm (p1 := [sv script, sv scene, sv text, sv box, sv words, none, none]) (q := fun word => [sv script, sv scene, sv text, sv box, sv words, none, sv word]) (pr := (fun (word : Str) => R.ok true)) (g := (fun (word : Str) => ((mulSG ("-" : Str) (b2i (decide (word = ("" : Str))))) >>= fun v1 => (catS word v1)))) H rfl (tpl words (tp_un (tpa words (tp_var H rfl)) (it_list _))) (fun word e H => tg_name H rfl) (fun word e H => c_true) (fun word e H => (tma (α := Str) ((mulSG ("-" : Str) (b2i (decide (word = ("" : Str))))) >>= fun v1 => (catS word v1)) (w_bin (ce_p (tpa word (tp_var H rfl)) (ce_m (tma (α := Str) (mulSG ("-" : Str) (b2i (decide (word = ("" : Str))))) (w_bin (ce_p (tpa ("-" : Str) (tp_c rfl)) (ce_p (tpa (b2i (decide (word = ("" : Str)))) (tp_un (a_cons (tpa (decide (word = ("" : Str))) (tp_bin (tpa word (tp_var H rfl)) (tpa ("" : Str) (tp_c rfl)) (op_eq (α := Str) (by decide) _ _))) a_nil) (op_intB _))) (ro_mulS _ _))))) fun v1 => (ro_catS _ _))))))))) fun v2 => (ro_join _ _)))))) fun v3 => (ro_catS _ _))))) fun v4 => (ce_p (tpa ("\n" : Str) (tp_c rfl)) (ro_catS _ _))))) (fun _ => rfl) fun text e H => (tn_nil (P := (fun (text : Str) => [sv script, sv scene, sv text, none, none, none, none])) (s := text) ((EnvIs.mask [true, true, true, false, false, false, false] H).as rfl))))) (fun _ => rfl))) fun text e H => (tr_ret (tma (α := Bool) (((t_written scene) >>= fun v5 => (.ok (decide (v5 = text)))) >>= fun v7 => if v7 = true then ((t_read text) >>= fun v6 => (.ok (decide (v6 = scene)))) else .ok false) (tem_andM (tma (α := Bool) ((t_written scene) >>= fun v5 => (.ok (decide (v5 = text)))) (w_bin (ce_m (tma (α := Str) (t_written scene) (w_un (am_p (tpa scene (tp_var H rfl)) (am_nil (k_written _))))) fun v5 => (ce_p (tpa text (tp_var H rfl)) (rr_p (op_eq (α := Str) (by decide) _ _)))))) (tma (α := Bool) ((t_read text) >>= fun v6 => (.ok (decide (v6 = scene)))) (w_bin (ce_m (tma (α := (Tu Box)) (t_read text) (w_un (am_p (tpa text (tp_var H rfl)) (am_nil (k_read _))))) fun v6 => (ce_p (tpa scene (tp_var H rfl)) (rr_p (op_eq (α := (Tu Box)) (by decide) _ _))))))))))))))
end
end Ty

/-! the law k50 -/
namespace Ty
open PySem Dx Dn Fo
open Enc (enc)
noncomputable section
/-- a word of a line -/
def wOk (w : Str) : Bool := !decide (32 ∈ w.cps.toList) && !decide (10 ∈ w.cps.toList) && decide (w.length ≤ 10) && sOk w
def wordsB (b : Box) : List Str := [b.nm, t_or_bar b.ar, strOfI b.l, strOfI b.t, strOfI b.w, strOfI b.h, t_or_bar b.ms]
def lineB (b : Box) : Str := Txt.join " " (wordsB b)
theorem num_ok {i : Int} (h : -20 ≤ i ∧ i ≤ 20) : wOk (strOfI i) = true ∧ strG i = .ok (strOfI i) ∧ nB (strOfI i) = .ok i := by
  have all : ((List.range 41).all fun k => wOk (strOfI ((k : Int) - 20)) && (match strG ((k : Int) - 20) with | .ok s => decide (s = strOfI ((k : Int) - 20)) | _ => false) && (match nB (strOfI ((k : Int) - 20)) with | .ok j => decide (j = (k : Int) - 20) | _ => false)) = true := by decide +kernel
  have := List.all_eq_true.mp all (i + 20).toNat (List.mem_range.mpr (by omega))
  have e : (((i + 20).toNat : Nat) : Int) - 20 = i := by omega
  rw [e, Bool.and_eq_true, Bool.and_eq_true] at this
  refine ⟨this.1.1, ?_, ?_⟩
  · have h2 := this.1.2
    cases hs : strG i with
    | ok s => rw [hs] at h2; simp at h2; rw [h2]
    | exc c => rw [hs] at h2; cases h2
    | bad => rw [hs] at h2; cases h2
  · have h2 := this.2
    cases hs : nB (strOfI i) with
    | ok s => rw [hs] at h2; simp at h2; rw [h2]
    | exc c => rw [hs] at h2; cases h2
    | bad => rw [hs] at h2; cases h2
structure Bx (b : Box) : Prop where
  w : ∀ x ∈ wordsB b, wOk x = true
  n0 : b.nm ≠ ""
  ar : t_text_in (t_or_bar b.ar) = b.ar
  ms : t_text_in (t_or_bar b.ms) = b.ms
  l : -20 ≤ b.l ∧ b.l ≤ 20
  t : -20 ≤ b.t ∧ b.t ≤ 20
  wd : -20 ≤ b.w ∧ b.w ≤ 20
  h : -20 ≤ b.h ∧ b.h ≤ 20
theorem letter_w (i : Nat) : wOk (letter i) = true ∧ letter i ≠ "" ∧ wOk (t_or_bar (letter i)) = true ∧ t_text_in (t_or_bar (letter i)) = letter i := by
  have all : ((List.range 8).all fun i => wOk (letter i) && !decide (letter i = "") && wOk (t_or_bar (letter i)) && decide (t_text_in (t_or_bar (letter i)) = letter i)) = true := by decide +kernel
  have h := List.all_eq_true.mp all (i % 8) (List.mem_range.mpr (Nat.mod_lt _ (by decide)))
  have e : letter (i % 8) = letter i := by unfold letter; rw [Nat.mod_mod]
  rw [e] at h
  simp only [Bool.and_eq_true, Bool.not_eq_true', decide_eq_false_iff_not, decide_eq_true_eq] at h
  exact ⟨h.1.1.1, h.1.1.2, h.1.2, h.2⟩
theorem ms_w {m : Str} (hm : m ∈ msAll) : wOk (t_or_bar m) = true ∧ t_text_in (t_or_bar m) = m := by
  have all : (msAll.all fun m => wOk (t_or_bar m) && decide (t_text_in (t_or_bar m) = m)) = true := by decide +kernel
  have h := List.all_eq_true.mp all m hm
  simp only [Bool.and_eq_true, decide_eq_true_eq] at h
  exact h
theorem none_w : wOk (t_or_bar "") = true ∧ t_text_in (t_or_bar "") = "" := ⟨by decide +kernel, by decide +kernel⟩
theorem scene_letter' (ns : List Int) (at_ : Int) {m : Str} (h : m ∈ names (scene ns at_)) : ∃ i, m = letter i := by
  unfold scene at h
  rw [mkSc_names, List.mem_map] at h
  obtain ⟨i, _, e⟩ := h
  exact ⟨_, e.symm⟩
theorem scene_B {ns : List Int} (h : ns.length ≤ 63) : ∀ b ∈ scene ns 0, Bx b := by
  intro b hb
  have o := scene_bx h 0 b hb
  obtain ⟨i, hi⟩ := scene_letter' ns 0 (mem_names.mpr ⟨b, hb, rfl⟩ : b.nm ∈ names (scene ns 0))
  have ln := letter_w i
  have hm := ms_w (scene_ms 0 b hb)
  have ha : wOk (t_or_bar b.ar) = true ∧ t_text_in (t_or_bar b.ar) = b.ar := by
    by_cases e : b.ar = ""
    · rw [e]; exact none_w
    · obtain ⟨j, hj⟩ := scene_letter' ns 0 (ar_names (scene_wf h 0) hb e)
      rw [hj]; exact (letter_w j).2.2
  have bl : -20 ≤ b.l ∧ b.l ≤ 20 := o.l
  have bt : -20 ≤ b.t ∧ b.t ≤ 20 := o.t
  have bw : -20 ≤ b.w ∧ b.w ≤ 20 := ⟨by have := o.w.1; omega, o.w.2⟩
  have bh : -20 ≤ b.h ∧ b.h ≤ 20 := ⟨by have := o.h.1; omega, o.h.2⟩
  refine ⟨fun x hx => ?_, by rw [hi]; exact ln.2.1, ha.2, hm.2, bl, bt, bw, bh⟩
  unfold wordsB at hx
  simp only [List.mem_cons, List.not_mem_nil, or_false] at hx
  rcases hx with rfl | rfl | rfl | rfl | rfl | rfl | rfl
  · rw [hi]; exact ln.1
  · exact ha.1
  · exact (num_ok bl).1
  · exact (num_ok bt).1
  · exact (num_ok bw).1
  · exact (num_ok bh).1
  · exact hm.1
end
end Ty

/-! the law k50: text and back -/
namespace Ty
open PySem Dx Dn Fo
open Enc (enc)
open TL (tl tl_append ext_tl len_tl joinL tl_join join_eq)
noncomputable section
theorem tl_nl : tl ("\n" : Str) = [10] := by decide +kernel
theorem tl_sp : tl (" " : Str) = [32] := by decide +kernel
theorem tl_no : tl ("" : Str) = [] := by decide +kernel
theorem app_no (x : Str) : x ++ ("" : Str) = x := ext_tl (by rw [tl_append, tl_no, List.append_nil])
theorem no_app (x : Str) : ("" : Str) ++ x = x := ext_tl (by rw [tl_append, tl_no, List.nil_append])
theorem joinL_cons {S a : List Nat} {m : List (List Nat)} (h : m ≠ []) : joinL S (a :: m) = a ++ (S ++ joinL S m) := by
  cases m with
  | nil => exact absurd rfl h
  | cons x m => rfl
theorem joinL_mem {c : Nat} {S : List Nat} : ∀ {ps : List (List Nat)}, c ∈ joinL S ps → c ∈ S ∨ ∃ p ∈ ps, c ∈ p
  | [], h => by cases h
  | [p], h => .inr ⟨p, by simp, h⟩
  | p :: q :: r, h => by
    rcases List.mem_append.mp (show c ∈ p ++ (S ++ joinL S (q :: r)) from h) with z | z
    · exact .inr ⟨p, by simp, z⟩
    · rcases List.mem_append.mp z with z | z
      · exact .inl z
      · rcases joinL_mem z with z | ⟨p', h1, h2⟩
        · exact .inl z
        · exact .inr ⟨p', List.mem_cons_of_mem _ h1, h2⟩
theorem joinL_len {S : List Nat} {k : Nat} : ∀ {ps : List (List Nat)}, (∀ p ∈ ps, p.length ≤ k) → (joinL S ps).length ≤ ps.length * (k + S.length)
  | [], _ => Nat.zero_le _
  | [p], h => by
    show p.length ≤ 1 * (k + S.length)
    have := h p (by simp); omega
  | p :: q :: r, h => by
    show (p ++ (S ++ joinL S (q :: r))).length ≤ _
    have h1 := h p (by simp)
    have h2 := joinL_len (S := S) (ps := q :: r) fun z hz => h z (List.mem_cons_of_mem _ hz)
    rw [List.length_append, List.length_append, List.length_cons (a := p), Nat.add_mul]
    omega
theorem joinL_flat : ∀ ps : List (List Nat), joinL [] ps = ps.flatten
  | [] => rfl
  | [p] => by simp [joinL]
  | p :: q :: r => by
    show p ++ ([] ++ joinL [] (q :: r)) = _
    rw [joinL_flat (q :: r)]; rfl
theorem sum_le {k : Nat} : ∀ {ys : List Str}, (∀ y ∈ ys, y.length ≤ k) → (ys.map (·.length)).sum ≤ ys.length * k
  | [], _ => Nat.zero_le _
  | y :: ys, h => by
    have h1 := h y (by simp)
    have h2 := sum_le fun z hz => h z (List.mem_cons_of_mem y hz)
    rw [List.map_cons, List.sum_cons, List.length_cons, Nat.add_mul]
    omega
theorem sOk_of {x : Str} (h : ∀ c ∈ tl x, c < 0x110000) (hz : (tl x).length ≤ 16777216) : sOk x = true := by
  unfold sOk PyData.strOk
  rw [Bool.and_eq_true]
  refine ⟨?_, decide_eq_true (by rw [len_tl]; exact hz)⟩
  rw [← Array.all_toList, List.all_eq_true]
  exact fun c hc => decide_eq_true (h c hc)
theorem sOk_lt {x : Str} (h : sOk x = true) : ∀ c ∈ tl x, c < 0x110000 := by
  unfold sOk PyData.strOk at h
  rw [Bool.and_eq_true] at h
  have h1 := h.1
  rw [← Array.all_toList, List.all_eq_true] at h1
  exact fun c hc => of_decide_eq_true (h1 c hc)
structure WO (w : Str) : Prop where
  sp : 32 ∉ tl w
  nl : 10 ∉ tl w
  len : w.length ≤ 10
  ok : sOk w = true
theorem wo {w : Str} (h : wOk w = true) : WO w := by
  unfold wOk at h
  simp only [Bool.and_eq_true, Bool.not_eq_true', decide_eq_false_iff_not, decide_eq_true_eq] at h
  exact ⟨h.1.1.1, h.1.1.2, h.1.2, h.2⟩
/-- a line -/
structure LO (x : Str) : Prop where
  nl : 10 ∉ tl x
  len : (tl x).length ≤ 77
  lt : ∀ c ∈ tl x, c < 0x110000
theorem line_tl (b : Box) : tl (lineB b) = joinL [32] ((wordsB b).map tl) := by
  unfold lineB; rw [join_eq, tl_join, tl_sp]
theorem line_ok {b : Box} (o : Bx b) : LO (lineB b) := by
  have ow := fun x hx => wo (o.w x hx)
  refine ⟨fun h => ?_, ?_, fun c h => ?_⟩
  · rw [line_tl] at h
    rcases joinL_mem h with z | ⟨p, h1, h2⟩
    · simp at z
    · obtain ⟨w, hw, rfl⟩ := List.mem_map.mp h1
      exact (ow w hw).nl h2
  · rw [line_tl]
    refine Nat.le_trans (joinL_len (k := 10) fun p hp => ?_) ?_
    · obtain ⟨w, hw, rfl⟩ := List.mem_map.mp hp
      have := (ow w hw).len
      rw [len_tl] at this; exact this
    · rw [List.length_map]; exact Nat.le_refl _
  · rw [line_tl] at h
    rcases joinL_mem h with z | ⟨p, h1, h2⟩
    · simp at z; omega
    · obtain ⟨w, hw, rfl⟩ := List.mem_map.mp h1
      exact sOk_lt (ow w hw).ok c h2
theorem LO.sok {x : Str} (o : LO x) : sOk x = true := sOk_of o.lt (by have := o.len; omega)
theorem line_join {b : Box} (o : Bx b) : joinG " " (wordsB b) = .ok (lineB b) := by
  have h1 := sum_le fun x hx => (wo (o.w x hx)).len
  refine if_pos ⟨?_, (line_ok o).sok⟩
  have h2 : (" " : Str).length = 1 := by decide +kernel
  have h3 : (wordsB b).length = 7 := rfl
  rw [h2]; rw [h3] at h1 ⊢; omega
theorem line_split {b : Box} (o : Bx b) : splitG (lineB b) " " = .ok (wordsB b) := by
  have e : Txt.split (lineB b) " " = wordsB b := TL.split_join (S := []) tl_sp (by decide +kernel) (by unfold wordsB; simp) fun p hp => (wo (o.w p hp)).sp
  have hl := (line_ok o).len
  unfold splitG
  rw [e]
  refine if_pos ⟨by decide +kernel, ?_, ?_, ?_⟩
  · rw [len_tl, sizeLine_eq]; omega
  · rw [sizeLine_eq]; show 7 ≤ 16777216; omega
  · rw [List.all_eq_true]; exact fun x hx => (wo (o.w x hx)).ok
theorem line_read {b : Box} (o : Bx b) : gt_box_in (lineB b) = .ok b := by
  unfold gt_box_in
  rw [line_split o]
  show (nB (strOfI b.l) >>= fun l => nB (strOfI b.t) >>= fun t => nB (strOfI b.w) >>= fun w => nB (strOfI b.h) >>= fun h => R.ok (⟨b.nm, t_text_in (t_or_bar b.ar), l, t, w, h, t_text_in (t_or_bar b.ms)⟩ : Box)) = _
  rw [(num_ok o.l).2.2, (num_ok o.t).2.2, (num_ok o.wd).2.2, (num_ok o.h).2.2, o.ar, o.ms]
  rfl
theorem line_text {b : Box} (o : Bx b) : t_box_text b = .ok (lineB b) := by
  unfold t_box_text
  have e1 : compR (fun (number : Int) => R.ok true) (fun (number : Int) => (strG number)) ((Co.f (T4.mk b.l b.t b.w b.h) : (Tu Int))).l = .ok [strOfI b.l, strOfI b.t, strOfI b.w, strOfI b.h] := by
    rw [compR_map _ _ strOfI _ (fun _ _ => rfl)]
    · rfl
    · intro x hx
      have hx : x ∈ [b.l, b.t, b.w, b.h] := hx
      simp only [List.mem_cons, List.not_mem_nil, or_false] at hx
      rcases hx with rfl | rfl | rfl | rfl
      · exact (num_ok o.l).2.1
      · exact (num_ok o.t).2.1
      · exact (num_ok o.wd).2.1
      · exact (num_ok o.h).2.1
  rw [e1]
  simp only [R.ok_bind]
  rw [catL_ok (by simp)]
  simp only [R.ok_bind]
  rw [catL_ok (by simp)]
  simp only [R.ok_bind]
  exact line_join o
/-- a text -/
def txtB (S : List Box) : Str := Txt.join "\n" (S.map lineB ++ [("" : Str)])
theorem txt_tl : ∀ S : List Box, tl (txtB S) = (S.map fun b => tl (lineB b) ++ [10]).flatten := by
  intro S
  unfold txtB
  rw [join_eq, tl_join, tl_nl]
  induction S with
  | nil => rfl
  | cons b S ih =>
    rw [List.map_cons, List.cons_append, List.map_cons, joinL_cons (by simp), ih, List.map_cons, List.flatten_cons, List.append_assoc]
theorem txt_app (S : List Box) (b : Box) : txtB (S ++ [b]) = txtB S ++ lineB b ++ ("\n" : Str) := ext_tl (by
  rw [tl_append, tl_append, txt_tl, txt_tl, tl_nl, List.map_append, List.flatten_append, List.append_assoc]; simp)
theorem txt_len : ∀ {S : List Box}, (∀ b ∈ S, Bx b) → (tl (txtB S)).length ≤ S.length * 78
  | [], _ => by rw [txt_tl]; exact Nat.zero_le _
  | b :: S, h => by
    have h1 := (line_ok (h b (by simp))).len
    have h2 := txt_len fun z hz => h z (List.mem_cons_of_mem b hz)
    rw [txt_tl] at h2
    rw [txt_tl, List.map_cons, List.flatten_cons, List.length_append, List.length_append]
    have : (b :: S).length = S.length + 1 := rfl
    have : [10].length = 1 := rfl
    omega
theorem txt_sok {S : List Box} (o : ∀ b ∈ S, Bx b) (hl : S.length ≤ 1000) : sOk (txtB S) = true := by
  have := txt_len o
  refine sOk_of (fun c hc => ?_) (by omega)
  rw [txt_tl, List.mem_flatten] at hc
  obtain ⟨l, hl, hc⟩ := hc
  obtain ⟨b, hb, rfl⟩ := List.mem_map.mp hl
  rcases List.mem_append.mp hc with z | z
  · exact (line_ok (o b hb)).lt c z
  · simp at z; omega
theorem nl_len : ("\n" : Str).length = 1 := by decide +kernel
theorem join_lines {S : List Box} (o : ∀ b ∈ S, Bx b) (hl : S.length ≤ 1000) : joinG "" (S.map fun b => lineB b ++ ("\n" : Str)) = .ok (txtB S) := by
  have e : Txt.join "" (S.map fun b => lineB b ++ ("\n" : Str)) = txtB S := ext_tl (by
    rw [join_eq, tl_join, tl_no, joinL_flat, txt_tl, List.map_map]
    congr 1
    refine List.map_congr_left fun b _ => ?_
    show tl (lineB b ++ ("\n" : Str)) = _
    rw [tl_append, tl_nl])
  unfold joinG
  show (if _ ∧ sOk (Txt.join "" (S.map fun b => lineB b ++ ("\n" : Str))) = true then _ else _) = _
  rw [e]
  refine if_pos ⟨?_, txt_sok o hl⟩
  have h0 : ("" : Str).length = 0 := by decide +kernel
  have h1 : ((S.map fun b => lineB b ++ ("\n" : Str)).map (·.length)).sum ≤ (S.map fun b => lineB b ++ ("\n" : Str)).length * 78 := sum_le fun y hy => by
    obtain ⟨b, hb, rfl⟩ := List.mem_map.mp hy
    have := (line_ok (o b hb)).len
    rw [len_tl, tl_append, tl_nl, List.length_append]
    have : [10].length = 1 := rfl
    omega
  rw [h0]
  rw [List.length_map] at h1
  show (((S.map fun b => lineB b ++ ("\n" : Str)).map (·.length)).sum + _ * 0 ≤ _)
  omega
theorem line_nl {b : Box} (o : Bx b) : catS (lineB b) ("\n" : Str) = .ok (lineB b ++ ("\n" : Str)) := by
  have := (line_ok o).len
  exact catS_ok (by rw [nl_len, len_tl]; omega)
theorem written_ok {S : List Box} (o : ∀ b ∈ S, Bx b) (hl : S.length ≤ 1000) : t_written ⟨S⟩ = .ok (txtB S) := by
  unfold t_written
  rw [compR_map _ _ (fun b => lineB b ++ ("\n" : Str)) _ (fun _ _ => rfl) (fun b hb => by
    rw [line_text (o b hb)]
    simp only [R.ok_bind]
    exact line_nl (o b hb))]
  simp only [R.ok_bind]
  exact join_lines o hl
theorem lines_split {S : List Box} (o : ∀ b ∈ S, Bx b) (hl : S.length ≤ 1000) : splitG (txtB S) "\n" = .ok (S.map lineB ++ [("" : Str)]) := by
  have e : Txt.split (txtB S) "\n" = S.map lineB ++ [("" : Str)] := TL.split_join (S := []) tl_nl (by decide +kernel) (by simp) fun p hp => by
    rcases List.mem_append.mp hp with z | z
    · obtain ⟨b, hb, rfl⟩ := List.mem_map.mp z
      exact (line_ok (o b hb)).nl
    · simp at z; rw [z, tl_no]; simp
  have h1 := txt_len o
  unfold splitG
  rw [e]
  refine if_pos ⟨by decide +kernel, ?_, ?_, ?_⟩
  · rw [len_tl, sizeLine_eq]; omega
  · rw [sizeLine_eq]; simp; omega
  · rw [List.all_eq_true]
    intro x hx
    rcases List.mem_append.mp hx with z | z
    · obtain ⟨b, hb, rfl⟩ := List.mem_map.mp z
      exact (line_ok (o b hb)).sok
    · simp at z; rw [z]; decide +kernel
theorem lines_read : ∀ {S : List Box}, (∀ b ∈ S, Bx b) → compR (fun (line : Str) => R.ok true) (fun (line : Str) => (gt_box_in line)) (S.map lineB) = .ok S
  | [], _ => rfl
  | b :: S, o => by
    rw [List.map_cons]
    unfold compR
    rw [line_read (o b (by simp)), lines_read fun z hz => o z (List.mem_cons_of_mem b hz)]
    rfl
theorem read_ok {S : List Box} (o : ∀ b ∈ S, Bx b) (hl : S.length ≤ 1000) (hs : t_is_scene ⟨S⟩ = .ok true) : t_read (txtB S) = .ok ⟨S⟩ := by
  unfold t_read
  rw [lines_split o hl]
  simp only [R.ok_bind]
  rw [cutL_but, lines_read o]
  simp only [R.ok_bind]
  rw [hs, written_ok o hl]
  simp
theorem word_ok {w : Str} (h : w.length ≤ 10) : (mulSG ("-" : Str) (b2i (decide (w = ("" : Str)))) >>= fun v1 => catS w v1) = .ok (t_or_bar w) := by
  unfold t_or_bar
  by_cases e : w = ""
  · subst e
    rw [decide_eq_true rfl]
    show catS "" "-" = _
    rw [catS_ok (by decide +kernel), no_app]; rfl
  · rw [decide_eq_false e]
    show catS w "" = _
    rw [catS_ok (by have : ("" : Str).length = 0 := by decide +kernel
                    omega), app_no]; rfl
theorem num_ne {i : Int} (h : -20 ≤ i ∧ i ≤ 20) : t_or_bar (strOfI i) = strOfI i := by
  have all : ((List.range 41).all fun k => decide (t_or_bar (strOfI ((k : Int) - 20)) = strOfI ((k : Int) - 20))) = true := by decide +kernel
  have := List.all_eq_true.mp all (i + 20).toNat (List.mem_range.mpr (by omega))
  have e : (((i + 20).toNat : Nat) : Int) - 20 = i := by omega
  rw [e] at this
  exact of_decide_eq_true this
theorem bar_len {w : Str} (h : (t_or_bar w).length ≤ 10) : w.length ≤ 10 := by
  unfold t_or_bar at h
  by_cases e : w = ""
  · subst e; decide +kernel
  · rw [decide_eq_false e] at h; exact h
theorem b1_50 {S : List Box} {b : Box} (o : ∀ c ∈ S ++ [b], Bx c) (hl : S.length ≤ 1000) : t_law_k50_b1 (txtB S) b = .ok (txtB (S ++ [b])) := by
  have ob := o b (by simp)
  have oS : ∀ c ∈ S, Bx c := fun c hc => o c (by simp [hc])
  unfold t_law_k50_b1
  have e1 : compR (fun (part : D) => R.ok true) (fun (part : D) => (strDG part)) ((Co.f b : (Tu D))).l = .ok [b.nm, b.ar, strOfI b.l, strOfI b.t, strOfI b.w, strOfI b.h, b.ms] := by
    show compR (fun (part : D) => R.ok true) (fun (part : D) => (strDG part)) [.str b.nm, .str b.ar, .int b.l, .int b.t, .int b.w, .int b.h, .str b.ms] = _
    have s1 := (num_ok ob.l).2.1
    have s2 := (num_ok ob.t).2.1
    have s3 := (num_ok ob.wd).2.1
    have s4 := (num_ok ob.h).2.1
    simp only [compR, strDG, s1, s2, s3, s4, R.ok_bind]
  rw [e1]
  simp only [R.ok_bind]
  have nm : t_or_bar b.nm = b.nm := by
    unfold t_or_bar; rw [decide_eq_false ob.n0]; rfl
  have e2 : compR (fun (word : Str) => R.ok true) (fun (word : Str) => ((mulSG ("-" : Str) (b2i (decide (word = ("" : Str))))) >>= fun v1 => (catS word v1))) [b.nm, b.ar, strOfI b.l, strOfI b.t, strOfI b.w, strOfI b.h, b.ms] = .ok (wordsB b) := by
    rw [compR_map _ _ t_or_bar _ (fun _ _ => rfl)]
    · simp only [List.map]
      rw [nm, num_ne ob.l, num_ne ob.t, num_ne ob.wd, num_ne ob.h]; rfl
    · intro x hx
      refine word_ok (bar_len (wo (ob.w _ ?_)).len)
      have : t_or_bar x ∈ [b.nm, b.ar, strOfI b.l, strOfI b.t, strOfI b.w, strOfI b.h, b.ms].map t_or_bar := List.mem_map_of_mem hx
      simp only [List.map] at this
      rw [nm, num_ne ob.l, num_ne ob.t, num_ne ob.wd, num_ne ob.h] at this
      exact this
  rw [e2]
  simp only [R.ok_bind]
  rw [line_join ob]
  have h1 := txt_len oS
  have h2 := (line_ok ob).len
  simp only [R.ok_bind]
  rw [catS_ok (by rw [len_tl, len_tl]; omega)]
  simp only [R.ok_bind]
  rw [catS_ok (by rw [nl_len, len_tl, tl_append, List.length_append]; omega)]
  simp only [R.ok_bind]
  rw [txt_app]
theorem law50 (ns : Fz) (h : ns.l.length ≤ 63) : t_law_k50 ns = .ok true := by
  have hl := scene_len h 0
  have o := scene_B h
  have hs := scene_ok (scene_wf h 0) (by omega) (scene_bx h 0)
  unfold t_law_k50
  rw [g_scene_ok h]
  simp only [R.ok_bind, letT]
  have f : foldR (fun (text : Str) (box : Box) => t_law_k50_b1 text box) (scene ns.l 0) (txtB []) = .ok (txtB (scene ns.l 0)) :=
    foldR_inv _ txtB _ fun pre x post e => b1_50 (fun c hc => o c (by
      rw [e]
      rcases List.mem_append.mp hc with z | z
      · exact List.mem_append_left _ z
      · simp at z; subst z; simp)) (by
      have : (scene ns.l 0).length = (pre ++ x :: post).length := by rw [e]
      rw [List.length_append] at this; omega)
  have n : txtB [] = ("" : Str) := by decide +kernel
  rw [n] at f
  rw [f]
  simp only [R.ok_bind]
  rw [written_ok o (by omega), read_ok o (by omega) hs]
  simp
theorem law50_true : ∀ ns : List Int, ns.length ≤ 63 → den_law_k50 [.frz ns] = .ok (.bl true) := fun ns h => rr_ok (k_law_k50 ⟨ns⟩) (law50 ⟨ns⟩ h)
end
end Ty

namespace K50
open PySem PySem.Spec PyProof.Rows L2 Dx Dn
def top (i : Nat) : Stmt := PySem.Challenge.pw_touchtree_k50_written.main.body.getD i (.Pass ⟨0, 0, 0, 0⟩)
abbrev st_is_within : Stmt := top 9
abbrev st_is_name : Stmt := top 10
abbrev st_are_marks : Stmt := top 11
abbrev st_is_box : Stmt := top 12
abbrev st_is_scene : Stmt := top 13
abbrev st_or_bar : Stmt := top 16
abbrev st_box_text : Stmt := top 17
abbrev st_written : Stmt := top 18
abbrev st_number_in : Stmt := top 19
abbrev st_text_in : Stmt := top 20
abbrev st_box_in : Stmt := top 21
abbrev st_read : Stmt := top 22
abbrev st__law_cell : Stmt := top 24
abbrev st__law_drawn : Stmt := top 25
abbrev st__law_scene : Stmt := top 26
abbrev st_law : Stmt := top 30
structure Txt (K : PySem.W.Frag) (mg : Str → Option Value) where
  is_within_ : FnF K mg "is_within" st_is_within ["thing", "low", "high"]
  is_name_ : FnF K mg "is_name" st_is_name ["thing"]
  are_marks_ : FnF K mg "are_marks" st_are_marks ["thing"]
  is_box_ : FnF K mg "is_box" st_is_box ["thing"]
  is_scene_ : FnF K mg "is_scene" st_is_scene ["thing"]
  or_bar_ : FnF K mg "or_bar" st_or_bar ["text"]
  box_text_ : FnF K mg "box_text" st_box_text ["box"]
  written_ : FnF K mg "written" st_written ["scene"]
  number_in_ : FnF K mg "number_in" st_number_in ["word"]
  text_in_ : FnF K mg "text_in" st_text_in ["word"]
  box_in_ : FnF K mg "box_in" st_box_in ["line"]
  read_ : FnF K mg "read" st_read ["text"]
  _law_cell_ : FnF K mg "_law_cell" st__law_cell ["_law_script", "_law_k"]
  _law_drawn_ : FnF K mg "_law_drawn" st__law_drawn ["_law_script", "_law_k", "_law_many"]
  _law_scene_ : FnF K mg "_law_scene" st__law_scene ["_law_script", "_law_at"]
  law_ : FnF K mg "law" st_law ["_law_script"]
  NoText_ : ExF K mg "NoText"
  all_ : mg "all" = none
  bool_ : mg "bool" = none
  enumerate_ : mg "enumerate" = none
  int_ : mg "int" = none
  isinstance_ : mg "isinstance" = none
  len_ : mg "len" = none
  range_ : mg "range" = none
  set_ : mg "set" = none
  str_ : mg "str" = none
  tuple_ : mg "tuple" = none
  zip_ : mg "zip" = none
  FIGURES_ : ∃ t, mg "FIGURES" = some (.str "0123456789" t)
  LETTERS_ : ∃ t, mg "LETTERS" = some (.str "abcdefghijklmnopqrstuvwxyz" t)
  MARKS_ : ∃ t, mg "MARKS" = some (.str "cfhl" t)
  MOST_BOXES_ : ∃ t, mg "MOST_BOXES" = some (.int 12 t)
  MOST_PLACE_ : ∃ t, mg "MOST_PLACE" = some (.int 20 t)
  MOST_SIZE_ : ∃ t, mg "MOST_SIZE" = some (.int 20 t)
section
variable {P : Program} {w : World} {K : PySem.W.Frag} {mg : Str → Option Value} {base : Heap}
def Txt.xi (T : Txt K mg) : Str → Value := fun x => if x = "NoText" then .ref T.NoText_.C else .none
theorem Txt.xi_NoText (T : Txt K mg) : T.xi "NoText" = .ref T.NoText_.C := if_pos rfl
/-! ### is_within : slots ['thing', 'low', 'high'] -/
theorem sc_is_within : FnScope ["thing", "low", "high"] ["thing", "low", "high"] (defScope st_is_within) := ⟨rfl, rfl, rfl, by decide +kernel, rfl, by decide +kernel, by decide +kernel⟩
theorem ok_is_within (T : Txt K mg) : FnOk P w K mg base (L2.CX P w) 1 T.is_within_.f T.is_within_.fd ["thing", "low", "high"] (spD K T.xi den_is_within) := by
  refine fn_d (G := g_is_within) T.is_within_.Fn sc_is_within (fun ds h => if_neg h) (fun ds h => if_pos h) fun cdv A outer s H E hr => ?_
  have tk := takes_of (X := cxOf (L2.CX P w) P w K mg base ["thing", "low", "high"] "is_within" (defScope st_is_within) T.is_within_.f cdv A outer s H E) rfl rfl rfl rfl
  have hp := passes_of (X := cxOf (L2.CX P w) P w K mg base ["thing", "low", "high"] "is_within" (defScope st_is_within) T.is_within_.f cdv A outer s H E) rfl
  exact (dss_one (ds_ret (de_and (de_isi T.isinstance_ T.int_ (by decide +kernel) (de_v (pv 0))) (de_and (de_not (de_isi T.isinstance_ T.bool_ (by decide +kernel) (de_v (pv 0)))) (de_one (deChain cm_le cm_le (de_v (pv 1)) (de_v (pv 0)) (de_v (pv 2))))))))
/-! ### is_name : slots ['thing', 'sign'] -/
theorem sc_is_name : FnScope ["thing", "sign"] ["thing"] (defScope st_is_name) := ⟨rfl, rfl, rfl, by decide +kernel, rfl, by decide +kernel, by decide +kernel⟩
theorem ok_is_name (T : Txt K mg) : FnOk P w K mg base (L2.CX P w) 1 T.is_name_.f T.is_name_.fd ["thing"] (spD K T.xi den_is_name) := by
  refine fn_d (G := g_is_name) T.is_name_.Fn sc_is_name (fun ds h => if_neg h) (fun ds h => if_pos h) fun cdv A outer s H E hr => ?_
  have tk := takes_of (X := cxOf (L2.CX P w) P w K mg base ["thing", "sign"] "is_name" (defScope st_is_name) T.is_name_.f cdv A outer s H E) rfl rfl rfl rfl
  have hp := passes_of (X := cxOf (L2.CX P w) P w K mg base ["thing", "sign"] "is_name" (defScope st_is_name) T.is_name_.f cdv A outer s H E) rfl
  exact (dss_one (ds_ret (de_and (de_isi T.isinstance_ T.str_ (by decide +kernel) (de_v (pv 0))) (de_and (deChain cm_le cm_le de_int (de_callB cb_len T.len_ (by decide +kernel) (da_cons (de_v (pv 0)) da_nil)) de_int) (de_one (de_callB cb_all T.all_ (by decide +kernel) (da_cons (de_ofF (df_lc (own := [("sign", 1)]) (ts := [1]) sc_is_name.nd (di_seq (de_v (pv 0))) rfl (fun _ _ _ _ _ => (dg_name (i := 1) sc_is_name.nd)) (fun _ _ _ _ _ => dts_nil) (fun _ _ _ _ _ => (deC (cm_in (roomU65 hr)) (de_v (pv 1)) (de_gstr T.LETTERS_))))) da_nil)))))))
/-! ### are_marks : slots ['thing', 'sign', 'one', 'other'] -/
theorem sc_are_marks : FnScope ["thing", "sign", "one", "other"] ["thing"] (defScope st_are_marks) := ⟨rfl, rfl, rfl, by decide +kernel, rfl, by decide +kernel, by decide +kernel⟩
theorem ok_are_marks (T : Txt K mg) : FnOk P w K mg base (L2.CX P w) 1 T.are_marks_.f T.are_marks_.fd ["thing"] (spD K T.xi den_are_marks) := by
  refine fn_d (G := g_are_marks) T.are_marks_.Fn sc_are_marks (fun ds h => if_neg h) (fun ds h => if_pos h) fun cdv A outer s H E hr => ?_
  have tk := takes_of (X := cxOf (L2.CX P w) P w K mg base ["thing", "sign", "one", "other"] "are_marks" (defScope st_are_marks) T.are_marks_.f cdv A outer s H E) rfl rfl rfl rfl
  have hp := passes_of (X := cxOf (L2.CX P w) P w K mg base ["thing", "sign", "one", "other"] "are_marks" (defScope st_are_marks) T.are_marks_.f cdv A outer s H E) rfl
  exact (dss_cons (ds_if (dt_w (dw_or (dt_not (dt_val (de_isi T.isinstance_ T.str_ (by decide +kernel) (de_v (pv 0))))) (dw_or1 (dt_not (dt_val (de_callB cb_all T.all_ (by decide +kernel) (da_cons (de_ofF (df_lc (own := [("sign", 1)]) (ts := [1]) sc_are_marks.nd (di_seq (de_v (pv 0))) rfl (fun _ _ _ _ _ => (dg_name (i := 1) sc_are_marks.nd)) (fun _ _ _ _ _ => dts_nil) (fun _ _ _ _ _ => (deC (cm_in (roomU65 hr)) (de_v (pv 1)) (de_gstr T.MARKS_))))) da_nil)))))))
  (dss_one (ds_ret de_bl))
  dss_nil)
  (dss_one (ds_ret (de_callB cb_all T.all_ (by decide +kernel) (da_cons (de_ofF (df_lc (own := [("one", 2), ("other", 3)]) (ts := [2, 3]) sc_are_marks.nd (di_zip T.zip_ (de_v (pv 0)) (de_slice (de_v (pv 0)) (do_some de_int) do_none)) rfl (fun _ _ _ _ _ => (dg_tup (ts := [2, 3]) rfl (dgs_cons (i := 2) sc_are_marks.nd (dgs_cons (i := 3) sc_are_marks.nd dgs_nil)))) (fun _ _ _ _ _ => dts_nil) (fun _ _ _ _ _ => (deC cm_lt (de_v (pv 2)) (de_v (pv 3)))))) da_nil)))))
/-! ### is_box : slots ['thing', 'at', 'size'] -/
theorem sc_is_box : FnScope ["thing", "at", "size"] ["thing"] (defScope st_is_box) := ⟨rfl, rfl, rfl, by decide +kernel, rfl, by decide +kernel, by decide +kernel⟩
theorem ok_is_box (T : Txt K mg) : FnOk P w K mg base (L2.CX P w) 2 T.is_box_.f T.is_box_.fd ["thing"] (spD K T.xi den_is_box) := by
  refine fn_d (G := g_is_box) T.is_box_.Fn sc_is_box (fun ds h => if_neg h) (fun ds h => if_pos h) fun cdv A outer s H E hr => ?_
  have tk := takes_of (X := cxOf (L2.CX P w) P w K mg base ["thing", "at", "size"] "is_box" (defScope st_is_box) T.is_box_.f cdv A outer s H E) rfl rfl rfl rfl
  have hp := passes_of (X := cxOf (L2.CX P w) P w K mg base ["thing", "at", "size"] "is_box" (defScope st_is_box) T.is_box_.f cdv A outer s H E) rfl
  exact (dss_cons (ds_if (dt_w (dw_or (dt_not (dt_val (de_isi T.isinstance_ T.tuple_ (by decide +kernel) (de_v (pv 0))))) (dw_or (dtC (cm_ne (roomU64 hr)) (de_callB cb_len T.len_ (by decide +kernel) (da_cons (de_v (pv 0)) da_nil)) de_int) (dw_or (dt_not (dt_val (de_call (ok_is_name T) tk (hr.mono (by decide)) T.is_name_.m T.is_name_.Fn.kp T.is_name_.b (da_cons (de_ix (roomU1 hr) (fun _ _ => rfl) (de_v (pv 0)) de_int) da_nil)))) (dw_or1 (dt_not (dt_val (de_call (ok_are_marks T) tk (hr.mono (by decide)) T.are_marks_.m T.are_marks_.Fn.kp T.are_marks_.b (da_cons (de_ix (roomU1 hr) (fun _ _ => rfl) (de_v (pv 0)) de_int) da_nil)))))))))
  (dss_one (ds_ret de_bl))
  dss_nil)
  (dss_cons (ds_if (dt_w (dw_or (dt_not (dt_val (de_isi T.isinstance_ T.str_ (by decide +kernel) (de_ix (roomU1 hr) (fun _ _ => rfl) (de_v (pv 0)) de_int)))) (dw_or1 (dt_not (dt_val (de_callB cb_all T.all_ (by decide +kernel) (da_cons (de_ofF (df_lc (own := [("at", 1)]) (ts := [1]) sc_is_box.nd (di_seq (de_slice (de_v (pv 0)) (do_some de_int) (do_some de_int))) rfl (fun _ _ _ _ _ => (dg_name (i := 1) sc_is_box.nd)) (fun _ _ _ _ _ => dts_nil) (fun _ _ _ _ _ => (de_call (ok_is_within T) takes0 (hr.mono (by decide)) T.is_within_.m T.is_within_.Fn.kp T.is_within_.b (da_cons (de_v (pv 1)) (da_cons (de_sub de_int (de_gint T.MOST_PLACE_)) (da_cons (de_gint T.MOST_PLACE_) da_nil))))))) da_nil)))))))
  (dss_one (ds_ret de_bl))
  dss_nil)
  (dss_one (ds_ret (de_callB cb_all T.all_ (by decide +kernel) (da_cons (de_ofF (df_lc (own := [("size", 2)]) (ts := [2]) sc_is_box.nd (di_seq (de_slice (de_v (pv 0)) (do_some de_int) (do_some de_int))) rfl (fun _ _ _ _ _ => (dg_name (i := 2) sc_is_box.nd)) (fun _ _ _ _ _ => dts_nil) (fun _ _ _ _ _ => (de_call (ok_is_within T) takes0 (hr.mono (by decide)) T.is_within_.m T.is_within_.Fn.kp T.is_within_.b (da_cons (de_v (pv 2)) (da_cons de_int (da_cons (de_gint T.MOST_SIZE_) da_nil))))))) da_nil))))))
/-! ### is_scene : slots ['thing', 'names', 'box', 'at'] -/
theorem sc_is_scene : FnScope ["thing", "names", "box", "at"] ["thing"] (defScope st_is_scene) := ⟨rfl, rfl, rfl, by decide +kernel, rfl, by decide +kernel, by decide +kernel⟩
theorem ok_is_scene (T : Txt K mg) : FnOk P w K mg base (L2.CX P w) 3 T.is_scene_.f T.is_scene_.fd ["thing"] (spD K T.xi den_is_scene) := by
  refine fn_d (G := g_is_scene) T.is_scene_.Fn sc_is_scene (fun ds h => if_neg h) (fun ds h => if_pos h) fun cdv A outer s H E hr => ?_
  have tk := takes_of (X := cxOf (L2.CX P w) P w K mg base ["thing", "names", "box", "at"] "is_scene" (defScope st_is_scene) T.is_scene_.f cdv A outer s H E) rfl rfl rfl rfl
  have hp := passes_of (X := cxOf (L2.CX P w) P w K mg base ["thing", "names", "box", "at"] "is_scene" (defScope st_is_scene) T.is_scene_.f cdv A outer s H E) rfl
  exact (dss_cons (ds_if (dt_w (dw_or (dt_not (dt_val (de_isi T.isinstance_ T.tuple_ (by decide +kernel) (de_v (pv 0))))) (dw_or (dtC cm_gt (de_callB cb_len T.len_ (by decide +kernel) (da_cons (de_v (pv 0)) da_nil)) (de_gint T.MOST_BOXES_)) (dw_or1 (dt_not (dt_val (de_callB cb_all T.all_ (by decide +kernel) (da_cons (de_ofF (df_lc (own := [("box", 2)]) (ts := [2]) sc_is_scene.nd (di_seq (de_v (pv 0))) rfl (fun _ _ _ _ _ => (dg_name (i := 2) sc_is_scene.nd)) (fun _ _ _ _ _ => dts_nil) (fun _ _ _ _ _ => (de_call (ok_is_box T) takes0 (hr.mono (by decide)) T.is_box_.m T.is_box_.Fn.kp T.is_box_.b (da_cons (de_v (pv 2)) da_nil))))) da_nil))))))))
  (dss_one (ds_ret de_bl))
  dss_nil)
  (dss_cons (ds_set (i := 1) sc_is_scene.nd (de_ofF (df_lc (own := [("box", 2)]) (ts := [2]) sc_is_scene.nd (di_seq (de_v (pv 0))) rfl (fun _ _ _ _ _ => (dg_name (i := 2) sc_is_scene.nd)) (fun _ _ _ _ _ => dts_nil) (fun _ _ _ _ _ => (de_ix (roomU1 hr) (fun _ _ => rfl) (de_v (pv 2)) de_int)))))
  (dss_cons (ds_if (dtC cm_lt (de_lenSet T.len_ T.set_ (de_v (pv 1))) (de_callB cb_len T.len_ (by decide +kernel) (da_cons (de_v (pv 1)) da_nil)))
  (dss_one (ds_ret de_bl))
  dss_nil)
  (dss_one (ds_ret (de_callB cb_all T.all_ (by decide +kernel) (da_cons (de_ofF (df_lc (own := [("at", 3), ("box", 2)]) (ts := [3, 2]) sc_is_scene.nd (di_enumT T.enumerate_ (de_v (pv 0))) rfl (fun _ _ _ _ _ => (dg_tup (ts := [3, 2]) rfl (dgs_cons (i := 3) sc_is_scene.nd (dgs_cons (i := 2) sc_is_scene.nd dgs_nil)))) (fun _ _ _ _ _ => dts_nil) (fun _ _ _ _ _ => (de_or (deC (cm_eq (roomU64 hr)) (de_ix (roomU1 hr) (fun _ _ => rfl) (de_v (pv 2)) de_int) de_str) (de_one (deC (cm_in (roomU65 hr)) (de_ix (roomU1 hr) (fun _ _ => rfl) (de_v (pv 2)) de_int) (de_slice (de_v (pv 1)) do_none (do_some (de_v (pv 3)))))))))) da_nil)))))))
/-! ### or_bar : slots ['text'] -/
theorem sc_or_bar : FnScope ["text"] ["text"] (defScope st_or_bar) := ⟨rfl, rfl, rfl, by decide +kernel, rfl, by decide +kernel, by decide +kernel⟩
theorem ok_or_bar (T : Txt K mg) : FnOk P w K mg base (L2.CX P w) 1 T.or_bar_.f T.or_bar_.fd ["text"] (spD K T.xi den_or_bar) := by
  refine fn_d (G := g_or_bar) T.or_bar_.Fn sc_or_bar (fun ds h => if_neg h) (fun ds h => if_pos h) fun cdv A outer s H E hr => ?_
  have tk := takes_of (X := cxOf (L2.CX P w) P w K mg base ["text"] "or_bar" (defScope st_or_bar) T.or_bar_.f cdv A outer s H E) rfl rfl rfl rfl
  have hp := passes_of (X := cxOf (L2.CX P w) P w K mg base ["text"] "or_bar" (defScope st_or_bar) T.or_bar_.f cdv A outer s H E) rfl
  exact (dss_one (ds_ret (de_if (dtC (cm_ne (roomU64 hr)) (de_v (pv 0)) de_str) (de_v (pv 0)) de_str)))
/-! ### box_text : slots ['box', 'number'] -/
theorem sc_box_text : FnScope ["box", "number"] ["box"] (defScope st_box_text) := ⟨rfl, rfl, rfl, by decide +kernel, rfl, by decide +kernel, by decide +kernel⟩
theorem ok_box_text (T : Txt K mg) : FnOk P w K mg base (L2.CX P w) 2 T.box_text_.f T.box_text_.fd ["box"] (spD K T.xi den_box_text) := by
  refine fn_d (G := g_box_text) T.box_text_.Fn sc_box_text (fun ds h => if_neg h) (fun ds h => if_pos h) fun cdv A outer s H E hr => ?_
  have tk := takes_of (X := cxOf (L2.CX P w) P w K mg base ["box", "number"] "box_text" (defScope st_box_text) T.box_text_.f cdv A outer s H E) rfl rfl rfl rfl
  have hp := passes_of (X := cxOf (L2.CX P w) P w K mg base ["box", "number"] "box_text" (defScope st_box_text) T.box_text_.f cdv A outer s H E) rfl
  exact (dss_one (ds_ret (de_join de_str (de_add (de_add (de_ofF (df_lst (da_cons (de_ix (roomU1 hr) (fun _ _ => rfl) (de_v (pv 0)) de_int) (da_cons (de_call (ok_or_bar T) tk (hr.mono (by decide)) T.or_bar_.m T.or_bar_.Fn.kp T.or_bar_.b (da_cons (de_ix (roomU1 hr) (fun _ _ => rfl) (de_v (pv 0)) de_int) da_nil)) da_nil)))) (de_ofF (df_lc (own := [("number", 1)]) (ts := [1]) sc_box_text.nd (di_seq (de_slice (de_v (pv 0)) (do_some de_int) (do_some de_int))) rfl (fun _ _ _ _ _ => (dg_name (i := 1) sc_box_text.nd)) (fun _ _ _ _ _ => dts_nil) (fun _ _ _ _ _ => (de_callTy cb_str1 T.str_ (by decide +kernel) (da_cons (de_v (pv 1)) da_nil)))))) (de_ofF (df_lst (da_cons (de_call (ok_or_bar T) tk (hr.mono (by decide)) T.or_bar_.m T.or_bar_.Fn.kp T.or_bar_.b (da_cons (de_ix (roomU1 hr) (fun _ _ => rfl) (de_v (pv 0)) de_int) da_nil)) da_nil)))))))
/-! ### written : slots ['scene', 'box'] -/
theorem sc_written : FnScope ["scene", "box"] ["scene"] (defScope st_written) := ⟨rfl, rfl, rfl, by decide +kernel, rfl, by decide +kernel, by decide +kernel⟩
theorem ok_written (T : Txt K mg) : FnOk P w K mg base (L2.CX P w) 3 T.written_.f T.written_.fd ["scene"] (spD K T.xi den_written) := by
  refine fn_d (G := g_written) T.written_.Fn sc_written (fun ds h => if_neg h) (fun ds h => if_pos h) fun cdv A outer s H E hr => ?_
  have tk := takes_of (X := cxOf (L2.CX P w) P w K mg base ["scene", "box"] "written" (defScope st_written) T.written_.f cdv A outer s H E) rfl rfl rfl rfl
  have hp := passes_of (X := cxOf (L2.CX P w) P w K mg base ["scene", "box"] "written" (defScope st_written) T.written_.f cdv A outer s H E) rfl
  exact (dss_one (ds_ret (de_join de_str (de_ofF (df_lc (own := [("box", 1)]) (ts := [1]) sc_written.nd (di_seq (de_v (pv 0))) rfl (fun _ _ _ _ _ => (dg_name (i := 1) sc_written.nd)) (fun _ _ _ _ _ => dts_nil) (fun _ _ _ _ _ => (de_add (de_call (ok_box_text T) takes0 (hr.mono (by decide)) T.box_text_.m T.box_text_.Fn.kp T.box_text_.b (da_cons (de_v (pv 1)) da_nil)) de_str)))))))
/-! ### number_in : slots ['word', 'figures', 'sign'] -/
theorem sc_number_in : FnScope ["word", "figures", "sign"] ["word"] (defScope st_number_in) := ⟨rfl, rfl, rfl, by decide +kernel, rfl, by decide +kernel, by decide +kernel⟩
theorem ok_number_in (T : Txt K mg) : FnOk P w K mg base (L2.CX P w) 1 T.number_in_.f T.number_in_.fd ["word"] (spD K T.xi den_number_in) := by
  refine fn_d (G := g_number_in) T.number_in_.Fn sc_number_in (fun ds h => if_neg h) (fun ds h => if_pos h) fun cdv A outer s H E hr => ?_
  have tk := takes_of (X := cxOf (L2.CX P w) P w K mg base ["word", "figures", "sign"] "number_in" (defScope st_number_in) T.number_in_.f cdv A outer s H E) rfl rfl rfl rfl
  have hp := passes_of (X := cxOf (L2.CX P w) P w K mg base ["word", "figures", "sign"] "number_in" (defScope st_number_in) T.number_in_.f cdv A outer s H E) rfl
  exact (dss_cons (ds_set (i := 1) sc_number_in.nd (de_if (dtC (cm_eq (roomU64 hr)) (de_slice (de_v (pv 0)) do_none (do_some de_int)) de_str) (de_slice (de_v (pv 0)) (do_some de_int) do_none) (de_v (pv 0))))
  (dss_cons (ds_if (dt_w (dw_or (dt_not (dtChain cm_le cm_le de_int (de_callB cb_len T.len_ (by decide +kernel) (da_cons (de_v (pv 1)) da_nil)) de_int)) (dw_or1 (dt_not (dt_val (de_callB cb_all T.all_ (by decide +kernel) (da_cons (de_ofF (df_lc (own := [("sign", 2)]) (ts := [2]) sc_number_in.nd (di_seq (de_v (pv 1))) rfl (fun _ _ _ _ _ => (dg_name (i := 2) sc_number_in.nd)) (fun _ _ _ _ _ => dts_nil) (fun _ _ _ _ _ => (deC (cm_in (roomU65 hr)) (de_v (pv 2)) (de_gstr T.FIGURES_))))) da_nil)))))))
  (dss_one (ds_raise tk (pmk_own PySem.F.excBase_ValueError T.NoText_.q T.NoText_.m T.NoText_.k (raises_own T.NoText_.s T.NoText_.t) (by exact rfl)) (T.xi_NoText)))
  dss_nil)
  (dss_one (ds_ret (de_callTy cb_intT T.int_ (by decide +kernel) (da_cons (de_v (pv 0)) da_nil))))))
/-! ### text_in : slots ['word'] -/
theorem sc_text_in : FnScope ["word"] ["word"] (defScope st_text_in) := ⟨rfl, rfl, rfl, by decide +kernel, rfl, by decide +kernel, by decide +kernel⟩
theorem ok_text_in (T : Txt K mg) : FnOk P w K mg base (L2.CX P w) 1 T.text_in_.f T.text_in_.fd ["word"] (spD K T.xi den_text_in) := by
  refine fn_d (G := g_text_in) T.text_in_.Fn sc_text_in (fun ds h => if_neg h) (fun ds h => if_pos h) fun cdv A outer s H E hr => ?_
  have tk := takes_of (X := cxOf (L2.CX P w) P w K mg base ["word"] "text_in" (defScope st_text_in) T.text_in_.f cdv A outer s H E) rfl rfl rfl rfl
  have hp := passes_of (X := cxOf (L2.CX P w) P w K mg base ["word"] "text_in" (defScope st_text_in) T.text_in_.f cdv A outer s H E) rfl
  exact (dss_one (ds_ret (de_if (dtC (cm_eq (roomU64 hr)) (de_v (pv 0)) de_str) de_str (de_v (pv 0)))))
/-! ### box_in : slots ['line', 'words', 'word'] -/
theorem sc_box_in : FnScope ["line", "words", "word"] ["line"] (defScope st_box_in) := ⟨rfl, rfl, rfl, by decide +kernel, rfl, by decide +kernel, by decide +kernel⟩
theorem ok_box_in (T : Txt K mg) : FnOk P w K mg base (L2.CX P w) 2 T.box_in_.f T.box_in_.fd ["line"] (spD K T.xi den_box_in) := by
  refine fn_d (G := g_box_in) T.box_in_.Fn sc_box_in (fun ds h => if_neg h) (fun ds h => if_pos h) fun cdv A outer s H E hr => ?_
  have tk := takes_of (X := cxOf (L2.CX P w) P w K mg base ["line", "words", "word"] "box_in" (defScope st_box_in) T.box_in_.f cdv A outer s H E) rfl rfl rfl rfl
  have hp := passes_of (X := cxOf (L2.CX P w) P w K mg base ["line", "words", "word"] "box_in" (defScope st_box_in) T.box_in_.f cdv A outer s H E) rfl
  exact (dss_cons (ds_set (i := 1) sc_box_in.nd (de_ofF (df_split (de_v (pv 0)) de_str)))
  (dss_cons (ds_if (dtC (cm_ne (roomU64 hr)) (de_callB cb_len T.len_ (by decide +kernel) (da_cons (de_v (pv 1)) da_nil)) de_int)
  (dss_one (ds_raise tk (pmk_own PySem.F.excBase_ValueError T.NoText_.q T.NoText_.m T.NoText_.k (raises_own T.NoText_.s T.NoText_.t) (by exact rfl)) (T.xi_NoText)))
  dss_nil)
  (dss_one (ds_ret (de_add (de_add (de_tup (da_cons (de_ix (roomU1 hr) (fun _ _ => rfl) (de_v (pv 1)) de_int) (da_cons (de_call (ok_text_in T) tk (hr.mono (by decide)) T.text_in_.m T.text_in_.Fn.kp T.text_in_.b (da_cons (de_ix (roomU1 hr) (fun _ _ => rfl) (de_v (pv 1)) de_int) da_nil)) da_nil))) (de_callTy cb_tuple T.tuple_ (by decide +kernel) (da_cons (de_ofF (df_lc (own := [("word", 2)]) (ts := [2]) sc_box_in.nd (di_seq (de_slice (de_v (pv 1)) (do_some de_int) (do_some de_int))) rfl (fun _ _ _ _ _ => (dg_name (i := 2) sc_box_in.nd)) (fun _ _ _ _ _ => dts_nil) (fun _ _ _ _ _ => (de_call (ok_number_in T) takes0 (hr.mono (by decide)) T.number_in_.m T.number_in_.Fn.kp T.number_in_.b (da_cons (de_v (pv 2)) da_nil))))) da_nil))) (de_tup (da_cons (de_call (ok_text_in T) tk (hr.mono (by decide)) T.text_in_.m T.text_in_.Fn.kp T.text_in_.b (da_cons (de_ix (roomU1 hr) (fun _ _ => rfl) (de_v (pv 1)) de_int) da_nil)) da_nil)))))))
/-! ### read : slots ['text', 'found', 'line'] -/
theorem sc_read : FnScope ["text", "found", "line"] ["text"] (defScope st_read) := ⟨rfl, rfl, rfl, by decide +kernel, rfl, by decide +kernel, by decide +kernel⟩
theorem ok_read (T : Txt K mg) : FnOk P w K mg base (L2.CX P w) 4 T.read_.f T.read_.fd ["text"] (spD K T.xi den_read) := by
  refine fn_d (G := g_read) T.read_.Fn sc_read (fun ds h => if_neg h) (fun ds h => if_pos h) fun cdv A outer s H E hr => ?_
  have tk := takes_of (X := cxOf (L2.CX P w) P w K mg base ["text", "found", "line"] "read" (defScope st_read) T.read_.f cdv A outer s H E) rfl rfl rfl rfl
  have hp := passes_of (X := cxOf (L2.CX P w) P w K mg base ["text", "found", "line"] "read" (defScope st_read) T.read_.f cdv A outer s H E) rfl
  exact (dss_cons (ds_set (i := 1) sc_read.nd (de_callTy cb_tuple T.tuple_ (by decide +kernel) (da_cons (de_ofF (df_lc (own := [("line", 2)]) (ts := [2]) sc_read.nd (di_seq (de_slice (de_ofF (df_split (de_v (pv 0)) de_str)) do_none (do_some (de_neg de_int)))) rfl (fun _ _ _ _ _ => (dg_name (i := 2) sc_read.nd)) (fun _ _ _ _ _ => dts_nil) (fun _ _ _ _ _ => (de_call (ok_box_in T) takes0 (hr.mono (by decide)) T.box_in_.m T.box_in_.Fn.kp T.box_in_.b (da_cons (de_v (pv 2)) da_nil))))) da_nil)))
  (dss_cons (ds_if (dt_w (dw_or (dt_not (dt_val (de_call (ok_is_scene T) tk (hr.mono (by decide)) T.is_scene_.m T.is_scene_.Fn.kp T.is_scene_.b (da_cons (de_v (pv 1)) da_nil)))) (dw_or1 (dtC (cm_ne (roomU64 hr)) (de_call (ok_written T) tk (hr.mono (by decide)) T.written_.m T.written_.Fn.kp T.written_.b (da_cons (de_v (pv 1)) da_nil)) (de_v (pv 0))))))
  (dss_one (ds_raise tk (pmk_own PySem.F.excBase_ValueError T.NoText_.q T.NoText_.m T.NoText_.k (raises_own T.NoText_.s T.NoText_.t) (by exact rfl)) (T.xi_NoText)))
  dss_nil)
  (dss_one (ds_ret (de_v (pv 1))))))
/-! ### _law_cell : slots ['_law_script', '_law_k'] -/
theorem sc__law_cell : FnScope ["_law_script", "_law_k"] ["_law_script", "_law_k"] (defScope st__law_cell) := ⟨rfl, rfl, rfl, by decide +kernel, rfl, by decide +kernel, by decide +kernel⟩
theorem ok__law_cell (T : Txt K mg) : FnOk P w K mg base (L2.CX P w) 1 T._law_cell_.f T._law_cell_.fd ["_law_script", "_law_k"] (spD K T.xi den__law_cell) := by
  refine fn_d (G := g__law_cell) T._law_cell_.Fn sc__law_cell (fun ds h => if_neg h) (fun ds h => if_pos h) fun cdv A outer s H E hr => ?_
  have tk := takes_of (X := cxOf (L2.CX P w) P w K mg base ["_law_script", "_law_k"] "_law_cell" (defScope st__law_cell) T._law_cell_.f cdv A outer s H E) rfl rfl rfl rfl
  have hp := passes_of (X := cxOf (L2.CX P w) P w K mg base ["_law_script", "_law_k"] "_law_cell" (defScope st__law_cell) T._law_cell_.f cdv A outer s H E) rfl
  exact (dss_cons (ds_if (dtC (cm_eq (roomU64 hr)) (de_v (pv 0)) (de_ofF (df_lst da_nil)))
  (dss_one (ds_ret (de_mul de_int (de_v (pv 1)))))
  dss_nil)
  (dss_one (ds_ret (de_add (de_ix (roomU1 hr) (fun _ _ => rfl) (de_v (pv 0)) (de_mod (de_v (pv 1)) (de_callB cb_len T.len_ (by decide +kernel) (da_cons (de_v (pv 0)) da_nil)))) (de_mul de_int (de_div (de_v (pv 1)) (de_callB cb_len T.len_ (by decide +kernel) (da_cons (de_v (pv 0)) da_nil))))))))
/-! ### _law_drawn : slots ['_law_script', '_law_k', '_law_many', '_law_cell_here'] -/
theorem sc__law_drawn : FnScope ["_law_script", "_law_k", "_law_many", "_law_cell_here"] ["_law_script", "_law_k", "_law_many"] (defScope st__law_drawn) := ⟨rfl, rfl, rfl, by decide +kernel, rfl, by decide +kernel, by decide +kernel⟩
theorem ok__law_drawn (T : Txt K mg) : FnOk P w K mg base (L2.CX P w) 2 T._law_drawn_.f T._law_drawn_.fd ["_law_script", "_law_k", "_law_many"] (spD K T.xi den__law_drawn) := by
  refine fn_d (G := g__law_drawn) T._law_drawn_.Fn sc__law_drawn (fun ds h => if_neg h) (fun ds h => if_pos h) fun cdv A outer s H E hr => ?_
  have tk := takes_of (X := cxOf (L2.CX P w) P w K mg base ["_law_script", "_law_k", "_law_many", "_law_cell_here"] "_law_drawn" (defScope st__law_drawn) T._law_drawn_.f cdv A outer s H E) rfl rfl rfl rfl
  have hp := passes_of (X := cxOf (L2.CX P w) P w K mg base ["_law_script", "_law_k", "_law_many", "_law_cell_here"] "_law_drawn" (defScope st__law_drawn) T._law_drawn_.f cdv A outer s H E) rfl
  exact (dss_cons (ds_set (i := 3) sc__law_drawn.nd (de_mod (de_add (de_mul (de_mod (de_call (ok__law_cell T) tk (hr.mono (by decide)) T._law_cell_.m T._law_cell_.Fn.kp T._law_cell_.b (da_cons (de_v (pv 0)) (da_cons (de_v (pv 1)) da_nil))) de_int) de_int) (de_mul de_int (de_add (de_v (pv 1)) de_int))) de_int))
  (dss_cons (ds_set (i := 3) sc__law_drawn.nd (de_mod (de_add (de_mul (de_v (pv 3)) (de_v (pv 3))) (de_div (de_v (pv 3)) de_int)) de_int))
  (dss_one (ds_ret (de_mod (de_div (de_mod (de_add (de_mul (de_v (pv 3)) (de_v (pv 3))) (de_div (de_v (pv 3)) de_int)) de_int) de_int) (de_v (pv 2)))))))
/-! ### _law_scene : slots ['_law_script', '_law_at', '_law_found', '_law_turn', '_law_k', '_law_here', '_law_around', '_law_places', '_law_sizes', '_law_marks', '_law_j', '_law_sign', '_law_name', '_law_box_here'] -/
theorem sc__law_scene : FnScope ["_law_script", "_law_at", "_law_found", "_law_turn", "_law_k", "_law_here", "_law_around", "_law_places", "_law_sizes", "_law_marks", "_law_j", "_law_sign", "_law_name", "_law_box_here"] ["_law_script", "_law_at"] (defScope st__law_scene) := ⟨rfl, rfl, rfl, by decide +kernel, rfl, by decide +kernel, by decide +kernel⟩
theorem ok__law_scene (T : Txt K mg) : FnOk P w K mg base (L2.CX P w) 3 T._law_scene_.f T._law_scene_.fd ["_law_script", "_law_at"] (spD K T.xi den__law_scene) := by
  refine fn_d (G := g__law_scene) T._law_scene_.Fn sc__law_scene (fun ds h => if_neg h) (fun ds h => if_pos h) fun cdv A outer s H E hr => ?_
  have tk := takes_of (X := cxOf (L2.CX P w) P w K mg base ["_law_script", "_law_at", "_law_found", "_law_turn", "_law_k", "_law_here", "_law_around", "_law_places", "_law_sizes", "_law_marks", "_law_j", "_law_sign", "_law_name", "_law_box_here"] "_law_scene" (defScope st__law_scene) T._law_scene_.f cdv A outer s H E) rfl rfl rfl rfl
  have hp := passes_of (X := cxOf (L2.CX P w) P w K mg base ["_law_script", "_law_at", "_law_found", "_law_turn", "_law_k", "_law_here", "_law_around", "_law_places", "_law_sizes", "_law_marks", "_law_j", "_law_sign", "_law_name", "_law_box_here"] "_law_scene" (defScope st__law_scene) T._law_scene_.f cdv A outer s H E) rfl
  exact (dss_cons (ds_set (i := 2) sc__law_scene.nd (de_tup da_nil))
  (dss_cons (ds_set (i := 3) sc__law_scene.nd (de_call (ok__law_drawn T) tk (hr.mono (by decide)) T._law_drawn_.m T._law_drawn_.Fn.kp T._law_drawn_.b (da_cons (de_v (pv 0)) (da_cons (de_add (de_v (pv 1)) de_int) (da_cons de_int da_nil)))))
  (dss_cons (ds_for hp (di_range1 (c := true) T.range_ (de_call (ok__law_drawn T) tk (hr.mono (by decide)) T._law_drawn_.m T._law_drawn_.Fn.kp T._law_drawn_.b (da_cons (de_v (pv 0)) (da_cons (de_v (pv 1)) (da_cons de_int da_nil))))) (dg_name (i := 4) sc__law_scene.nd) (dss_end [4, 5, 6, 7, 8, 9, 10, 11, 12] (dss_cons (ds_set (i := 5) sc__law_scene.nd (de_add (de_add (de_v (pv 1)) de_int) (de_mul de_int (de_v (pv 4)))))
  (dss_cons (ds_set (i := 6) sc__law_scene.nd (de_ix (roomU1 hr) (fun _ _ => rfl) (de_add (de_ofF (df_lst (da_cons de_str da_nil))) (de_ofF (df_lc (own := [("_law_box_here", 13)]) (ts := [13]) sc__law_scene.nd (di_seq (de_v (pv 2))) rfl (fun _ _ _ _ _ => (dg_name (i := 13) sc__law_scene.nd)) (fun _ _ _ _ _ => dts_nil) (fun _ _ _ _ _ => (de_ix (roomU1 hr) (fun _ _ => rfl) (de_v (pv 13)) de_int))))) (de_call (ok__law_drawn T) tk (hr.mono (by decide)) T._law_drawn_.m T._law_drawn_.Fn.kp T._law_drawn_.b (da_cons (de_v (pv 0)) (da_cons (de_v (pv 5)) (da_cons (de_add (de_v (pv 4)) de_int) da_nil))))))
  (dss_cons (ds_setFDG (ds_lcG (i := 7) (own := [("_law_j", 10)]) (ts := [10]) sc__law_scene.nd (di_range1 (c := true) T.range_ de_int) rfl (fun _ _ _ _ _ => (dg_name (i := 10) sc__law_scene.nd)) (fun _ _ _ _ _ => dts_nil) (fun _ _ _ _ _ => (de_sub (de_call (ok__law_drawn T) takes0 (hr.mono (by decide)) T._law_drawn_.m T._law_drawn_.Fn.kp T._law_drawn_.b (da_cons (de_v (pv 0)) (da_cons (de_add (de_add (de_v (pv 5)) de_int) (de_v (pv 10))) (da_cons de_int da_nil)))) de_int))))
  (dss_cons (ds_setFDG (ds_lcG (i := 8) (own := [("_law_j", 10)]) (ts := [10]) sc__law_scene.nd (di_range1 (c := true) T.range_ de_int) rfl (fun _ _ _ _ _ => (dg_name (i := 10) sc__law_scene.nd)) (fun _ _ _ _ _ => dts_nil) (fun _ _ _ _ _ => (de_call (ok__law_drawn T) takes0 (hr.mono (by decide)) T._law_drawn_.m T._law_drawn_.Fn.kp T._law_drawn_.b (da_cons (de_v (pv 0)) (da_cons (de_add (de_add (de_v (pv 5)) de_int) (de_v (pv 10))) (da_cons de_int da_nil)))))))
  (dss_cons (ds_set (i := 9) sc__law_scene.nd de_str)
  (dss_cons (ds_for hp (di_enumT T.enumerate_ de_str) (dg_tup (ts := [10, 11]) rfl (dgs_cons (i := 10) sc__law_scene.nd (dgs_cons (i := 11) sc__law_scene.nd dgs_nil))) (dss_end [10, 11] (dss_one (ds_if (dtC (cm_eq (roomU64 hr)) (de_call (ok__law_drawn T) tk (hr.mono (by decide)) T._law_drawn_.m T._law_drawn_.Fn.kp T._law_drawn_.b (da_cons (de_v (pv 0)) (da_cons (de_add (de_add (de_v (pv 5)) de_int) (de_v (pv 10))) (da_cons (de_ix (roomU1 hr) (fun _ _ => rfl) (de_ofF (df_lst (da_cons de_int (da_cons de_int (da_cons de_int (da_cons de_int da_nil)))))) (de_v (pv 10))) da_nil)))) de_int)
  (dss_one (ds_set (i := 9) sc__law_scene.nd (de_add (de_v (pv 9)) (de_v (pv 11)))))
  dss_nil))))
  (dss_cons (ds_set (i := 12) sc__law_scene.nd (de_ix (roomU1 hr) (fun _ _ => rfl) de_str (de_mod (de_add (de_v (pv 4)) (de_v (pv 3))) de_int)))
  (dss_one (ds_set (i := 2) sc__law_scene.nd (de_add (de_v (pv 2)) (de_tup (da_cons (de_add (de_add (de_tup (da_cons (de_v (pv 12)) (da_cons (de_v (pv 6)) da_nil))) (de_callTy cb_tuple T.tuple_ (by decide +kernel) (da_cons (de_add (de_v (pv 7)) (de_v (pv 8))) da_nil))) (de_tup (da_cons (de_v (pv 9)) da_nil))) da_nil))))))))))))))
  (dss_one (ds_ret (de_v (pv 2)))))))
/-! ### law : slots ['_law_script', '_law_scene_here', '_law_text', '_law_box_here', '_law_words', '_law_part', '_law_word'] -/
theorem sc_law : FnScope ["_law_script", "_law_scene_here", "_law_text", "_law_box_here", "_law_words", "_law_part", "_law_word"] ["_law_script"] (defScope st_law) := ⟨rfl, rfl, rfl, by decide +kernel, rfl, by decide +kernel, by decide +kernel⟩
theorem ok_law (T : Txt K mg) : FnOk P w K mg base (L2.CX P w) 5 T.law_.f T.law_.fd ["_law_script"] (spD K T.xi den_law_k50) := by
  refine fn_d (G := g_law_k50) T.law_.Fn sc_law (fun ds h => if_neg h) (fun ds h => if_pos h) fun cdv A outer s H E hr => ?_
  have tk := takes_of (X := cxOf (L2.CX P w) P w K mg base ["_law_script", "_law_scene_here", "_law_text", "_law_box_here", "_law_words", "_law_part", "_law_word"] "law" (defScope st_law) T.law_.f cdv A outer s H E) rfl rfl rfl rfl
  have hp := passes_of (X := cxOf (L2.CX P w) P w K mg base ["_law_script", "_law_scene_here", "_law_text", "_law_box_here", "_law_words", "_law_part", "_law_word"] "law" (defScope st_law) T.law_.f cdv A outer s H E) rfl
  exact (dss_cons (ds_set (i := 1) sc_law.nd (de_call (ok__law_scene T) tk (hr.mono (by decide)) T._law_scene_.m T._law_scene_.Fn.kp T._law_scene_.b (da_cons (de_v (pv 0)) (da_cons de_int da_nil))))
  (dss_cons (ds_set (i := 2) sc_law.nd de_str)
  (dss_cons (ds_for hp (di_seq (de_v (pv 1))) (dg_name (i := 3) sc_law.nd) (dss_end [3, 4] (dss_cons (ds_setFDG (ds_lcG (i := 4) (own := [("_law_part", 5)]) (ts := [5]) sc_law.nd (di_seq (de_v (pv 3))) rfl (fun _ _ _ _ _ => (dg_name (i := 5) sc_law.nd)) (fun _ _ _ _ _ => dts_nil) (fun _ _ _ _ _ => (de_callTy cb_str1 T.str_ (by decide +kernel) (da_cons (de_v (pv 5)) da_nil)))))
  (dss_one (ds_set (i := 2) sc_law.nd (de_add (de_add (de_v (pv 2)) (de_join de_str (de_ofF (df_lc (own := [("_law_word", 6)]) (ts := [6]) sc_law.nd (di_seq (de_v (pv 4))) rfl (fun _ _ _ _ _ => (dg_name (i := 6) sc_law.nd)) (fun _ _ _ _ _ => dts_nil) (fun _ _ _ _ _ => (de_add (de_v (pv 6)) (de_mulS de_str (de_callTy cb_int1 T.int_ (by decide +kernel) (da_cons (deC (cm_eq (roomU64 hr)) (de_v (pv 6)) de_str) da_nil))))))))) de_str))))))
  (dss_one (ds_ret (de_and (deC (cm_eq (roomU64 hr)) (de_call (ok_written T) tk (hr.mono (by decide)) T.written_.m T.written_.Fn.kp T.written_.b (da_cons (de_v (pv 1)) da_nil)) (de_v (pv 2))) (de_one (deC (cm_eq (roomU64 hr)) (de_call (ok_read T) tk (hr.mono (by decide)) T.read_.m T.read_.Fn.kp T.read_.b (da_cons (de_v (pv 2)) da_nil)) (de_v (pv 1))))))))))
end
theorem all_mk (hlaw : ∀ ns : List Int, ns.length ≤ 63 → den_law_k50 [.frz ns] = .ok (.bl true)) {l : PySem.W.OpenLaw} {w : World} {K : PySem.W.Frag} {h : Heap} {mg : Str → Option Value} {fa f0 f1 f2 f3 f4 f5 f6 f7 f8 f9 f10 f11 f12 f13 f14 f15 C0 : Addr} {od0 an0 od1 an1 od2 an2 od3 an3 od4 an4 od5 an5 od6 an6 od7 an7 od8 an8 od9 an9 od10 an10 od11 an11 od12 an12 od13 an13 od14 an14 od15 an15 : Option Addr} {sl0 sl1 sl2 sl3 sl4 sl5 sl6 sl7 sl8 sl9 sl10 sl11 sl12 sl13 sl14 sl15 : Array (Option Value)} {oc0 kV0 dc0 pm0 cd0 ct0 oc1 kV1 dc1 pm1 cd1 ct1 oc2 kV2 dc2 pm2 cd2 ct2 oc3 kV3 dc3 pm3 cd3 ct3 oc4 kV4 dc4 pm4 cd4 ct4 oc5 kV5 dc5 pm5 cd5 ct5 oc6 kV6 dc6 pm6 cd6 ct6 oc7 kV7 dc7 pm7 cd7 ct7 oc8 kV8 dc8 pm8 cd8 ct8 oc9 kV9 dc9 pm9 cd9 ct9 oc10 kV10 dc10 pm10 cd10 ct10 oc11 kV11 dc11 pm11 cd11 ct11 oc12 kV12 dc12 pm12 cd12 ct12 oc13 kV13 dc13 pm13 cd13 ct13 oc14 kV14 dc14 pm14 cd14 ct14 oc15 kV15 dc15 pm15 cd15 ct15 : Value} {t0 t1 t2 t3 t4 t5 : Tok} (X : K.In h) (G : h.Ns mainGlobals mg) (hfa : mg "law" = some (.ref fa))
    (a0 : PySem.W.nsIn K mainGlobals "is_within" = some (some (.ref f0))) (l0 : K.lookup f0 = some ⟨oc0, od0, .func (PySem.W.fnOf "is_within" "is_within" (defArgs st_is_within) (defBody st_is_within) (defScope st_is_within) .none kV0 dc0 pm0 an0 cd0 ct0), sl0⟩) (c0 : PySem.W.codeIn K cd0 "is_within" = true) (k0 : PySem.W.keepIn K (.ref f0) = true)
    (a1 : PySem.W.nsIn K mainGlobals "is_name" = some (some (.ref f1))) (l1 : K.lookup f1 = some ⟨oc1, od1, .func (PySem.W.fnOf "is_name" "is_name" (defArgs st_is_name) (defBody st_is_name) (defScope st_is_name) .none kV1 dc1 pm1 an1 cd1 ct1), sl1⟩) (c1 : PySem.W.codeIn K cd1 "is_name" = true) (k1 : PySem.W.keepIn K (.ref f1) = true)
    (a2 : PySem.W.nsIn K mainGlobals "are_marks" = some (some (.ref f2))) (l2 : K.lookup f2 = some ⟨oc2, od2, .func (PySem.W.fnOf "are_marks" "are_marks" (defArgs st_are_marks) (defBody st_are_marks) (defScope st_are_marks) .none kV2 dc2 pm2 an2 cd2 ct2), sl2⟩) (c2 : PySem.W.codeIn K cd2 "are_marks" = true) (k2 : PySem.W.keepIn K (.ref f2) = true)
    (a3 : PySem.W.nsIn K mainGlobals "is_box" = some (some (.ref f3))) (l3 : K.lookup f3 = some ⟨oc3, od3, .func (PySem.W.fnOf "is_box" "is_box" (defArgs st_is_box) (defBody st_is_box) (defScope st_is_box) .none kV3 dc3 pm3 an3 cd3 ct3), sl3⟩) (c3 : PySem.W.codeIn K cd3 "is_box" = true) (k3 : PySem.W.keepIn K (.ref f3) = true)
    (a4 : PySem.W.nsIn K mainGlobals "is_scene" = some (some (.ref f4))) (l4 : K.lookup f4 = some ⟨oc4, od4, .func (PySem.W.fnOf "is_scene" "is_scene" (defArgs st_is_scene) (defBody st_is_scene) (defScope st_is_scene) .none kV4 dc4 pm4 an4 cd4 ct4), sl4⟩) (c4 : PySem.W.codeIn K cd4 "is_scene" = true) (k4 : PySem.W.keepIn K (.ref f4) = true)
    (a5 : PySem.W.nsIn K mainGlobals "or_bar" = some (some (.ref f5))) (l5 : K.lookup f5 = some ⟨oc5, od5, .func (PySem.W.fnOf "or_bar" "or_bar" (defArgs st_or_bar) (defBody st_or_bar) (defScope st_or_bar) .none kV5 dc5 pm5 an5 cd5 ct5), sl5⟩) (c5 : PySem.W.codeIn K cd5 "or_bar" = true) (k5 : PySem.W.keepIn K (.ref f5) = true)
    (a6 : PySem.W.nsIn K mainGlobals "box_text" = some (some (.ref f6))) (l6 : K.lookup f6 = some ⟨oc6, od6, .func (PySem.W.fnOf "box_text" "box_text" (defArgs st_box_text) (defBody st_box_text) (defScope st_box_text) .none kV6 dc6 pm6 an6 cd6 ct6), sl6⟩) (c6 : PySem.W.codeIn K cd6 "box_text" = true) (k6 : PySem.W.keepIn K (.ref f6) = true)
    (a7 : PySem.W.nsIn K mainGlobals "written" = some (some (.ref f7))) (l7 : K.lookup f7 = some ⟨oc7, od7, .func (PySem.W.fnOf "written" "written" (defArgs st_written) (defBody st_written) (defScope st_written) .none kV7 dc7 pm7 an7 cd7 ct7), sl7⟩) (c7 : PySem.W.codeIn K cd7 "written" = true) (k7 : PySem.W.keepIn K (.ref f7) = true)
    (a8 : PySem.W.nsIn K mainGlobals "number_in" = some (some (.ref f8))) (l8 : K.lookup f8 = some ⟨oc8, od8, .func (PySem.W.fnOf "number_in" "number_in" (defArgs st_number_in) (defBody st_number_in) (defScope st_number_in) .none kV8 dc8 pm8 an8 cd8 ct8), sl8⟩) (c8 : PySem.W.codeIn K cd8 "number_in" = true) (k8 : PySem.W.keepIn K (.ref f8) = true)
    (a9 : PySem.W.nsIn K mainGlobals "text_in" = some (some (.ref f9))) (l9 : K.lookup f9 = some ⟨oc9, od9, .func (PySem.W.fnOf "text_in" "text_in" (defArgs st_text_in) (defBody st_text_in) (defScope st_text_in) .none kV9 dc9 pm9 an9 cd9 ct9), sl9⟩) (c9 : PySem.W.codeIn K cd9 "text_in" = true) (k9 : PySem.W.keepIn K (.ref f9) = true)
    (a10 : PySem.W.nsIn K mainGlobals "box_in" = some (some (.ref f10))) (l10 : K.lookup f10 = some ⟨oc10, od10, .func (PySem.W.fnOf "box_in" "box_in" (defArgs st_box_in) (defBody st_box_in) (defScope st_box_in) .none kV10 dc10 pm10 an10 cd10 ct10), sl10⟩) (c10 : PySem.W.codeIn K cd10 "box_in" = true) (k10 : PySem.W.keepIn K (.ref f10) = true)
    (a11 : PySem.W.nsIn K mainGlobals "read" = some (some (.ref f11))) (l11 : K.lookup f11 = some ⟨oc11, od11, .func (PySem.W.fnOf "read" "read" (defArgs st_read) (defBody st_read) (defScope st_read) .none kV11 dc11 pm11 an11 cd11 ct11), sl11⟩) (c11 : PySem.W.codeIn K cd11 "read" = true) (k11 : PySem.W.keepIn K (.ref f11) = true)
    (a12 : PySem.W.nsIn K mainGlobals "_law_cell" = some (some (.ref f12))) (l12 : K.lookup f12 = some ⟨oc12, od12, .func (PySem.W.fnOf "_law_cell" "_law_cell" (defArgs st__law_cell) (defBody st__law_cell) (defScope st__law_cell) .none kV12 dc12 pm12 an12 cd12 ct12), sl12⟩) (c12 : PySem.W.codeIn K cd12 "_law_cell" = true) (k12 : PySem.W.keepIn K (.ref f12) = true)
    (a13 : PySem.W.nsIn K mainGlobals "_law_drawn" = some (some (.ref f13))) (l13 : K.lookup f13 = some ⟨oc13, od13, .func (PySem.W.fnOf "_law_drawn" "_law_drawn" (defArgs st__law_drawn) (defBody st__law_drawn) (defScope st__law_drawn) .none kV13 dc13 pm13 an13 cd13 ct13), sl13⟩) (c13 : PySem.W.codeIn K cd13 "_law_drawn" = true) (k13 : PySem.W.keepIn K (.ref f13) = true)
    (a14 : PySem.W.nsIn K mainGlobals "_law_scene" = some (some (.ref f14))) (l14 : K.lookup f14 = some ⟨oc14, od14, .func (PySem.W.fnOf "_law_scene" "_law_scene" (defArgs st__law_scene) (defBody st__law_scene) (defScope st__law_scene) .none kV14 dc14 pm14 an14 cd14 ct14), sl14⟩) (c14 : PySem.W.codeIn K cd14 "_law_scene" = true) (k14 : PySem.W.keepIn K (.ref f14) = true)
    (a15 : PySem.W.nsIn K mainGlobals "law" = some (some (.ref f15))) (l15 : K.lookup f15 = some ⟨oc15, od15, .func (PySem.W.fnOf "law" "law" (defArgs st_law) (defBody st_law) (defScope st_law) .none kV15 dc15 pm15 an15 cd15 ct15), sl15⟩) (c15 : PySem.W.codeIn K cd15 "law" = true) (k15 : PySem.W.keepIn K (.ref f15) = true)
    (ea0 : PySem.W.nsIn K mainGlobals "NoText" = some (some (.ref C0))) (eq0 : PySem.W.excIn K C0 [.type "ValueError", .type "Exception", .type "BaseException", .type "object"] "ValueError.__new__" = true) (ek0 : PySem.W.keepIn K (.ref C0) = true) (eb0 : PySem.W.subIn K (.ref C0) (.type "BaseException") = some true) (et0 : PySem.W.typeIn K (.ref C0) = some (.type "type"))
    (z0 : PySem.W.nsIn K mainGlobals "all" = some none)
    (z1 : PySem.W.nsIn K mainGlobals "bool" = some none)
    (z2 : PySem.W.nsIn K mainGlobals "enumerate" = some none)
    (z3 : PySem.W.nsIn K mainGlobals "int" = some none)
    (z4 : PySem.W.nsIn K mainGlobals "isinstance" = some none)
    (z5 : PySem.W.nsIn K mainGlobals "len" = some none)
    (z6 : PySem.W.nsIn K mainGlobals "range" = some none)
    (z7 : PySem.W.nsIn K mainGlobals "set" = some none)
    (z8 : PySem.W.nsIn K mainGlobals "str" = some none)
    (z9 : PySem.W.nsIn K mainGlobals "tuple" = some none)
    (z10 : PySem.W.nsIn K mainGlobals "zip" = some none)
    (gcn0 : PySem.W.nsIn K mainGlobals "FIGURES" = some (some (.str "0123456789" t0)))
    (gcn1 : PySem.W.nsIn K mainGlobals "LETTERS" = some (some (.str "abcdefghijklmnopqrstuvwxyz" t1)))
    (gcn2 : PySem.W.nsIn K mainGlobals "MARKS" = some (some (.str "cfhl" t2)))
    (gcn3 : PySem.W.nsIn K mainGlobals "MOST_BOXES" = some (some (.int 12 t3)))
    (gcn4 : PySem.W.nsIn K mainGlobals "MOST_PLACE" = some (some (.int 20 t4)))
    (gcn5 : PySem.W.nsIn K mainGlobals "MOST_SIZE" = some (some (.int 20 t5))) :
    ∃ fd : FuncData, (∀ (s : Shared) (v : Value), BindsTo s fd ⟨[v], []⟩ [("_law_script", v)]) ∧ ∀ base : Heap, K.In base → base.Ns mainGlobals mg → FnOk l.prog w K mg base (L2.CX l.prog w) 5 fa fd ["_law_script"] (spLaw K) := by
  have e := hfa.symm.trans (PySem.W.mg_of X G a15)
  cases e
  have T : Σ' T : Txt K mg, T.law_.f = fa ∧ T.law_.fd = PySem.W.fnOf "law" "law" (defArgs st_law) (defBody st_law) (defScope st_law) .none kV15 dc15 pm15 an15 cd15 ct15 := ⟨{
    is_within_ := ⟨_, _, fun_mk (st := st_is_within) l0 c0 k0, PySem.W.mg_of X G a0, (fun_mk (st := st_is_within) l0 c0 k0).binds (ps := ["thing", "low", "high"]) fun _ _ _ _ _ _ us hl => match us, hl with | [_, _, _], _ => rfl⟩,
    is_name_ := ⟨_, _, fun_mk (st := st_is_name) l1 c1 k1, PySem.W.mg_of X G a1, (fun_mk (st := st_is_name) l1 c1 k1).binds (ps := ["thing"]) fun _ _ _ _ _ _ us hl => match us, hl with | [_], _ => rfl⟩,
    are_marks_ := ⟨_, _, fun_mk (st := st_are_marks) l2 c2 k2, PySem.W.mg_of X G a2, (fun_mk (st := st_are_marks) l2 c2 k2).binds (ps := ["thing"]) fun _ _ _ _ _ _ us hl => match us, hl with | [_], _ => rfl⟩,
    is_box_ := ⟨_, _, fun_mk (st := st_is_box) l3 c3 k3, PySem.W.mg_of X G a3, (fun_mk (st := st_is_box) l3 c3 k3).binds (ps := ["thing"]) fun _ _ _ _ _ _ us hl => match us, hl with | [_], _ => rfl⟩,
    is_scene_ := ⟨_, _, fun_mk (st := st_is_scene) l4 c4 k4, PySem.W.mg_of X G a4, (fun_mk (st := st_is_scene) l4 c4 k4).binds (ps := ["thing"]) fun _ _ _ _ _ _ us hl => match us, hl with | [_], _ => rfl⟩,
    or_bar_ := ⟨_, _, fun_mk (st := st_or_bar) l5 c5 k5, PySem.W.mg_of X G a5, (fun_mk (st := st_or_bar) l5 c5 k5).binds (ps := ["text"]) fun _ _ _ _ _ _ us hl => match us, hl with | [_], _ => rfl⟩,
    box_text_ := ⟨_, _, fun_mk (st := st_box_text) l6 c6 k6, PySem.W.mg_of X G a6, (fun_mk (st := st_box_text) l6 c6 k6).binds (ps := ["box"]) fun _ _ _ _ _ _ us hl => match us, hl with | [_], _ => rfl⟩,
    written_ := ⟨_, _, fun_mk (st := st_written) l7 c7 k7, PySem.W.mg_of X G a7, (fun_mk (st := st_written) l7 c7 k7).binds (ps := ["scene"]) fun _ _ _ _ _ _ us hl => match us, hl with | [_], _ => rfl⟩,
    number_in_ := ⟨_, _, fun_mk (st := st_number_in) l8 c8 k8, PySem.W.mg_of X G a8, (fun_mk (st := st_number_in) l8 c8 k8).binds (ps := ["word"]) fun _ _ _ _ _ _ us hl => match us, hl with | [_], _ => rfl⟩,
    text_in_ := ⟨_, _, fun_mk (st := st_text_in) l9 c9 k9, PySem.W.mg_of X G a9, (fun_mk (st := st_text_in) l9 c9 k9).binds (ps := ["word"]) fun _ _ _ _ _ _ us hl => match us, hl with | [_], _ => rfl⟩,
    box_in_ := ⟨_, _, fun_mk (st := st_box_in) l10 c10 k10, PySem.W.mg_of X G a10, (fun_mk (st := st_box_in) l10 c10 k10).binds (ps := ["line"]) fun _ _ _ _ _ _ us hl => match us, hl with | [_], _ => rfl⟩,
    read_ := ⟨_, _, fun_mk (st := st_read) l11 c11 k11, PySem.W.mg_of X G a11, (fun_mk (st := st_read) l11 c11 k11).binds (ps := ["text"]) fun _ _ _ _ _ _ us hl => match us, hl with | [_], _ => rfl⟩,
    _law_cell_ := ⟨_, _, fun_mk (st := st__law_cell) l12 c12 k12, PySem.W.mg_of X G a12, (fun_mk (st := st__law_cell) l12 c12 k12).binds (ps := ["_law_script", "_law_k"]) fun _ _ _ _ _ _ us hl => match us, hl with | [_, _], _ => rfl⟩,
    _law_drawn_ := ⟨_, _, fun_mk (st := st__law_drawn) l13 c13 k13, PySem.W.mg_of X G a13, (fun_mk (st := st__law_drawn) l13 c13 k13).binds (ps := ["_law_script", "_law_k", "_law_many"]) fun _ _ _ _ _ _ us hl => match us, hl with | [_, _, _], _ => rfl⟩,
    _law_scene_ := ⟨_, _, fun_mk (st := st__law_scene) l14 c14 k14, PySem.W.mg_of X G a14, (fun_mk (st := st__law_scene) l14 c14 k14).binds (ps := ["_law_script", "_law_at"]) fun _ _ _ _ _ _ us hl => match us, hl with | [_, _], _ => rfl⟩,
    law_ := ⟨_, _, fun_mk (st := st_law) l15 c15 k15, PySem.W.mg_of X G a15, (fun_mk (st := st_law) l15 c15 k15).binds (ps := ["_law_script"]) fun _ _ _ _ _ _ us hl => match us, hl with | [_], _ => rfl⟩,
    NoText_ := ⟨C0, eq0, PySem.W.mg_of X G ea0, ek0, eb0, et0⟩,
    all_ := PySem.W.mg_none_of X G z0,
    bool_ := PySem.W.mg_none_of X G z1,
    enumerate_ := PySem.W.mg_none_of X G z2,
    int_ := PySem.W.mg_none_of X G z3,
    isinstance_ := PySem.W.mg_none_of X G z4,
    len_ := PySem.W.mg_none_of X G z5,
    range_ := PySem.W.mg_none_of X G z6,
    set_ := PySem.W.mg_none_of X G z7,
    str_ := PySem.W.mg_none_of X G z8,
    tuple_ := PySem.W.mg_none_of X G z9,
    zip_ := PySem.W.mg_none_of X G z10,
    FIGURES_ := ⟨_, PySem.W.mg_of X G gcn0⟩,
    LETTERS_ := ⟨_, PySem.W.mg_of X G gcn1⟩,
    MARKS_ := ⟨_, PySem.W.mg_of X G gcn2⟩,
    MOST_BOXES_ := ⟨_, PySem.W.mg_of X G gcn3⟩,
    MOST_PLACE_ := ⟨_, PySem.W.mg_of X G gcn4⟩,
    MOST_SIZE_ := ⟨_, PySem.W.mg_of X G gcn5⟩
  }, rfl, rfl⟩
  obtain ⟨T, h1, h2⟩ := T
  refine ⟨PySem.W.fnOf "law" "law" (defArgs st_law) (defBody st_law) (defScope st_law) .none kV15 dc15 pm15 an15 cd15 ct15, fun s v => .of_eq rfl, fun base _ _ => ?_⟩
  have q := (ok_law (P := l.prog) (w := w) (base := base) T).imp (law_imp hlaw)
  rw [h1, h2] at q
  exact q
theorem walk {l : PySem.W.OpenLaw} {q : Program} {loose : List Str} {XP : (Str → Option Value) → Heap → Prop} {YP : World → Heap → Prop} {d : DefRec} {K : Params → PySem.W.Frag} (hn : l.most = some 63) (hdf : d.params.defaults = [])
    (hY : ∀ (w : World) (h : Heap), YP w h → (K w.params).In h)
    (F : ∀ (w : World) (mg : Str → Option Value) (fa : Addr) (h : Heap), (K w.params).In h → h.Ns mainGlobals mg → mg d.name = some (.ref fa) →
      ∃ fd : FuncData, (∀ (s : Shared) (u : Value), BindsTo s fd ⟨[u], []⟩ [("_law_script", u)]) ∧ ∀ base : Heap, (K w.params).In base → base.Ns mainGlobals mg → FnOk l.prog w (K w.params) mg base (L2.CX l.prog w) 5 fa fd ["_law_script"] (spLaw (K w.params))) :
    PySem.W.WalkO q loose XP YP l.row.toRowW d [] (fun f vs => PySem.call f vs) :=
  L2.walk_of (n := 63) (k := 5) (x := "_law_script") (CX := fun w => L2.CX l.prog w) (sp := fun w => spLaw (K w.params)) hn (by decide) hdf ⟨rfl, by decide, by decide⟩ hY F (fun _ _ a ns hl _ hS => ⟨a, ns, rfl, hS, hl, fun _ => rfl⟩)
    fun _ _ _ _ _ z => by obtain ⟨_, _, _, _, _, _, _, _, _, _, _, _, z⟩ := z; exact z
end K50

theorem K50.law_true : ∀ ns : List Int, ns.length ≤ 63 → Dn.den_law_k50 [.frz ns] = .ok (.bl true) := Ty.law50_true

open PySem PySem.W PyProof.Rows in
set_option maxRecDepth 100000 in
set_option maxHeartbeats 0 in
theorem PySem.Challenge.cw_touchtree_k50_written_holds : PySem.Challenge.rw_touchtree_k50_written.Holds := by
  w_on; o_law; k_head; (case hw => w_witness2)
  k_fill
  refine K50.walk (l := PySem.Challenge.rw_touchtree_k50_written) rfl rfl (fun w h Y => PySem.W.kIn_of Y) ?F
  case F =>
    intro w mg fa h KX G hmg
    refine' K50.all_mk K50.law_true KX G hmg ?a0 ?l0 ?c0 ?k0 ?a1 ?l1 ?c1 ?k1 ?a2 ?l2 ?c2 ?k2 ?a3 ?l3 ?c3 ?k3 ?a4 ?l4 ?c4 ?k4 ?a5 ?l5 ?c5 ?k5 ?a6 ?l6 ?c6 ?k6 ?a7 ?l7 ?c7 ?k7 ?a8 ?l8 ?c8 ?k8 ?a9 ?l9 ?c9 ?k9 ?a10 ?l10 ?c10 ?k10 ?a11 ?l11 ?c11 ?k11 ?a12 ?l12 ?c12 ?k12 ?a13 ?l13 ?c13 ?k13 ?a14 ?l14 ?c14 ?k14 ?a15 ?l15 ?c15 ?k15 ?ea0 ?eq0 ?ek0 ?eb0 ?et0 ?z0 ?z1 ?z2 ?z3 ?z4 ?z5 ?z6 ?z7 ?z8 ?z9 ?z10 ?gcn0 ?gcn1 ?gcn2 ?gcn3 ?gcn4 ?gcn5
    (case a0 => k_is)
    (case l0 => k_is)
    (case c0 => k_is)
    (case k0 => k_is)
    (case a1 => k_is)
    (case l1 => k_is)
    (case c1 => k_is)
    (case k1 => k_is)
    (case a2 => k_is)
    (case l2 => k_is)
    (case c2 => k_is)
    (case k2 => k_is)
    (case a3 => k_is)
    (case l3 => k_is)
    (case c3 => k_is)
    (case k3 => k_is)
    (case a4 => k_is)
    (case l4 => k_is)
    (case c4 => k_is)
    (case k4 => k_is)
    (case a5 => k_is)
    (case l5 => k_is)
    (case c5 => k_is)
    (case k5 => k_is)
    (case a6 => k_is)
    (case l6 => k_is)
    (case c6 => k_is)
    (case k6 => k_is)
    (case a7 => k_is)
    (case l7 => k_is)
    (case c7 => k_is)
    (case k7 => k_is)
    (case a8 => k_is)
    (case l8 => k_is)
    (case c8 => k_is)
    (case k8 => k_is)
    (case a9 => k_is)
    (case l9 => k_is)
    (case c9 => k_is)
    (case k9 => k_is)
    (case a10 => k_is)
    (case l10 => k_is)
    (case c10 => k_is)
    (case k10 => k_is)
    (case a11 => k_is)
    (case l11 => k_is)
    (case c11 => k_is)
    (case k11 => k_is)
    (case a12 => k_is)
    (case l12 => k_is)
    (case c12 => k_is)
    (case k12 => k_is)
    (case a13 => k_is)
    (case l13 => k_is)
    (case c13 => k_is)
    (case k13 => k_is)
    (case a14 => k_is)
    (case l14 => k_is)
    (case c14 => k_is)
    (case k14 => k_is)
    (case a15 => k_is)
    (case l15 => k_is)
    (case c15 => k_is)
    (case k15 => k_is)
    (case ea0 => k_is)
    (case eq0 => k_exc)
    (case ek0 => k_is)
    (case eb0 => k_is)
    (case et0 => k_is)
    (case z0 => k_is)
    (case z1 => k_is)
    (case z2 => k_is)
    (case z3 => k_is)
    (case z4 => k_is)
    (case z5 => k_is)
    (case z6 => k_is)
    (case z7 => k_is)
    (case z8 => k_is)
    (case z9 => k_is)
    (case z10 => k_is)
    (case gcn0 => k_is)
    (case gcn1 => k_is)
    (case gcn2 => k_is)
    (case gcn3 => k_is)
    (case gcn4 => k_is)
    (case gcn5 => k_is)
#print axioms PySem.Challenge.cw_touchtree_k50_written_holds

