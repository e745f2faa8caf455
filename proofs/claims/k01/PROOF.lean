import PyProof.Rows.All
import Wide.All
import OpenK.AllK
import Wide.FinOn
import HandS.ForMost
import HandS.ForExc
import HandS.Walk
import HandS.Style
import HandS.Deep
import HandS.Rev
import HandS.TupMul
import HandS.Conv
import HandS.Set
import HandS.Strs
import HandS.SetTxt0
import HandS.TupAny
import KE.GoesEnum
import KE.GoesMore
import HandS.SortInts
import HandS.IsInst
import HandS.SortRule
import HandS.More
import PyProof.Rows.SortShellAny
import KE.GoesZip
import HandS.RaiseMore
import PyProof.StrOps2
import PySem.Challenge.RW_touchtree_k01_known
set_option Elab.async false
set_option linter.all false
set_option maxRecDepth 100000
set_option maxHeartbeats 4000000
set_option autoImplicit false
namespace Dx
open PySem PySem.Spec PyProof.Rows L2

inductive R (α : Type) : Type where
  | ok (a : α)
  | exc (c : Str)
  | bad
def R.bnd {α β : Type} : R α → (α → R β) → R β
  | .ok a, f => f a
  | .exc c, _ => .exc c
  | .bad, _ => .bad
instance : Monad R where
  pure := R.ok
  bind := R.bnd
@[simp] theorem R.ok_bind {α β : Type} (a : α) (f : α → R β) : (R.ok a >>= f) = f a := (rfl)
@[simp] theorem R.exc_bind {α β : Type} (c : Str) (f : α → R β) : ((R.exc c : R α) >>= f) = R.exc c := (rfl)
@[simp] theorem R.bad_bind {α β : Type} (f : α → R β) : ((R.bad : R α) >>= f) = R.bad := (rfl)
@[simp] theorem R.pure_eq {α : Type} (a : α) : (pure a : R α) = R.ok a := (rfl)

inductive D where
  | non
  | bl (b : Bool)
  | int (i : Int)
  | str (s : Str)
  | tup (xs : List D)
  | lst (xs : List D)
  | dic (kvs : List (Key × D))
  /-- the script -/
  | frz (ns : List Int)
  /-- some object, of which nothing is told -/
  | opq

def sOk (x : Str) : Bool := PyData.strOk x && decide (x.length ≤ 16777216)
def keyOk : Key → Bool
  | .inl _ => true
  | .inr x => sOk x
mutual
inductive Rep (K : PySem.W.Frag) (H : Hp) : V → D → Prop
  | non : Rep K H .non .non
  | bl (b : Bool) : Rep K H (.bl b) (.bl b)
  | int (i : Int) : Rep K H (.int i) (.int i)
  | str (x : Str) : sOk x = true → Rep K H (.str x) (.str x)
  | tup {a : Addr} {vs : List V} {xs : List D} : H a = some (.tup vs) → xs.length ≤ sizeLine → RepAll K H vs xs → Rep K H (.ref a) (.tup xs)
  | lst {a : Addr} {vs : List V} {xs : List D} : H a = some (.lst vs) → xs.length ≤ sizeLine → RepAll K H vs xs → Rep K H (.ref a) (.lst xs)
  | dic {a : Addr} {kvs : List (Key × V)} {xs : List (Key × D)} : Rd H a (.dK kvs) → RepKv K H kvs xs → Rep K H (.ref a) (.dic xs)
  | frz {a : Addr} {ns : List Int} : SqL K H a (ns.map V.int) → Rep K H (.ref a) (.frz ns)
  | opq (a : Addr) : Rep K H (.ref a) .opq
inductive RepAll (K : PySem.W.Frag) (H : Hp) : List V → List D → Prop
  | nil : RepAll K H [] []
  | cons {v : V} {vs : List V} {x : D} {xs : List D} : Rep K H v x → RepAll K H vs xs → RepAll K H (v :: vs) (x :: xs)
inductive RepKv (K : PySem.W.Frag) (H : Hp) : List (Key × V) → List (Key × D) → Prop
  | nil : RepKv K H [] []
  | cons {k : Key} {v : V} {vs : List (Key × V)} {x : D} {xs : List (Key × D)} : keyOk k = true → Rep K H v x → RepKv K H vs xs → RepKv K H ((k, v) :: vs) ((k, x) :: xs)
end

section
variable {K : PySem.W.Frag} {H H' : Hp}
mutual
theorem Rep.mono (s : Same H H') : ∀ {v : V} {d : D}, Rep K H v d → Rep K H' v d
  | _, _, .non => .non
  | _, _, .bl b => .bl b
  | _, _, .int i => .int i
  | _, _, .str x h => .str x h
  | _, _, .tup h z r => .tup (s _ _ h) z (RepAll.mono s r)
  | _, _, .lst h z r => .lst (s _ _ h) z (RepAll.mono s r)
  | _, _, .dic h r => .dic (h.imp (s _ _) fun ⟨o, e⟩ => ⟨o, s _ _ e⟩) (RepKv.mono s r)
  | _, _, .frz h => .frz (s.seq h)
  | _, _, .opq a => .opq a
theorem RepAll.mono (s : Same H H') : ∀ {vs : List V} {xs : List D}, RepAll K H vs xs → RepAll K H' vs xs
  | _, _, .nil => .nil
  | _, _, .cons r t => .cons (Rep.mono s r) (RepAll.mono s t)
theorem RepKv.mono (s : Same H H') : ∀ {vs : List (Key × V)} {xs : List (Key × D)}, RepKv K H vs xs → RepKv K H' vs xs
  | _, _, .nil => .nil
  | _, _, .cons h r t => .cons h (Rep.mono s r) (RepKv.mono s t)
end
theorem RepAll.length {vs : List V} {xs : List D} (r : RepAll K H vs xs) : vs.length = xs.length := by
  induction vs generalizing xs with
  | nil => cases r; rfl
  | cons v vs ih => cases r with | cons _ t => simp [ih t]
theorem RepAll.get {vs : List V} {xs : List D} (r : RepAll K H vs xs) {i : Nat} {x : D} (h : xs[i]? = some x) : ∃ v, vs[i]? = some v ∧ Rep K H v x := by
  induction vs generalizing xs i with
  | nil => cases r; simp at h
  | cons v vs ih =>
    cases r with
    | cons q t =>
      cases i with
      | zero => simp at h; subst h; exact ⟨_, rfl, q⟩
      | succ i => simpa using ih t (by simpa using h)
theorem RepAll.getV {vs : List V} {xs : List D} (r : RepAll K H vs xs) {i : Nat} {v : V} (h : vs[i]? = some v) : ∃ x, xs[i]? = some x ∧ Rep K H v x := by
  induction vs generalizing xs i with
  | nil => simp at h
  | cons w vs ih =>
    cases r with
    | cons q t =>
      cases i with
      | zero => simp at h; subst h; exact ⟨_, rfl, q⟩
      | succ i => simpa using ih t (by simpa using h)
theorem RepAll.append {vs ws : List V} {xs ys : List D} (r : RepAll K H vs xs) (q : RepAll K H ws ys) : RepAll K H (vs ++ ws) (xs ++ ys) := by
  induction vs generalizing xs with
  | nil => cases r; exact q
  | cons v vs ih => cases r with | cons a t => exact .cons a (ih t)
theorem RepAll.take {vs : List V} {xs : List D} (n : Nat) (r : RepAll K H vs xs) : RepAll K H (vs.take n) (xs.take n) := by
  induction vs generalizing xs n with
  | nil => cases r; simp; exact .nil
  | cons v vs ih =>
    cases r with
    | cons a t =>
      cases n with
      | zero => exact .nil
      | succ n => exact .cons a (ih n t)
theorem RepAll.drop {vs : List V} {xs : List D} (n : Nat) (r : RepAll K H vs xs) : RepAll K H (vs.drop n) (xs.drop n) := by
  induction vs generalizing xs n with
  | nil => cases r; simp; exact .nil
  | cons v vs ih =>
    cases r with
    | cons a t =>
      cases n with
      | zero => exact .cons a t
      | succ n => simpa using ih n t
theorem RepAll.reverse {vs : List V} {xs : List D} (r : RepAll K H vs xs) : RepAll K H vs.reverse xs.reverse := by
  induction vs generalizing xs with
  | nil => cases r; exact .nil
  | cons v vs ih =>
    cases r with
    | cons a t =>
      rw [List.reverse_cons, List.reverse_cons]
      exact (ih t).append (.cons a .nil)
theorem RepAll.snoc {vs : List V} {xs : List D} {v : V} {x : D} (r : RepAll K H vs xs) (q : Rep K H v x) : RepAll K H (vs ++ [v]) (xs ++ [x]) := r.append (.cons q .nil)
theorem RepAll.ints {vs : List V} {ns : List Int} (r : RepAll K H vs (ns.map D.int)) : vs = ns.map V.int := by
  induction ns generalizing vs with
  | nil => cases r; rfl
  | cons n ns ih =>
    cases r with
    | cons a t => cases a; rw [ih t]; rfl
theorem RepAll.strs {vs : List V} {ns : List Str} (r : RepAll K H vs (ns.map D.str)) : vs = ns.map V.str := by
  induction ns generalizing vs with
  | nil => cases r; rfl
  | cons n ns ih =>
    cases r with
    | cons a t => cases a; rw [ih t]; rfl
theorem RepAll.bls {vs : List V} {ns : List Bool} (r : RepAll K H vs (ns.map D.bl)) : vs = ns.map V.bl := by
  induction ns generalizing vs with
  | nil => cases r; rfl
  | cons n ns ih =>
    cases r with
    | cons a t => cases a; rw [ih t]; rfl
theorem repAll_ints (ns : List Int) : RepAll K H (ns.map V.int) (ns.map D.int) := by
  induction ns with
  | nil => exact .nil
  | cons n ns ih => exact .cons (.int n) ih
end

inductive Tr where
  | da (d : D)
  | ls (ts : List Tr)
  | dc (kvs : List (Key × Tr))
  | ob (c : Str) (fs : List (Str × Tr))
  | hl (n : Nat)
mutual
inductive TrAt (K : PySem.W.Frag) (ξ : Str → Value) (τ : Nat → Option V) (H0 H : Hp) : V → Tr → List Addr → Prop
  | da {v : V} {d : D} : Rep K H0 v d → TrAt K ξ τ H0 H v (.da d) []
  | ls {a : Addr} {vs : List V} {ts : List Tr} {fp : List Addr} : H a = some (.lst vs) → ts.length ≤ sizeLine → TrAll K ξ τ H0 H vs ts fp → TrAt K ξ τ H0 H (.ref a) (.ls ts) (a :: fp)
  | dc {a : Addr} {vs : List (Key × V)} {ts : List (Key × Tr)} {fp : List Addr} : H a = some (.dK vs) → TrKv K ξ τ H0 H vs ts fp → TrAt K ξ τ H0 H (.ref a) (.dc ts) (a :: fp)
  | ob {a C dx : Addr} {c : Str} {vs : List (Str × V)} {ts : List (Str × Tr)} {fp : List Addr} : H a = some (.ins C dx vs) → ξ c = .ref C → Cls K C → TrFs K ξ τ H0 H C vs ts fp → TrAt K ξ τ H0 H (.ref a) (.ob c ts) (a :: fp)
  | hl {a : Addr} {n : Nat} : (∀ u, τ n = some u → V.ref a = u) → TrAt K ξ τ H0 H (.ref a) (.hl n) []
inductive TrAll (K : PySem.W.Frag) (ξ : Str → Value) (τ : Nat → Option V) (H0 H : Hp) : List V → List Tr → List Addr → Prop
  | nil : TrAll K ξ τ H0 H [] [] []
  | cons {v : V} {vs : List V} {t : Tr} {ts : List Tr} {fp fq : List Addr} : TrAt K ξ τ H0 H v t fp → TrAll K ξ τ H0 H vs ts fq → TrAll K ξ τ H0 H (v :: vs) (t :: ts) (fp ++ fq)
inductive TrKv (K : PySem.W.Frag) (ξ : Str → Value) (τ : Nat → Option V) (H0 H : Hp) : List (Key × V) → List (Key × Tr) → List Addr → Prop
  | nil : TrKv K ξ τ H0 H [] [] []
  | cons {k : Key} {v : V} {vs : List (Key × V)} {t : Tr} {ts : List (Key × Tr)} {fp fq : List Addr} : keyOk k = true → TrAt K ξ τ H0 H v t fp → TrKv K ξ τ H0 H vs ts fq → TrKv K ξ τ H0 H ((k, v) :: vs) ((k, t) :: ts) (fp ++ fq)
inductive TrFs (K : PySem.W.Frag) (ξ : Str → Value) (τ : Nat → Option V) (H0 H : Hp) : Addr → List (Str × V) → List (Str × Tr) → List Addr → Prop
  | nil {C : Addr} : TrFs K ξ τ H0 H C [] [] []
  | cons {C : Addr} {f : Str} {v : V} {vs : List (Str × V)} {t : Tr} {ts : List (Str × Tr)} {fp fq : List Addr} : NoAttr K C f → TrAt K ξ τ H0 H v t fp → TrFs K ξ τ H0 H C vs ts fq → TrFs K ξ τ H0 H C ((f, v) :: vs) ((f, t) :: ts) (fp ++ fq)
end
section
variable {K : PySem.W.Frag} {ξ : Str → Value} {τ τ' : Nat → Option V} {H0 H H0' H' : Hp}
mutual
theorem TrAt.map (hr : ∀ v d, Rep K H0 v d → Rep K H0' v d) (hτ : ∀ n u, τ' n = some u → τ n = some u) : ∀ {v : V} {t : Tr} {fp : List Addr}, TrAt K ξ τ H0 H v t fp → (∀ a ∈ fp, ∀ o, H a = some o → H' a = some o) → TrAt K ξ τ' H0' H' v t fp
  | _, _, _, .da r, _ => .da (hr _ _ r)
  | _, _, _, .ls h z r, k => .ls (k _ List.mem_cons_self _ h) z (TrAll.map hr hτ r fun a ha => k a (List.mem_cons_of_mem _ ha))
  | _, _, _, .dc h r, k => .dc (k _ List.mem_cons_self _ h) (TrKv.map hr hτ r fun a ha => k a (List.mem_cons_of_mem _ ha))
  | _, _, _, .ob h e c r, k => .ob (k _ List.mem_cons_self _ h) e c (TrFs.map hr hτ r fun a ha => k a (List.mem_cons_of_mem _ ha))
  | _, _, _, .hl h, _ => .hl fun u e => h u (hτ _ u e)
theorem TrAll.map (hr : ∀ v d, Rep K H0 v d → Rep K H0' v d) (hτ : ∀ n u, τ' n = some u → τ n = some u) : ∀ {v : List V} {t : List Tr} {fp : List Addr}, TrAll K ξ τ H0 H v t fp → (∀ a ∈ fp, ∀ o, H a = some o → H' a = some o) → TrAll K ξ τ' H0' H' v t fp
  | _, _, _, .nil, _ => .nil
  | _, _, _, .cons r q, k => .cons (TrAt.map hr hτ r fun a ha => k a (List.mem_append_left _ ha)) (TrAll.map hr hτ q fun a ha => k a (List.mem_append_right _ ha))
theorem TrKv.map (hr : ∀ v d, Rep K H0 v d → Rep K H0' v d) (hτ : ∀ n u, τ' n = some u → τ n = some u) : ∀ {v : List (Key × V)} {t : List (Key × Tr)} {fp : List Addr}, TrKv K ξ τ H0 H v t fp → (∀ a ∈ fp, ∀ o, H a = some o → H' a = some o) → TrKv K ξ τ' H0' H' v t fp
  | _, _, _, .nil, _ => .nil
  | _, _, _, .cons h r q, k => .cons h (TrAt.map hr hτ r fun a ha => k a (List.mem_append_left _ ha)) (TrKv.map hr hτ q fun a ha => k a (List.mem_append_right _ ha))
theorem TrFs.map (hr : ∀ v d, Rep K H0 v d → Rep K H0' v d) (hτ : ∀ n u, τ' n = some u → τ n = some u) {C : Addr} : ∀ {v : List (Str × V)} {t : List (Str × Tr)} {fp : List Addr}, TrFs K ξ τ H0 H C v t fp → (∀ a ∈ fp, ∀ o, H a = some o → H' a = some o) → TrFs K ξ τ' H0' H' C v t fp
  | _, _, _, .nil, _ => .nil
  | _, _, _, .cons h r q, k => .cons h (TrAt.map hr hτ r fun a ha => k a (List.mem_append_left _ ha)) (TrFs.map hr hτ q fun a ha => k a (List.mem_append_right _ ha))
end
end
def TrV (K : PySem.W.Frag) (ξ : Str → Value) (H0 H : Hp) (v : V) (t : Tr) : Prop := ∃ fp, TrAt K ξ (fun _ => none) H0 H v t fp
theorem TrV.map {K : PySem.W.Frag} {ξ : Str → Value} {H0 H H0' : Hp} {v : V} {t : Tr} (hr : ∀ v d, Rep K H0 v d → Rep K H0' v d) : TrV K ξ H0 H v t → TrV K ξ H0' H v t := fun ⟨fp, r⟩ => ⟨fp, r.map hr (fun _ _ e => e) fun _ _ _ e => e⟩
theorem TrV.mono {K : PySem.W.Frag} {ξ : Str → Value} {H0 H H0' : Hp} {v : V} {t : Tr} (s : Same H0 H0') : TrV K ξ H0 H v t → TrV K ξ H0' H v t := TrV.map fun _ _ r => r.mono s

inductive St where
  | fl (f : Str)
  | ix (i : Nat)
  | ky (k : Key)
inductive Tk where
  | par
  | loc
  | tkn (j : Nat) (p : List St)
inductive Slot where
  | u
  | d (x : D)
  | ol (xs : List D)
  | od (kvs : List (Key × D))
  /-- an object that changes, at the n-th name -/
  | tr (n : Nat) (k : Tk) (t : Tr)
  /-- the exception that is handled -/
  | ex
abbrev En := List Slot

structure Fm (ξ : Str → Value) where
  G : Hp
  N : Addr → Prop
  /-- where the objects that change stand -/
  T : Nat → Addr
  R : Nat → Option (Tk × Tr)

def SlotAt (K : PySem.W.Frag) {ξ : Str → Value} (M : Fm ξ) (H0 H : Hp) (o : Option (Option V)) : Slot → Prop
  | .u => True
  | .d x => ∃ v, o = some (some v) ∧ Rep K H0 v x
  | .ol xs => ∃ a vs, o = some (some (.ref a)) ∧ H0 a = none ∧ M.G a = none ∧ H a = some (.lst vs) ∧ xs.length ≤ sizeLine ∧ RepAll K H0 vs xs
  | .od xs => ∃ a vs, o = some (some (.ref a)) ∧ H0 a = none ∧ M.G a = none ∧ H a = some (.dK vs) ∧ RepKv K H0 vs xs
  | .ex => ∃ a, o = some (some (.ref a)) ∧ ξ "!" = .ref a
  | .tr n k t => o = some (some (.ref (M.T n))) ∧ M.R n = some (k, t) ∧ TrV K ξ H0 M.G (.ref (M.T n)) t
def Slot.own : Slot → Bool
  | .ol _ => true
  | .od _ => true
  | _ => false
def Owns (σ : L2.St) (env : En) (i : Nat) (a : Addr) : Prop := σ[i]? = some (some (.ref a)) ∧ ∃ s, env[i]? = some s ∧ s.own = true

structure EnvAt (K : PySem.W.Frag) {ξ : Str → Value} (M : Fm ξ) (H0 H : Hp) (σ : L2.St) (env : En) : Prop where
  same : Same H0 H
  fr : Same M.G H
  nogo : ∀ a, M.N a → H0 a = none ∧ H a ≠ none
  len : σ.length = env.length
  slot : ∀ (i : Nat) (s : Slot), env[i]? = some s → SlotAt K M H0 H σ[i]? s
  sep : ∀ (i j : Nat) (a : Addr), Owns σ env i a → Owns σ env j a → i = j
  ng : ∀ (a : Addr) (j : Nat), M.N a → ¬ Owns σ env j a
  tg : ∀ (i n : Nat) (k : Tk) (t : Tr), env[i]? = some (.tr n k t) → n = i
theorem tg_set {env : En} {i : Nat} {s : Slot} (h : ∀ (i n : Nat) (k : Tk) (t : Tr), env[i]? = some (.tr n k t) → n = i) (hs : ∀ n k t, s ≠ .tr n k t) : ∀ (j n : Nat) (k : Tk) (t : Tr), (env.set i s)[j]? = some (.tr n k t) → n = j := fun j n k t e => by
  by_cases hi : i = j
  · subst hi
    by_cases hl : i < env.length
    · rw [List.getElem?_set_self hl] at e; cases e; exact absurd rfl (hs _ _ _)
    · rw [List.getElem?_eq_none (by rw [List.length_set]; omega)] at e; cases e
  · rw [List.getElem?_set_ne hi] at e; exact h j n k t e
theorem own_tr {s : Slot} (h : s.own = true) : ∀ n k t, s ≠ .tr n k t := fun n k t e => by subst e; cases h
section
variable {K : PySem.W.Frag} {ξ : Str → Value} {M : Fm ξ} {H0 H H0' H' : Hp} {σ : L2.St} {env : En}
theorem same_upd {p : Addr} {o : HO} (h : H p = none) : Same H (upd H p o) := fun b u e => by
  rw [upd_ne (ne_of_none e h)]; exact e
theorem EnvAt.grow (E : EnvAt K M H0 H σ env) (s0 : Same H0 H0') (s : Same H H') (s1 : Same H0' H') (n : ∀ a, H a ≠ none → H0 a = none → H0' a = none) : EnvAt K M H0' H' σ env := by
  have ne : ∀ {a o}, H a = some o → H a ≠ none := fun e z => by rw [e] at z; cases z
  refine ⟨s1, E.fr.trans s, fun a h => ?_, E.len, fun i sl h => ?_, E.sep, E.ng, E.tg⟩
  · obtain ⟨h1, h2⟩ := E.nogo a h
    refine ⟨n a h2 h1, fun z => ?_⟩
    cases q : H a with
    | none => exact h2 q
    | some o => rw [s a o q] at z; cases z
  · have q := E.slot i sl h
    cases sl with
    | u => trivial
    | d x => obtain ⟨v, e, r⟩ := q; exact ⟨v, e, r.mono s0⟩
    | ol xs => obtain ⟨a, vs, e, h0, hg, ha, z, r⟩ := q; exact ⟨a, vs, e, n a (ne ha) h0, hg, s _ _ ha, z, r.mono s0⟩
    | od xs => obtain ⟨a, vs, e, h0, hg, ha, r⟩ := q; exact ⟨a, vs, e, n a (ne ha) h0, hg, s _ _ ha, r.mono s0⟩
    | ex => exact q
    | tr n k t => exact ⟨q.1, q.2.1, q.2.2.mono s0⟩
theorem EnvAt.alloc (E : EnvAt K M H0 H σ env) {p : Addr} {o : HO} (h : H p = none) : EnvAt K M (upd H0 p o) (upd H p o) σ env := by
  refine E.grow (same_upd (E.same.free h)) (same_upd h) (fun b u e => ?_) fun a h1 h2 => ?_
  · by_cases hb : b = p
    · subst hb; rw [upd_same] at e ⊢; exact e
    · rw [upd_ne hb] at e ⊢; exact E.same _ _ e
  · by_cases hb : a = p
    · subst hb; exact absurd h h1
    · rw [upd_ne hb]; exact h2
theorem EnvAt.get (E : EnvAt K M H0 H σ env) {i : Nat} {x : D} (h : env[i]? = some (.d x)) : ∃ v, σ[i]? = some (some v) ∧ Rep K H0 v x := E.slot i _ h
theorem EnvAt.set (E : EnvAt K M H0 H σ env) {v : V} {x : D} (i : Nat) (r : Rep K H0 v x) : EnvAt K M H0 H (σ.set i (some v)) (env.set i (.d x)) := by
  have key : ∀ a j, Owns (σ.set i (some v)) (env.set i (.d x)) j a → Owns σ env j a := fun a j ⟨h1, s, h2, h3⟩ => by
    by_cases hi : i = j
    · subst hi
      by_cases hlt : i < env.length
      · rw [List.getElem?_set_self hlt] at h2; cases h2; cases h3
      · rw [List.getElem?_eq_none (by rw [List.length_set]; omega)] at h2; cases h2
    · rw [List.getElem?_set_ne hi] at h1 h2
      exact ⟨h1, s, h2, h3⟩
  refine ⟨E.same, E.fr, E.nogo, by rw [List.length_set, List.length_set]; exact E.len, fun j s h => ?_, fun j l a hj hl => E.sep j l a (key a j hj) (key a l hl), fun a j hn ho => E.ng a j hn (key a j ho), tg_set E.tg (by intro _ _ _ z; cases z)⟩
  · by_cases hi : i = j
    · subst hi
      by_cases hlt : i < env.length
      · rw [List.getElem?_set_self hlt] at h
        cases h
        exact ⟨v, List.getElem?_set_self (by rw [E.len]; exact hlt), r⟩
      · rw [List.getElem?_eq_none (by rw [List.length_set]; omega)] at h; cases h
    · rw [List.getElem?_set_ne hi] at h
      have q := E.slot j s h
      rw [List.getElem?_set_ne hi]
      exact q
theorem EnvAt.kill (E : EnvAt K M H0 H σ env) (i : Nat) : EnvAt K M H0 H σ (env.set i .u) := by
  have key : ∀ a j, Owns σ (env.set i .u) j a → Owns σ env j a := fun a j ⟨h1, s, h2, h3⟩ => by
    by_cases hi : i = j
    · subst hi
      by_cases hlt : i < env.length
      · rw [List.getElem?_set_self hlt] at h2; cases h2; cases h3
      · rw [List.getElem?_eq_none (by rw [List.length_set]; omega)] at h2; cases h2
    · rw [List.getElem?_set_ne hi] at h2
      exact ⟨h1, s, h2, h3⟩
  refine ⟨E.same, E.fr, E.nogo, by rw [List.length_set]; exact E.len, fun j s h => ?_, fun j l a hj hl => E.sep j l a (key a j hj) (key a l hl), fun a j hn ho => E.ng a j hn (key a j ho), tg_set E.tg (by intro _ _ _ z; cases z)⟩
  · by_cases hi : i = j
    · subst hi
      by_cases hlt : i < env.length
      · rw [List.getElem?_set_self hlt] at h; cases h; trivial
      · rw [List.getElem?_eq_none (by rw [List.length_set]; omega)] at h; cases h
    · rw [List.getElem?_set_ne hi] at h
      exact E.slot j s h
theorem EnvAt.unset (E : EnvAt K M H0 H σ env) (i : Nat) : EnvAt K M H0 H (σ.set i none) (env.set i .u) := by
  have key : ∀ a j, Owns (σ.set i none) (env.set i .u) j a → Owns σ env j a := fun a j ⟨h1, s, h2, h3⟩ => by
    by_cases hi : i = j
    · subst hi
      by_cases hlt : i < env.length
      · rw [List.getElem?_set_self hlt] at h2; cases h2; cases h3
      · rw [List.getElem?_eq_none (by rw [List.length_set]; omega)] at h2; cases h2
    · rw [List.getElem?_set_ne hi] at h1 h2
      exact ⟨h1, s, h2, h3⟩
  refine ⟨E.same, E.fr, E.nogo, by rw [List.length_set, List.length_set]; exact E.len, fun j s h => ?_, fun j l a hj hl => E.sep j l a (key a j hj) (key a l hl), fun a j hn ho => E.ng a j hn (key a j ho), tg_set E.tg (by intro _ _ _ z; cases z)⟩
  · by_cases hi : i = j
    · subst hi
      by_cases hlt : i < env.length
      · rw [List.getElem?_set_self hlt] at h; cases h; trivial
      · rw [List.getElem?_eq_none (by rw [List.length_set]; omega)] at h; cases h
    · rw [List.getElem?_set_ne hi] at h ⊢
      exact E.slot j s h
theorem EnvAt.setOwn (E : EnvAt K M H0 H σ env) {a : Addr} {s : Slot} (i : Nat) (ho : s.own = true) (hn : ∀ j, ¬ Owns σ env j a) (hN : ¬ M.N a) (r : SlotAt K M H0 H (some (some (.ref a))) s) : EnvAt K M H0 H (σ.set i (some (.ref a))) (env.set i s) := by
  have key : ∀ b j, j ≠ i → Owns (σ.set i (some (.ref a))) (env.set i s) j b → Owns σ env j b := fun b j hne ⟨h1, s', h2, h3⟩ => by
    rw [List.getElem?_set_ne (Ne.symm hne)] at h1 h2
    exact ⟨h1, s', h2, h3⟩
  have at_i : ∀ b, Owns (σ.set i (some (.ref a))) (env.set i s) i b → b = a := fun b ⟨h1, s', h2, h3⟩ => by
    have hlt : i < σ.length := by
      apply Decidable.byContradiction
      intro z
      rw [List.getElem?_eq_none (by rw [List.length_set]; omega)] at h1; cases h1
    rw [List.getElem?_set_self hlt] at h1
    cases h1; rfl
  refine ⟨E.same, E.fr, E.nogo, by rw [List.length_set, List.length_set]; exact E.len, fun j s' h => ?_, fun j l b hj hl => ?_, fun b j hb hw => ?_, tg_set E.tg (own_tr ho)⟩
  · by_cases hi : i = j
    · subst hi
      by_cases hlt : i < env.length
      · rw [List.getElem?_set_self hlt] at h
        cases h
        rw [List.getElem?_set_self (by rw [E.len]; exact hlt)]
        exact r
      · rw [List.getElem?_eq_none (by rw [List.length_set]; omega)] at h; cases h
    · rw [List.getElem?_set_ne hi] at h ⊢
      exact E.slot j s' h
  · by_cases h1 : j = i
    · by_cases h2 : l = i
      · rw [h1, h2]
      · have := key b l h2 hl
        rw [h1] at hj
        rw [at_i b hj] at this
        exact absurd this (hn l)
    · by_cases h2 : l = i
      · have := key b j h1 hj
        rw [h2] at hl
        rw [at_i b hl] at this
        exact absurd this (hn j)
      · exact E.sep j l b (key b j h1 hj) (key b l h2 hl)
  · by_cases h1 : j = i
    · rw [h1] at hw
      rw [at_i b hw] at hb
      exact hN hb
    · exact E.ng b j hb (key b j h1 hw)
theorem EnvAt.mutate (E : EnvAt K M H0 H σ env) {a : Addr} {i : Nat} {o : HO} {s : Slot} (h : Owns σ env i a) (ho : s.own = true)
    (r : SlotAt K M H0 (upd H a o) (some (some (.ref a))) s) : EnvAt K M H0 (upd H a o) σ (env.set i s) := by
  obtain ⟨h1, s0, h2, h3⟩ := id h
  have q0 := E.slot i s0 h2
  rw [h1] at q0
  have own : H0 a = none ∧ M.G a = none := by
    cases s0 with
    | u => cases h3
    | d _ => cases h3
    | ol xs => obtain ⟨b, vs, e, h0, hg, _, _⟩ := q0; cases e; exact ⟨h0, hg⟩
    | od xs => obtain ⟨b, vs, e, h0, hg, _, _⟩ := q0; cases e; exact ⟨h0, hg⟩
    | ex => cases h3
    | tr n k t => cases h3
  have hlt : i < env.length := by
    apply Decidable.byContradiction
    intro z
    rw [List.getElem?_eq_none (by omega)] at h2; cases h2
  have key : ∀ b j, Owns σ (env.set i s) j b → Owns σ env j b := fun b j ⟨k1, s', k2, k3⟩ => by
    by_cases hi : i = j
    · subst hi
      exact ⟨k1, s0, h2, h3⟩
    · rw [List.getElem?_set_ne hi] at k2
      exact ⟨k1, s', k2, k3⟩
  refine ⟨fun b u e => ?_, fun b u e => ?_, fun b hb => ?_, by rw [List.length_set]; exact E.len, fun j s' hs => ?_, fun j l b hj hl => E.sep j l b (key b j hj) (key b l hl), fun b j hb hw => E.ng b j hb (key b j hw), tg_set E.tg (own_tr ho)⟩
  · rw [upd_ne (ne_of_none e own.1)]; exact E.same _ _ e
  · rw [upd_ne (ne_of_none e own.2)]; exact E.fr _ _ e
  · obtain ⟨z1, z2⟩ := E.nogo b hb
    refine ⟨z1, ?_⟩
    by_cases hba : b = a
    · subst hba; rw [upd_same]; intro z; cases z
    · rw [upd_ne hba]; exact z2
  · by_cases hi : i = j
    · subst hi
      rw [List.getElem?_set_self hlt] at hs
      cases hs
      rw [h1]
      exact r
    · rw [List.getElem?_set_ne hi] at hs
      have q := E.slot j s' hs
      have ne : ∀ {b}, σ[j]? = some (some (.ref b)) → s'.own = true → b ≠ a := fun {b} e o z => by
        subst z
        exact hi (E.sep i j b h ⟨e, s', hs, o⟩)
      cases s' with
      | u => trivial
      | d x => exact q
      | ol xs => obtain ⟨b, vs, e, h0, hg, hb, z, r⟩ := q; exact ⟨b, vs, e, h0, hg, by rw [upd_ne (ne e rfl)]; exact hb, z, r⟩
      | od xs => obtain ⟨b, vs, e, h0, hg, hb, r⟩ := q; exact ⟨b, vs, e, h0, hg, by rw [upd_ne (ne e rfl)]; exact hb, r⟩
      | ex => exact q
      | tr n k t => exact q
def Slot.fz : Slot → Slot
  | .ol xs => .d (.lst xs)
  | .od xs => .d (.dic xs)
  | s => s
def frz (i : Nat) (env : En) : En := match env[i]? with
  | some s => env.set i s.fz
  | none => env
end
end Dx

namespace Sx
open PySem PySem.Spec PyProof.Rows L2
section
variable {P : Program} {w : World} {κ : Type} [DecidableEq κ]
structure Gd (knd : PySem.KeyKind P w κ) (rd : Value → κ) (x : Int × Value) : Prop where
  is : knd.is (rd x.2) x.2 = true
  hs : x.1 = knd.hash (rd x.2)
  sc : x.2.scannable = true
variable {knd : PySem.KeyKind P w κ} {rd : Value → κ}
def SetG (knd : PySem.KeyKind P w κ) (rd : Value → κ) (hp : Heap) (a : Addr) (S : κ → Bool) (n : Nat) : Prop :=
  ∃ ob el epo tb, hp.get? a = some ob ∧ ob.ExactSet ∧ ob.data = .set el epo tb ∧ (∀ x ∈ el.toList, Gd knd rd x) ∧ (el.toList.map fun x => rd x.2).Nodup ∧ (∀ k, S k = true ↔ k ∈ el.toList.map fun x => rd x.2) ∧
    el.size < scanBound ∧ tb.fits el.size = true ∧ el.size = n ∧ Ris tb.place.toList ∧ (w.params.followText "set-order" = true ∨ tb.led = true)
theorem SetG.at {hp hp' : Heap} {a : Addr} {S : κ → Bool} {n : Nat} (g : SetG knd rd hp a S n) (k : ∀ o, hp.get? a = some o → hp'.get? a = some o) : SetG knd rd hp' a S n := by
  obtain ⟨ob, el, epo, tb, h1, r⟩ := g
  exact ⟨ob, el, epo, tb, k ob h1, r⟩
theorem SetG.congr {hp : Heap} {a : Addr} {S S' : κ → Bool} {n m : Nat} (g : SetG knd rd hp a S n) (e : ∀ k, S' k = S k) (en : n = m) : SetG knd rd hp a S' m := by
  have : S' = S := funext e
  subst this en; exact g
theorem gd_is {x : Int × Value} (g : Gd knd rd x) (k : κ) : knd.is k x.2 = true ↔ rd x.2 = k := ⟨fun q => knd.inj _ _ _ g.is q, fun q => q ▸ g.is⟩
theorem gd_els {l : List (Int × Value)} (g : ∀ x ∈ l, Gd knd rd x) : ElemsOf knd l := fun x hx => ⟨⟨_, (g x hx).is, (g x hx).hs⟩, (g x hx).sc⟩
theorem gd_mem {l : List (Int × Value)} (g : ∀ x ∈ l, Gd knd rd x) (k : κ) : (k ∈ l.map fun x => rd x.2) ↔ ∃ x ∈ l, knd.is k x.2 = true := by
  rw [List.mem_map]
  exact ⟨fun ⟨x, h1, h2⟩ => ⟨x, h1, (gd_is (g x h1) k).mpr h2⟩, fun ⟨x, h1, h2⟩ => ⟨x, h1, (gd_is (g x h1) k).mp h2⟩⟩
variable {A : Around} {E : Value → Shared → Prop} {s : Shared} {a : Addr} {S : κ → Bool} {n : Nat}
theorem add_tail {rl : Bool → Sem Unit} (hrl : ∀ (b : Bool) (s₁ : Shared) (Z : Unit → Shared → Prop), Z () s₁ → wpAny (model P w) A (rl b) Z E s₁)
    {ob : Obj} {el : Array (Int × Value)} {epo : Nat} {tb : SetTable} (h1 : s.heap.get? a = some ob) (h2 : ob.ExactSet) (h3 : ob.data = .set el epo tb)
    {el1 : Array (Int × Value)} {tb2 : SetTable} {S' : κ → Bool} (g1 : ∀ x ∈ el1.toList, Gd knd rd x) (nd1 : (el1.toList.map fun x => rd x.2).Nodup) (m1 : ∀ k, S' k = true ↔ k ∈ el1.toList.map fun x => rd x.2)
    (b1 : el1.size < scanBound) (f2 : tb2.fits el1.size = true) (r2 : Ris tb2.place.toList) (l2 : w.params.followText "set-order" = true ∨ tb2.led = true) {wd : Bool} {Z : Option Bool → Shared → Prop}
    (fin : ∀ hp', Heap.SameBut a s.heap hp' → SetG knd rd hp' a S' el1.size → Z (some true) { s with heap := hp' }) :
    wpAny (model P w) A (do
        storeSet a el1 tb2
        if (!wd && tb2.tooFull) = true then do
            rl (relayAll tb2 el1 (SetTable.grown el1.size)).2.2
            storeSet a (relayAll tb2 el1 (SetTable.grown el1.size)).1 (relayAll tb2 el1 (SetTable.grown el1.size)).2.1
            pure (some true)
          else pure (some true)) Z E s := by
  refine wpAny_bind (wpAny_storeSet_of h1 h3 ?_ (fits_of_scanBound b1))
  have at1 := store_at (es' := el1) (t' := tb2) h1 h3
  have sb := Heap.SameBut.update s.heap a (Obj.putSet el1 tb2)
  split
  · have q1 := relayAll_perm tb2 el1 (SetTable.grown el1.size)
    have q2 := relayAll_fits tb2 el1 (SetTable.grown el1.size)
    have q3 := relayAll_ris tb2 el1 (SetTable.grown el1.size)
    have q4 := relayAll_led tb2 el1 (SetTable.grown el1.size)
    generalize relayAll tb2 el1 (SetTable.grown el1.size) = Y at q1 q2 q3 q4 ⊢
    obtain ⟨el2, tb3, gv⟩ := Y
    dsimp only at q1 q2 q3 q4 ⊢
    have sz2 : el2.size = el1.size := by rw [← Array.length_toList, q1.length_eq, Array.length_toList]
    have b2 : el2.size < scanBound := by rw [sz2]; exact b1
    refine wpAny_bind (hrl _ _ _ ?_)
    refine wpAny_bind (wpAny_storeSet_of at1 rfl ?_ (fits_of_scanBound b2))
    have at2 := store_at (es' := el2) (t' := tb3) at1 rfl
    have pm : (el2.toList.map fun x => rd x.2).Perm (el1.toList.map fun x => rd x.2) := q1.map _
    exact wpAny_pure (fin _ (sb.trans (Heap.SameBut.update _ a _)) ⟨_, el2, _, tb3, at2, h2, rfl, fun x hx => g1 x (q1.mem_iff.mp hx), pm.nodup_iff.mpr nd1, fun k => (m1 k).trans pm.mem_iff.symm, b2, q2, sz2, q3, l2.imp id fun z => by rw [q4]; exact z⟩)
  · exact wpAny_pure (fin _ sb ⟨_, el1, _, tb2, at1, h2, rfl, g1, nd1, m1, b1, f2, rfl, r2, l2⟩)
theorem add_hashed {k : κ} {v : Value} {Z : Bool → Shared → Prop} (gk : Gd knd rd (knd.hash k, v)) (ek : rd v = k) (g : SetG knd rd s.heap a S n) (room : n + 1 < scanBound)
    (fin : ∀ hp', Heap.SameBut a s.heap hp' → SetG knd rd hp' a (fun j => S j || decide (j = k)) (if S k = true then n else n + 1) → Z (!S k) { s with heap := hp' }) :
    wpAny (model P w) A (setAddHashed a v (knd.hash k)) Z E s := by
  obtain ⟨ob, el, epo, tb, h1, h2, h3, g0, nd, mm, b0, f0, e0, r0, l0⟩ := g
  have kv : knd.is k v = true := by have := gk.is; rw [ek] at this; exact this
  have vs : v.scannable = true := gk.sc
  have els : ElemsOf knd el.toList := gd_els g0
  unfold setAddHashed setAddHashedIn
  refine wpAny_holding (wpAny_bind (wpAny_setState_of h1 h3 f0 ?_))
  dsimp only
  rw [byScan_of vs b0 els]
  simp only [↓reduceIte]
  unfold setAddByScan
  refine wpAny_bind ?_
  refine wpAny_bind (wpAny_rule ?_)
  refine wpAny_bind (wpAny_setScan_of kv h1 h3 f0 els ?_)
  cases fi : List.findIdx? (fun x => knd.is k x.2) el.toList with
  | some j =>
    dsimp only
    obtain ⟨hj, pj, _⟩ := List.findIdx?_eq_some_iff_getElem.mp fi
    have Sk : S k = true := (mm k).mpr ((gd_mem g0 k).mpr ⟨el.toList[j], List.getElem_mem hj, pj⟩)
    refine wpAny_pure (wpAny_pure ?_)
    have q := fin s.heap (Heap.SameBut.refl a s.heap) ⟨ob, el, epo, tb, h1, h2, h3, g0, nd, fun i => by
      rw [Bool.or_eq_true, decide_eq_true_eq, ← mm i]
      exact ⟨fun z => z.elim id (fun e => e ▸ Sk), .inl⟩, b0, f0, by rw [if_pos Sk]; exact e0, r0, l0⟩
    rw [Sk] at q
    exact q
  | none =>
    dsimp only
    have nk : k ∉ el.toList.map fun x => rd x.2 := fun z => by
      obtain ⟨x, hx, q⟩ := (gd_mem g0 k).mp z
      have c := List.findIdx?_eq_none_iff.mp fi x hx
      rw [q] at c; cases c
    have Sk : S k = false := by
      cases q : S k with
      | false => rfl
      | true => exact absurd ((mm k).mp q) nk
    have rules : ∀ (b : Bool) {s₁ : Shared} {Z' : Unit → Shared → Prop}, Z' () s₁ → wpAny (model P w) A (match b with | true => rule "set.scan.the-table-gave-way" | false => pure ()) Z' E s₁ :=
      fun b s₁ Z' q => by cases b <;> first | exact wpAny_pure q | exact wpAny_rule q
    have p1 := layNew_perm tb el (knd.hash k) v
    have p2 := layNew_fits tb el (knd.hash k) v
    have p3 := layNew_ris tb el (knd.hash k) v r0
    have p4 := layNew_led tb el (knd.hash k) v
    generalize layNew tb el (knd.hash k) v = Y at p1 p2 p3 p4 ⊢
    obtain ⟨el1, tb1, wd, gv⟩ := Y
    dsimp only at p1 p2 p3 p4 ⊢
    rw [Array.toList_push] at p1
    have pc : el1.toList.Perm ((knd.hash k, v) :: el.toList) := p1.trans (List.perm_append_singleton _ _)
    have pk : (el1.toList.map fun x => rd x.2).Perm (k :: el.toList.map fun x => rd x.2) := by
      have := pc.map fun x : Int × Value => rd x.2
      rw [List.map_cons] at this
      simp only [ek] at this
      exact this
    have g1 : ∀ x ∈ el1.toList, Gd knd rd x := fun x hx => by
      rcases List.mem_cons.mp (pc.mem_iff.mp hx) with z | z
      · rw [z]; exact gk
      · exact g0 x z
    have nd1 := pk.nodup_iff.mpr (List.nodup_cons.mpr ⟨nk, nd⟩)
    have m1 : ∀ i, (S i || decide (i = k)) = true ↔ i ∈ el1.toList.map fun x => rd x.2 := fun i => by
      rw [Bool.or_eq_true, decide_eq_true_eq, mm i, pk.mem_iff, List.mem_cons]
      exact Or.comm
    have sz1 : el1.size = n + 1 := by rw [← Array.length_toList, pc.length_eq, List.length_cons, Array.length_toList, e0]
    have b1 : el1.size < scanBound := by rw [sz1]; exact room
    have l1 : w.params.followText "set-order" = true ∨ tb1.led = true := l0.imp id fun z => by rw [p4]; exact z
    have fin1 : ∀ hp', Heap.SameBut a s.heap hp' → SetG knd rd hp' a (fun j => S j || decide (j = k)) el1.size → Z true { s with heap := hp' } := fun hp' sb g' => by
      have q := fin hp' sb
      rw [Sk] at q
      rw [sz1] at g'
      exact q g'
    refine wpAny_bind (rules _ ?_)
    split
    · refine wpAny_bind ?_
      rw [hashByValue_scannable 8 vs]
      refine wpAny_pure ?_
      refine add_tail ?_ h1 h2 h3 g1 nd1 m1 b1 ?_ ?_ ?_ ?_
      · intro b s₁ Z' q; cases b <;> first | exact wpAny_pure q | exact wpAny_rule q
      · first | (split <;> first | exact p2 | exact SetTable.fits_plain_off p2) | exact p2
      · first | (split <;> exact p3) | exact p3
      · first | (split <;> exact l1) | exact l1
      · intro hp' sb g'; dsimp only; exact wpAny_pure (fin1 hp' sb g')
    · refine wpAny_bind (wpAny_pure ?_)
      simp only [↓reduceIte]
      refine add_tail ?_ h1 h2 h3 g1 nd1 m1 b1 p2 p3 l1 ?_
      · intro b s₁ Z' q; cases b <;> first | exact wpAny_pure q | exact wpAny_rule q
      · intro hp' sb g'; dsimp only; exact wpAny_pure (fin1 hp' sb g')
end
def metS {κ : Type} [DecidableEq κ] (ks : List κ) : κ → Bool := fun k => decide (k ∈ ks)
def metN {κ : Type} [DecidableEq κ] : List κ → Nat
  | [] => 0
  | k :: ks => if k ∈ ks then metN ks else metN ks + 1
section
variable {P : Program} {w : World} {κ : Type} [DecidableEq κ] {knd : PySem.KeyKind P w κ} {rd : Value → κ}
variable {A : Around} {R : Result → Shared → Prop} {I : Addr} {fp wr : List Addr} {G : Array GenState → Array GenState → Prop} {n : Nat} {Pv : Nat → Value → Prop} {St : Nat → Shared → Prop}
theorem metN_le : ∀ ks : List κ, metN ks ≤ ks.length
  | [] => Nat.le_refl _
  | k :: ks => by unfold metN; have := metN_le ks; split <;> simp <;> omega
theorem upd_loop (W : WalksS P w A.in1 I fp wr G n Pv St) (a : Addr) (ha : a ∉ fp) (ks : List κ) (hl : ks.length = n)
    (hv : ∀ (i : Nat) (v : Value) (k : κ), Pv i v → ks[i]? = some k → Gd knd rd (knd.hash k, v) ∧ rd v = k ∧ knd.is k v = true) (hb : n + 1 < scanBound) :
    ∀ (m i : Nat) (s : Shared), n - i = m → i ≤ n → St i s → SetG knd rd s.heap a (metS (ks.take i).reverse) (metN (ks.take i).reverse) →
      (∀ s', Moved (a :: wr) G s s' → SetG knd rd s'.heap a (metS ks.reverse) (metN ks.reverse) → R (.ok (.ret .none)) s') →
      codeAny (model P w) A (.builtin "set.update.loop" ⟨[.ref a, .ref I], []⟩) R s := by
  have aw : a ∉ wr := fun z => ha (W.sub _ z)
  have sub : ∀ b ∈ wr, b ∈ a :: wr := fun b z => List.mem_cons_of_mem _ z
  intro m
  induction m with
  | zero =>
    intro i s hm hi st g fin
    have : i = n := by omega
    subst this
    refine codeAny_builtin F.entry_set_update_loop ?_
    rw [Around.under_plainId F.plain_set_update_loop _]
    show wpAny _ A.in1 (pyNext (.ref I) >>= _) _ _ s
    refine wpAny_bind (W.done s _ _ st fun s' mv => ?_)
    show wpAny _ A.in1 (ret Value.none) _ _ s'
    refine wpAny_pure (fin s' (mv.mono sub) ?_)
    rw [List.take_of_length_le (Nat.le_of_eq hl)] at g
    exact g.at fun o e => mv.heap a o aw e
  | succ m ih =>
    intro i s hm hi st g fin
    have lt : i < n := by omega
    refine codeAny_builtin F.entry_set_update_loop ?_
    rw [Around.under_plainId F.plain_set_update_loop _]
    show wpAny _ A.in1 (pyNext (.ref I) >>= _) _ _ s
    refine wpAny_bind (W.item i s _ _ lt st fun v s' pv st' mv => ?_)
    have hk : ks[i]? = some ks[i] := List.getElem?_eq_getElem (by omega)
    obtain ⟨gk, ek, ik⟩ := hv i v _ pv hk
    have g' : SetG knd rd s'.heap a (metS (ks.take i).reverse) (metN (ks.take i).reverse) := g.at fun o e => mv.heap a o aw e
    show wpAny _ A.in1 (holding [v] (setAdd a v) >>= _) _ _ s'
    refine wpAny_bind (wpAny_holding ?_)
    unfold setAdd
    refine wpAny_holding ?_
    refine wpAny_bind (knd.pyHash ik ?_)
    have few : metN (ks.take i).reverse + 1 < scanBound := by
      have := metN_le (ks.take i).reverse
      rw [List.length_reverse, List.length_take] at this; omega
    refine add_hashed (s := { s' with toks := s'.toks + 1 }) gk ek g' few fun hp' sb g2 => ?_
    have tk : (ks.take (i + 1)).reverse = ks[i] :: (ks.take i).reverse := by
      rw [List.take_succ, hk]; simp
    have g3 : SetG knd rd hp' a (metS (ks.take (i + 1)).reverse) (metN (ks.take (i + 1)).reverse) := g2.congr (fun k => by
      rw [tk]; unfold metS
      by_cases h1 : k = ks[i] <;> by_cases h2 : k ∈ (ks.take i).reverse <;> simp [h1, h2]) (by
      rw [tk]
      show (if decide (ks[i] ∈ (ks.take i).reverse) = true then metN (ks.take i).reverse else metN (ks.take i).reverse + 1) = if ks[i] ∈ (ks.take i).reverse then metN (ks.take i).reverse else metN (ks.take i).reverse + 1
      by_cases h2 : ks[i] ∈ (ks.take i).reverse
      · rw [if_pos h2, if_pos (decide_eq_true h2)]
      · rw [if_neg h2, if_neg (fun z => h2 (of_decide_eq_true z))])
    refine wpAny_pure ⟨plainId_quiet F.plain_set_update_loop _, ih (i + 1) _ (by omega) lt (W.frame _ s' _ _ st' (Nat.le_succ _) fun b hb' o e => ?_) g3 fun s'' mv2 g4 => ?_⟩
    · rw [sb.2 b (fun z : b = a => ha (by rw [← z]; exact hb'))]; exact e
    · refine fin s'' (Moved.trans W.gtrans ((mv.mono sub).then_heap (Nat.le_succ _) fun b o hb' e => ?_) mv2) g4
      rw [sb.2 b (fun z : b = a => hb' (by rw [z]; exact List.mem_cons_self))]; exact e
end
end Sx

set_option maxHeartbeats 8000000
namespace Sx
open PySem PySem.Spec PyProof.Rows L2
section
variable {P : Program} {w : World} {κ : Type} [DecidableEq κ] {knd : PySem.KeyKind P w κ} {rd : Value → κ}
variable {A : Around} {E : Value → Shared → Prop} {s : Shared}
def setObj0 (w : World) : Obj := { cls := .type "set", dict := none, data := .set #[] 0 (.fresh 0 0 (!w.params.followText "set-order")) }
theorem setG_fresh (hp : Heap) : SetG knd rd (hp.push (setObj0 w)) hp.objs.size (metS []) (metN ([] : List κ)) :=
  ⟨_, #[], 0, _, Heap.get?_push_size _ rfl, ⟨rfl, rfl, rfl⟩, rfl, (fun e he => by simp at he), (by simp), (fun k => by simp [metS]), (by decide), (by rfl), rfl, List.Pairwise.nil, by
    show _ ∨ (!w.params.followText "set-order") = true
    cases w.params.followText "set-order"
    · exact .inr rfl
    · exact .inl rfl⟩
theorem code_new1 (v : Value) {Z : Value → Shared → Prop} (fin : Z (.ref s.heap.objs.size) { s with heap := s.heap.push (setObj0 w) }) :
    codeAny (model P w) A (.call (.builtin "set.__new__") ⟨[.type "set", v], []⟩) (wants Z E) s := by
  refine codeAny_of_tree ?_
  show wpAny _ A.in1 (checkBuiltinCall "set.__new__" ⟨[.type "set", v], []⟩ >>= fun _ => again (.builtin "set.__new__" ⟨[.type "set", v], []⟩)) _ _ s
  refine wpAny_bind (wpAny_of_eq (F.newCall_set_1 v) (wpAny_pure ⟨plainId_quiet F.plain_set_new _, codeAny_builtin F.entry_set_new ?_⟩))
  rw [Around.under_plainId F.plain_set_new _]
  unfold Builtin.«set.__new__» Builtin.Frozenset.newClass
  have sub := sub_set_self
  obtain ⟨hp, gs, dr, tk, os⟩ := s
  dsimp only
  wp_walk
  refine wpAny_askSetting (wpAny_pure ?_)
  dsimp only
  simp only [newObj]
  refine wpAny_bind (wpAny_alloc (wpAny_pure ?_))
  exact wpAny_pure fin
structure Filled (knd : PySem.KeyKind P w κ) (rd : Value → κ) (s0 : Shared) (ks : List κ) (s' : Shared) : Prop where
  ex : ∃ hp tk, s' = { s0 with heap := hp, toks := tk } ∧ SetG knd rd hp s0.heap.objs.size (metS ks.reverse) (metN ks.reverse) ∧ ∀ b o, b < s0.heap.objs.size → s0.heap.get? b = some o → hp.get? b = some o
theorem call_set1 {v : Value} {ks : List κ} {Z : Value → Shared → Prop}
    (init : ∀ (A1 : Around) (Q1 : PySem.Fin → Shared → Prop) (E1 : Value → Shared → Prop), A1.handled = A.handled → (∀ s', Filled knd rd s ks s' → Q1 (.done (.ret .none)) s') → wpAny (model P w) A1 (Builtin.«set.__init__» ⟨[.ref s.heap.objs.size, v], []⟩) Q1 E1 { s with heap := s.heap.push (setObj0 w) })
    (fin : ∀ s', Filled knd rd s ks s' → Z (.ref s.heap.objs.size) s') : wpAny (model P w) A (call (.type "set") [v]) Z E s := by
  obtain ⟨c, tl, mro⟩ := F.called_set.mro
  have made := F.called_set.made
  have sub := F.called_set.sub
  refine wpAny_call (codeAny_of_tree ?_)
  show wpAny _ _ (callAny (.type "set") _) _ _ _
  refine wpAny_pure ⟨Code.quiet_builtin _ (by decide +kernel), codeAny_builtin F.entry_type_call ?_⟩
  rw [Around.under_plain (weight_type_call_type "set" [v] []) rfl]
  have nt := F.called_set.notType
  have cc := F.called_set.canCreate
  have tc := F.typeCall_set_1 v
  repeat (any_goals (first | assumption | wp_step))
  refine codeAny_mono (code_new1 v (E := E) (Z := fun ob s₁ => ob = .ref s.heap.objs.size ∧ s₁ = { s with heap := s.heap.push (setObj0 w) }) ⟨rfl, rfl⟩) fun r s₁ hr => ?_
  cases r with
  | error e => exact hr
  | ok fl =>
    cases fl with
    | ret ob =>
      obtain ⟨rfl, rfl⟩ := hr
      have at0 : (s.heap.push (setObj0 w)).get? s.heap.objs.size = some (setObj0 w) := Heap.get?_push_size _ rfl
      have ty : Shared.TypeIs { s with heap := s.heap.push (setObj0 w) } (.ref s.heap.objs.size) "set" := ⟨_, at0, rfl⟩
      have li := F.called_set.init.lookup
      have bi := F.called_set.init.bind (.ref s.heap.objs.size)
      repeat (any_goals (first | assumption | wp_step))
      refine codeAny_mono (codeAny_call_builtin (R := wants (fun r s₂ => r = .none ∧ Filled knd rd s ks s₂) E) F.called_set.init.plain F.entry_set_init (check_set_init_1 ty ?_)) fun r₂ s₂ hr₂ => ?_
      · exact init A.in1.in1 _ _ (by simp) fun s' hf => ⟨rfl, hf⟩
      · cases r₂ with
        | error e => exact hr₂
        | ok fl₂ =>
          cases fl₂ with
          | ret r =>
            obtain ⟨rfl, hf⟩ := hr₂
            repeat (any_goals (first | assumption | wp_step))
            exact fin _ hf
          | _ => exact hr₂.elim
    | _ => exact hr.elim
theorem call_setL {l : Addr} {items : Array Value} {ks : List κ} {Z : Value → Shared → Prop} (hh : A.handled = none) (hl : s.heap.IsList l items) (hn : ks.length = items.size)
    (hv : ∀ (i : Nat) (v : Value) (k : κ), items[i]? = some v → ks[i]? = some k → Gd knd rd (knd.hash k, v) ∧ rd v = k ∧ knd.is k v = true) (hb : items.size + 1 < scanBound)
    (fin : ∀ s', Filled knd rd s ks s' → Z (.ref s.heap.objs.size) s') : wpAny (model P w) A (call (.type "set") [.ref l]) Z E s := by
  refine call_set1 (ks := ks) (fun A1 Q1 E1 hA done => ?_) fin
  obtain ⟨ob, h1, h2, cn, h3⟩ := hl
  obtain ⟨c1, d1, da, sl⟩ := ob
  simp only at h2 h3
  subst h2; subst h3
  have at0 : (s.heap.push (setObj0 w)).get? s.heap.objs.size = some (setObj0 w) := Heap.get?_push_size _ rfl
  have at1 : (s.heap.push (setObj0 w)).get? l = some { cls := .type "list", dict := d1, data := .seq items cn, slots := sl } := Heap.get?_push_of_some _ h1
  have s1 := F.sub_list_set
  have s2 := F.sub_list_frozenset
  have ne : (Value.type "list" == Value.type "dict") = false := by decide
  have isl : (s.heap.push (setObj0 w)).IsList l items := ⟨_, at1, rfl, cn, rfl⟩
  unfold Builtin.«set.__init__» noKeywords Builtin.Frozenset.updateFrom
  generalize hIt : pyIter = It
  wp_walk
  subst hIt
  refine wpAny_pyIter_list isl ?_
  refine wpAny_bind (wpAny_runValue ?_)
  have lt : l < s.heap.objs.size := Heap.lt_size h1
  have sz : (s.heap.push (setObj0 w)).objs.size = s.heap.objs.size + 1 := size_push' _ _
  have h3 : A1.in1.handled = none := by simp [hA, hh]
  have neI : l ≠ (s.heap.push (setObj0 w)).objs.size := by rw [sz]; exact Nat.ne_of_lt (Nat.lt_succ_of_lt lt)
  have nfp : s.heap.objs.size ∉ [(s.heap.push (setObj0 w)).objs.size, l] := by
    rw [sz]; simp only [List.mem_cons, List.mem_singleton, List.not_mem_nil, or_false, not_or]; exact ⟨Nat.ne_of_lt (Nat.lt_succ_self _), Nat.ne_of_gt lt⟩
  refine upd_loop (knd := knd) (rd := rd) (Walks.list h3 _ l neI items).toS s.heap.objs.size nfp ks hn hv hb items.size 0 _ (by omega) (Nat.zero_le _) ⟨⟨_, Heap.get?_push_size _ rfl, rfl, rfl⟩, isl.push _⟩ ?g0 ?end_
  case g0 => exact (setG_fresh (P := P) (knd := knd) (rd := rd) s.heap).at fun o e => Heap.get?_push_of_some _ e
  case end_ =>
    intro s' mv g
    obtain ⟨hp, gs, dr, tk, os⟩ := s'
    have e1 : gs = s.gens := mv.gens
    have e2 : dr = s.drawn := mv.drawn
    have e3 : os = s.os := mv.os
    subst e1; subst e2; subst e3
    show wpAny _ _ _ _ _ _
    refine wpAny_pure ?_
    show wpAny _ _ (ret Value.none) _ _ _
    refine wpAny_pure (done _ ⟨hp, tk, rfl, g, fun b o hb' e => ?_⟩)
    refine mv.heap b o ?_ (Heap.get?_push_of_some _ (Heap.get?_push_of_some _ e))
    rw [sz]
    simp only [List.mem_cons, List.mem_singleton, List.not_mem_nil, or_false, not_or]
    exact ⟨Nat.ne_of_lt hb', Nat.ne_of_lt (Nat.lt_succ_of_lt hb')⟩
end
end Sx

set_option maxHeartbeats 8000000
namespace Sx
open PySem PySem.Spec PyProof.Rows L2
section
variable {P : Program} {w : World} {A : Around} {E : Value → Shared → Prop} {s : Shared}
def rdI : Value → Int
  | .int k _ => k
  | _ => 0
def rdS : Value → Str
  | .str k _ => k
  | _ => Str.empty
theorem gdI (k : Int) (t : Tok) : Gd (intKind P w) rdI ((intKind P w).hash k, .int k t) ∧ rdI (.int k t) = k ∧ (intKind P w).is k (.int k t) = true := ⟨⟨intKind_is P w k t, rfl, rfl⟩, rfl, intKind_is P w k t⟩
theorem gdS (k : Str) (t : Tok) : Gd (PySem.strKind P w) rdS ((PySem.strKind P w).hash k, .str k t) ∧ rdS (.str k t) = k ∧ (PySem.strKind P w).is k (.str k t) = true := ⟨⟨PySem.Froz.is_str k t, rfl, rfl⟩, rfl, PySem.Froz.is_str k t⟩
theorem chr_at {x : Str} {i : Nat} {k : Str} (h : (x.cps.toList.map fun c => (⟨#[c]⟩ : Str))[i]? = some k) : ∃ c, x.cps[i]? = some c ∧ k = ⟨#[c]⟩ := by
  rw [List.getElem?_map, Array.getElem?_toList] at h
  cases q : x.cps[i]? with
  | none => rw [q] at h; cases h
  | some c => rw [q] at h; cases h; exact ⟨c, rfl, rfl⟩
theorem call_setT {x : Str} {t : Tok} {Z : Value → Shared → Prop} (hh : A.handled = none) (hb : x.cps.size + 1 < scanBound)
    (fin : ∀ s', Filled (PySem.strKind P w) rdS s (x.cps.toList.map fun c => (⟨#[c]⟩ : Str)) s' → Z (.ref s.heap.objs.size) s') : wpAny (model P w) A (call (.type "set") [.str x t]) Z E s := by
  refine call_set1 (ks := x.cps.toList.map fun c => (⟨#[c]⟩ : Str)) (fun A1 Q1 E1 hA done => ?_) fin
  have at0 : (s.heap.push (setObj0 w)).get? s.heap.objs.size = some (setObj0 w) := Heap.get?_push_size _ rfl
  have s1 := F.sub_str_set
  have s2 := F.sub_str_frozenset
  have ne : (Value.type "str" == Value.type "dict") = false := by decide
  unfold Builtin.«set.__init__» noKeywords Builtin.Frozenset.updateFrom
  generalize hIt : pyIter = It
  wp_walk
  subst hIt
  refine wpAny_pyIter_strU ?_
  refine wpAny_bind (wpAny_runValue ?_)
  have sz : (s.heap.push (setObj0 w)).objs.size = s.heap.objs.size + 1 := size_push' _ _
  have h3 : A1.in1.handled = none := by simp [hA, hh]
  have nfp : s.heap.objs.size ∉ [(s.heap.push (setObj0 w)).objs.size] := by
    rw [sz]; simp only [List.mem_singleton]; exact Nat.ne_of_lt (Nat.lt_succ_self _)
  have hl : (x.cps.toList.map fun c => (⟨#[c]⟩ : Str)).length = x.cps.size := by rw [List.length_map, Array.length_toList]
  have hv : ∀ (i : Nat) (v : Value) (k : Str), SignAt x i v → (x.cps.toList.map fun c => (⟨#[c]⟩ : Str))[i]? = some k → Gd (PySem.strKind P w) rdS ((PySem.strKind P w).hash k, v) ∧ rdS v = k ∧ (PySem.strKind P w).is k v = true := by
    rintro i v k ⟨c, u, h1, rfl⟩ h2
    obtain ⟨c', h4, rfl⟩ := chr_at h2
    rw [h1] at h4; cases h4
    exact gdS _ _
  have fin2 : ∀ (wr : List Addr) (s' : Shared), wr = [(s.heap.push (setObj0 w)).objs.size] → ∀ {y : Obj}, Moved (s.heap.objs.size :: wr) (fun a b => b = a) { s with heap := (s.heap.push (setObj0 w)).push y } s' →
      SetG (PySem.strKind P w) rdS s'.heap s.heap.objs.size (metS (x.cps.toList.map fun c => (⟨#[c]⟩ : Str)).reverse) (metN (x.cps.toList.map fun c => (⟨#[c]⟩ : Str)).reverse) → Q1 (.done (.ret .none)) s' := by
    intro wr s' ewr y mv g
    subst ewr
    obtain ⟨hp, gs, dr, tk, os⟩ := s'
    have e1 : gs = s.gens := mv.gens
    have e2 : dr = s.drawn := mv.drawn
    have e3 : os = s.os := mv.os
    subst e1; subst e2; subst e3
    refine done _ ⟨hp, tk, rfl, g, fun b o hb' e => ?_⟩
    refine mv.heap b o ?_ (Heap.get?_push_of_some _ (Heap.get?_push_of_some _ e))
    rw [sz]
    simp only [List.mem_cons, List.mem_singleton, List.not_mem_nil, or_false, not_or]
    exact ⟨Nat.ne_of_lt hb', Nat.ne_of_lt (Nat.lt_succ_of_lt hb')⟩
  have g0 : ∀ y : Obj, SetG (PySem.strKind P w) rdS ((s.heap.push (setObj0 w)).push y) s.heap.objs.size (metS ((x.cps.toList.map fun c => (⟨#[c]⟩ : Str)).take 0).reverse) (metN ((x.cps.toList.map fun c => (⟨#[c]⟩ : Str)).take 0).reverse) :=
    fun y => (setG_fresh (P := P) (knd := PySem.strKind P w) (rd := rdS) s.heap).at fun o e => Heap.get?_push_of_some _ e
  cases ha : x.cps.all (· < 128)
  · have et : strIterType x = "str_iterator" := by unfold strIterType; rw [ha]; rfl
    refine upd_loop (knd := PySem.strKind P w) (rd := rdS) (Walks.strWide h3 _ x t).toS s.heap.objs.size nfp _ hl hv hb x.cps.size 0 _ (by omega) (Nat.zero_le _) ?_ (g0 _) fun s' mv g => ?_
    · rw [et]; exact ⟨_, Heap.get?_push_size _ rfl, rfl, rfl⟩
    · show wpAny _ _ _ _ _ _
      refine wpAny_pure ?_
      show wpAny _ _ (ret Value.none) _ _ _
      exact wpAny_pure (fin2 _ s' rfl mv g)
  · have et : strIterType x = "str_ascii_iterator" := by unfold strIterType; rw [ha]; rfl
    refine upd_loop (knd := PySem.strKind P w) (rd := rdS) (Walks.strAscii h3 _ x t).toS s.heap.objs.size nfp _ hl hv hb x.cps.size 0 _ (by omega) (Nat.zero_le _) ?_ (g0 _) fun s' mv g => ?_
    · rw [et]; exact ⟨_, Heap.get?_push_size _ rfl, rfl, rfl⟩
    · show wpAny _ _ _ _ _ _
      refine wpAny_pure ?_
      show wpAny _ _ (ret Value.none) _ _ _
      exact wpAny_pure (fin2 _ s' rfl mv g)
end
end Sx

namespace Dx
open PySem PySem.Spec PyProof.Rows L2


def eC (d : D) : En → R D := fun _ => .ok d
def eBin (f : D → D → R D) (A B : En → R D) : En → R D := fun env => A env >>= fun x => B env >>= fun y => f x y
def eUn {α β : Type} (f : α → R β) (A : En → R α) : En → R β := fun env => A env >>= f
def eOfF (A : En → R (List D)) : En → R D := fun env => A env >>= fun xs => .ok (.lst xs)
def eOfK (A : En → R (List (Key × D))) : En → R D := fun env => A env >>= fun xs => .ok (.dic xs)

def RepX (c : Bool) (K : PySem.W.Frag) (H0 H : Hp) (v : V) (d : D) : Prop := match c with
  | true => Rep K H0 v d
  | false => Rep K H0 v d ∨ (∃ a vs xs, v = .ref a ∧ d = .lst xs ∧ H a = some (.lst vs) ∧ xs.length ≤ sizeLine ∧ RepAll K H0 vs xs) ∨ (∃ a vs xs, v = .ref a ∧ d = .dic xs ∧ H a = some (.dK vs) ∧ RepKv K H0 vs xs)
structure Gr (K : PySem.W.Frag) {ξ : Str → Value} (M : Fm ξ) (σ : L2.St) (env : En) (H0 H H0' H' : Hp) : Prop where
  s0 : Same H0 H0'
  s : Same H H'
  e : EnvAt K M H0' H' σ env
  n : ∀ a, H a ≠ none → H0 a = none → H0' a = none
section
variable {K : PySem.W.Frag} {ξ : Str → Value} {M : Fm ξ} {σ : L2.St} {env : En} {H0 H H1 H0' H' H01 : Hp} {v : V} {d : D} {c : Bool}
theorem RepX.mono (r : RepX c K H0 H v d) (s0 : Same H0 H0') (s : Same H H') : RepX c K H0' H' v d := by
  cases c with
  | true => exact Rep.mono s0 r
  | false =>
    rcases r with r | ⟨a, vs, xs, e1, e2, h, z, r⟩ | ⟨a, vs, xs, e1, e2, h, r⟩
    · exact .inl (r.mono s0)
    · exact .inr (.inl ⟨a, vs, xs, e1, e2, s _ _ h, z, r.mono s0⟩)
    · exact .inr (.inr ⟨a, vs, xs, e1, e2, s _ _ h, r.mono s0⟩)
theorem RepX.b (r : RepX c K H0 H v d) : RepX false K H0 H v d := by
  cases c with
  | true => exact .inl r
  | false => exact r
theorem RepX.rep (r : RepX c K H0 H v d) (s : Same H0 H) : Rep K H v d := by
  cases c with
  | true => exact Rep.mono s r
  | false =>
    rcases r with r | ⟨a, vs, xs, e1, e2, h, z, r⟩ | ⟨a, vs, xs, e1, e2, h, r⟩
    · exact r.mono s
    · subst e1 e2; exact .lst h z (r.mono s)
    · subst e1 e2; exact .dic (.inl h) (r.mono s)
theorem RepX.int {i : Int} (r : RepX c K H0 H v (.int i)) : v = .int i := by
  have r := r.b
  rcases r with r | ⟨_, _, _, _, e, _⟩ | ⟨_, _, _, _, e, _⟩
  · cases r; rfl
  · cases e
  · cases e
theorem RepX.bl {i : Bool} (r : RepX c K H0 H v (.bl i)) : v = .bl i := by
  have r := r.b
  rcases r with r | ⟨_, _, _, _, e, _⟩ | ⟨_, _, _, _, e, _⟩
  · cases r; rfl
  · cases e
  · cases e
theorem RepX.str {i : Str} (r : RepX c K H0 H v (.str i)) : v = .str i := by
  have r := r.b
  rcases r with r | ⟨_, _, _, _, e, _⟩ | ⟨_, _, _, _, e, _⟩
  · cases r; rfl
  · cases e
  · cases e
theorem RepX.non (r : RepX c K H0 H v .non) : v = .non := by
  have r := r.b
  rcases r with r | ⟨_, _, _, _, e, _⟩ | ⟨_, _, _, _, e, _⟩
  · cases r; rfl
  · cases e
  · cases e
theorem RepX.lst {xs : List D} (r : RepX c K H0 H v (.lst xs)) (s : Same H0 H) : ∃ a vs, v = .ref a ∧ H a = some (.lst vs) ∧ RepAll K H0 vs xs := by
  have r := r.b
  rcases r with r | ⟨a, vs, xs, e1, e, h, _, r⟩ | ⟨_, _, _, _, e, _⟩
  · cases r with | lst h _ r => exact ⟨_, _, rfl, s _ _ h, r⟩
  · cases e; exact ⟨a, vs, e1, h, r⟩
  · cases e
theorem RepX.lstLen {xs : List D} (r : RepX c K H0 H v (.lst xs)) : xs.length ≤ sizeLine := by
  have r := r.b
  rcases r with r | ⟨a, vs, xs, e1, e, h, z, r⟩ | ⟨_, _, _, _, e, _⟩
  · cases r with | lst h z r => exact z
  · cases e; exact z
  · cases e
theorem RepX.tup {xs : List D} (r : RepX c K H0 H v (.tup xs)) : ∃ a vs, v = .ref a ∧ H0 a = some (.tup vs) ∧ RepAll K H0 vs xs := by
  have r := r.b
  rcases r with r | ⟨a, vs, xs, e1, e, h, r⟩ | ⟨_, _, _, _, e, _⟩
  · cases r with | tup h _ r => exact ⟨_, _, rfl, h, r⟩
  · cases e
  · cases e
theorem RepX.tupLen {xs : List D} (r : RepX c K H0 H v (.tup xs)) : xs.length ≤ sizeLine := by
  have r := r.b
  rcases r with r | ⟨a, vs, xs, e1, e, h, r⟩ | ⟨_, _, _, _, e, _⟩
  · cases r with | tup h z r => exact z
  · cases e
  · cases e
theorem RepX.dic {xs : List (Key × D)} (r : RepX c K H0 H v (.dic xs)) (s : Same H0 H) : ∃ a vs, v = .ref a ∧ Rd H a (.dK vs) ∧ RepKv K H0 vs xs := by
  have r := r.b
  rcases r with r | ⟨a, vs, xs, e1, e, h, r⟩ | ⟨a, vs, xs, e1, e, h, r⟩
  · cases r with | dic h r => exact ⟨_, _, rfl, h.imp (s _ _) fun ⟨o, e⟩ => ⟨o, s _ _ e⟩, r⟩
  · cases e
  · cases e; exact ⟨a, vs, e1, .inl h, r⟩
theorem RepX.frz {ns : List Int} (r : RepX c K H0 H v (.frz ns)) (s : Same H0 H) : ∃ a, v = .ref a ∧ SqL K H a (ns.map V.int) := by
  have r := r.b
  rcases r with r | ⟨a, vs, xs, e1, e, h, r⟩ | ⟨_, _, _, _, e, _⟩
  · cases r with | frz h => exact ⟨_, rfl, s.seq h⟩
  · cases e
  · cases e
theorem RepX.of (r : Rep K H0 v d) : RepX c K H0 H v d := by
  cases c with
  | true => exact r
  | false => exact .inl r
theorem Gr.refl (E : EnvAt K M H0 H σ env) : Gr K M σ env H0 H H0 H := ⟨Same.refl _, Same.refl _, E, fun _ _ z => z⟩
theorem Gr.trans {H02 H2 : Hp} (g : Gr K M σ env H0 H H01 H1) (g' : Gr K M σ env H01 H1 H02 H2) : Gr K M σ env H0 H H02 H2 := ⟨g.s0.trans g'.s0, g.s.trans g'.s, g'.e, fun a h1 h2 => g'.n a (fun z => h1 (g.s.free z)) (g.n a h1 h2)⟩
theorem EnvAt.new (E : EnvAt K M H0 H σ env) {p : Addr} {o : HO} (h : H p = none) : Gr K M σ env H0 H (upd H0 p o) (upd H p o) := ⟨same_upd (E.same.free h), same_upd h, E.alloc h, fun a h1 h2 => by
  by_cases hb : a = p
  · subst hb; exact absurd h h1
  · rw [upd_ne hb]; exact h2⟩
end

theorem DGetR {H : Hp} {a : Addr} {kvs : List (Key × V)} {k : Key} (e : Rd H a (.dK kvs)) : DGet H a (kV k) (valV kvs k) := .inl ⟨kvs, k, e, rfl, rfl⟩
section
variable (K : PySem.W.Frag) (W : WX) (ξ : Str → Value) (M : Fm ξ) (σ : L2.St) (env : En)
def PostE (c : Bool) (H0 H : Hp) (Q : VK) : R D → Prop
  | .ok d => ∀ v H0' H', Gr K M σ env H0 H H0' H' → RepX c K H0' H' v d → Q v H'
  | .exc x => ∀ H0' H', Gr K M σ env H0 H H0' H' → W (ξ x) none σ H'
  | .bad => False
def PostT (H0 H : Hp) (Q : Bool → Hp → Prop) : R Bool → Prop
  | .ok b => ∀ H0' H', Gr K M σ env H0 H H0' H' → Q b H'
  | .exc x => ∀ H0' H', Gr K M σ env H0 H H0' H' → W (ξ x) none σ H'
  | .bad => False
abbrev RepXs (c : Bool) (H0 H : Hp) : List V → List D → Prop := Paired (RepX c K H0 H)
def PostA (c : Bool) (H0 H : Hp) (Q : List V → Hp → Prop) : R (List D) → Prop
  | .ok ds => ∀ vs H0' H', Gr K M σ env H0 H H0' H' → RepXs K c H0' H' vs ds → Q vs H'
  | .exc x => ∀ H0' H', Gr K M σ env H0 H H0' H' → W (ξ x) none σ H'
  | .bad => False
end
structure NewAt {ξ : Str → Value} (M : Fm ξ) (σ : L2.St) (env : En) (H0' H' : Hp) (p : Addr) (o : HO) : Prop where
  at_ : H' p = some o
  h0 : H0' p = none
  g : M.G p = none
  n : ¬ M.N p
  w : ∀ j, ¬ Owns σ env j p
section
variable (K : PySem.W.Frag) (W : WX) (ξ : Str → Value) (M : Fm ξ) (σ : L2.St) (env : En)
def PostF (H0 H : Hp) (Q : VK) : R (List D) → Prop
  | .ok ds => ∀ p vs H0' H', Gr K M σ env H0 H H0' H' → H p = none → NewAt M σ env H0' H' p (.lst vs) → ds.length ≤ sizeLine ∧ RepAll K H0' vs ds → Q (.ref p) H'
  | .exc x => ∀ H0' H', Gr K M σ env H0 H H0' H' → W (ξ x) none σ H'
  | .bad => False
def PostK (H0 H : Hp) (Q : VK) : R (List (Key × D)) → Prop
  | .ok ds => ∀ p vs H0' H', Gr K M σ env H0 H H0' H' → H p = none → NewAt M σ env H0' H' p (.dK vs) → RepKv K H0' vs ds → Q (.ref p) H'
  | .exc x => ∀ H0' H', Gr K M σ env H0 H H0' H' → W (ξ x) none σ H'
  | .bad => False
end
def tD (K : PySem.W.Frag) (W : WX) (ξ : Str → Value) (c : Bool) (F : En → R D) : TE := fun σ H Q => ∃ M H0 env, EnvAt K M H0 H σ env ∧ PostE K W ξ M σ env c H0 H Q (F env)
def tDT (K : PySem.W.Frag) (W : WX) (ξ : Str → Value) (F : En → R Bool) : TT := fun σ H Q => ∃ M H0 env, EnvAt K M H0 H σ env ∧ PostT K W ξ M σ env H0 H Q (F env)
def tDA (K : PySem.W.Frag) (W : WX) (ξ : Str → Value) (c : Bool) (F : En → R (List D)) : TA := fun σ H Q => ∃ M H0 env, EnvAt K M H0 H σ env ∧ PostA K W ξ M σ env c H0 H Q (F env)
def tDF (K : PySem.W.Frag) (W : WX) (ξ : Str → Value) (F : En → R (List D)) : TE := fun σ H Q => ∃ M H0 env, EnvAt K M H0 H σ env ∧ PostF K W ξ M σ env H0 H Q (F env)
abbrev DE (X : Cx) (W : WX) (ξ : Str → Value) (c : Bool) (e : Expr) (F : En → R D) : Prop := PE X e (tD X.K W ξ c F)
abbrev DT (X : Cx) (W : WX) (ξ : Str → Value) (e : Expr) (F : En → R Bool) : Prop := PT X e (tDT X.K W ξ F)
abbrev DW (X : Cx) (W : WX) (ξ : Str → Value) (e : Expr) (F : En → R Bool) : Prop := PW X e (tDT X.K W ξ F)
abbrev DA (X : Cx) (W : WX) (ξ : Str → Value) (c : Bool) (es : List Expr) (F : En → R (List D)) : Prop := PA X es (tDA X.K W ξ c F)
abbrev DF (X : Cx) (W : WX) (ξ : Str → Value) (e : Expr) (F : En → R (List D)) : Prop := PE X e (tDF X.K W ξ F)
theorem peImp {X : Cx} {e : Expr} {t t' : TE} (h : PE X e t) (hi : ∀ σ H Q, t' σ H Q → t σ H Q) : PE X e t' := ⟨fun pins s σ H Q I w => h.run pins s σ H Q I (hi _ _ _ w)⟩
theorem ptImp {X : Cx} {e : Expr} {t t' : TT} (h : PT X e t) (hi : ∀ σ H Q, t' σ H Q → t σ H Q) : PT X e t' := ⟨fun pins s σ H Q I w => h.run pins s σ H Q I (hi _ _ _ w)⟩
theorem pwImp {X : Cx} {e : Expr} {t t' : TT} (h : PW X e t) (hi : ∀ σ H Q, t' σ H Q → t σ H Q) : PW X e t' := ⟨fun wh pins s σ H Q I w => h.run wh pins s σ H Q I (hi _ _ _ w)⟩
theorem paImp {X : Cx} {e : List Expr} {t t' : TA} (h : PA X e t) (hi : ∀ σ H Q, t' σ H Q → t σ H Q) : PA X e t' := ⟨fun p pins s σ H Q I w => h.run p pins s σ H Q I (hi _ _ _ w)⟩
theorem psImp {X : Cx} {e : Stmt} {t t' : TS} (h : PS X e t) (hi : ∀ D σ H, t' D σ H → t D σ H) : PS X e t' := ⟨fun pins s σ H D I w => h.run pins s σ H D I (hi _ _ _ w)⟩
theorem pssImp {X : Cx} {e : List Stmt} {t t' : TS} (h : PSs X e t) (hi : ∀ D σ H, t' D σ H → t D σ H) : PSs X e t' := ⟨fun pins s σ H D I w => h.run pins s σ H D I (hi _ _ _ w)⟩

section
variable {K : PySem.W.Frag} {W : WX} {ξ : Str → Value} {M : Fm ξ} {σ : L2.St} {env : En} {c c1 : Bool} {H0 H H0' H' : Hp} {Q Q1 : VK}
structure Weak (K : PySem.W.Frag) {ξ : Str → Value} (M : Fm ξ) (σ : L2.St) (env : En) (P : Hp → Hp → Prop) : Prop where
  mono : ∀ {H0 H H0' H' : Hp}, Gr K M σ env H0 H H0' H' → P H0 H → P H0' H'
theorem PostE.weak {x : R D} (g : Gr K M σ env H0 H H0' H') (p : PostE K W ξ M σ env c H0 H Q x) : PostE K W ξ M σ env c H0' H' Q x := by
  cases x with
  | ok d => exact fun v H02 H2 g2 r => p v H02 H2 (g.trans g2) r
  | exc x => exact fun H02 H2 g2 => p H02 H2 (g.trans g2)
  | bad => exact p
theorem PostT.weak {x : R Bool} {Q : Bool → Hp → Prop} (g : Gr K M σ env H0 H H0' H') (p : PostT K W ξ M σ env H0 H Q x) : PostT K W ξ M σ env H0' H' Q x := by
  cases x with
  | ok d => exact fun H02 H2 g2 => p H02 H2 (g.trans g2)
  | exc x => exact fun H02 H2 g2 => p H02 H2 (g.trans g2)
  | bad => exact p
theorem PostA.weak {x : R (List D)} {Q : List V → Hp → Prop} (g : Gr K M σ env H0 H H0' H') (p : PostA K W ξ M σ env c H0 H Q x) : PostA K W ξ M σ env c H0' H' Q x := by
  cases x with
  | ok d => exact fun v H02 H2 g2 r => p v H02 H2 (g.trans g2) r
  | exc x => exact fun H02 H2 g2 => p H02 H2 (g.trans g2)
  | bad => exact p
theorem PostF.weak {x : R (List D)} (g : Gr K M σ env H0 H H0' H') (p : PostF K W ξ M σ env H0 H Q x) : PostF K W ξ M σ env H0' H' Q x := by
  cases x with
  | ok d => exact fun v vs H02 H2 g2 hp r => p v vs H02 H2 (g.trans g2) (g.s.free hp) r
  | exc x => exact fun H02 H2 g2 => p H02 H2 (g.trans g2)
  | bad => exact p
theorem PostK.weak {x : R (List (Key × D))} (g : Gr K M σ env H0 H H0' H') (p : PostK K W ξ M σ env H0 H Q x) : PostK K W ξ M σ env H0' H' Q x := by
  cases x with
  | ok d => exact fun v vs H02 H2 g2 hp r => p v vs H02 H2 (g.trans g2) (g.s.free hp) r
  | exc x => exact fun H02 H2 g2 => p H02 H2 (g.trans g2)
  | bad => exact p

structure Wish (K : PySem.W.Frag) (W : WX) (ξ : Str → Value) (M : Fm ξ) (σ : L2.St) (env : En) {β : Type} (P : Hp → Hp → R β → Prop) : Prop where
  weak : ∀ {H0 H H0' H' : Hp} {x : R β}, Gr K M σ env H0 H H0' H' → P H0 H x → P H0' H' x
  exc : ∀ {H0 H : Hp} {x : Str}, P H0 H (.exc x) → ∀ H0' H', Gr K M σ env H0 H H0' H' → W (ξ x) none σ H'
  bad : ∀ {H0 H : Hp}, P H0 H .bad → False
theorem wishE : Wish K W ξ M σ env (fun H0 H => PostE K W ξ M σ env c H0 H Q) := ⟨PostE.weak, fun p => p, fun p => p⟩
theorem wishT {Q : Bool → Hp → Prop} : Wish K W ξ M σ env (fun H0 H => PostT K W ξ M σ env H0 H Q) := ⟨PostT.weak, fun p => p, fun p => p⟩
theorem wishA {Q : List V → Hp → Prop} : Wish K W ξ M σ env (fun H0 H => PostA K W ξ M σ env c H0 H Q) := ⟨PostA.weak, fun p => p, fun p => p⟩
theorem wishF : Wish K W ξ M σ env (fun H0 H => PostF K W ξ M σ env H0 H Q) := ⟨PostF.weak, fun p => p, fun p => p⟩
section
variable {β : Type} {P : Hp → Hp → R β → Prop}
theorem bindE (w : Wish K W ξ M σ env P) {x : R D} {k : D → R β} (p : P H0 H (x >>= k)) (h : ∀ a v H0' H', Gr K M σ env H0 H H0' H' → RepX c1 K H0' H' v a → P H0' H' (k a) → Q1 v H') : PostE K W ξ M σ env c1 H0 H Q1 x := by
  cases x with
  | ok d => exact fun v H0' H' g r => h d v H0' H' g r (w.weak g p)
  | exc x => exact fun H0' H' g => w.exc p H0' H' g
  | bad => exact w.bad p
theorem bindT (w : Wish K W ξ M σ env P) {x : R Bool} {k : Bool → R β} {Q1 : Bool → Hp → Prop} (p : P H0 H (x >>= k)) (h : ∀ a H0' H', Gr K M σ env H0 H H0' H' → P H0' H' (k a) → Q1 a H') : PostT K W ξ M σ env H0 H Q1 x := by
  cases x with
  | ok d => exact fun H0' H' g => h d H0' H' g (w.weak g p)
  | exc x => exact fun H0' H' g => w.exc p H0' H' g
  | bad => exact w.bad p
theorem bindA (w : Wish K W ξ M σ env P) {x : R (List D)} {k : List D → R β} {Q1 : List V → Hp → Prop} (p : P H0 H (x >>= k)) (h : ∀ a v H0' H', Gr K M σ env H0 H H0' H' → RepXs K c1 H0' H' v a → P H0' H' (k a) → Q1 v H') : PostA K W ξ M σ env c1 H0 H Q1 x := by
  cases x with
  | ok d => exact fun v H0' H' g r => h d v H0' H' g r (w.weak g p)
  | exc x => exact fun H0' H' g => w.exc p H0' H' g
  | bad => exact w.bad p
theorem bindF (w : Wish K W ξ M σ env P) {x : R (List D)} {k : List D → R β} (p : P H0 H (x >>= k)) (h : ∀ a q vs H0' H', Gr K M σ env H0 H H0' H' → H q = none → NewAt M σ env H0' H' q (.lst vs) → a.length ≤ sizeLine ∧ RepAll K H0' vs a → P H0 H (k a) → P H0' H' (k a) → Q1 (.ref q) H') : PostF K W ξ M σ env H0 H Q1 x := by
  cases x with
  | ok d => exact fun q vs H0' H' g hq n r => h d q vs H0' H' g hq n r p (w.weak g p)
  | exc x => exact fun H0' H' g => w.exc p H0' H' g
  | bad => exact w.bad p
end
theorem NewAt.frz0 (E : EnvAt K M H0 H σ env) {p : Addr} {o : HO} (n : NewAt M σ env H0 H p o) : Same H0 (upd H0 p o) ∧ EnvAt K M (upd H0 p o) H σ env := by
  have s0 : Same H0 (upd H0 p o) := same_upd n.h0
  have s1 : Same (upd H0 p o) H := fun b u e => by
    by_cases hb : b = p
    · subst hb; rw [upd_same] at e; cases e; exact n.at_
    · rw [upd_ne hb] at e; exact E.same _ _ e
  refine ⟨s0, ⟨s1, E.fr, fun a h => ?_, E.len, fun i s h => ?_, E.sep, E.ng, E.tg⟩⟩
  · obtain ⟨h1, h2⟩ := E.nogo a h
    refine ⟨?_, h2⟩
    by_cases hb : a = p
    · subst hb; exact absurd h n.n
    · rw [upd_ne hb]; exact h1
  · have q := E.slot i s h
    have ne : ∀ {a}, σ[i]? = some (some (.ref a)) → s.own = true → a ≠ p := fun {a} e o z => by
      subst z; exact n.w i ⟨e, s, h, o⟩
    cases s with
    | u => trivial
    | d x => obtain ⟨v, e, r⟩ := q; exact ⟨v, e, r.mono s0⟩
    | ol xs => obtain ⟨a, vs, e, h0, hg, ha, z, r⟩ := q; exact ⟨a, vs, e, by rw [upd_ne (ne e rfl)]; exact h0, hg, ha, z, r.mono s0⟩
    | od xs => obtain ⟨a, vs, e, h0, hg, ha, r⟩ := q; exact ⟨a, vs, e, by rw [upd_ne (ne e rfl)]; exact h0, hg, ha, r.mono s0⟩
    | ex => exact q
    | tr n k t => exact ⟨q.1, q.2.1, q.2.2.mono s0⟩
theorem NewAt.frz {p : Addr} {o : HO} (g : Gr K M σ env H0 H H0' H') (hp : H p = none) (n : NewAt M σ env H0' H' p o) : Gr K M σ env H0 H (upd H0' p o) H' := by
  obtain ⟨a, b⟩ := n.frz0 g.e
  refine ⟨g.s0.trans a, g.s, b, fun q h1 h2 => ?_⟩
  by_cases hb : q = p
  · subst hb; exact absurd hp h1
  · rw [upd_ne hb]; exact g.n q h1 h2
theorem EnvAt.newAt (E : EnvAt K M H0 H σ env) {p : Addr} {o : HO} (h : H p = none) : Gr K M σ env H0 H H0 (upd H p o) ∧ NewAt M σ env H0 (upd H p o) p o := by
  have s : Same H (upd H p o) := same_upd h
  have h0 := E.same.free h
  refine ⟨⟨Same.refl _, s, E.grow (Same.refl _) s (E.same.trans s) fun a _ z => z, fun a _ z => z⟩, upd_same, h0, E.fr.free h, fun z => (E.nogo p z).2 h, fun j ⟨e, sl, h1, h2⟩ => ?_⟩
  have q := E.slot j sl h1
  rw [e] at q
  cases sl with
  | u => cases h2
  | d _ => cases h2
  | ol xs => obtain ⟨a, vs, e, _, _, ha, _, _⟩ := q; cases e; rw [h] at ha; cases ha
  | od xs => obtain ⟨a, vs, e, _, _, ha, _⟩ := q; cases e; rw [h] at ha; cases ha
  | ex => cases h2
  | tr n k t => cases h2
end

section
variable {X : Cx} {W : WX} {ξ : Str → Value} {e a b : Expr} {c c1 c2 : Bool} {pos : Pos}
theorem deB {F : En → R D} (h : DE X W ξ c e F) : DE X W ξ false e F := peImp h fun σ H Q ⟨M, H0, env, E, p⟩ => ⟨M, H0, env, E, by
  revert p
  cases F env with
  | ok d => exact fun p v H0' H' g r => p v H0' H' g r.b
  | exc x => exact fun p => p
  | bad => exact fun p => p⟩
theorem de_ofF {F : En → R (List D)} (h : DF X W ξ e F) : DE X W ξ true e (eOfF F) := peImp h fun σ H Q ⟨M, H0, env, E, p⟩ => ⟨M, H0, env, E, bindF wishE p fun xs q vs H0' H' g hq n r pu p1 =>
  pu (.ref q) _ _ (n.frz g hq) (Rep.lst upd_same r.1 (r.2.mono (same_upd n.h0)))⟩
def getV (i : Nat) (env : En) : R D := match env[i]? with
  | some (.d x) => .ok x
  | some (.ol xs) => .ok (.lst xs)
  | some (.od xs) => .ok (.dic xs)
  | _ => .bad
def getD' (i : Nat) (env : En) : R D := match env[i]? with
  | some (.d x) => .ok x
  | _ => .bad
theorem de_vb {i : Nat} {x : Str} (h : PE X (.Name x pos) (tVar i)) : DE X W ξ false (.Name x pos) (getV i) := peImp h fun σ H Q ⟨M, H0, env, E, p⟩ => by
  unfold getV at p
  cases h : env[i]? with
  | none => rw [h] at p; exact p.elim
  | some s =>
    rw [h] at p
    have q := E.slot i s h
    cases s with
    | u => exact p.elim
    | d x => obtain ⟨v, e, r⟩ := q; exact ⟨v, e, p v H0 H (.refl E) (.inl r)⟩
    | ol xs => obtain ⟨a, vs, e, h0, hg, ha, z, r⟩ := q; exact ⟨_, e, p _ H0 H (.refl E) (.inr (.inl ⟨a, vs, xs, rfl, rfl, ha, z, r⟩))⟩
    | od xs => obtain ⟨a, vs, e, h0, hg, ha, r⟩ := q; exact ⟨_, e, p _ H0 H (.refl E) (.inr (.inr ⟨a, vs, xs, rfl, rfl, ha, r⟩))⟩
    | ex => exact p.elim
    | tr n k t => exact p.elim
theorem de_v {i : Nat} {x : Str} (h : PE X (.Name x pos) (tVar i)) : DE X W ξ true (.Name x pos) (getD' i) := peImp h fun σ H Q ⟨M, H0, env, E, p⟩ => by
  unfold getD' at p
  cases h : env[i]? with
  | none => rw [h] at p; exact p.elim
  | some s =>
    rw [h] at p
    have q := E.slot i s h
    cases s with
    | u => exact p.elim
    | d x => obtain ⟨v, e, r⟩ := q; exact ⟨v, e, p v H0 H (.refl E) r⟩
    | ol xs => exact p.elim
    | od xs => exact p.elim
    | ex => exact p.elim
    | tr n k t => exact p.elim
theorem de_c {v : V} {d : D} (h : PE X e (tC v)) (r : ∀ H : Hp, Rep X.K H v d) : DE X W ξ true e (eC d) := peImp h fun σ H Q ⟨M, H0, env, E, p⟩ => p v H0 H (.refl E) (r H0)
theorem de_int {i : Int} {j : Nat} : DE X W ξ true (.Constant (.int i) j pos) (eC (.int i)) := de_c pe_int fun _ => .int i
theorem de_bl {i : Bool} {j : Nat} : DE X W ξ true (.Constant (.bool i) j pos) (eC (.bl i)) := de_c pe_bl fun _ => .bl i
theorem de_str {i : Str} {j : Nat} (h : sOk i = true := by decide +kernel) : DE X W ξ true (.Constant (.str i) j pos) (eC (.str i)) := de_c pe_str fun _ => .str i h
theorem de_non {j : Nat} : DE X W ξ true (.Constant .none j pos) (eC .non) := de_c pe_non fun _ => .non

theorem de_op {op : Operator} {r : R2} {fa fb : En → R D} {c3 : Bool} {f : D → D → R D} (ho : OpR X (binaryOp op) r) (ha : DE X W ξ c1 a fa) (hb : DE X W ξ c2 b fb)
    (hr : ∀ {M : Fm ξ} {σ : L2.St} {env : En} {H0 H : Hp} {Q : VK} {x y : V} {d1 d2 : D}, EnvAt X.K M H0 H σ env → RepX c1 X.K H0 H x d1 → RepX c2 X.K H0 H y d2 → PostE X.K W ξ M σ env c3 H0 H Q (f d1 d2) → r x y H Q) :
    DE X W ξ c3 (.BinOp a op b pos) (eBin f fa fb) :=
  peImp (pe_op ho ha hb) fun σ H Q ⟨M, H0, env, E, p⟩ => ⟨M, H0, env, E, bindE wishE p fun d1 x H1 H2 g1 r1 p1 => ⟨M, H1, env, g1.e, bindE wishE p1 fun d2 y H3 H4 g2 r2 p2 => hr g2.e (r1.mono g2.s0 g2.s) r2 p2⟩⟩
theorem de_cmp {op : CmpOp} {r : R2} {fa fb : En → R D} {c3 : Bool} {f : D → D → R D} (ho : OpR X (compareOp op) r) (hm : behindInMarks op b = false) (ha : DE X W ξ c1 a fa) (hb : DE X W ξ c2 b fb)
    (hr : ∀ {M : Fm ξ} {σ : L2.St} {env : En} {H0 H : Hp} {Q : VK} {x y : V} {d1 d2 : D}, EnvAt X.K M H0 H σ env → RepX c1 X.K H0 H x d1 → RepX c2 X.K H0 H y d2 → PostE X.K W ξ M σ env c3 H0 H Q (f d1 d2) → r x y H Q) :
    DE X W ξ c3 (.Compare a [op] [b] pos) (eBin f fa fb) :=
  peImp (pe_cmpR ho ha hb hm) fun σ H Q ⟨M, H0, env, E, p⟩ => ⟨M, H0, env, E, bindE wishE p fun d1 x H1 H2 g1 r1 p1 => ⟨M, H1, env, g1.e, bindE wishE p1 fun d2 y H3 H4 g2 r2 p2 => hr g2.e (r1.mono g2.s0 g2.s) r2 p2⟩⟩
end
end Dx

namespace Dx
open PySem PySem.Spec PyProof.Rows L2

def dle : Nat → D → Bool
  | 0, .non => true
  | 0, .bl _ => true
  | 0, .int _ => true
  | 0, .str _ => true
  | 0, _ => false
  | n + 1, .lst xs => xs.all (dle n)
  | n + 1, .tup xs => xs.all (dle n)
  | _ + 1, .frz _ => false
  | _ + 1, .dic _ => false
  | _ + 1, .opq => false
  | _ + 1, _ => true
mutual
def eqD : D → D → Bool
  | .non, .non => true
  | .bl a, .bl b => a == b
  | .bl a, .int j => (if a then 1 else 0) == j
  | .int i, .bl b => i == (if b then 1 else 0)
  | .int i, .int j => i == j
  | .str x, .str y => x == y
  | .lst xs, .lst ys => eqDs xs ys
  | .tup xs, .tup ys => eqDs xs ys
  | _, _ => false
def eqDs : List D → List D → Bool
  | [], [] => true
  | x :: xs, y :: ys => eqD x y && eqDs xs ys
  | _, _ => false
end
mutual
def toPy : D → PyData
  | .non => .none
  | .bl b => .bool b
  | .int i => .int i
  | .str s => .str s
  | .tup xs => .tuple (toPys xs)
  | .lst xs => .list (toPys xs)
  | .dic _ => .dict []
  | .frz ns => .dict []
  | .opq => .dict []
def toPys : List D → List PyData
  | [] => []
  | x :: xs => toPy x :: toPys xs
end
mutual
theorem eqv_toPy : ∀ a b : D, PyData.eqv (toPy a) (toPy b) = eqD a b
  | .non, b => by cases b <;> simp only [toPy, PyData.eqv, eqD]
  | .bl _, b => by cases b <;> simp only [toPy, PyData.eqv, eqD]
  | .int _, b => by cases b <;> simp only [toPy, PyData.eqv, eqD]
  | .str _, b => by cases b <;> simp only [toPy, PyData.eqv, eqD]
  | .tup xs, b => by cases b <;> simp only [toPy, PyData.eqv, eqD, eqvAll_toPys xs]
  | .lst xs, b => by cases b <;> simp only [toPy, PyData.eqv, eqD, eqvAll_toPys xs]
  | .dic _, b => by cases b <;> simp only [toPy, PyData.eqv, eqD]
  | .frz _, b => by cases b <;> simp only [toPy, PyData.eqv, eqD]
  | .opq, b => by cases b <;> simp only [toPy, PyData.eqv, eqD]
theorem eqvAll_toPys : ∀ xs ys : List D, PyData.eqvAll (toPys xs) (toPys ys) = eqDs xs ys
  | [], [] => by simp only [toPys, PyData.eqvAll, eqDs]
  | [], _ :: _ => by simp only [toPys, PyData.eqvAll, eqDs]
  | _ :: _, [] => by simp only [toPys, PyData.eqvAll, eqDs]
  | x :: xs, y :: ys => by simp only [toPys, PyData.eqvAll, eqDs, eqv_toPy x y, eqvAll_toPys xs ys]
end
section
variable {K : PySem.W.Frag} {H : Hp}
theorem rep_dps {n : Nat} (ih : ∀ (d : D) (v : V), dle n d = true → Rep K H v d → Dp K H v (toPy d) ∧ (toPy d).canLay0 = true ∧ (toPy d).depth ≤ n) :
    ∀ (xs : List D) (vs : List V), xs.all (dle n) = true → RepAll K H vs xs → DpAll K H vs (toPys xs) ∧ PyData.canLayAll0 (toPys xs) = true ∧ PyData.depthAll (toPys xs) ≤ n
  | [], _, _, .nil => ⟨.nil, by simp only [toPys, PyData.canLayAll0], by simp only [toPys, PyData.depthAll]; exact Nat.zero_le _⟩
  | x :: xs, _, h, .cons r t => by
    rw [List.all_cons, Bool.and_eq_true] at h
    obtain ⟨a1, a2, a3⟩ := ih x _ h.1 r
    obtain ⟨b1, b2, b3⟩ := rep_dps ih xs _ h.2 t
    refine ⟨.cons a1 b1, by simp only [toPys, PyData.canLayAll0, a2, b2, Bool.and_self], ?_⟩
    simp only [toPys, PyData.depthAll]
    omega
theorem rep_dp : ∀ (n : Nat) (d : D) (v : V), dle n d = true → Rep K H v d → Dp K H v (toPy d) ∧ (toPy d).canLay0 = true ∧ (toPy d).depth ≤ n
  | n, .non, _, _, .non => ⟨.non, by simp only [toPy, PyData.canLay0], by simp only [toPy, PyData.depth]; exact Nat.zero_le _⟩
  | n, .bl _, _, _, .bl _ => ⟨.bl _, by simp only [toPy, PyData.canLay0], by simp only [toPy, PyData.depth]; exact Nat.zero_le _⟩
  | n, .int _, _, _, .int _ => ⟨.int _, by simp only [toPy, PyData.canLay0], by simp only [toPy, PyData.depth]; exact Nat.zero_le _⟩
  | n, .str _, _, _, .str _ h => ⟨.str _, by simp only [toPy, PyData.canLay0]; exact (Bool.and_eq_true_iff.mp h).1, by simp only [toPy, PyData.depth]; exact Nat.zero_le _⟩
  | 0, .tup _, _, h, _ => by simp only [dle, Bool.false_eq_true] at h
  | 0, .lst _, _, h, _ => by simp only [dle, Bool.false_eq_true] at h
  | 0, .dic _, _, h, _ => by simp only [dle, Bool.false_eq_true] at h
  | 0, .frz _, _, h, _ => by simp only [dle, Bool.false_eq_true] at h
  | 0, .opq, _, h, _ => by simp only [dle, Bool.false_eq_true] at h
  | n + 1, .opq, _, h, _ => by simp only [dle, Bool.false_eq_true] at h
  | n + 1, .dic _, _, h, _ => by simp only [dle, Bool.false_eq_true] at h
  | n + 1, .frz _, _, h, _ => by simp only [dle, Bool.false_eq_true] at h
  | n + 1, .tup xs, _, h, .tup hh _ r => by
    obtain ⟨b1, b2, b3⟩ := rep_dps (rep_dp n) xs _ (by simpa only [dle] using h) r
    exact ⟨.tup (SqT.of hh) b1, by simp only [toPy, PyData.canLay0]; exact b2, by simp only [toPy, PyData.depth]; omega⟩
  | n + 1, .lst xs, _, h, .lst hh _ r => by
    obtain ⟨b1, b2, b3⟩ := rep_dps (rep_dp n) xs _ (by simpa only [dle] using h) r
    exact ⟨.lst (SqL.of hh) b1, by simp only [toPy, PyData.canLay0]; exact b2, by simp only [toPy, PyData.depth]; omega⟩
theorem rep_shaped {d : D} {v : V} (h : dle 64 d = true) (r : Rep K H v d) : Dp K H v (toPy d) ∧ SeqAt.shaped (toPy d) = true := by
  obtain ⟨a, b, c⟩ := rep_dp 64 d v h r
  refine ⟨a, ?_⟩
  unfold SeqAt.shaped
  rw [b, decide_eq_true c]; rfl
end
def eqR (a b : D) : R D := match a, b with
  | .frz ns, .lst [] => .ok (.bl ns.isEmpty)
  | a, b => if dle 64 a && dle 64 b then .ok (.bl (eqD a b)) else .bad
def neR (a b : D) : R D := match a, b with
  | .frz ns, .lst [] => .ok (.bl (!ns.isEmpty))
  | a, b => if dle 64 a && dle 64 b then .ok (.bl (!eqD a b)) else .bad

section
variable {X : Cx} {W : WX} {ξ : Str → Value} {e a b : Expr} {c c1 c2 c3 : Bool} {pos : Pos} {fa fb : En → R D}

theorem post_ok {K : PySem.W.Frag} {M : Fm ξ} {σ : L2.St} {env : En} {H0 H : Hp} {Q : VK} {d : D} {v : V} (E : EnvAt K M H0 H σ env) (p : PostE K W ξ M σ env c H0 H Q (.ok d)) (r : Rep K H0 v d) : Q v H := p v H0 H (.refl E) (.of r)
theorem intsPy : ∀ ns : List Int, (PyData.list (ns.map PyData.int)).canLay0 = true ∧ (PyData.list (ns.map PyData.int)).depth ≤ 64 := by
  intro ns
  have h : PyData.canLayAll0 (ns.map PyData.int) = true ∧ PyData.depthAll (ns.map PyData.int) ≤ 0 := by
    induction ns with
    | nil => exact ⟨by simp only [List.map_nil, PyData.canLayAll0], by simp only [List.map_nil, PyData.depthAll]; exact Nat.le_refl _⟩
    | cons n ns ih => exact ⟨by simp only [List.map_cons, PyData.canLayAll0, PyData.canLay0, ih.1, Bool.and_self], by simp only [List.map_cons, PyData.depthAll, PyData.depth]; omega⟩
  exact ⟨by simp only [PyData.canLay0]; exact h.1, by simp only [PyData.depth]; omega⟩
theorem ints_dp {K : PySem.W.Frag} {H : Hp} : ∀ ns : List Int, DpAll K H (ns.map V.int) (ns.map PyData.int)
  | [] => .nil
  | n :: ns => .cons (.int n) (ints_dp ns)
def boolR : D → R Bool
  | .bl b => .ok b
  | _ => .bad
def tBin (f : D → D → R D) (A B : En → R D) : En → R Bool := fun env => A env >>= fun x => B env >>= fun y => f x y >>= boolR
def CmpD (X : Cx) (W : WX) (ξ : Str → Value) (op : CmpOp) (f : D → D → R D) : Prop := ∃ r : R2, OpR X (compareOp op) r ∧
  ∀ {c1 c2 : Bool} {M : Fm ξ} {σ : L2.St} {env : En} {H0 H : Hp} {Q : VK} {x y : V} {d1 d2 : D}, EnvAt X.K M H0 H σ env → RepX c1 X.K H0 H x d1 → RepX c2 X.K H0 H y d2 → PostE X.K W ξ M σ env true H0 H Q (f d1 d2) → r x y H Q
theorem deC {op : CmpOp} {f : D → D → R D} (h : CmpD X W ξ op f) (ha : DE X W ξ c1 a fa) (hb : DE X W ξ c2 b fb) (hm : behindInMarks op b = false := by first | exact nomark _ | rfl) : DE X W ξ true (.Compare a [op] [b] pos) (eBin f fa fb) := by
  obtain ⟨r, ho, hr⟩ := h
  exact de_cmp ho hm ha hb hr
theorem bool_end {K : PySem.W.Frag} {M : Fm ξ} {σ : L2.St} {env : En} {H0 H : Hp} {Q : Bool → Hp → Prop} {d : D} {v : V} (E : EnvAt K M H0 H σ env) (r : RepX c K H0 H v d) (p : PostT K W ξ M σ env H0 H Q (boolR d)) : ∃ k, v = .bl k ∧ Q k H := by
  cases d with
  | bl b => exact ⟨b, r.bl, p H0 H (.refl E)⟩
  | _ => exact p.elim
theorem dtC {op : CmpOp} {f : D → D → R D} (h : CmpD X W ξ op f) (ha : DE X W ξ c1 a fa) (hb : DE X W ξ c2 b fb) (hm : behindInMarks op b = false := by first | exact nomark _ | rfl) : DT X W ξ (.Compare a [op] [b] pos) (tBin f fa fb) := by
  obtain ⟨r, ho, hr⟩ := h
  exact ptImp (pt_cmpR ho ha hb hm) fun σ H Q ⟨M, H0, env, E, p⟩ => ⟨M, H0, env, E, bindE wishT p fun d1 x H1 H2 g1 r1 p1 => ⟨M, H1, env, g1.e, bindE wishT p1 fun d2 y H3 H4 g2 r2 p2 => hr g2.e (r1.mono g2.s0 g2.s) r2
    (bindE (c1 := true) wishT p2 fun d3 z H5 H6 g3 r3 p3 => bool_end g3.e r3 p3)⟩⟩
theorem cm_eq (hu : X.A.units + 64 < cLine) : CmpD X W ξ .Eq eqR := ⟨_, op_eqD hu, fun {c1 c2 M σ env H0 H Q x y d1 d2} E r1 r2 p => by
    unfold eqR at p
    split at p
    · rename_i ns
      obtain ⟨q, rfl, hq⟩ := r1.frz E.same
      obtain ⟨q2, vs, rfl, h2, r3⟩ := r2.lst E.same
      cases r3
      refine ⟨.list (ns.map .int), .list [], .lst hq (ints_dp ns), .lst (SqL.of h2) .nil, ?_, by decide, ?_⟩
      · unfold SeqAt.shaped; rw [(intsPy ns).1, decide_eq_true (intsPy ns).2]; rfl
      · have : PyData.eqv (.list (ns.map .int)) (.list []) = ns.isEmpty := by cases ns <;> simp only [List.map_nil, List.map_cons, PyData.eqv, PyData.eqvAll, List.isEmpty]
        rw [this]
        exact post_ok E p (.bl _)
    · split at p
      · rename_i h
        rw [Bool.and_eq_true] at h
        obtain ⟨p1, q1⟩ := rep_shaped h.1 (r1.rep E.same)
        obtain ⟨p2, q2⟩ := rep_shaped h.2 (r2.rep E.same)
        exact ⟨_, _, p1, p2, q1, q2, by rw [eqv_toPy]; exact post_ok E p (.bl _)⟩
      · exact p.elim⟩
theorem cm_ne (hu : X.A.units + 64 < cLine) : CmpD X W ξ .NotEq neR := ⟨_, op_neD hu, fun {c1 c2 M σ env H0 H Q x y d1 d2} E r1 r2 p => by
    unfold neR at p
    split at p
    · rename_i ns
      obtain ⟨q, rfl, hq⟩ := r1.frz E.same
      obtain ⟨q2, vs, rfl, h2, r3⟩ := r2.lst E.same
      cases r3
      refine ⟨.list (ns.map .int), .list [], .lst hq (ints_dp ns), .lst (SqL.of h2) .nil, ?_, by decide, ?_⟩
      · unfold SeqAt.shaped; rw [(intsPy ns).1, decide_eq_true (intsPy ns).2]; rfl
      · have : PyData.eqv (.list (ns.map .int)) (.list []) = ns.isEmpty := by cases ns <;> simp only [List.map_nil, List.map_cons, PyData.eqv, PyData.eqvAll, List.isEmpty]
        rw [this]
        exact post_ok E p (.bl _)
    · split at p
      · rename_i h
        rw [Bool.and_eq_true] at h
        obtain ⟨p1, q1⟩ := rep_shaped h.1 (r1.rep E.same)
        obtain ⟨p2, q2⟩ := rep_shaped h.2 (r2.rep E.same)
        exact ⟨_, _, p1, p2, q1, q2, by rw [eqv_toPy]; exact post_ok E p (.bl _)⟩
      · exact p.elim⟩
def isN : D → Bool
  | .non => true
  | _ => false
def isR (x y : D) : R D := if isN y = true then .ok (.bl (isN x)) else .bad
def isNotR (x y : D) : R D := if isN y = true then .ok (.bl (!isN x)) else .bad
def addR : D → D → R D
  | .int i, .int j => .ok (.int (i + j))
  | .str s, .str t => if s.length + t.length ≤ sizeLine then .ok (.str (s ++ t)) else .bad
  | .lst xs, .lst ys => if xs.length + ys.length ≤ sizeLine then .ok (.lst (xs ++ ys)) else .bad
  | .tup xs, .tup ys => if xs.length + ys.length ≤ sizeLine then .ok (.tup (xs ++ ys)) else .bad
  | _, _ => .bad
def subR : D → D → R D
  | .int i, .int j => .ok (.int (i - j))
  | _, _ => .bad
def modR : D → D → R D
  | .int i, .int j => if 0 < j then .ok (.int (i % j)) else .bad
  | _, _ => .bad
def divR : D → D → R D
  | .int i, .int j => if 0 < j ∧ j < 1073741824 then .ok (.int (i / j)) else .bad
  | _, _ => .bad
def ltR : D → D → R D
  | .int i, .int j => .ok (.bl (decide (i < j)))
  | .str i, .str j => .ok (.bl (decide (i.cps.toList < j.cps.toList)))
  | _, _ => .bad
def leR : D → D → R D
  | .int i, .int j => .ok (.bl (decide (i ≤ j)))
  | _, _ => .bad
def gtR : D → D → R D
  | .int i, .int j => .ok (.bl (decide (j < i)))
  | _, _ => .bad
theorem de_sub (ha : DE X W ξ c1 a fa) (hb : DE X W ξ c2 b fb) : DE X W ξ true (.BinOp a .Sub b pos) (eBin subR fa fb) :=
  de_op op_sub ha hb fun {M σ env H0 H Q x y d1 d2} E r1 r2 p => by
    unfold subR at p
    split at p
    · exact ⟨_, _, r1.int, r2.int, post_ok E p (.int _)⟩
    · exact p.elim
theorem de_mod (ha : DE X W ξ c1 a fa) (hb : DE X W ξ c2 b fb) : DE X W ξ true (.BinOp a .Mod b pos) (eBin modR fa fb) :=
  de_op op_mod ha hb fun {M σ env H0 H Q x y d1 d2} E r1 r2 p => by
    unfold modR at p
    split at p
    · split at p
      · rename_i h
        exact ⟨_, _, r1.int, r2.int, h, post_ok E p (.int _)⟩
      · exact p.elim
    · exact p.elim
theorem de_div (ha : DE X W ξ c1 a fa) (hb : DE X W ξ c2 b fb) : DE X W ξ true (.BinOp a .FloorDiv b pos) (eBin divR fa fb) :=
  de_op op_fdiv ha hb fun {M σ env H0 H Q x y d1 d2} E r1 r2 p => by
    unfold divR at p
    split at p
    · split at p
      · rename_i h
        exact ⟨_, _, r1.int, r2.int, h, post_ok E p (.int _)⟩
      · exact p.elim
    · exact p.elim
theorem cm_lt : CmpD X W ξ .Lt ltR := ⟨_, OpR.or op_lt op_lt_str, fun {c1 c2 M σ env H0 H Q x y d1 d2} E r1 r2 p => by
    unfold ltR at p
    split at p
    · exact .inl ⟨_, _, r1.int, r2.int, post_ok E p (.bl _)⟩
    · exact .inr ⟨_, _, r1.str, r2.str, post_ok E p (.bl _)⟩
    · exact p.elim⟩
theorem cm_le : CmpD X W ξ .LtE leR := ⟨_, op_le, fun {c1 c2 M σ env H0 H Q x y d1 d2} E r1 r2 p => by
    unfold leR at p
    split at p
    · exact ⟨_, _, r1.int, r2.int, post_ok E p (.bl _)⟩
    · exact p.elim⟩
theorem cm_gt : CmpD X W ξ .Gt gtR := ⟨_, op_gt, fun {c1 c2 M σ env H0 H Q x y d1 d2} E r1 r2 p => by
    unfold gtR at p
    split at p
    · exact ⟨_, _, r1.int, r2.int, post_ok E p (.bl _)⟩
    · exact p.elim⟩
theorem sOk_append {s t : Str} (h : sOk s = true) (h' : sOk t = true) (hz : s.length + t.length ≤ sizeLine) : sOk (s ++ t) = true := by
  unfold sOk at *
  rw [Bool.and_eq_true] at *
  refine ⟨?_, decide_eq_true ?_⟩
  · have h1 := h.1
    have h2 := h'.1
    unfold PyData.strOk at *
    show (s.cps ++ t.cps).all _ = true
    rw [Array.all_append, h1, h2]; rfl
  · rw [sizeLine_eq] at hz
    show (s.cps ++ t.cps).size ≤ _
    rw [Array.size_append]
    exact hz
theorem RepX.sok {K : PySem.W.Frag} {H0 H : Hp} {v : V} {s : Str} (r : RepX c K H0 H v (.str s)) : sOk s = true := by
  rcases r.b with r | ⟨_, _, _, _, e, _⟩ | ⟨_, _, _, _, e, _⟩
  · cases r with | str _ h => exact h
  · cases e
  · cases e
theorem RepX.slen {K : PySem.W.Frag} {H0 H : Hp} {v : V} {s : Str} (r : RepX c K H0 H v (.str s)) : s.length ≤ sizeLine := by
  rw [sizeLine_eq]
  exact of_decide_eq_true (Bool.and_eq_true_iff.mp r.sok).2
end
end Dx

namespace Dx
open PySem PySem.Spec PyProof.Rows L2
section
variable {X : Cx} {W : WX} {ξ : Str → Value} {e a b : Expr} {es : List Expr} {c c1 c2 c3 : Bool} {pos : Pos} {fa fb : En → R D}
variable {K : PySem.W.Frag} {M : Fm ξ} {σ : L2.St} {env : En} {H0 H : Hp} {Q : VK}

theorem post_new {o : HO} {d : D} (E : EnvAt K M H0 H σ env) (p : PostE K W ξ M σ env c H0 H Q (.ok d)) (r : ∀ q, H q = none → Rep K (upd H0 q o) (.ref q) d) : ∀ q, H q = none → Q (.ref q) (upd H q o) :=
  fun q hq => p (.ref q) _ _ (E.new hq) (.of (r q hq))
theorem new_lst {vs : List V} {xs : List D} (E : EnvAt K M H0 H σ env) (p : PostE K W ξ M σ env c H0 H Q (.ok (.lst xs))) (z : xs.length ≤ sizeLine) (r : RepAll K H0 vs xs) : ∀ q, H q = none → Q (.ref q) (upd H q (.lst vs)) :=
  post_new E p fun q hq => .lst upd_same z (r.mono (same_upd (E.same.free hq)))
theorem new_tup {vs : List V} {xs : List D} (E : EnvAt K M H0 H σ env) (p : PostE K W ξ M σ env c H0 H Q (.ok (.tup xs))) (z : xs.length ≤ sizeLine) (r : RepAll K H0 vs xs) : ∀ q, H q = none → Q (.ref q) (upd H q (.tup vs)) :=
  post_new E p fun q hq => .tup upd_same z (r.mono (same_upd (E.same.free hq)))
def OpD (X : Cx) (W : WX) (ξ : Str → Value) (op : Operator) (f : D → D → R D) : Prop := ∃ r : R2, OpR X (binaryOp op) r ∧
  ∀ {c1 c2 : Bool} {M : Fm ξ} {σ : L2.St} {env : En} {H0 H : Hp} {Q : VK} {x y : V} {d1 d2 : D}, EnvAt X.K M H0 H σ env → RepX c1 X.K H0 H x d1 → RepX c2 X.K H0 H y d2 → PostE X.K W ξ M σ env true H0 H Q (f d1 d2) → r x y H Q
theorem od_add : OpD X W ξ .Add addR :=
  ⟨_, (OpR.or op_add (OpR.or op_add_str (OpR.or op_cat op_catA))), fun {c1 c2 M σ env H0 H Q x y d1 d2} E r1 r2 p => by
    unfold addR at p
    split at p
    · exact .inl ⟨_, _, r1.int, r2.int, post_ok E p (.int _)⟩
    · split at p
      · rename_i h
        exact .inr (.inl ⟨_, _, r1.str, r2.str, h, post_ok E p (.str _ (sOk_append r1.sok r2.sok h))⟩)
      · exact p.elim
    · split at p
      · rename_i h
        obtain ⟨q1, vs, rfl, h1, r3⟩ := r1.lst E.same
        obtain ⟨q2, ws, rfl, h2, r4⟩ := r2.lst E.same
        exact .inr (.inr (.inl ⟨_, _, _, _, rfl, rfl, h1, h2, by rw [r3.length, r4.length]; exact h, new_lst E p (by rw [List.length_append]; exact h) (r3.append r4)⟩))
      · exact p.elim
    · split at p
      · rename_i h
        obtain ⟨q1, vs, rfl, h1, r3⟩ := r1.tup
        obtain ⟨q2, ws, rfl, h2, r4⟩ := r2.tup
        have z1 := r1.tupLen
        have z2 := r2.tupLen
        refine .inr (.inr (.inr ⟨_, _, vs, ws, rfl, rfl, SqT.of (E.same _ _ h1), SqT.of (E.same _ _ h2), by rw [r3.length, r4.length]; exact h, fun z => ?_, fun z1 z => ?_, fun _ _ => new_tup E p (by rw [List.length_append]; exact h) (r3.append r4)⟩))
        · subst z
          cases r3
          exact post_ok E p (.tup h2 z2 r4)
        · subst z
          cases r4
          rw [List.append_nil] at p
          exact post_ok E p (.tup h1 (by assumption) r3)
      · exact p.elim
    · exact p.elim⟩
theorem de_add (ha : DE X W ξ c1 a fa) (hb : DE X W ξ c2 b fb) : DE X W ξ true (.BinOp a .Add b pos) (eBin addR fa fb) := by
  obtain ⟨r, ho, hr⟩ := od_add (X := X) (W := W) (ξ := ξ)
  exact de_op ho ha hb hr
def mulR : D → D → R D
  | .int i, .int j => if (-(2 ^ 64) < i ∧ i < 2 ^ 64) ∨ (-(2 ^ 64) < j ∧ j < 2 ^ 64) then .ok (.int (i * j)) else .bad
  | .lst xs, .int k => if -(2 ^ 63) ≤ k ∧ k < 2 ^ 63 ∧ xs.length * k.toNat ≤ sizeLine then .ok (.lst (List.replicate k.toNat xs).flatten) else .bad
  | .tup xs, .int k => if xs ≠ [] ∧ 2 ≤ k ∧ k ≤ 1000 ∧ xs.length ≤ 1000 then .ok (.tup (List.replicate k.toNat xs).flatten) else .bad
  | _, _ => .bad
theorem RepAll.rep {vs : List V} {xs : List D} (r : RepAll K H vs xs) : ∀ n : Nat, RepAll K H (List.replicate n vs).flatten (List.replicate n xs).flatten
  | 0 => .nil
  | n + 1 => by
    rw [List.replicate_succ, List.replicate_succ, List.flatten_cons, List.flatten_cons]
    exact r.append (RepAll.rep r n)
theorem RepAll.nil_iff {vs : List V} {xs : List D} (r : RepAll K H vs xs) : vs = [] ↔ xs = [] := by
  cases r <;> simp
theorem rep_len {α : Type} (xs : List α) : ∀ n : Nat, (List.replicate n xs).flatten.length = xs.length * n
  | 0 => by simp
  | n + 1 => by rw [List.replicate_succ, List.flatten_cons, List.length_append, rep_len xs n, Nat.mul_succ, Nat.add_comm]
theorem de_mul (ha : DE X W ξ c1 a fa) (hb : DE X W ξ c2 b fb) : DE X W ξ true (.BinOp a .Mult b pos) (eBin mulR fa fb) :=
  de_op (OpR.or op_mul (OpR.or op_rep op_repT)) ha hb fun {M σ env H0 H Q x y d1 d2} E r1 r2 p => by
    unfold mulR at p
    split at p
    · split at p
      · rename_i h
        exact .inl ⟨_, _, r1.int, r2.int, h, post_ok E p (.int _)⟩
      · exact p.elim
    · split at p
      · rename_i h
        obtain ⟨q1, vs, rfl, h1, r3⟩ := r1.lst E.same
        exact .inr (.inl ⟨_, _, _, rfl, r2.int, h1, h.1, h.2.1, by rw [r3.length]; exact h.2.2, new_lst E p (by rw [rep_len]; exact h.2.2) (r3.rep _)⟩)
      · exact p.elim
    · split at p
      · rename_i h
        obtain ⟨q1, vs, rfl, h1, r3⟩ := r1.tup
        exact .inr (.inr ⟨_, _, _, rfl, r2.int, SqT.of (E.same _ _ h1), fun z => h.1 (r3.nil_iff.mp z), h.2.1, h.2.2.1, by rw [r3.length]; exact h.2.2.2, new_tup E p (by
          rw [rep_len, sizeLine_eq]
          have h1 : (_ : Int).toNat ≤ 1000 := Int.toNat_le.mpr h.2.2.1
          exact Nat.le_trans (Nat.mul_le_mul h.2.2.2 h1) (by decide)) (r3.rep _)⟩)
      · exact p.elim
    · exact p.elim

def keyOf : D → Option Key
  | .int i => some (.inl i)
  | .str s => some (.inr s)
  | _ => none
def valD (kvs : List (Key × D)) (k : Key) : Option D := (kvs.find? fun kv => decide (kv.1 = k)).map (·.2)
theorem RepKv.val {vs : List (Key × V)} {xs : List (Key × D)} (r : RepKv K H vs xs) (k : Key) : (valV vs k = none ∧ valD xs k = none) ∨ ∃ v x, valV vs k = some v ∧ valD xs k = some x ∧ Rep K H v x := by
  induction vs generalizing xs with
  | nil => cases r; exact .inl ⟨rfl, rfl⟩
  | cons p vs ih =>
    cases r with
    | @cons k' v _ x xs' _ q t =>
      by_cases e : k' = k
      · refine .inr ⟨v, x, ?_, ?_, q⟩
        · exact valV_pos (p := (k', v)) e
        · simp [valD, List.find?_cons, e]
      · rcases ih t with ⟨h1, h2⟩ | ⟨w', y, h1, h2, h3⟩
        · refine .inl ⟨by rw [valV_neg (p := (k', v)) e]; exact h1, ?_⟩
          simpa [valD, List.find?_cons, e] using h2
        · refine .inr ⟨w', y, by rw [valV_neg (p := (k', v)) e]; exact h1, ?_, h3⟩
          simpa [valD, List.find?_cons, e] using h2
theorem keyOf_v {k : Key} {d : D} {v : V} (h : keyOf d = some k) (r : RepX c K H0 H v d) : v = kV k ∧ keyOk k = true := by
  cases d with
  | int i => cases h; exact ⟨r.int, rfl⟩
  | str s => cases h; exact ⟨r.str, r.sok⟩
  | _ => cases h
def ixR : D → D → R D
  | .lst xs, .int i => match atI xs i with
    | some x => .ok x
    | none => .bad
  | .tup xs, .int i => match atI xs i with
    | some x => .ok x
    | none => .bad
  | .str z, .int i => match atI z.cps.toList i with
    | some x => .ok (.str ⟨#[x]⟩)
    | none => .bad
  | .frz ns, .int i => match atI ns i with
    | some n => .ok (.int n)
    | none => .bad
  | .dic kvs, y => match keyOf y with
    | some k => (match valD kvs k with
      | some x => .ok x
      | none => .bad)
    | none => .bad
  | _, _ => .bad
theorem ix_dict (hu : X.A.units + 1 < cLine) : IxR X (fun x y H Q => ∃ a v, x = .ref a ∧ DGet H a y (some v) ∧ Q v H) := by
  intro value slice pins s σ H x y v u Q I rx ry h hs
  obtain ⟨a, z, rfl, g, q⟩ := h
  cases rx
  exact tail_any (dict_typeIs I g) PySem.F.slot_dict_getitem.lookup (d_getItem hu I g ry fun w' s' I' r => ⟨z, H, I', r, q⟩) hs
theorem atI_rep {vs : List V} {xs : List D} (r : RepAll K H vs xs) {i : Int} {x : D} (h : atI xs i = some x) : ∃ v, atI vs i = some v ∧ Rep K H v x := by
  unfold atI at h ⊢
  rw [r.length]
  cases e : ixN xs.length i with
  | none => rw [e] at h; cases h
  | some j => rw [e] at h; exact r.get h
theorem strOk_get {s : Str} {c : Nat} (h : sOk s = true) (hc : c ∈ s.cps.toList) : sOk ⟨#[c]⟩ = true := by
  unfold sOk at *
  rw [Bool.and_eq_true] at h ⊢
  refine ⟨?_, decide_eq_true (show 1 ≤ 16777216 by decide)⟩
  replace h := h.1
  unfold PyData.strOk at *
  rw [Array.all_eq_true_iff_forall_mem] at h
  have := h c (by simpa using hc)
  simpa using this
theorem atI_mem {α : Type} {xs : List α} {i : Int} {x : α} (h : atI xs i = some x) : x ∈ xs := by
  unfold atI at h
  cases e : ixN xs.length i with
  | none => rw [e] at h; cases h
  | some j => rw [e] at h; exact List.mem_of_getElem? h
def IxD (X : Cx) (W : WX) (ξ : Str → Value) : Prop := ∃ r : R2, IxR X r ∧
  ∀ {c1 c2 : Bool} {M : Fm ξ} {σ : L2.St} {env : En} {H0 H : Hp} {Q : VK} {x y : V} {d1 d2 : D}, EnvAt X.K M H0 H σ env → RepX c1 X.K H0 H x d1 → RepX c2 X.K H0 H y d2 → PostE X.K W ξ M σ env true H0 H Q (ixR d1 d2) → r x y H Q
theorem ixD (hu : X.A.units + 1 < cLine) : IxD X W ξ :=
  ⟨_, (ix_list.or (ix_tup.or (ix_str.or (ix_dict hu)))), fun {c1 c2 M σ env H0 H Q x y d1 d2} E r1 r2 p2 => by
    unfold ixR at p2
    split at p2
    · split at p2
      · rename_i h
        obtain ⟨q1, vs, rfl, h1, r3⟩ := r1.lst E.same
        obtain ⟨v, hv, rv⟩ := atI_rep r3 h
        exact .inl ⟨_, _, _, v, rfl, r2.int, SqL.of h1, hv, post_ok E p2 rv⟩
      · exact p2.elim
    · split at p2
      · rename_i h
        obtain ⟨q1, vs, rfl, h1, r3⟩ := r1.tup
        obtain ⟨v, hv, rv⟩ := atI_rep r3 h
        exact .inr (.inl ⟨_, _, _, v, rfl, r2.int, SqT.of (E.same _ _ h1), hv, post_ok E p2 rv⟩)
      · exact p2.elim
    · split at p2
      · rename_i h
        exact .inr (.inr (.inl ⟨_, _, _, r1.str, r2.int, r1.slen, h, post_ok E p2 (.str _ (strOk_get r1.sok (atI_mem h)))⟩))
      · exact p2.elim
    · split at p2
      · rename_i ns i o n h
        obtain ⟨q1, rfl, h1⟩ := r1.frz E.same
        refine .inl ⟨_, _, _, .int n, rfl, r2.int, h1, ?_, post_ok E p2 (.int _)⟩
        unfold atI at h ⊢
        rw [List.length_map]
        cases e : ixN ns.length i with
        | none => rw [e] at h; cases h
        | some j =>
          rw [e] at h
          have h : ns[j]? = some n := h
          show (ns.map V.int)[j]? = _
          rw [List.getElem?_map, h]; rfl
      · exact p2.elim
    · split at p2
      · rename_i k hk
        split at p2
        · rename_i x hx
          obtain ⟨q1, vs, rfl, h1, r3⟩ := r1.dic E.same
          obtain ⟨ey, _⟩ := keyOf_v hk r2
          rcases r3.val k with ⟨z1, z2⟩ | ⟨v, x', z1, z2, z3⟩
          · rw [hx] at z2; cases z2
          · rw [hx] at z2; cases z2
            refine .inr (.inr (.inr ⟨_, v, rfl, ?_, post_ok E p2 z3⟩))
            rw [ey, ← z1]
            exact DGetR h1
        · exact p2.elim
      · exact p2.elim
    · exact p2.elim⟩
theorem de_ix (hu : X.A.units + 1 < cLine) (hs : PlainIx b) (ha : DE X W ξ c1 a fa) (hb : DE X W ξ c2 b fb) : DE X W ξ true (.Subscript a b pos) (eBin ixR fa fb) := by
  obtain ⟨r, ho, hr⟩ := ixD (X := X) (W := W) (ξ := ξ) hu
  exact peImp (pe_ix ho ha hb hs) fun σ H Q ⟨M, H0, env, E, p⟩ => ⟨M, H0, env, E, bindE wishE p fun d1 x H1 H2 g1 r1 p1 => ⟨M, H1, env, g1.e, bindE wishE p1 fun d2 y H3 H4 g2 r2 p2 => hr g2.e (r1.mono g2.s0 g2.s) r2 p2⟩⟩

def PostO (K : PySem.W.Frag) (W : WX) (ξ : Str → Value) (M : Fm ξ) (σ : L2.St) (env : En) (H0 H : Hp) (Q : Option Int → Hp → Prop) : R (Option Int) → Prop
  | .ok b => ∀ H0' H', Gr K M σ env H0 H H0' H' → Q b H'
  | .exc x => ∀ H0' H', Gr K M σ env H0 H H0' H' → W (ξ x) none σ H'
  | .bad => False
def tDO (K : PySem.W.Frag) (W : WX) (ξ : Str → Value) (F : En → R (Option Int)) : TO := fun σ H Q => ∃ M H0 env, EnvAt K M H0 H σ env ∧ PostO K W ξ M σ env H0 H Q (F env)
abbrev DO (X : Cx) (W : WX) (ξ : Str → Value) (e : Option Expr) (F : En → R (Option Int)) : Prop := PO X e (tDO X.K W ξ F)
def optR : D → R (Option Int)
  | .int i => .ok (some i)
  | _ => .bad
theorem poImp {e : Option Expr} {t t' : TO} (h : PO X e t) (hi : ∀ σ H Q, t' σ H Q → t σ H Q) : PO X e t' := ⟨fun pins s σ H Q I w => h.run pins s σ H Q I (hi _ _ _ w)⟩
theorem bindO {β : Type} {P : Hp → Hp → R β → Prop} (w : Wish K W ξ M σ env P) {x : R (Option Int)} {k : Option Int → R β} {Q1 : Option Int → Hp → Prop} (p : P H0 H (x >>= k)) (h : ∀ a H0' H', Gr K M σ env H0 H H0' H' → P H0' H' (k a) → Q1 a H') : PostO K W ξ M σ env H0 H Q1 x := by
  cases x with
  | ok d => exact fun H0' H' g => h d H0' H' g (w.weak g p)
  | exc x => exact fun H0' H' g => w.exc p H0' H' g
  | bad => exact w.bad p
theorem PostO.weak {x : R (Option Int)} {Q : Option Int → Hp → Prop} {H0' H' : Hp} (g : Gr K M σ env H0 H H0' H') (p : PostO K W ξ M σ env H0 H Q x) : PostO K W ξ M σ env H0' H' Q x := by
  cases x with
  | ok d => exact fun H02 H2 g2 => p H02 H2 (g.trans g2)
  | exc x => exact fun H02 H2 g2 => p H02 H2 (g.trans g2)
  | bad => exact p
theorem wishO {Q : Option Int → Hp → Prop} : Wish K W ξ M σ env (fun H0 H => PostO K W ξ M σ env H0 H Q) := ⟨PostO.weak, fun p => p, fun p => p⟩
def oNone : En → R (Option Int) := fun _ => .ok none
theorem do_none : DO X W ξ none oNone := poImp po_none fun σ H Q ⟨M, H0, env, E, p⟩ => p H0 H (.refl E)
theorem do_some (h : DE X W ξ c e fa) : DO X W ξ (some e) (eUn optR fa) := poImp (po_some h) fun σ H Q ⟨M, H0, env, E, p⟩ => ⟨M, H0, env, E, bindE wishO p fun d x H1 H2 g r p1 => by
  unfold optR at p1
  split at p1
  · exact ⟨_, r.int, p1 H1 H2 (.refl g.e)⟩
  · exact p1.elim⟩
def cutL {α : Type} (xs : List α) (lo hi : Option Int) : List α := (xs.drop (HT.sIx xs.length 0 lo)).take (HT.sIx xs.length xs.length hi - HT.sIx xs.length 0 lo)
def sliceR : D → Option Int → Option Int → R D
  | .lst xs, lo, hi => .ok (.lst (cutL xs lo hi))
  | .tup xs, lo, hi => .ok (.tup (cutL xs lo hi))
  | .str z, lo, hi => .ok (.str (cutS z lo hi))
  | _, _, _ => .bad
def eSlice (A : En → R D) (l h : En → R (Option Int)) : En → R D := fun env => A env >>= fun x => l env >>= fun l => h env >>= fun h => sliceR x l h
theorem RepAll.cut {vs : List V} {xs : List D} (r : RepAll K H vs xs) (lo hi : Option Int) : RepAll K H (cutV vs lo hi) (cutL xs lo hi) := by
  unfold cutV cutL
  rw [r.length]
  exact (r.drop _).take _
theorem cutL_whole {α : Type} {xs : List α} {lo hi : Option Int} (h1 : HT.sIx xs.length 0 lo = 0) (h2 : HT.sIx xs.length xs.length hi = xs.length) : cutL xs lo hi = xs := by
  unfold cutL; rw [h1, h2]; simp
theorem cutL_len {α : Type} (xs : List α) (lo hi : Option Int) : (cutL xs lo hi).length ≤ xs.length := by
  unfold cutL
  rw [List.length_take, List.length_drop]
  omega
theorem strOk_cut {s : Str} {lo hi : Option Int} (h : sOk s = true) : sOk (cutS s lo hi) = true := by
  unfold sOk at *
  rw [Bool.and_eq_true] at h ⊢
  refine ⟨?_, ?_⟩
  · replace h := h.1
    unfold PyData.strOk at *
    rw [Array.all_eq_true_iff_forall_mem] at h ⊢
    intro x hx
    apply h x
    have : x ∈ (cutS s lo hi).cps.toList := by simpa using hx
    unfold cutS at this
    have := List.mem_of_mem_drop (List.mem_of_mem_take (by simpa using this))
    simpa using this
  · exact decide_eq_true (Nat.le_trans (cutS_length s lo hi) (of_decide_eq_true h.2))
def SlD (X : Cx) (W : WX) (ξ : Str → Value) : Prop := ∃ r : V → Option Int → Option Int → Hp → VK → Prop, SlR X r ∧
  ∀ {c1 : Bool} {M : Fm ξ} {σ : L2.St} {env : En} {H0 H : Hp} {Q : VK} {x : V} {d1 : D} {l h : Option Int}, EnvAt X.K M H0 H σ env → RepX c1 X.K H0 H x d1 → PostE X.K W ξ M σ env true H0 H Q (sliceR d1 l h) → r x l h H Q
theorem slD : SlD X W ξ :=
  ⟨_, (SlR.or sl_list (SlR.or sl_tupA sl_str)), fun {c1 M σ env H0 H Q x d1 l h} E r1 p3 => by
    unfold sliceR at p3
    split at p3
    · obtain ⟨q1, vs, rfl, h1, r3⟩ := r1.lst E.same
      exact .inl ⟨_, _, rfl, SqL.of h1, new_lst E p3 (Nat.le_trans (cutL_len _ _ _) r1.lstLen) (r3.cut _ _)⟩
    · have z1 := r1.tupLen
      obtain ⟨q1, vs, rfl, h1, r3⟩ := r1.tup
      refine .inr (.inl ⟨_, _, rfl, SqT.of (E.same _ _ h1), fun z => ?_, fun _ => new_tup E p3 (Nat.le_trans (cutL_len _ _ _) z1) (r3.cut _ _)⟩)
      rw [r3.length] at z
      rw [cutL_whole z.1 z.2] at p3
      exact post_ok E p3 (.tup h1 z1 r3)
    · exact .inr (.inr ⟨_, r1.str, r1.slen, post_ok E p3 (.str _ (strOk_cut r1.sok))⟩)
    · exact p3.elim⟩
theorem de_slice {lo hi : Option Expr} {p2 : Pos} {fl fh : En → R (Option Int)} (ha : DE X W ξ c1 a fa) (hl : DO X W ξ lo fl) (hh : DO X W ξ hi fh) :
    DE X W ξ true (.Subscript a (.Slice lo hi none p2) pos) (eSlice fa fl fh) := by
  obtain ⟨r, ho, hr⟩ := slD (X := X) (W := W) (ξ := ξ)
  exact peImp (pe_slice ho ha hl hh) fun σ H Q ⟨M, H0, env, E, p⟩ => ⟨M, H0, env, E, bindE wishE p fun d1 x H1 H2 g1 r1 p1 => ⟨M, H1, env, g1.e, bindO wishE p1 fun l H3 H4 g2 p2 => ⟨M, H3, env, g2.e, bindO wishE p2 fun h H5 H6 g3 p3 => hr g3.e ((r1.mono g2.s0 g2.s).mono g3.s0 g3.s) p3⟩⟩⟩
def negR : D → R D
  | .int i => .ok (.int (-i))
  | _ => .bad
theorem de_neg (ha : DE X W ξ c1 a fa) : DE X W ξ true (.UnaryOp .USub a pos) (eUn negR fa) :=
  peImp (pe_un un_neg ha) fun σ H Q ⟨M, H0, env, E, p⟩ => ⟨M, H0, env, E, bindE wishE p fun d1 x H1 H2 g1 r1 p1 => by
    unfold negR at p1
    split at p1
    · exact ⟨_, r1.int, post_ok g1.e p1 (.int _)⟩
    · exact p1.elim⟩
end
end Dx

namespace Dx
open PySem PySem.Spec PyProof.Rows L2
section
variable {X : Cx} {W : WX} {ξ : Str → Value} {e a b : Expr} {es : List Expr} {c c1 c2 c3 : Bool} {pos : Pos} {fa fb : En → R D}
variable {K : PySem.W.Frag} {M : Fm ξ} {σ : L2.St} {env : En} {H0 H : Hp} {Q : VK}

def scal0 : D → Bool
  | .non => true
  | .bl _ => true
  | .int _ => true
  | .str _ => true
  | _ => false
theorem scal_flat {d : D} {v : V} (h : scal0 d = true) (r : Rep K H v d) : flatV v = true := by
  cases r <;> first | rfl | cases h
theorem scal_eq {d e : D} {v w : V} (h : scal0 d = true) (h' : scal0 e = true) (r : Rep K H v d) (q : Rep K H w e) : eqV v w = eqD d e := by
  cases r <;> cases q <;> first | (simp only [eqV, eqD]; done) | cases h | cases h'
theorem scal_all : ∀ {xs : List D} {vs : List V}, xs.all scal0 = true → RepAll K H vs xs → vs.all flatV = true
  | _, _, _, .nil => rfl
  | _, _, h, .cons r t => by
    rw [List.all_cons, Bool.and_eq_true] at h
    rw [List.all_cons, scal_flat h.1 r, scal_all h.2 t]; rfl
theorem scal_any {d : D} {v : V} (h : scal0 d = true) (r : Rep K H v d) : ∀ {xs : List D} {vs : List V}, xs.all scal0 = true → RepAll K H vs xs → inV v vs = xs.any fun z => eqD z d
  | _, _, _, .nil => rfl
  | _, _, h', .cons q t => by
    rw [List.all_cons, Bool.and_eq_true] at h'
    have := scal_any h r h'.2 t
    unfold inV at this ⊢
    rw [List.any_cons, List.any_cons, scal_eq h'.1 h q r, this]
def inB (a b : D) : R Bool := match b with
  | .str z => (match a with
    | .str s => (match s.cps.toList with
      | [c] => .ok (decide (c ∈ z.cps.toList))
      | _ => .bad)
    | _ => .bad)
  | .lst xs => if dle 64 a && dle 64 (.lst xs) then .ok (xs.any fun z => eqD z a) else .bad
  | .tup xs => if scal0 a && xs.all scal0 then .ok (xs.any fun z => eqD z a) else if dle 64 a && dle 64 (.tup xs) then .ok (xs.any fun z => eqD z a) else .bad
  | .dic kvs => (match keyOf a with
    | some k => .ok (valD kvs k).isSome
    | none => .bad)
  | _ => .bad
def inR (a b : D) : R D := inB a b >>= fun k => .ok (.bl k)
def notInR (a b : D) : R D := inB a b >>= fun k => .ok (.bl (!k))
theorem any_toPys (d : D) : ∀ xs : List D, ((toPys xs).any fun z => PyData.eqv z (toPy d)) = xs.any fun z => eqD z d
  | [] => rfl
  | x :: xs => by rw [toPys, List.any_cons, List.any_cons, eqv_toPy, any_toPys d xs]
theorem RepKv.isSome {vs : List (Key × V)} {xs : List (Key × D)} (r : RepKv K H vs xs) (k : Key) : (valV vs k).isSome = (valD xs k).isSome := by
  rcases r.val k with ⟨z1, z2⟩ | ⟨v, x', z1, z2, z3⟩
  · rw [z1, z2]; rfl
  · rw [z1, z2]; rfl
theorem op_din (hu : X.A.units + 65 < cLine) : OpR X (compareOp .In) (fun y x H Q => ∃ a o, x = .ref a ∧ DGet H a y o ∧ Q (.bl o.isSome) H) := by
  intro pins s σ H y x v u Q I ry rx h
  obtain ⟨a, o, rfl, g, q⟩ := h
  cases rx
  exact d_in (by omega) I g ry fun s' I' => ⟨.bl o.isSome, H, I', rfl, q⟩
theorem op_dnotin (hu : X.A.units + 65 < cLine) : OpR X (compareOp .NotIn) (fun y x H Q => ∃ a o, x = .ref a ∧ DGet H a y o ∧ Q (.bl (!o.isSome)) H) := by
  intro pins s σ H y x v u Q I ry rx h
  obtain ⟨a, o, rfl, g, q⟩ := h
  cases rx
  exact d_notIn (by omega) I g ry fun s' I' => ⟨.bl (!o.isSome), H, I', rfl, q⟩
theorem str1 {s : Str} {c : Nat} (h : s.cps.toList = [c]) : s = ⟨#[c]⟩ := by
  cases s with
  | mk cps =>
    have h : cps.toList = [c] := h
    have : cps = #[c] := by rw [← Array.toArray_toList (xs := cps), h]
    rw [this]
def rInDT (K : PySem.W.Frag) (neg : Bool) : R2 := fun x y H Q => ∃ d ds, Dp K H x d ∧ Dp K H y (.tuple ds) ∧ SeqAt.shaped d = true ∧ SeqAt.shaped (.tuple ds) = true ∧ Q (.bl (if neg = true then !(ds.any fun z => PyData.eqv z d) else ds.any fun z => PyData.eqv z d)) H
theorem op_inDT (hu : X.A.units + 65 < cLine) : OpR X (compareOp .In) (rInDT X.K false) := fun pins s σ H x y v u Q I rx ry ⟨d, ds, hd, he, sd, se, q⟩ => by
  obtain ⟨_, r1⟩ := Dp.reads I d x v hd rx
  obtain ⟨_, r2⟩ := Dp.reads I (.tuple ds) y u he ry
  exact SeqAt.in_tuple_reads r2 r1 (SeqAt.canLay_of_shaped se) (SeqAt.canLay_of_shaped sd) (room_in_shaped sd hu) ⟨.bl _, H, I, rfl, q⟩
theorem op_notInDT (hu : X.A.units + 65 < cLine) : OpR X (compareOp .NotIn) (rInDT X.K true) := fun pins s σ H x y v u Q I rx ry ⟨d, ds, hd, he, sd, se, q⟩ => by
  obtain ⟨_, r1⟩ := Dp.reads I d x v hd rx
  obtain ⟨_, r2⟩ := Dp.reads I (.tuple ds) y u he ry
  exact SeqAt.notIn_tuple_reads r2 r1 (SeqAt.canLay_of_shaped se) (SeqAt.canLay_of_shaped sd) (room_in_shaped sd hu) ⟨.bl _, H, I, rfl, q⟩
theorem cm_in (hu : X.A.units + 65 < cLine) : CmpD X W ξ .In inR := ⟨_, OpR.or op_in_sign (OpR.or (op_inD hu) (OpR.or op_in_seq (OpR.or (op_din hu) (op_inDT hu)))), fun {c1 c2 M σ env H0 H Q x y d1 d2} E r1 r2 p => by
  unfold inR inB at p
  split at p
  · split at p
    · split at p
      · rename_i h
        have r1s := r1.str
        rw [str1 h] at r1s
        exact .inl ⟨_, _, r1s, r2.str, post_ok E p (.bl _)⟩
      · exact p.elim
    · exact p.elim
  · split at p
    · rename_i h
      rw [Bool.and_eq_true] at h
      obtain ⟨p1, q1⟩ := rep_shaped h.1 (r1.rep E.same)
      obtain ⟨p2, q2⟩ := rep_shaped h.2 (r2.rep E.same)
      simp only [toPy] at p2 q2
      refine .inr (.inl ⟨_, _, p1, p2, q1, q2, ?_⟩)
      rw [any_toPys]
      exact post_ok E p (.bl _)
    · exact p.elim
  · split at p
    · rename_i h
      rw [Bool.and_eq_true] at h
      obtain ⟨q1, vs, rfl, h1, r3⟩ := r2.tup
      have r1r := r1.rep E.same
      have r3' := r3.mono E.same
      refine .inr (.inr (.inl ⟨_, _, rfl, .inr (SqT.of (E.same _ _ h1)), scal_flat h.1 r1r, scal_all h.2 r3', ?_⟩))
      simp only [Bool.false_eq_true, if_false]
      rw [scal_any h.1 r1r h.2 r3']
      exact post_ok E p (.bl _)
    · split at p
      · rename_i h
        rw [Bool.and_eq_true] at h
        obtain ⟨p1, q1⟩ := rep_shaped h.1 (r1.rep E.same)
        obtain ⟨p2, q2⟩ := rep_shaped h.2 (r2.rep E.same)
        simp only [toPy] at p2 q2
        refine .inr (.inr (.inr (.inr ⟨_, _, p1, p2, q1, q2, ?_⟩)))
        simp only [Bool.false_eq_true, if_false, if_true]
        rw [any_toPys]
        exact post_ok E p (.bl _)
      · exact p.elim
  · split at p
    · rename_i k hk
      obtain ⟨q1, vs, rfl, h1, r3⟩ := r2.dic E.same
      obtain ⟨ey, _⟩ := keyOf_v hk r1
      refine .inr (.inr (.inr (.inl ⟨_, valV vs k, rfl, by rw [ey]; exact DGetR h1, ?_⟩)))
      rw [r3.isSome]
      exact post_ok E p (.bl _)
    · exact p.elim
  · exact p.elim⟩
theorem cm_notIn (hu : X.A.units + 65 < cLine) : CmpD X W ξ .NotIn notInR := ⟨_, OpR.or op_notIn_sign (OpR.or (op_notInD hu) (OpR.or op_notIn_seq (OpR.or (op_dnotin hu) (op_notInDT hu)))), fun {c1 c2 M σ env H0 H Q x y d1 d2} E r1 r2 p => by
  unfold notInR inB at p
  split at p
  · split at p
    · split at p
      · rename_i h
        have r1s := r1.str
        rw [str1 h] at r1s
        exact .inl ⟨_, _, r1s, r2.str, post_ok E p (.bl _)⟩
      · exact p.elim
    · exact p.elim
  · split at p
    · rename_i h
      rw [Bool.and_eq_true] at h
      obtain ⟨p1, q1⟩ := rep_shaped h.1 (r1.rep E.same)
      obtain ⟨p2, q2⟩ := rep_shaped h.2 (r2.rep E.same)
      simp only [toPy] at p2 q2
      refine .inr (.inl ⟨_, _, p1, p2, q1, q2, ?_⟩)
      rw [any_toPys]
      exact post_ok E p (.bl _)
    · exact p.elim
  · split at p
    · rename_i h
      rw [Bool.and_eq_true] at h
      obtain ⟨q1, vs, rfl, h1, r3⟩ := r2.tup
      have r1r := r1.rep E.same
      have r3' := r3.mono E.same
      refine .inr (.inr (.inl ⟨_, _, rfl, .inr (SqT.of (E.same _ _ h1)), scal_flat h.1 r1r, scal_all h.2 r3', ?_⟩))
      simp only [if_true]
      rw [scal_any h.1 r1r h.2 r3']
      exact post_ok E p (.bl _)
    · split at p
      · rename_i h
        rw [Bool.and_eq_true] at h
        obtain ⟨p1, q1⟩ := rep_shaped h.1 (r1.rep E.same)
        obtain ⟨p2, q2⟩ := rep_shaped h.2 (r2.rep E.same)
        simp only [toPy] at p2 q2
        refine .inr (.inr (.inr (.inr ⟨_, _, p1, p2, q1, q2, ?_⟩)))
        simp only [Bool.false_eq_true, if_false, if_true]
        rw [any_toPys]
        exact post_ok E p (.bl _)
      · exact p.elim
  · split at p
    · rename_i k hk
      obtain ⟨q1, vs, rfl, h1, r3⟩ := r2.dic E.same
      obtain ⟨ey, _⟩ := keyOf_v hk r1
      refine .inr (.inr (.inr (.inl ⟨_, valV vs k, rfl, by rw [ey]; exact DGetR h1, ?_⟩)))
      rw [r3.isSome]
      exact post_ok E p (.bl _)
    · exact p.elim
  · exact p.elim⟩

def chainR (f g : D → D → R D) (x y : D) (z : R D) : R D := f x y >>= boolR >>= fun k => if k = true then z >>= fun w => g y w else .ok (.bl false)
def eChain (f g : D → D → R D) (A B C : En → R D) : En → R D := fun env => A env >>= fun x => B env >>= fun y => chainR f g x y (C env)
def tChain (f g : D → D → R D) (A B C : En → R D) : En → R Bool := fun env => A env >>= fun x => B env >>= fun y => chainR f g x y (C env) >>= boolR
def tVal (A : En → R D) : En → R Bool := fun env => A env >>= boolR
def tNot (A : En → R Bool) : En → R Bool := fun env => A env >>= fun k => .ok (!k)
def tAnd (A B : En → R Bool) : En → R Bool := fun env => A env >>= fun k => if k = true then B env else .ok false
def tOr (A B : En → R Bool) : En → R Bool := fun env => A env >>= fun k => if k = true then .ok true else B env
def eAnd (A B : En → R D) : En → R D := fun env => A env >>= fun x => boolR x >>= fun k => if k = true then B env else .ok (.bl false)
def eOr (A B : En → R D) : En → R D := fun env => A env >>= fun x => boolR x >>= fun k => if k = true then .ok (.bl true) else B env
def eIf (t : En → R Bool) (A B : En → R D) : En → R D := fun env => t env >>= fun k => if k = true then A env else B env
def aNil : En → R (List D) := fun _ => .ok []
def aCons (A : En → R D) (As : En → R (List D)) : En → R (List D) := fun env => A env >>= fun x => As env >>= fun xs => .ok (x :: xs)
def kNil : En → R (List (Key × D)) := fun _ => .ok []
theorem deChain {e3 : Expr} {fc : En → R D} {op op' : CmpOp} {f g : D → D → R D} (h1 : CmpD X W ξ op f) (h2 : CmpD X W ξ op' g) (ha : DE X W ξ c1 a fa) (hb : DE X W ξ c2 b fb) (hc : DE X W ξ c3 e3 fc)
    (hm : lastMarks [op, op'] [b, e3] = false := by with_unfolding_all rfl) : DE X W ξ true (.Compare a [op, op'] [b, e3] pos) (eChain f g fa fb fc) := by
  obtain ⟨r, ho, hr⟩ := h1
  obtain ⟨r', ho', hr'⟩ := h2
  refine peImp (pe_chain ho ho' ha hb hc hm) fun σ H Q ⟨M, H0, env, E, p⟩ => ⟨M, H0, env, E, bindE wishE p fun d1 x H1 H2 g1 r1 p1 => ⟨M, H1, env, g1.e, bindE wishE p1 fun d2 y H3 H4 g2 r2 p2 => ?_⟩⟩
  refine hr g2.e (r1.mono g2.s0 g2.s) r2 ?_
  have p2 : PostE X.K W ξ M σ env true H3 H4 Q (f d1 d2 >>= fun t => boolR t >>= fun k => if k = true then fc env >>= fun w => g d2 w else .ok (.bl false)) := by
    unfold chainR at p2
    cases h : f d1 d2 with
    | ok d => rw [h] at p2; exact p2
    | exc x => rw [h] at p2; exact p2
    | bad => rw [h] at p2; exact p2
  refine bindE (c1 := true) wishE p2 fun d3 z H5 H6 g3 r3 p3 => ?_
  cases d3 with
  | bl k =>
    refine ⟨k, r3.bl, ?_⟩
    have p3 : PostE X.K W ξ M σ env true H5 H6 Q (if k = true then fc env >>= fun w => g d2 w else .ok (.bl false)) := p3
    cases k with
    | true =>
      rw [if_pos rfl]
      rw [if_pos rfl] at p3
      exact ⟨M, H5, env, g3.e, bindE wishE p3 fun d4 w H7 H8 g4 r4 p4 => hr' g4.e ((r2.mono g3.s0 g3.s).mono g4.s0 g4.s) r4 p4⟩
    | false =>
      rw [if_neg Bool.false_ne_true]
      rw [if_neg Bool.false_ne_true] at p3
      exact post_ok g3.e p3 (.bl _)
  | _ => exact p3.elim

theorem dt_val (h : DE X W ξ c e fa) (he : ∀ whole, isTrue e X.env whole = (do let v ← whole; standAt e.pos; holding [v] (truthy v)) := by intro _; rfl) : DT X W ξ e (tVal fa) :=
  ptImp (pt_val h he) fun σ H Q ⟨M, H0, env, E, p⟩ => ⟨M, H0, env, E, bindE wishT p fun d1 x H1 H2 g1 r1 p1 => by
    obtain ⟨k, e, q⟩ := bool_end g1.e r1 p1
    exact ⟨k, e, q⟩⟩
theorem dtChain {e3 : Expr} {fc : En → R D} {op op' : CmpOp} {f g : D → D → R D} (h1 : CmpD X W ξ op f) (h2 : CmpD X W ξ op' g) (ha : DE X W ξ c1 a fa) (hb : DE X W ξ c2 b fb) (hc : DE X W ξ c3 e3 fc)
    (hm : lastMarks [op, op'] [b, e3] = false := by with_unfolding_all rfl) : DT X W ξ (.Compare a [op, op'] [b, e3] pos) (tChain f g fa fb fc) := by
  obtain ⟨r, ho, hr⟩ := h1
  obtain ⟨r', ho', hr'⟩ := h2
  refine ptImp (pt_chain ho ho' ha hb hc hm) fun σ H Q ⟨M, H0, env, E, p⟩ => ⟨M, H0, env, E, bindE wishT p fun d1 x H1 H2 g1 r1 p1 => ⟨M, H1, env, g1.e, bindE wishT p1 fun d2 y H3 H4 g2 r2 p2 => ?_⟩⟩
  refine hr g2.e (r1.mono g2.s0 g2.s) r2 ?_
  have p2 : PostT X.K W ξ M σ env H3 H4 Q (f d1 d2 >>= fun t => boolR t >>= fun k => (if k = true then fc env >>= fun w => g d2 w else .ok (.bl false)) >>= boolR) := by
    unfold chainR at p2
    cases h : f d1 d2 with
    | ok d =>
      rw [h] at p2
      cases d with
      | bl k => exact p2
      | _ => exact p2
    | exc x => rw [h] at p2; exact p2
    | bad => rw [h] at p2; exact p2
  refine bindE (c1 := true) wishT p2 fun d3 z H5 H6 g3 r3 p3 => ?_
  cases d3 with
  | bl k =>
    refine ⟨k, r3.bl, ?_⟩
    have p3 : PostT X.K W ξ M σ env H5 H6 Q ((if k = true then fc env >>= fun w => g d2 w else .ok (.bl false)) >>= boolR) := p3
    cases k with
    | true =>
      rw [if_pos rfl]
      rw [if_pos rfl] at p3
      have p3' : PostT X.K W ξ M σ env H5 H6 Q (fc env >>= fun w => g d2 w >>= boolR) := by
        cases h : fc env with
        | ok d => rw [h] at p3; exact p3
        | exc x => rw [h] at p3; exact p3
        | bad => rw [h] at p3; exact p3
      exact ⟨M, H5, env, g3.e, bindE wishT p3' fun d4 w H7 H8 g4 r4 p4 => hr' g4.e ((r2.mono g3.s0 g3.s).mono g4.s0 g4.s) r4 (bindE (c1 := true) wishT p4 fun d5 u H9 H10 g5 r5 p5 => bool_end g5.e r5 p5)⟩
    | false =>
      rw [if_neg Bool.false_ne_true]
      rw [if_neg Bool.false_ne_true] at p3
      exact ⟨false, rfl, p3 H5 H6 (.refl g3.e)⟩
  | _ => exact p3.elim
section
variable {ta tb : En → R Bool} {rest : List Expr}
theorem dt_not (h : DT X W ξ a ta) : DT X W ξ (.UnaryOp .Not a pos) (tNot ta) :=
  ptImp (pt_not h) fun σ H Q ⟨M, H0, env, E, p⟩ => ⟨M, H0, env, E, bindT wishT p fun k H1 H2 g p1 => p1 H1 H2 (.refl g.e)⟩
theorem dw_and1 (h : DT X W ξ a ta) : DW X W ξ (.BoolOp .And [a] pos) ta := pw_and1 h
theorem dw_or1 (h : DT X W ξ a ta) : DW X W ξ (.BoolOp .Or [a] pos) ta := pw_or1 h
theorem dw_and (h : DT X W ξ a ta) (h2 : DW X W ξ (.BoolOp .And (b :: rest) pos) tb) : DW X W ξ (.BoolOp .And (a :: b :: rest) pos) (tAnd ta tb) :=
  pwImp (pw_and h h2) fun σ H Q ⟨M, H0, env, E, p⟩ => ⟨M, H0, env, E, bindT wishT p fun k H1 H2 g p1 => by
    cases k with
    | true => rw [if_pos rfl] at p1 ⊢; exact ⟨M, H1, env, g.e, p1⟩
    | false => rw [if_neg Bool.false_ne_true] at p1 ⊢; exact p1 H1 H2 (.refl g.e)⟩
theorem dw_or (h : DT X W ξ a ta) (h2 : DW X W ξ (.BoolOp .Or (b :: rest) pos) tb) : DW X W ξ (.BoolOp .Or (a :: b :: rest) pos) (tOr ta tb) :=
  pwImp (pw_or h h2) fun σ H Q ⟨M, H0, env, E, p⟩ => ⟨M, H0, env, E, bindT wishT p fun k H1 H2 g p1 => by
    cases k with
    | true => rw [if_pos rfl] at p1 ⊢; exact p1 H1 H2 (.refl g.e)
    | false => rw [if_neg Bool.false_ne_true] at p1 ⊢; exact ⟨M, H1, env, g.e, p1⟩⟩
theorem dt_w (h : DW X W ξ e ta) : DT X W ξ e ta := PW.pt h
theorem de_one {op : BoolOp} (h : DE X W ξ c a fa) : DE X W ξ c (.BoolOp op [a] pos) fa := pe_one h
theorem de_and (h : DE X W ξ c1 a fa) (h2 : DE X W ξ c (.BoolOp .And (b :: rest) pos) fb) : DE X W ξ c (.BoolOp .And (a :: b :: rest) pos) (eAnd fa fb) :=
  peImp (pe_and h h2) fun σ H Q ⟨M, H0, env, E, p⟩ => ⟨M, H0, env, E, bindE wishE p fun d x H1 H2 g r p1 => by
    cases d with
    | bl k =>
      refine ⟨k, r.bl, ?_⟩
      have p1 : PostE X.K W ξ M σ env c H1 H2 Q (if k = true then fb env else .ok (.bl false)) := p1
      cases k with
      | true => rw [if_pos rfl] at p1 ⊢; exact ⟨M, H1, env, g.e, p1⟩
      | false => rw [if_neg Bool.false_ne_true] at p1 ⊢; exact post_ok g.e p1 (.bl _)
    | _ => exact p1.elim⟩
theorem de_or (h : DE X W ξ c1 a fa) (h2 : DE X W ξ c (.BoolOp .Or (b :: rest) pos) fb) : DE X W ξ c (.BoolOp .Or (a :: b :: rest) pos) (eOr fa fb) :=
  peImp (pe_or h h2) fun σ H Q ⟨M, H0, env, E, p⟩ => ⟨M, H0, env, E, bindE wishE p fun d x H1 H2 g r p1 => by
    cases d with
    | bl k =>
      refine ⟨k, r.bl, ?_⟩
      have p1 : PostE X.K W ξ M σ env c H1 H2 Q (if k = true then .ok (.bl true) else fb env) := p1
      cases k with
      | true => rw [if_pos rfl] at p1 ⊢; exact post_ok g.e p1 (.bl _)
      | false => rw [if_neg Bool.false_ne_true] at p1 ⊢; exact ⟨M, H1, env, g.e, p1⟩
    | _ => exact p1.elim⟩
def notR (d : D) : R D := boolR d >>= fun k => .ok (.bl (!k))
theorem de_not (h : DE X W ξ c a fa) : DE X W ξ true (.UnaryOp .Not a pos) (eUn notR fa) :=
  peImp (pe_not h) fun σ H Q ⟨M, H0, env, E, p⟩ => ⟨M, H0, env, E, bindE wishE p fun d x H1 H2 g r p1 => by
    cases d with
    | bl k => exact ⟨k, r.bl, post_ok g.e p1 (.bl _)⟩
    | _ => exact p1.elim⟩
end

section
variable {Fs : En → R (List D)}
theorem RepXs.all {vs : List V} {ds : List D} (r : RepXs K true H0 H vs ds) : RepAll K H0 vs ds := by
  induction r with
  | nil => exact .nil
  | cons a _ ih => exact .cons a ih
theorem RepXs.mono {H0' H' : Hp} {vs : List V} {ds : List D} (r : RepXs K c H0 H vs ds) (s0 : Same H0 H0') (s : Same H H') : RepXs K c H0' H' vs ds := by
  induction r with
  | nil => exact .nil
  | cons a _ ih => exact .cons (RepX.mono a s0 s) ih
theorem RepXs.full {vs : List V} {ds : List D} (r : RepXs K c H0 H vs ds) (s : Same H0 H) : RepAll K H vs ds := by
  induction r with
  | nil => exact .nil
  | cons a _ ih => exact .cons (RepX.rep a s) ih
theorem da_nil : DA X W ξ c [] aNil := paImp pa_nil fun σ H Q ⟨M, H0, env, E, p⟩ => p [] H0 H (.refl E) .nil
theorem da_cons (ha : DE X W ξ c e fa) (hr : DA X W ξ c es Fs) (hs : starEach (e :: es) X.env = (false, eval e X.env) :: starEach es X.env := by rfl) : DA X W ξ c (e :: es) (aCons fa Fs) :=
  paImp (pa_cons ha hr hs) fun σ H Q ⟨M, H0, env, E, p⟩ => ⟨M, H0, env, E, bindE wishA p fun d x H1 H2 g r p1 => ⟨M, H1, env, g.e, bindA wishA p1 fun ds vs H3 H4 g2 r2 p2 => p2 _ H3 H4 (.refl g2.e) (.cons (r.mono g2.s0 g2.s) r2)⟩⟩
def tupR (xs : List D) : R D := if xs.length ≤ sizeLine then .ok (.tup xs) else .bad
def lstR (xs : List D) : R (List D) := if xs.length ≤ sizeLine then .ok xs else .bad
theorem de_tup {x1 : _} (h : DA X W ξ true es Fs) : DE X W ξ true (.Tuple es x1 pos) (eUn tupR Fs) :=
  peImp (pe_tup h) fun σ H Q ⟨M, H0, env, E, p⟩ => ⟨M, H0, env, E, bindA wishE p fun ds vs H1 H2 g r p1 => by
    unfold tupR at p1
    have r := RepXs.all r
    split at p1
    · rename_i hz
      exact ⟨by rw [r.length]; exact hz, new_tup g.e p1 hz r⟩
    · exact p1.elim⟩
theorem df_lst (h : DA X W ξ true es Fs) : DF X W ξ (.List es pos) (eUn lstR Fs) :=
  peImp (pe_lst h) fun σ H Q ⟨M, H0, env, E, p⟩ => ⟨M, H0, env, E, bindA wishF p fun ds vs H1 H2 g r p1 => by
    unfold lstR at p1
    have r := RepXs.all r
    split at p1
    · rename_i hz
      refine ⟨by rw [r.length]; exact hz, fun q hq => ?_⟩
      obtain ⟨g2, n⟩ := g.e.newAt (o := .lst vs) hq
      exact p1 q vs _ _ g2 hq n ⟨hz, r⟩
    · exact p1.elim⟩
end

def PostC (K : PySem.W.Frag) (ξ : Str → Value) (H0 H : Hp) (Q : VK) (E : XK) : R D → Prop
  | .ok d => ∀ v H0' H', Same H0 H0' → Same H H' → Same H0' H' → (∀ a, H a ≠ none → H0 a = none → H0' a = none) → Rep K H0' v d → Q v H'
  | .exc x => ∀ H0' H', Same H0 H0' → Same H H' → Same H0' H' → (∀ a, H a ≠ none → H0 a = none → H0' a = none) → E (ξ x) none H'
  | .bad => False
def spD (K : PySem.W.Frag) (ξ : Str → Value) (F : List D → R D) : Sp := fun vs H Q E => ∃ ds H0, Same H0 H ∧ RepAll K H0 vs ds ∧ PostC K ξ H0 H Q E (F ds)
theorem callPost {H0' H' : Hp} (E : EnvAt K M H0 H σ env) {x : R D} (p : PostE K W ξ M σ env true H0 H Q x) : PostC K ξ H0 H Q (WE W σ) x := by
  cases x with
  | ok d => exact fun v H0' H' s0 s s1 n r => p v H0' H' ⟨s0, s, E.grow s0 s s1 n, n⟩ r
  | exc x => exact fun H0' H' s0 s s1 n => p H0' H' ⟨s0, s, E.grow s0 s s1 n, n⟩
  | bad => exact p
def scR : D → R D
  | .non => .ok .non
  | .bl b => .ok (.bl b)
  | .int i => .ok (.int i)
  | .str s => .ok (.str s)
  | _ => .bad
theorem scal_rep {d : D} {v : V} {H' : Hp} (h : scal0 d = true) (r : Rep K H v d) : Rep K H' v d := by
  cases r with
  | non => exact .non
  | bl b => exact .bl b
  | int i => exact .int i
  | str s q => exact .str s q
  | _ => cases h
def eCallS (As : En → R (List D)) (F : List D → R D) : En → R D := fun env => As env >>= fun ds => F ds >>= scR
theorem callPostS (E : EnvAt K M H0 H σ env) {x : R D} (p : PostE K W ξ M σ env true H0 H Q (x >>= scR)) : PostC K ξ H H Q (WE W σ) x := by
  have gr : ∀ {H0' H' : Hp}, Same H H' → Gr K M σ env H0 H H0 H' := fun s => ⟨Same.refl _, s, E.grow (Same.refl _) s (E.same.trans s) fun _ _ z => z, fun _ _ z => z⟩
  cases x with
  | ok d =>
    intro v H0' H' s0 s s1 n r
    cases d with
    | non => exact p v H0 H' (gr (H0' := H0) s) (scal_rep rfl r)
    | bl b => exact p v H0 H' (gr (H0' := H0) s) (scal_rep rfl r)
    | int b => exact p v H0 H' (gr (H0' := H0) s) (scal_rep rfl r)
    | str b => exact p v H0 H' (gr (H0' := H0) s) (scal_rep rfl r)
    | _ => exact p.elim
  | exc x => exact fun H0' H' s0 s s1 n => p H0 H' (gr (H0' := H0) s)
  | bad => exact p
section
variable {k : Nat} {f : Addr} {fd : FuncData} {ps : List Str} {F : List D → R D} {x : Str} {p : Pos} {Fs : En → R (List D)}
theorem de_call (G : FnOk X.prog X.w X.K X.mg X.base (L2.CX X.prog X.w) k f fd ps (spD X.K ξ F)) (tk : Takes X W) (hr : Room k X.A) (hm : X.mg x = some (.ref f)) (hk : PySem.W.keepIn X.K (.ref f) = true) (hb : Binds X.K fd ps [])
    (ha : DA X W ξ true (e :: es) Fs) (hg : Gl X x := by rfl) (hdb : (x == ("__debug__" : Str)) = false := by decide) (he : starEach (e :: es) X.env = (false, eval e X.env) :: starEach es X.env := by rfl) (hpl : (backTo pos (starEach es X.env)).any (·.1) = false := by rfl) :
    DE X W ξ true (.Call (.Name x p) (e :: es) [] pos) (eUn F Fs) :=
  peImp (pe_callS G hr hg hm hk hb (fun σ => passAt tk σ) ha hdb he hpl) fun σ H Q ⟨M, H0, env, E, p⟩ => ⟨M, H0, env, E, bindA wishE p fun ds vs H1 H2 g r p1 => ⟨ds, H1, g.e.same, RepXs.all r, callPost (H0' := H0) (H' := H) g.e p1⟩⟩
theorem de_callS (G : FnOk X.prog X.w X.K X.mg X.base (L2.CX X.prog X.w) k f fd ps (spD X.K ξ F)) (tk : Takes X W) (hr : Room k X.A) (hm : X.mg x = some (.ref f)) (hk : PySem.W.keepIn X.K (.ref f) = true) (hb : Binds X.K fd ps [])
    (ha : DA X W ξ false (e :: es) Fs) (hg : Gl X x := by rfl) (hdb : (x == ("__debug__" : Str)) = false := by decide) (he : starEach (e :: es) X.env = (false, eval e X.env) :: starEach es X.env := by rfl) (hpl : (backTo pos (starEach es X.env)).any (·.1) = false := by rfl) :
    DE X W ξ true (.Call (.Name x p) (e :: es) [] pos) (eCallS Fs F) :=
  peImp (pe_callS G hr hg hm hk hb (fun σ => passAt tk σ) ha hdb he hpl) fun σ H Q ⟨M, H0, env, E, p⟩ => ⟨M, H0, env, E, bindA wishE p fun ds vs H1 H2 g r p1 => ⟨ds, H2, Same.refl _, RepXs.full r g.e.same, callPostS g.e p1⟩⟩
end
end
end Dx

namespace Dx
open PySem PySem.Spec PyProof.Rows L2

inductive Out where
  | nx (e : En)
  | rt (d : D) (e : En)
  | bk (e : En)
  | ct (e : En)
  | exc (c : Str) (e : En)
  | bad
structure Ret (K : PySem.W.Frag) {ξ : Str → Value} (M : Fm ξ) (H0' H' : Hp) (v : V) (d : D) : Prop where
  same : Same H0' H'
  fr : Same M.G H'
  nogo : ∀ a, M.N a → H0' a = none
  rep : Rep K H0' v d
def PostS (K : PySem.W.Frag) (W : WX) (ξ : Str → Value) (M : Fm ξ) (H0 : Hp) (Dn : Ends) : Out → Prop
  | .nx e => ∀ σ' H0' H', Same H0 H0' → EnvAt K M H0' H' σ' e → Dn.nx σ' H'
  | .rt d e => ∀ v H0' H', Same H0 H0' → Ret K M H0' H' v d → Dn.rt v H'
  | .bk e => ∀ σ' H0' H', Same H0 H0' → EnvAt K M H0' H' σ' e → Dn.bk σ' H'
  | .ct e => ∀ σ' H0' H', Same H0 H0' → EnvAt K M H0' H' σ' e → Dn.ct σ' H'
  | .exc x e => ∀ σ' H0' H', Same H0 H0' → EnvAt K M H0' H' σ' e → W (ξ x) none σ' H'
  | .bad => False
def tS (K : PySem.W.Frag) (W : WX) (ξ : Str → Value) (G : En → Out) : TS := fun Dn σ H => ∃ M H0 env, EnvAt K M H0 H σ env ∧ PostS K W ξ M H0 Dn (G env)
abbrev DS (X : Cx) (W : WX) (ξ : Str → Value) (st : Stmt) (G : En → Out) : Prop := PS X st (tS X.K W ξ G)
abbrev DSs (X : Cx) (W : WX) (ξ : Str → Value) (st : List Stmt) (G : En → Out) : Prop := PSs X st (tS X.K W ξ G)
section
variable {X : Cx} {W : WX} {ξ : Str → Value} {e a b : Expr} {es : List Expr} {c c1 c2 c3 : Bool} {pos : Pos} {fa fb : En → R D} {st : Stmt} {body rest sa sb : List Stmt} {G G1 G2 B : En → Out}
variable {K : PySem.W.Frag} {M : Fm ξ} {σ : L2.St} {env : En} {H0 H H0' H' : Hp} {Q : VK} {Dn : Ends}
theorem PostS.weak {o : Out} (s : Same H0 H0') (p : PostS K W ξ M H0 Dn o) : PostS K W ξ M H0' Dn o := by
  cases o with
  | nx e => exact fun σ' H0'' H'' s' E => p σ' H0'' H'' (s.trans s') E
  | rt d e => exact fun v H0'' H'' s' E => p v H0'' H'' (s.trans s') E
  | bk e => exact fun σ' H0'' H'' s' E => p σ' H0'' H'' (s.trans s') E
  | ct e => exact fun σ' H0'' H'' s' E => p σ' H0'' H'' (s.trans s') E
  | exc x e => exact fun σ' H0'' H'' s' E => p σ' H0'' H'' (s.trans s') E
  | bad => exact p
def liftO {α : Type} (r : R α) (env : En) (k : α → Out) : Out := match r with
  | .ok a => k a
  | .exc x => .exc x env
  | .bad => .bad
@[simp] theorem liftO_ok {α : Type} (a : α) (env : En) (k : α → Out) : liftO (.ok a) env k = k a := (rfl)
@[simp] theorem liftO_exc {α : Type} (x : Str) (env : En) (k : α → Out) : liftO (.exc x : R α) env k = .exc x env := (rfl)
@[simp] theorem liftO_bad {α : Type} (env : En) (k : α → Out) : liftO (.bad : R α) env k = .bad := (rfl)
theorem liftE {x : R D} {k : D → Out} {Q : VK} (p : PostS K W ξ M H0 Dn (liftO x env k)) (h : ∀ d v H0' H', Gr K M σ env H0 H H0' H' → RepX c K H0' H' v d → PostS K W ξ M H0' Dn (k d) → Q v H') : PostE K W ξ M σ env c H0 H Q x := by
  cases x with
  | ok d => exact fun v H0' H' g r => h d v H0' H' g r (p.weak g.s0)
  | exc x => exact fun H0' H' g => p σ H0' H' g.s0 g.e
  | bad => exact p
theorem liftF {x : R (List D)} {k : List D → Out} {Q : VK} (p : PostS K W ξ M H0 Dn (liftO x env k)) (h : ∀ d q vs H0' H', Gr K M σ env H0 H H0' H' → H q = none → NewAt M σ env H0' H' q (.lst vs) → d.length ≤ sizeLine ∧ RepAll K H0' vs d → PostS K W ξ M H0' Dn (k d) → Q (.ref q) H') : PostF K W ξ M σ env H0 H Q x := by
  cases x with
  | ok d => exact fun v vs H0' H' g hq n r => h d v vs H0' H' g hq n r (p.weak g.s0)
  | exc x => exact fun H0' H' g => p σ H0' H' g.s0 g.e
  | bad => exact p
theorem liftT {x : R Bool} {k : Bool → Out} {Q : Bool → Hp → Prop} (p : PostS K W ξ M H0 Dn (liftO x env k)) (h : ∀ d H0' H', Gr K M σ env H0 H H0' H' → PostS K W ξ M H0' Dn (k d) → Q d H') : PostT K W ξ M σ env H0 H Q x := by
  cases x with
  | ok d => exact fun H0' H' g => h d H0' H' g (p.weak g.s0)
  | exc x => exact fun H0' H' g => p σ H0' H' g.s0 g.e
  | bad => exact p

def seqO (o : Out) (k : En → Out) : Out := match o with
  | .nx e => k e
  | o => o
@[simp] theorem seqO_nx (e : En) (k : En → Out) : seqO (.nx e) k = k e := (rfl)
@[simp] theorem seqO_rt (d : D) (e : En) (k : En → Out) : seqO (.rt d e) k = .rt d e := (rfl)
@[simp] theorem seqO_bk (e : En) (k : En → Out) : seqO (.bk e) k = .bk e := (rfl)
@[simp] theorem seqO_ct (e : En) (k : En → Out) : seqO (.ct e) k = .ct e := (rfl)
@[simp] theorem seqO_exc (x : Str) (e : En) (k : En → Out) : seqO (.exc x e) k = .exc x e := (rfl)
@[simp] theorem seqO_bad (k : En → Out) : seqO .bad k = .bad := (rfl)

def sNil : En → Out := fun env => .nx env
def sSeq (G1 G2 : En → Out) : En → Out := fun env => seqO (G1 env) G2
def sSet (i : Nat) (A : En → R D) : En → Out := fun env => liftO (A env) env fun d => .nx (env.set i (.d d))
def sSetF (i : Nat) (A : En → R (List D)) : En → Out := fun env => liftO (A env) env fun d => .nx (env.set i (.ol d))
def sSetFD (i : Nat) (A : En → R (List D)) : En → Out := fun env => liftO (A env) env fun d => .nx (env.set i (.d (.lst d)))
def sSetK (i : Nat) (A : En → R (List (Key × D))) : En → Out := fun env => liftO (A env) env fun d => .nx (env.set i (.od d))
def sRet (A : En → R D) : En → Out := fun env => liftO (A env) env fun d => .rt d env
def sRetN : En → Out := fun env => .rt .non env
def sBrk : En → Out := fun env => .bk env
def sCnt : En → Out := fun env => .ct env
def sIf (t : En → R Bool) (G1 G2 : En → Out) : En → Out := fun env => liftO (t env) env fun k => if k = true then G1 env else G2 env
def sRaise (x : Str) : En → Out := fun env => .exc x env
def sExpr (A : En → R D) : En → Out := fun env => liftO (A env) env fun _ => .nx env
def sAsg (T : D → En → R En) (A : En → R D) : En → Out := fun env => liftO (A env) env fun d => match T d env with | .ok env' => .nx env' | _ => .bad
def sFrz (i : Nat) (G : En → Out) : En → Out := fun env => G (frz i env)
theorem dss_nil : DSs X W ξ [] sNil := pssImp pss_nil fun Dn σ H ⟨M, H0, env, E, p⟩ => p σ H0 H (Same.refl _) E
theorem seqPost {o : Out} {k : En → Out} (p : PostS K W ξ M H0 Dn (seqO o k)) : PostS K W ξ M H0 { Dn with nx := tS K W ξ k Dn } o := by
  cases o with
  | nx e => exact fun σ' H0' H' s E => ⟨M, H0', e, E, p.weak s⟩
  | _ => exact p
theorem dss_cons (h1 : DS X W ξ st G1) (h2 : DSs X W ξ rest G2) : DSs X W ξ (st :: rest) (sSeq G1 G2) :=
  pssImp (pss_cons h1 h2) fun Dn σ H ⟨M, H0, env, E, p⟩ => ⟨M, H0, env, E, seqPost p⟩
theorem dss_one (h1 : DS X W ξ st G1) : DSs X W ξ [st] G1 := pss_one h1
def killS (is : List Nat) (env : En) : En := is.foldl (fun e i => e.set i .u) env
theorem EnvAt.kills (E : EnvAt K M H0 H σ env) (is : List Nat) : EnvAt K M H0 H σ (killS is env) := by
  induction is generalizing env with
  | nil => exact E
  | cons i is ih => exact ih (E.kill i)
def endK (is : List Nat) (o : Out) : Out := match o with
  | .nx e => .nx (killS is e)
  | .ct e => .ct (killS is e)
  | .bk e => .bk (killS is e)
  | o => o
def sEnd (is : List Nat) (G : En → Out) : En → Out := fun env => endK is (G env)
theorem dss_end (is : List Nat) (h : DSs X W ξ body G) : DSs X W ξ body (sEnd is G) :=
  pssImp h fun Dn σ H ⟨M, H0, env, E, p⟩ => ⟨M, H0, env, E, by
    have p : PostS X.K W ξ M H0 Dn (endK is (G env)) := p
    revert p
    cases G env with
    | nx e => exact fun p σ' H0' H' s E' => p σ' H0' H' s (E'.kills is)
    | bk e => exact fun p σ' H0' H' s E' => p σ' H0' H' s (E'.kills is)
    | ct e => exact fun p σ' H0' H' s E' => p σ' H0' H' s (E'.kills is)
    | rt d e => exact fun p => p
    | exc x e => exact fun p => p
    | bad => exact fun p => p⟩
theorem ds_end (is : List Nat) (h : DS X W ξ st G) : DS X W ξ st (sEnd is G) :=
  psImp h fun Dn σ H ⟨M, H0, env, E, p⟩ => ⟨M, H0, env, E, by
    have p : PostS X.K W ξ M H0 Dn (endK is (G env)) := p
    revert p
    cases G env with
    | nx e => exact fun p σ' H0' H' s E' => p σ' H0' H' s (E'.kills is)
    | bk e => exact fun p σ' H0' H' s E' => p σ' H0' H' s (E'.kills is)
    | ct e => exact fun p σ' H0' H' s E' => p σ' H0' H' s (E'.kills is)
    | rt d e => exact fun p => p
    | exc x e => exact fun p => p
    | bad => exact fun p => p⟩
theorem ds_ret (h : DE X W ξ true e fa) : DS X W ξ (.Return (some e) pos) (sRet fa) :=
  psImp (ps_ret h) fun Dn σ H ⟨M, H0, env, E, p⟩ => ⟨M, H0, env, E, liftE p fun d v H0' H' g r p => p v H0' H' (Same.refl _) ⟨g.e.same, g.e.fr, fun a h => (g.e.nogo a h).1, r⟩⟩
theorem ds_if {tc : En → R Bool} (hc : DT X W ξ e tc) (ha : DSs X W ξ sa G1) (hb : DSs X W ξ sb G2) : DS X W ξ (.If e sa sb pos) (sIf tc G1 G2) :=
  psImp (ps_if hc ha hb) fun Dn σ H ⟨M, H0, env, E, p⟩ => ⟨M, H0, env, E, liftT p fun k H0' H' g p => by
    cases k with
    | true => rw [if_pos rfl] at p ⊢; exact ⟨M, H0', env, g.e, p⟩
    | false => rw [if_neg Bool.false_ne_true] at p ⊢; exact ⟨M, H0', env, g.e, p⟩⟩
theorem ds_setG {i : Nat} (h : PS X st (tAsg (tD X.K W ξ true fa) (gName i))) : DS X W ξ st (sSet i fa) :=
  psImp h fun Dn σ H ⟨M, H0, env, E, p⟩ => ⟨M, H0, env, E, liftE p fun d v H0' H' g r p => p _ H0' H' (Same.refl _) (g.e.set i r)⟩
theorem ds_setFG {i : Nat} {fs : En → R (List D)} (h : PS X st (tAsg (tDF X.K W ξ fs) (gName i))) : DS X W ξ st (sSetF i fs) :=
  psImp h fun Dn σ H ⟨M, H0, env, E, p⟩ => ⟨M, H0, env, E, liftF p fun d q vs H0' H' g hq n r p => p _ H0' H' (Same.refl _) (g.e.setOwn i rfl n.w n.n ⟨q, vs, rfl, n.h0, n.g, n.at_, r.1, r.2⟩)⟩
theorem ds_set {i : Nat} {x : Str} {pos' : Pos} (hN : X.N.Nodup) (he : DE X W ξ true e fa) (hi : X.N[i]? = some x := by rfl) (hx : Loc X.env.scope x := by first | exact Or.inl rfl | exact Or.inr rfl) (hs : swapsWith e (some (.Name x pos')) pos.line X.env = pure false := by rfl)
    (hf : X.fn x = true ∨ X.env.scope.names.lookup x = some .local := by first | exact .inl rfl | exact .inr rfl) : DS X W ξ (.Assign [.Name x pos'] e pos) (sSet i fa) :=
  ds_setG (ps_set hN hi hx he hs hf)
theorem ds_setF {i : Nat} {x : Str} {pos' : Pos} {fs : En → R (List D)} (hN : X.N.Nodup) (he : DF X W ξ e fs) (hi : X.N[i]? = some x := by rfl) (hx : Loc X.env.scope x := by first | exact Or.inl rfl | exact Or.inr rfl) (hs : swapsWith e (some (.Name x pos')) pos.line X.env = pure false := by rfl)
    (hf : X.fn x = true ∨ X.env.scope.names.lookup x = some .local := by first | exact .inl rfl | exact .inr rfl) : DS X W ξ (.Assign [.Name x pos'] e pos) (sSetF i fs) :=
  ds_setFG (ps_set hN hi hx he hs hf)
def tDG (K : PySem.W.Frag) (ξ : Str → Value) (ts : List Nat) (T : D → En → R En) : TG := fun v σ H Q => ∃ (M : Fm ξ), ∃ H0 env d env', EnvAt K M H0 H σ env ∧ Rep K H0 v d ∧ T d env = .ok env' ∧ ∀ σ', wipe σ' ts = wipe σ ts → EnvAt K M H0 H σ' env' → Q σ' H
abbrev DGt (X : Cx) (ξ : Str → Value) (tg : Expr) (ts : List Nat) (T : D → En → R En) : Prop := PG X tg (tDG X.K ξ ts T)
theorem pgImp {tg : Expr} {t t' : TG} (h : PG X tg t) (hi : ∀ v σ H Q, t' v σ H Q → t v σ H Q) : PG X tg t' := ⟨fun pins s σ H v u Q I r w => h.run pins s σ H v u Q I r (hi _ _ _ _ w)⟩
def nameT (i : Nat) (d : D) (env : En) : R En := .ok (env.set i (.d d))
theorem wipe_set1 (σ : L2.St) (i : Nat) (x : Option V) : ∀ ts : List Nat, (wipe (σ.set i x) ts).set i none = (wipe σ ts).set i none
  | [] => by show (σ.set i x).set i none = σ.set i none; rw [List.set_set]
  | t :: ts => by
    show ((wipe (σ.set i x) ts).set t none).set i none = ((wipe σ ts).set t none).set i none
    by_cases h : t = i
    · subst h; rw [List.set_set, List.set_set]; exact wipe_set1 σ t x ts
    · rw [List.set_comm _ _ h, List.set_comm _ _ h, wipe_set1 σ i x ts]
theorem dg_name {i : Nat} {x : Str} (hN : X.N.Nodup) (hi : X.N[i]? = some x := by rfl) (hx : Loc X.env.scope x := by first | exact Or.inl rfl | exact Or.inr rfl) (hf : X.fn x = true ∨ X.env.scope.names.lookup x = some .local := by first | exact .inl rfl | exact .inr rfl) :
    DGt X ξ (.Name x pos) [i] (nameT i) :=
  pgImp (pg_name hN hi hx hf) fun v σ H Q ⟨M, H0, env, d, env', E, r, ht, q⟩ => by
    unfold nameT at ht
    cases ht
    exact q _ (wipe_set1 σ i (some v) []) (E.set i r)
def tDGs (K : PySem.W.Frag) (ξ : Str → Value) (ts : List Nat) : TGs := fun vs σ H Q => ∃ (M : Fm ξ), ∃ H0 env ds, EnvAt K M H0 H σ env ∧ RepAll K H0 vs ds ∧ ds.length = ts.length ∧ ∀ σ', wipe σ' ts = wipe σ ts → EnvAt K M H0 H σ' ((ts.zip ds).foldl (fun e p => e.set p.1 (.d p.2)) env) → Q σ' H
theorem dgs_nil : PGs X [] (tDGs X.K ξ []) := ⟨fun pins s σ H vs us Q I r h => pgs_nil.run pins s σ H vs us Q I r (by
  obtain ⟨M, H0, env, ds, E, rr, hl, q⟩ := h
  cases ds with
  | nil => cases rr; exact ⟨rfl, q σ rfl E⟩
  | cons d ds => simp at hl)⟩
theorem dgs_cons {i : Nat} {x : Str} {ts : List Nat} (hN : X.N.Nodup) (h2 : PGs X es (tDGs X.K ξ ts)) (hi : X.N[i]? = some x := by rfl) (hx : Loc X.env.scope x := by first | exact Or.inl rfl | exact Or.inr rfl) (hf : X.fn x = true ∨ X.env.scope.names.lookup x = some .local := by first | exact .inl rfl | exact .inr rfl)
    (hs : (assignEach (.Name x pos :: es) X.env).map (·.2) = assign (.Name x pos) X.env :: (assignEach es X.env).map (·.2) := by rfl) : PGs X (.Name x pos :: es) (tDGs X.K ξ (i :: ts)) := ⟨fun pins s σ H vs us Q I r h =>
  (pgs_cons (pg_name hN hi hx hf) h2 hs).run pins s σ H vs us Q I r (by
    obtain ⟨M, H0, env, ds, E, rr, hl, q⟩ := h
    cases ds with
    | nil => simp at hl
    | cons d ds =>
      cases rr with
      | @cons v vs' _ _ rv rvs =>
        refine ⟨v, vs', rfl, M, H0, _, ds, E.set i rv, rvs, by simpa using hl, fun σ' hw E' => q σ' ?_ E'⟩
        show (wipe σ' ts).set i none = (wipe σ ts).set i none
        rw [hw, wipe_set1])⟩
def tupT (ts : List Nat) (d : D) (env : En) : R En := match d with
  | .tup ds => if ds.length = ts.length then .ok ((ts.zip ds).foldl (fun e p => e.set p.1 (.d p.2)) env) else .bad
  | _ => .bad
theorem dg_tup {ts : List Nat} {k : Nat} {n : Nat} (hc : X.calm = true) (h : PGs X es (tDGs X.K ξ ts)) (hl : ts.length = n := by rfl) (hn : (assignEach es X.env).length = n := by rfl) (hst : (assignEach es X.env).findIdx? (·.1) = none := by rfl) : DGt X ξ (.Tuple es k pos) ts (tupT ts) :=
  pgImp (pg_tup hc h hn hst) fun v σ H Q ⟨M, H0, env, d, env', E, r, ht, q⟩ => by
    unfold tupT at ht
    split at ht
    · split at ht
      · rename_i hz
        cases ht
        cases r with
        | @tup a vs _ h1 _ h2 => exact ⟨a, vs, rfl, SqT.of (E.same _ _ h1), by rw [h2.length, hz, hl], M, H0, env, _, E, h2, hz, q⟩
      · cases ht
    · cases ht
def Yd (K : PySem.W.Frag) (H0 H1 : Hp) (x : V) (H2 : Hp) (d : D) : Prop :=
  (H2 = H1 ∧ Rep K H0 x d) ∨ ∃ T vs ds, H1 T = none ∧ H2 = upd H1 T (.tup vs) ∧ x = .ref T ∧ d = .tup ds ∧ ds.length ≤ sizeLine ∧ RepAll K H0 vs ds
def Feeds (K : PySem.W.Frag) (H0 Hs : Hp) (J : It) (ds : List D) : Prop :=
  ds.length ≤ sizeLine ∧ ∃ (Gd : Hp → Prop) (Y : Nat → Hp → V → Hp → Prop), Walk J ds.length Gd Y ∧ (∀ H1, Same Hs H1 → Gd H1) ∧ ∀ i H1 x H2 d, Gd H1 → ds[i]? = some d → Y i H1 x H2 → Yd K H0 H1 x H2 d
def PostI (K : PySem.W.Frag) (W : WX) (ξ : Str → Value) (M : Fm ξ) (σ : L2.St) (env : En) (c : Bool) (H0 H : Hp) (R' : It → Hp → Prop) : R (List D) → Prop
  | .ok ds => ∀ J H0' H', Gr K M σ env H0 H H0' H' → Feeds K H0' (if c = true then H0' else H') J ds → R' J H'
  | .exc x => ∀ H0' H', Gr K M σ env H0 H H0' H' → W (ξ x) none σ H'
  | .bad => False
def tDI (K : PySem.W.Frag) (W : WX) (ξ : Str → Value) (c : Bool) (F : En → R (List D)) : TI := fun σ H R' => ∃ M H0 env, EnvAt K M H0 H σ env ∧ PostI K W ξ M σ env c H0 H R' (F env)
abbrev DI (X : Cx) (W : WX) (ξ : Str → Value) (c : Bool) (tg iter : Expr) (F : En → R (List D)) : Prop := PI X tg iter (tDI X.K W ξ c F)
theorem piImp {tg iter : Expr} {t t' : TI} (h : PI X tg iter t) (hi : ∀ σ H R', t' σ H R' → t σ H R') : PI X tg iter t' := ⟨fun pins s σ H R' I w => h.run pins s σ H R' I (hi _ _ _ w)⟩
theorem liftI {x : R (List D)} {k : List D → Out} {R' : It → Hp → Prop} (p : PostS K W ξ M H0 Dn (liftO x env k)) (h : ∀ ds J H0' H', Gr K M σ env H0 H H0' H' → Feeds K H0' (if c = true then H0' else H') J ds → PostS K W ξ M H0' Dn (k ds) → R' J H') : PostI K W ξ M σ env c H0 H R' x := by
  cases x with
  | ok ds => exact fun J H0' H' g f => h ds J H0' H' g f (p.weak g.s0)
  | exc x => exact fun H0' H' g => p σ H0' H' g.s0 g.e
  | bad => exact p

def forO (T : D → En → R En) (B : En → Out) : List D → En → Out
  | [], env => .nx env
  | d :: ds, env => match T d env with
    | .ok e1 => (match B e1 with
      | .nx e => forO T B ds e
      | .ct e => forO T B ds e
      | .bk e => .nx e
      | o => o)
    | _ => .bad
def sFor (I : En → R (List D)) (T : D → En → R En) (B : En → Out) : En → Out := fun env => liftO (I env) env fun ds => forO T B ds env
theorem ds_for {tg iter : Expr} {F : En → R (List D)} {ts : List Nat} {T : D → En → R En} (hp : PassesOwn (model X.prog X.w) X.A X.env X.xe) (hi : DI X W ξ true tg iter F) (hg : DGt X ξ tg ts T) (hb : DSs X W ξ body B) (hc : X.calm = true := by rfl)
    (hs : ∀ x, foldedSetIterable iter X.env x = pure x := by intro _; rfl) : DS X W ξ (.For tg iter body [] pos) (sFor F T B) :=
  psImp (ps_for hp hc hi hg hb hs) fun Dn σ H ⟨M, H0, env, E, p⟩ => ⟨M, H0, env, E, liftI p fun ds J H1 H2 g ⟨_, Gd, Y, wk, hGd, hY⟩ p1 => by
    rw [if_pos rfl] at hGd
    refine for_it wk (fun i σ' H' => ∃ H0' env', Same H1 H0' ∧ EnvAt X.K M H0' H' σ' env' ∧ PostS X.K W ξ M H0' Dn (forO T B (ds.drop i) env')) ⟨H1, env, Same.refl _, g.e, p1⟩
      (fun i σ' H' _ ⟨H0', env', s, E', _⟩ => hGd H' (s.trans E'.same)) (fun i x σ' H' H'' hi ⟨H0', env', s, E', p'⟩ y => ?_) fun σ' H' ⟨H0', env', s, E', p'⟩ => ?_
    · obtain ⟨d, hd⟩ : ∃ d, ds[i]? = some d := ⟨ds[i], by simp [hi]⟩
      have hdrop : ds.drop i = d :: ds.drop (i + 1) := by
        rw [List.drop_eq_getElem_cons hi]
        rw [List.getElem?_eq_getElem hi] at hd
        cases hd; rfl
      rw [hdrop] at p'
      unfold forO at p'
      have fin : ∀ {H02 : Hp}, Same H0' H02 → EnvAt X.K M H02 H'' σ' env' → Rep X.K H02 x d → tDG X.K ξ ts T x σ' H'' fun σ2 H2 => tS X.K W ξ B { Dn with
          nx := fun σ' H' => ∃ H0' env', Same H1 H0' ∧ EnvAt X.K M H0' H' σ' env' ∧ PostS X.K W ξ M H0' Dn (forO T B (ds.drop (i + 1)) env'),
          ct := fun σ' H' => ∃ H0' env', Same H1 H0' ∧ EnvAt X.K M H0' H' σ' env' ∧ PostS X.K W ξ M H0' Dn (forO T B (ds.drop (i + 1)) env'), bk := Dn.nx } σ2 H2 := by
        intro H02 s2 E2 r
        split at p'
        · rename_i e1 he1
          refine ⟨M, H02, env', d, e1, E2, r, he1, fun σ2 _ E3 => ⟨M, H02, e1, E3, ?_⟩⟩
          split at p'
          · rename_i e ho
            rw [ho]
            exact fun σ3 H03 H3 s3 E4 => ⟨H03, e, (s.trans s2).trans s3, E4, p'.weak (s2.trans s3)⟩
          · rename_i e ho
            rw [ho]
            exact fun σ3 H03 H3 s3 E4 => ⟨H03, e, (s.trans s2).trans s3, E4, p'.weak (s2.trans s3)⟩
          · rename_i e ho
            rw [ho]
            exact fun σ3 H03 H3 s3 E4 => p' σ3 H03 H3 (s2.trans s3) E4
          · rename_i o h1 h2 h3
            have p2 := p'.weak s2
            revert p2
            cases ho : B e1 with
            | nx e => exact absurd ho (h1 e)
            | ct e => exact absurd ho (h2 e)
            | bk e => exact absurd ho (h3 e)
            | rt d e => exact fun p2 => p2
            | exc x e => exact fun p2 => p2
            | bad => exact fun p2 => p2
        · exact p'.elim
      rcases hY i H' x H'' d (hGd H' (s.trans E'.same)) hd y with ⟨e1, r⟩ | ⟨T', vs, ds', hT, e1, e2, e3, hz, r⟩
      · subst e1
        exact fin (Same.refl _) E' (r.mono s)
      · subst e1 e2 e3
        have n := E'.new (o := .tup vs) hT
        exact fin n.s0 n.e (.tup upd_same hz (r.mono (s.trans n.s0)))
    · rw [List.drop_length] at p'
      exact p' σ' H0' H' (Same.refl _) E'⟩

def whileO (C : En → R Bool) (B : En → Out) : Nat → En → Out
  | 0, _ => .bad
  | n + 1, env => liftO (C env) env fun k => if k = true then (match B env with
      | .nx e => whileO C B n e
      | .ct e => whileO C B n e
      | .bk e => .nx e
      | o => o) else .nx env
def sWhile (C : En → R Bool) (B : En → Out) (n : Nat) : En → Out := fun env => whileO C B n env
end

def runB (m : Nat) (G : En → Out) (ds : List D) : R D := match G (ds.map Slot.d ++ List.replicate m .u) with
  | .rt d _ => .ok d
  | .nx _ => .ok .non
  | .exc x _ => .exc x
  | _ => .bad
section
variable {P : Program} {w : World} {K : PySem.W.Frag} {mg : Str → Option Value} {base : Heap} {ξ : Str → Value}
theorem fn_d {x qual : Str} {st : Stmt} {f : Addr} {fd : FuncData} {N ps : List Str} {k : Nat} {F : List D → R D} {G : En → Out} (Fn : Fun K x qual st f fd) (S : FnScope N ps (defScope st))
    (hl : ∀ ds, ds.length ≠ ps.length → F ds = .bad) (hF : ∀ ds, ds.length = ps.length → F ds = runB (N.length - ps.length) G ds)
    (hbody : ∀ (cdv : Value) (A : Around) (outer : List Env) (s : Shared) (H : Hp) (E : XK), Room k (A.deeper (envOfC qual (defScope st) s.heap.objs.size f cdv)) →
      DSs (cxOf (L2.CX P w) P w K mg base N qual (defScope st) f cdv A outer s H E) (fun cls d _ H => E cls d H) ξ (defBody st) G) : FnOk P w K mg base (L2.CX P w) (k + 1) f fd ps (spD K ξ F) := by
  have len : ∀ vs H Q E, spD K ξ F vs H Q E → vs.length = ps.length := fun vs H Q E ⟨ds, H0, _, r, p⟩ => by
    rw [r.length]
    apply Decidable.byContradiction
    intro h
    rw [hl ds h] at p
    exact p
  refine Fn.okX S len fun cdv A outer s H vs Q E hr ⟨ds, H0, s0, r, p⟩ => ?_
  refine ⟨_, hbody cdv A outer s H E hr, ?_⟩
  have hlen : ds.length = ps.length := by rw [← r.length]; exact len vs H Q E ⟨ds, H0, s0, r, p⟩
  rw [hF ds hlen] at p
  have hpl : ps.length ≤ N.length := by have := congrArg List.length S.pre; rw [List.length_take] at this; omega
  let M : Fm ξ := ⟨H, fun a => H a ≠ none ∧ H0 a = none, fun _ => 0, fun _ => none⟩
  have gets : ∀ (i : Nat) (x : Slot), (ds.map Slot.d ++ List.replicate (N.length - ps.length) Slot.u)[i]? = some x → (∃ d, ds[i]? = some d ∧ x = Slot.d d) ∨ x = Slot.u := fun (i : Nat) (x : Slot) h => by
    by_cases hi : i < ds.length
    · rw [List.getElem?_append_left (by simpa using hi), List.getElem?_map] at h
      cases e : ds[i]? with
      | none => rw [e] at h; cases h
      | some d => rw [e] at h; cases h; exact .inl ⟨d, rfl, rfl⟩
    · rw [List.getElem?_append_right (by simpa using hi), List.getElem?_replicate] at h
      split at h
      · cases h; exact .inr rfl
      · cases h
  have noOwn : ∀ i a, ¬ Owns (L2.start N vs) (ds.map Slot.d ++ List.replicate (N.length - ps.length) Slot.u) i a := fun i a ⟨_, sl, h1, h2⟩ => by
    rcases gets i sl h1 with ⟨d, _, e⟩ | e
    · subst e; cases h2
    · subst e; cases h2
  have E0 : EnvAt K M H0 H (L2.start N vs) (ds.map Slot.d ++ List.replicate (N.length - ps.length) .u) := by
    refine ⟨s0, Same.refl _, fun a h => ⟨h.2, h.1⟩, ?_, fun i sl h => ?_, fun i j a h => absurd h (noOwn i a), fun a i _ => noOwn i a, fun i n k t h => ?_⟩
    · unfold L2.start
      rw [List.length_append, List.length_append, List.length_map, List.length_map, List.length_replicate, List.length_replicate, r.length, hlen]
    · rcases gets i sl h with ⟨d, hd, e⟩ | e
      · subst e
        obtain ⟨v, hv, rv⟩ := r.get hd
        refine ⟨v, ?_, rv⟩
        have hi : i < vs.length := (List.getElem?_eq_some_iff.mp hv).1
        unfold L2.start
        rw [List.getElem?_append_left (by simpa using hi), List.getElem?_map, hv]; rfl
      · subst e; trivial
    · rcases gets i _ h with ⟨d, _, e⟩ | e <;> cases e
  refine ⟨M, H0, _, E0, ?_⟩
  have nog : ∀ {H0' : Hp}, (∀ a, M.N a → H0' a = none) → ∀ a, H a ≠ none → H0 a = none → H0' a = none := fun h a h1 h2 => h a ⟨h1, h2⟩
  unfold runB at p
  revert p
  cases G (ds.map Slot.d ++ List.replicate (N.length - ps.length) .u) with
  | nx e => exact fun p σ' H0' H' s E' => p .non H0' H' s E'.fr E'.same (nog fun a h => (E'.nogo a h).1) .non
  | rt d e => exact fun p v H0' H' s R' => p v H0' H' s R'.fr R'.same (nog R'.nogo) R'.rep
  | exc x e => exact fun p σ' H0' H' s E' => p H0' H' s E'.fr E'.same (nog fun a h => (E'.nogo a h).1)
  | bk e => exact fun p => p.elim
  | ct e => exact fun p => p.elim
  | bad => exact fun p => p.elim
end
end Dx

namespace Dx
open PySem PySem.Spec PyProof.Rows L2

set_option maxHeartbeats 1000000 in
theorem meets_enumB {v : Value} {o : Obj} {H : Heap → Prop} (B : Begins v o H) :
    Meets (Builtin.«enumerate.__new__» ⟨[.type "enumerate", v], []⟩) (fun _ R s => H s.heap ∧
      R (.ok (.ret (.ref (s.heap.push o).objs.size))) { s with heap := (s.heap.push o).push { cls := .type "enumerate", data := .fields #[.none, .bool false, .ref s.heap.objs.size, rawInt 0, .none, .none] } }) :=
  .of_wp fun prog w A R s h => by
    obtain ⟨hp, g, d, tk, os⟩ := s; obtain ⟨h1, h⟩ := h
    have hsub := sub_enumerate
    have q1 : ∀ {A' : Around} {E : Value → Shared → Prop} {Q : Value → Shared → Prop}, Q (.ref hp.objs.size) ⟨hp.push o, g, d, tk, os⟩ → wpAny (model prog w) A' (pyIter v) Q E ⟨hp, g, d, tk, os⟩ :=
      fun q => B.iter prog w _ _ ⟨hp, g, d, tk, os⟩ _ h1 q
    wp_walk using q1
    refine wpAny_stack_any fun st => wpAny_pure ?_
    split
    · rename_i c _ _ _ _ _
      cases (c == Value.type "enumerate")
      · wp_walk using q1
        exact ⟨_, rfl, h⟩
      · wp_walk using q1
        exact ⟨_, rfl, h⟩
    · wp_walk using q1
      exact ⟨_, rfl, h⟩
theorem call_enumB {prog : Program} {w : World} {A : Around} {E : Value → Shared → Prop} {s : Shared} {v : Value} {o : Obj} {H : Heap → Prop} {Q : Value → Shared → Prop} (B : Begins v o H) (h1 : H s.heap)
    (h : ∀ h', IsEnum h' (s.heap.objs.size + 1) s.heap.objs.size 0 .none → h'.get? s.heap.objs.size = some o → h'.objs.size = s.heap.objs.size + 2 →
      (∀ b o, s.heap.get? b = some o → h'.get? b = some o) → Q (.ref (s.heap.objs.size + 1)) { s with heap := h' }) :
    wpAny (model prog w) A (call (.type "enumerate") [v]) Q E s := by
  refine callType_new F.called_enumerate (by decide) (F.typeCall_enumerate_1 _) (F.newCall_enumerate_1 _) (fun obj => F.args_object_init_2 obj _) F.entry_enumerate_new
    (meets_enumB B) ⟨h1, ?_⟩
  have hz : (s.heap.push o).objs.size = s.heap.objs.size + 1 := Heap.size_push ..
  show _ ∧ _
  rw [hz]
  have he : IsEnum ((s.heap.push o).push { cls := .type "enumerate", data := .fields #[.none, .bool false, .ref s.heap.objs.size, rawInt 0, .none, .none] }) (s.heap.objs.size + 1) s.heap.objs.size 0 .none := by
    have := Heap.get?_push_size (s.heap.push o) (o := { cls := .type "enumerate", data := .fields #[.none, .bool false, .ref s.heap.objs.size, rawInt 0, .none, .none] }) rfl
    rw [hz] at this; exact this
  refine ⟨⟨_, he, rfl⟩, h _ he (Heap.get?_push_of_some _ (Heap.get?_push_size _ B.free)) (by rw [Heap.size_push, hz]) fun b o x => Heap.get?_push_of_some _ (Heap.get?_push_of_some _ x)⟩

def ItE (n : Nat) (src : Hp → Prop) (P : Nat → V → Prop) : It :=
  ⟨fun i H => i < n ∧ src H, fun i H v H' => ∃ T x, v = .ref T ∧ H T = none ∧ H' = upd H T (.tup [.int (i : Nat), x]) ∧ P i x, fun i H => n ≤ i ∧ src H⟩
section
variable {P : Program} {w : World} {K : PySem.W.Frag} {elts : List Expr} {kk : Nat} {tpos : Pos}
theorem turn_enumG {n : Nat} {src : Hp → Prop} {Pv : Nat → V → Prop} {e it : Addr} {iterAt : Nat → Heap → Prop}
    (objI : ∀ i h, iterAt i h → ∃ o, h.get? it = some o ∧ ∀ v, o.data ≠ .cell v)
    (keepI : ∀ i h h', iterAt i h → (∀ o, h.get? it = some o → h'.get? it = some o) → iterAt i h')
    (draw : ∀ (X : Cx) (pins : List (Addr × Obj)) (s : Shared) (σ : L2.St) (H : Hp), X.prog = P → X.w = w → X.K = K → X.calm = true → Inv X pins σ H s → src H → H it = none → H e = none → ∀ i, iterAt i s.heap → (∃ o, s.heap.get? e = some o) → ∃ (fp : List Addr) (Pu : Nat → Value → Prop) (St : Nat → Heap → Prop),
      Draws P w X.A.in1 it fp n Pu St ∧ e ∉ fp ∧ St i s.heap ∧ (∀ j h, St j h → iterAt j h) ∧ ∀ u, Pu i u → ∃ v, RelV v u ∧ Pv i v)
    (hne : e ≠ it) : Turn P w K (.Tuple elts kk tpos) (ItE n src Pv) [e, it] e (fun i h => i ≤ n ∧ (∃ old, IsEnum h e it ((i : Nat) : Int) old) ∧ iterAt i h) where
  mem := by simp
  obj := fun i h st b hb => by
    obtain ⟨_, ⟨old, he⟩, hi⟩ := st
    have e' : b = e ∨ b = it := by simpa using hb
    rcases e' with z | z
    · rw [z]; exact ⟨_, he, fun v q => nomatch q⟩
    · rw [z]; exact objI i h hi
  keep := fun i h h' st k => let ⟨hn, ⟨old, he⟩, hi⟩ := st; ⟨hn, ⟨old, k e (by simp) _ he⟩, keepI i h h' hi fun o q => k it (by simp) o q⟩
  item := by
    intro X hP hw hK hc i pins s σ H E I hf st hg
    obtain ⟨hn, ⟨old, he⟩, hit⟩ := st
    obtain ⟨hlt, hsrc⟩ := hg
    obtain ⟨fp, Pu, St, D, hef, hst, hof, hrel⟩ := draw X pins s σ H hP hw hK hc I hsrc (hf it (by simp)).1 (hf e (by simp)).1 i hit ⟨_, he⟩
    subst hP hw hK
    have hel : e < s.heap.objs.size := Heap.lt_size he
    obtain ⟨oi, hoi, _⟩ := objI i _ hit
    have hil : it < s.heap.objs.size := Heap.lt_size hoi
    refine wpAny_pyNext_enum_itemC D he hst hlt hne hef fun x h' tk hPx ho hst' hT hsz hk => ?_
    obtain ⟨v, rv, pv⟩ := hrel x hPx
    refine ⟨_, rfl, wpAny_letOwnedTupleGo_enum (s := { s with heap := h', toks := tk + 1 }) ho fun h'' he' sb => ?_⟩
    have hT2 : h''.get? s.heap.objs.size = some { cls := .type "tuple", data := .seq #[.int i tk, x] } := (sb.2 _ (Nat.ne_of_gt hel)).trans hT
    have new : ObjOk X.prog X.w (upd H s.heap.objs.size (.tup [.int (i : Nat), v])) h'' s.heap.objs.size (.tup [.int (i : Nat), v]) :=
      ⟨by show 2 ≤ sizeLine; decide, [.int i tk, x], .cons ⟨_, rfl⟩ (.cons rv .nil), ⟨_, hT2, rfl, _, rfl⟩⟩
    have I1 : Inv X pins σ (upd H s.heap.objs.size (.tup [.int (i : Nat), v])) { s with heap := h'', toks := tk + 1 } :=
      I.turnedNew (ch := [e, it]) (fun b ob hb q => (sb.2 b (fun z => hb (by simp [z]))).trans (hk b ob (fun z => hb (by simp [z])) (fun z => hb (by simp [z])) q)) hf (Nat.le_refl _) new
    refine ⟨.ref s.heap.objs.size, _, I1, rfl, ⟨_, v, rfl, I.hok.fresh (Nat.le_refl _), rfl, pv⟩, ⟨hlt, ⟨x, ?_⟩, keepI _ _ _ (hof _ _ hst') fun o q => (sb.2 it (Ne.symm hne)).trans q⟩, fun b hb => ?_⟩
    · have e1 : ((i + 1 : Nat) : Int) = (i : Int) + 1 := by omega
      rw [e1]; exact he'
    · have hb' : b < s.heap.objs.size := by
        have e' : b = e ∨ b = it := by simpa using hb
        rcases e' with z | z
        · rw [z]; exact hel
        · rw [z]; exact hil
      rw [upd_ne (Nat.ne_of_lt hb')]
      exact (hf b hb).1
  done := by
    intro X hP hw hK hc i pins s σ H E I hf st hg
    obtain ⟨hn, ⟨old, he⟩, hit⟩ := st
    obtain ⟨hge, hsrc⟩ := hg
    have hin : i = n := Nat.le_antisymm hn hge
    obtain ⟨fp, Pu, St, D, hef, hst, hof, hrel⟩ := draw X pins s σ H hP hw hK hc I hsrc (hf it (by simp)).1 (hf e (by simp)).1 i hit ⟨_, he⟩
    subst hP hw hK hin
    obtain ⟨f0, f1, f2, f3, f4, f5⟩ := hf it (by simp)
    exact wpAny_pyNext_enum_endD D he hst fun h' eb => ⟨rfl, I.turned (t' := s.toks) (fun b o hb q => eb b o hb q) f0 f1 f3 f4 f5⟩
  self := fun A i s Q E st h => let ⟨_, ⟨_, he⟩, _⟩ := st; wpAny_pyIter_enum he h
end
section
variable {X : Cx} {W : WX} {ξ : Str → Value} {e e2 tg : Expr} {c : Bool} {pos p tpos : Pos} {elts : List Expr} {kk : Nat} {f g : En → R D}
variable {K : PySem.W.Frag} {M : Fm ξ} {σ : L2.St} {env : En} {H0 H : Hp}
def iEnumT (te : TE) : TI := fun σ H R' => te σ H fun v H1 => (∃ a vs, v = .ref a ∧ H1 a = some (.tup vs) ∧ R' (ItE vs.length (fun H => H a = some (.tup vs)) (fun i x => vs[i]? = some x)) H1) ∨
  (∃ z, v = .str z ∧ R' (ItE z.cps.size (fun _ => True) (fun i x => ∃ c, z.cps[i]? = some c ∧ x = .str ⟨#[c]⟩)) H1)
theorem pi_enumT {te : TE} (hg : Gl X "enumerate") (hm : X.mg "enumerate" = none) (he : PE X e te) (hs : starEach [e] X.env = (false, eval e X.env) :: starEach [] X.env := by rfl) :
    PI X (.Tuple elts kk tpos) (.Call (.Name "enumerate" p) [e] [] pos) (iEnumT te) := by
  refine ⟨fun pins s σ H R' I h => ?_⟩
  refine Call_ (ld_blt I hg hm boot_enumerate (PyProof.Rows.callWith_type1 (args_cons (thn (he.run pins s σ H _ I h) fun u s1 ⟨v, H1, I1, r1, q1⟩ => args_nil ?_) hs) hs rfl))
  have fin : ∀ {o : Obj} {Hb : Heap → Prop} {n : Nat} {src : Hp → Prop} {Pv : Nat → V → Prop} {iterAt : Addr → Nat → Heap → Prop}, Begins u o Hb → Hb s1.heap →
      (∀ e it, e ≠ it → Turn X.prog X.w X.K (.Tuple elts kk tpos) (ItE n src Pv) [e, it] e (fun i h => i ≤ n ∧ (∃ old, IsEnum h e it ((i : Nat) : Int) old) ∧ iterAt it i h)) →
      (∀ it h, h.get? it = some o → iterAt it 0 h) → R' (ItE n src Pv) H1 →
      wpAny (model X.prog X.w) X.A (call (.type "enumerate") [u]) (fun v s1 => wpAny (model X.prog X.w) X.A (pyIter v) (PIE X pins σ (.Tuple elts kk tpos) R') X.xe s1) X.xe s1 := by
    intro o Hb n src Pv iterAt B hb T hat q
    refine call_enumB B hb fun h' he hit hsz hk => wpAny_pyIter_enum he ?_
    have I2 : Inv X pins σ H1 { s1 with heap := h' } := I1.kept (t' := s1.toks) hk
    refine ⟨s1.heap.objs.size + 1, [s1.heap.objs.size + 1, s1.heap.objs.size], _, _, H1, rfl, I2, T (s1.heap.objs.size + 1) s1.heap.objs.size (Nat.succ_ne_self _), ⟨Nat.zero_le _, ⟨.none, he⟩, hat _ _ hit⟩, fun b hb => ?_, q⟩
    have e' : b = s1.heap.objs.size + 1 ∨ b = s1.heap.objs.size := by simpa using hb
    have hle : s1.heap.objs.size ≤ b := by
      rcases e' with z | z
      · rw [z]; exact Nat.le_add_right _ _
      · rw [z]; exact Nat.le_refl _
    exact I1.fpOk hle (I1.hok.fresh hle)
  rcases q1 with ⟨a, vs, rfl, ha, q⟩ | ⟨z, rfl, q⟩
  · obtain rfl : u = Value.ref a := r1
    obtain ⟨its, rv, pt, _⟩ := I1.tuple (SqT.of ha)
    refine fin (iterAt := fun it i h => h.IsTupleIter it a i) (begins_tuple a its.toArray) (show s1.heap.IsTuple a its.toArray from pt) (fun e it hne => ?_) (fun it h hit => ⟨_, hit, rfl, rfl⟩) q
    refine turn_enumG (fun i h ⟨o, h1, h2, h3⟩ => ⟨o, h1, fun v z => by rw [h3] at z; cases z⟩) (fun i h h' st k => st.at k) (fun X' pins' s' σ' H' hP hw hK hc I' hsrc hit0 he0 i hit he' => ?_) hne
    obtain ⟨its', rv', pt', _⟩ := I'.tuple (SqT.of hsrc)
    have hta : a ≠ it := fun z => by rw [z, hit0] at hsrc; cases hsrc
    have hea : e ≠ a := fun z => by rw [← z, he0] at hsrc; cases hsrc
    have hl : its'.toArray.size = vs.length := by rw [List.size_toArray, rv'.length]
    refine ⟨[it, a], fun i v => its'.toArray[i]? = some v, fun i h => h.IsTupleIter it a i ∧ h.IsTuple a its'.toArray, ?_, ?_, ⟨hit, show s'.heap.IsTuple a its'.toArray from pt'⟩, fun j h st => st.1, fun u hu => ?_⟩
    · rw [← hl]
      exact Draws.tuple (show X'.A.in1.handled = none from I'.ok.hd hc) it a hta its'.toArray
    · intro hm
      have : e = it ∨ e = a := by simpa using hm
      rcases this with z | z
      · exact hne z
      · exact hea z
    · have hi : i < its'.toArray.size := (Array.getElem?_eq_some_iff.mp hu).1
      obtain ⟨v, hv⟩ : ∃ v, vs[i]? = some v := ⟨vs[i]'(by omega), by simp [hl ▸ hi]⟩
      obtain ⟨u', hu', ru⟩ := rv'.get hv
      have : u' = u := by
        have h2 : its'[i]? = some u := by simpa using hu
        rw [hu'] at h2; cases h2; rfl
      exact ⟨v, this ▸ ru, hv⟩
  · obtain ⟨t, rfl⟩ := r1
    refine fin (iterAt := fun it i h => h.IsStrIter it (strIterType z) z t i) (begins_text z t) trivial (fun e it hne => ?_) (fun it h hit => ⟨_, hit, rfl, rfl⟩) q
    refine turn_enumG (fun i h ⟨o, h1, h2, h3⟩ => ⟨o, h1, fun v z => by rw [h3] at z; cases z⟩) (fun i h h' ⟨o, h1, h2⟩ k => ⟨o, k o h1, h2⟩) (fun X' pins' s' σ' H' hP hw hK hc I' hsrc hit0 he0 i hit he' => ?_) hne
    refine ⟨[it], _, _, Draws.text (show X'.A.in1.handled = none from I'.ok.hd hc) it z t, by simpa using hne, hit, fun j h st => st, fun u ⟨c, u', hc', hu'⟩ => ?_⟩
    exact ⟨.str ⟨#[c]⟩, ⟨u', hu'⟩, c, hc', rfl⟩
theorem walk_E {n : Nat} {src : Hp → Prop} {P : Nat → V → Prop} : Walk (ItE n src P) n src (fun i H v H' => ∃ T x, v = .ref T ∧ H T = none ∧ H' = upd H T (.tup [.int (i : Nat), x]) ∧ P i x) :=
  ⟨fun _ _ hi q => ⟨hi, q⟩, fun _ q => ⟨Nat.le_refl _, q⟩, fun _ _ _ _ _ _ y => y⟩

theorem PostI.weak {x : R (List D)} {R' : It → Hp → Prop} {H0' H' : Hp} (g : Gr K M σ env H0 H H0' H') (p : PostI K W ξ M σ env c H0 H R' x) : PostI K W ξ M σ env c H0' H' R' x := by
  cases x with
  | ok ds => exact fun J H02 H2 g2 f => p J H02 H2 (g.trans g2) f
  | exc x => exact fun H02 H2 g2 => p H02 H2 (g.trans g2)
  | bad => exact p
theorem wishI {R' : It → Hp → Prop} : Wish K W ξ M σ env (fun H0 H => PostI K W ξ M σ env c H0 H R') := ⟨PostI.weak, fun p => p, fun p => p⟩
def charsD (z : Str) : List D := z.cps.toList.map fun c => D.str ⟨#[c]⟩
theorem charsD_get {z : Str} {i : Nat} {d : D} (h : (charsD z)[i]? = some d) : ∃ c, z.cps[i]? = some c ∧ d = .str ⟨#[c]⟩ := by
  unfold charsD at h
  rw [List.getElem?_map] at h
  cases e : z.cps.toList[i]? with
  | none => rw [e] at h; cases h
  | some c => rw [e] at h; cases h; exact ⟨c, by simpa using e, rfl⟩
theorem charsD_len (z : Str) : (charsD z).length = z.cps.size := by unfold charsD; simp
theorem charsD_rep {z : Str} (hz : sOk z = true) {c : Nat} {i : Nat} (h : z.cps[i]? = some c) : Rep K H0 (.str ⟨#[c]⟩) (.str ⟨#[c]⟩) :=
  .str _ (strOk_get hz (by rw [← Array.getElem?_toList] at h; exact List.mem_of_getElem? h))
def itemsR : D → R (List D)
  | .lst xs => .ok xs
  | .tup xs => .ok xs
  | .str z => .ok (charsD z)
  | .frz ns => if ns.length ≤ sizeLine then .ok (ns.map D.int) else .bad
  | _ => .bad
theorem RepX.lstAt {v : V} {xs : List D} (r : RepX c K H0 H v (.lst xs)) (s : Same H0 H) : ∃ a vs, v = .ref a ∧ (if c = true then H0 else H) a = some (.lst vs) ∧ H a = some (.lst vs) ∧ RepAll K H0 vs xs := by
  cases c with
  | true =>
    cases r with | lst h _ r => exact ⟨_, _, rfl, h, s _ _ h, r⟩
  | false =>
    obtain ⟨a, vs, e, h, r⟩ := RepX.lst r s
    exact ⟨a, vs, e, h, h, r⟩
def iSeq (K : PySem.W.Frag) (te : TE) : TI := fun σ H R' => te σ H fun v H1 => (∃ a vs, v = .ref a ∧ SqL K H1 a vs ∧ R' (Itl K a) H1) ∨ (∃ a vs, v = .ref a ∧ SqT K H1 a vs ∧ R' (Itt K a) H1) ∨ (∃ z, v = .str z ∧ R' (Its z) H1)
theorem pi_seq {te : TE} (he : PE X e te) : PI X tg e (iSeq X.K te) := by
  refine ⟨fun pins s σ H R' I h => ?_⟩
  refine thn (he.run pins s σ H _ I h) fun v s1 ⟨x, H1, I1, r1, q1⟩ => ?_
  rcases q1 with ⟨a, vs, e, hq, q⟩ | ⟨a, vs, e, hq, q⟩ | ⟨z, ex, q⟩
  · subst e
    cases r1
    obtain ⟨its, rv, p, hz⟩ := I1.list hq
    refine wpAny_pyIter_list p.isList ?_
    refine ⟨s1.heap.objs.size, [s1.heap.objs.size], _, _, H1, rfl, I1.kept (t' := s1.toks) fun b o e => Heap.get?_push_of_some _ e, turn_list a _, ⟨_, Heap.get?_push_size _ rfl, rfl, rfl⟩, fun b hb => ?_, q⟩
    have e : b = s1.heap.objs.size := by simpa using hb
    subst e
    exact I1.fpOk (Nat.le_refl _) (I1.hok.fresh (Nat.le_refl _))
  · subst e
    cases r1
    obtain ⟨its, rv, p, hz⟩ := I1.tuple hq
    refine wpAny_pyIter_tuple (show s1.heap.IsTuple a its.toArray from p) ?_
    refine ⟨s1.heap.objs.size, [s1.heap.objs.size], _, _, H1, rfl, I1.kept (t' := s1.toks) fun b o e => Heap.get?_push_of_some _ e, turn_tuple a _, ⟨_, Heap.get?_push_size _ rfl, rfl, rfl⟩, fun b hb => ?_, q⟩
    have e : b = s1.heap.objs.size := by simpa using hb
    subst e
    exact I1.fpOk (Nat.le_refl _) (I1.hok.fresh (Nat.le_refl _))
  · subst ex
    obtain ⟨t, rfl⟩ := r1
    cases ha : z.cps.all (· < 128)
    · exact wpAny_pyIter_wide ha (pi_one (tk := s1.toks) I1 _ (turn_str _ z t "str_iterator" (.inr rfl)) ⟨_, Heap.get?_push_size _ rfl, rfl, rfl⟩ q)
    · exact wpAny_pyIter_ascii ha (pi_one (tk := s1.toks) I1 _ (turn_str _ z t "str_ascii_iterator" (.inl rfl)) ⟨_, Heap.get?_push_size _ rfl, rfl, rfl⟩ q)
theorem feeds_list {a : Addr} {vs : List V} {xs : List D} {Hs : Hp} (h : Hs a = some (.lst vs)) (z : xs.length ≤ sizeLine) (r : RepAll K H0 vs xs) : Feeds K H0 Hs (Itl K a) xs :=
  ⟨z, _, _, by rw [← r.length]; exact walk_list (xs := vs), fun H1 s => SqL.of (s _ _ h), fun i H1 x H2 d _ hd y => by
    obtain ⟨v, hv, rv⟩ := r.get hd
    have := y.2
    rw [hv] at this
    cases this
    exact .inl ⟨y.1, rv⟩⟩
theorem feeds_tup {a : Addr} {vs : List V} {xs : List D} {Hs : Hp} (h : Hs a = some (.tup vs)) (z : xs.length ≤ sizeLine) (r : RepAll K H0 vs xs) : Feeds K H0 Hs (Itt K a) xs :=
  ⟨z, _, _, by rw [← r.length]; exact walk_tup (xs := vs), fun H1 s => SqT.of (s _ _ h), fun i H1 x H2 d _ hd y => by
    obtain ⟨v, hv, rv⟩ := r.get hd
    have := y.2
    rw [hv] at this
    cases this
    exact .inl ⟨y.1, rv⟩⟩
theorem feeds_str {z : Str} {Hs : Hp} (hz : sOk z = true) : Feeds K H0 Hs (Its z) (charsD z) :=
  ⟨by rw [charsD_len, sizeLine_eq]; exact of_decide_eq_true (Bool.and_eq_true_iff.mp hz).2, _, _, by rw [charsD_len]; exact walk_str (z := z), fun _ _ => trivial, fun i H1 x H2 d _ hd y => by
    obtain ⟨c, hc, e⟩ := charsD_get hd
    obtain ⟨y1, c', hc', e'⟩ := y
    rw [hc] at hc'; cases hc'
    subst e e'
    exact .inl ⟨y1, charsD_rep hz hc⟩⟩
theorem ifSame {H1 : Hp} (s : Same H0 H) (h : Same (if c = true then H0 else H) H1) : Same H0 H1 := by
  cases c with
  | true => exact h
  | false => exact s.trans h
theorem di_seq (he : DE X W ξ c e f) : DI X W ξ c tg e (eUn itemsR f) :=
  piImp (pi_seq he) fun σ H R' ⟨M, H0, env, E, p⟩ => ⟨M, H0, env, E, bindE wishI p fun d v H1 H2 g r p1 => by
    unfold itemsR at p1
    split at p1
    · have z := r.lstLen
      obtain ⟨a, vs, rfl, h1, h2, r2⟩ := r.lstAt g.e.same
      exact .inl ⟨a, vs, rfl, SqL.of h2, p1 _ H1 H2 (.refl g.e) (feeds_list h1 z r2)⟩
    · have z := r.tupLen
      obtain ⟨a, vs, rfl, h1, r2⟩ := r.tup
      refine .inr (.inl ⟨a, vs, rfl, SqT.of (g.e.same _ _ h1), p1 _ H1 H2 (.refl g.e) (feeds_tup ?_ z r2)⟩)
      cases c with
      | true => exact h1
      | false => exact g.e.same _ _ h1
    · exact .inr (.inr ⟨_, r.str, p1 _ H1 H2 (.refl g.e) (feeds_str r.sok)⟩)
    · split at p1
      · rename_i ns hz
        obtain ⟨a, e1, hq⟩ := RepX.frz r g.e.same
        subst e1
        refine .inl ⟨a, _, rfl, hq, p1 _ H1 H2 (.refl g.e) ⟨by rw [List.length_map]; exact hz, _, _, by rw [List.length_map]; exact (List.length_map V.int (as := ns)) ▸ walk_list (xs := ns.map V.int), fun H3 s => ?_, fun i H3 x H4 d _ hd y => ?_⟩⟩
        · cases c with
          | true =>
            cases r with | frz hq' => exact s.seq hq'
          | false => exact s.seq hq
        · have r2 : RepAll X.K H1 (ns.map V.int) (ns.map D.int) := repAll_ints ns
          obtain ⟨v, hv, rv⟩ := r2.get hd
          have := y.2
          rw [hv] at this
          cases this
          exact .inl ⟨y.1, rv⟩
      · exact p1.elim
    · exact p1.elim⟩
def pairs0 (xs : List D) : List D := xs.zipIdx.map fun p => .tup [.int (p.2 : Nat), p.1]
theorem pairs0_get {xs : List D} {i : Nat} {d : D} (h : (pairs0 xs)[i]? = some d) : ∃ x, xs[i]? = some x ∧ d = .tup [.int (i : Nat), x] := by
  unfold pairs0 at h
  rw [List.getElem?_map, List.getElem?_zipIdx] at h
  cases e : xs[i]? with
  | none => rw [e] at h; cases h
  | some x => rw [e] at h; cases h; exact ⟨x, rfl, by simp⟩
def fEn (A : En → R D) : En → R (List D) := fun env => A env >>= fun d => (match d with | .lst xs => R.ok xs | _ => R.bad) >>= fun xs => .ok (pairs0 xs)
def fEnT (A : En → R D) : En → R (List D) := fun env => A env >>= fun d => (match d with | .tup xs => R.ok xs | .str z => R.ok (charsD z) | _ => R.bad) >>= fun xs => .ok (pairs0 xs)
theorem di_enumT (hm : X.mg "enumerate" = none) (he : DE X W ξ c e f) (hg : Gl X "enumerate" := by rfl) (hs : starEach [e] X.env = (false, eval e X.env) :: starEach [] X.env := by rfl) : DI X W ξ c (.Tuple elts kk tpos) (.Call (.Name "enumerate" p) [e] [] pos) (fEnT f) :=
  piImp (pi_enumT hg hm he hs) fun σ H R' ⟨M, H0, env, E, p⟩ => ⟨M, H0, env, E, bindE wishI p fun d v H1 H2 g r p1 => by
    split at p1
    · have z := r.tupLen
      obtain ⟨a, vs, rfl, h1, r2⟩ := r.tup
      refine .inl ⟨a, vs, rfl, g.e.same _ _ h1, p1 _ H1 H2 (.refl g.e) ⟨by unfold pairs0; rw [List.length_map, List.length_zipIdx]; exact z, _, _, by unfold pairs0; rw [List.length_map, List.length_zipIdx, ← r2.length]; exact walk_E, fun H3 s => ifSame g.e.same s _ _ h1, fun i H3 x H4 d _ hd y => ?_⟩⟩
      obtain ⟨T, x1, e1, e2, e3, e5⟩ := y
      obtain ⟨y, hy, e6⟩ := pairs0_get hd
      obtain ⟨v, hv, rv⟩ := r2.get hy
      rw [hv] at e5
      cases e5
      exact .inr ⟨T, _, _, e2, e3, e1, e6, (by show 2 ≤ sizeLine; decide), .cons (.int _) (.cons rv .nil)⟩
    · refine .inr ⟨_, r.str, p1 _ H1 H2 (.refl g.e) ⟨by unfold pairs0; rw [List.length_map, List.length_zipIdx, charsD_len]; exact r.slen, _, _, by unfold pairs0; rw [List.length_map, List.length_zipIdx, charsD_len]; exact walk_E, fun _ _ => trivial, fun i H3 x H4 d _ hd y => ?_⟩⟩
      obtain ⟨T, x1, e1, e2, e3, c, hc, e5⟩ := y
      obtain ⟨y, hy, e6⟩ := pairs0_get hd
      obtain ⟨c', hc', e7⟩ := charsD_get hy
      rw [hc] at hc'; cases hc'
      subst e5 e7
      exact .inr ⟨T, _, _, e2, e3, e1, e6, (by show 2 ≤ sizeLine; decide), .cons (.int _) (.cons (charsD_rep r.sok hc) .nil)⟩
    · exact p1.elim⟩
def rngD (lo : Int) (n : Nat) : List D := (List.range n).map fun i => .int (lo + (i : Nat))
theorem rngD_get {lo : Int} {n i : Nat} {d : D} (h : (rngD lo n)[i]? = some d) : d = .int (lo + (i : Nat)) := by
  unfold rngD at h
  rw [List.getElem?_map] at h
  cases e : (List.range n)[i]? with
  | none => rw [e] at h; cases h
  | some j =>
    rw [e] at h
    cases h
    rw [List.getElem?_range (by
      have := (List.getElem?_eq_some_iff.mp e).1
      simpa using this)] at e
    cases e; rfl
theorem feeds_rng {lo : Int} {n : Nat} {Hs : Hp} (hz : n ≤ 16777216) : Feeds K H0 Hs (Itr lo n) (rngD lo n) :=
  ⟨by unfold rngD; rw [List.length_map, List.length_range, sizeLine_eq]; exact hz, _, _, by unfold rngD; rw [List.length_map, List.length_range]; exact walk_range, fun _ _ => trivial, fun i H1 x H2 d _ hd y => by
    rw [rngD_get hd, y.2]
    exact .inl ⟨y.1, .int _⟩⟩
def range1R (d : D) : R (List D) := match d with
  | .int j => if -16777216 ≤ j ∧ j ≤ 16777216 then .ok (rngD 0 j.toNat) else .bad
  | _ => .bad
def range2R (d d2 : D) : R (List D) := match d, d2 with
  | .int i, .int j => if -8388608 ≤ i ∧ i ≤ 8388608 ∧ -8388608 ≤ j ∧ j ≤ 8388608 then .ok (rngD i (j - i).toNat) else .bad
  | _, _ => .bad
theorem di_range1 {c1 : Bool} (hm : X.mg "range" = none) (ha : DE X W ξ c1 e f) (hg : Gl X "range" := by rfl) (hs : starEach [e] X.env = [(false, eval e X.env)] := by rfl) : DI X W ξ c tg (.Call (.Name "range" p) [e] [] pos) (eUn range1R f) :=
  piImp (pi_range1 hg hm (pa_cons ha pa_nil hs) hs) fun σ H R' ⟨M, H0, env, E, p⟩ => ⟨M, H0, env, E, bindE wishI p fun d v H1 H2 g r p1 => by
    unfold range1R at p1
    split at p1
    · split at p1
      · rename_i h
        exact ⟨_, by rw [RepX.int r], by omega, by omega, p1 _ H1 H2 (.refl g.e) (feeds_rng (by omega))⟩
      · exact p1.elim
    · exact p1.elim⟩
def fRng2 (A B : En → R D) : En → R (List D) := fun env => A env >>= fun x => B env >>= fun y => range2R x y
end
end Dx

namespace Dx
open PySem PySem.Spec PyProof.Rows L2

def compO (T : D → En → R En) (C : En → R Bool) (F : En → R D) (env : En) : List D → R (List D)
  | [] => .ok []
  | d :: ds => match T d env with
    | .ok e1 => (match C e1 with
      | .ok true => (match F e1 with
        | .ok x => compO T C F env ds >>= fun xs => .ok (x :: xs)
        | _ => .bad)
      | .ok false => compO T C F env ds
      | _ => .bad)
    | _ => .bad
def wipeE (env : En) (vs : List Nat) : En := vs.foldr (fun i e => e.set i .u) env
abbrev W0 : WX := fun _ _ _ _ => False

section
variable {K : PySem.W.Frag} {ξ : Str → Value} {M : Fm ξ} {σ : L2.St} {env : En} {H0 H H0' H' : Hp}
theorem EnvAt.wipe (E : EnvAt K M H0 H σ env) : ∀ vs : List Nat, EnvAt K M H0 H (L2.wipe σ vs) (wipeE env vs)
  | [] => E
  | v :: vs => (E.wipe vs).unset v
def Fm.plus (M : Fm ξ) (D : Addr) : Fm ξ := ⟨M.G, fun a => M.N a ∨ a = D, M.T, M.R⟩
theorem EnvAt.plus (E : EnvAt K M H0 H σ env) {Da : Addr} {o : HO} (n : NewAt M σ env H0 H Da o) : EnvAt K (M.plus Da) H0 H σ env := by
  refine ⟨E.same, E.fr, fun a h => ?_, E.len, fun i s h => ?_, E.sep, fun a j h => ?_, E.tg⟩
  · rcases h with h | h
    · exact E.nogo a h
    · subst h; exact ⟨n.h0, fun z => by have q := n.at_; rw [z] at q; cases q⟩
  · have q := E.slot i s h
    cases s with
    | u => trivial
    | d x => exact q
    | ol xs => exact q
    | od xs => exact q
    | ex => exact q
    | tr n k t => exact q
  · rcases h with h | h
    · exact E.ng a j h
    · subst h; exact n.w j
theorem EnvAt.minus {Da : Addr} (E : EnvAt K (M.plus Da) H0 H σ env) : EnvAt K M H0 H σ env :=
  ⟨E.same, E.fr, fun a h => E.nogo a (.inl h), E.len, fun i s h => by
    have q := E.slot i s h
    cases s with
    | u => trivial
    | d x => exact q
    | ol xs => exact q
    | od xs => exact q
    | ex => exact q
    | tr n k t => exact q, E.sep, fun a j h => E.ng a j (.inl h), E.tg⟩
theorem EnvAt.app {Da : Addr} (E : EnvAt K (M.plus Da) H0 H σ env) (hg : M.G Da = none) (o : HO) : EnvAt K (M.plus Da) H0 (upd H Da o) σ env := by
  have h0 := (E.nogo Da (.inr rfl)).1
  refine ⟨fun b u e => ?_, fun b u e => ?_, fun a h => ⟨(E.nogo a h).1, ?_⟩, E.len, fun i s h => ?_, E.sep, E.ng, E.tg⟩
  · rw [upd_ne (ne_of_none e h0)]; exact E.same _ _ e
  · rw [upd_ne (ne_of_none e hg)]; exact E.fr _ _ e
  · by_cases hb : a = Da
    · subst hb; rw [upd_same]; intro z; cases z
    · rw [upd_ne hb]; exact (E.nogo a h).2
  · have q := E.slot i s h
    have ne : ∀ {a}, σ[i]? = some (some (.ref a)) → s.own = true → a ≠ Da := fun {a} e o z => by
      subst z; exact E.ng a i (.inr rfl) ⟨e, s, h, o⟩
    cases s with
    | u => trivial
    | d x => exact q
    | ol xs => obtain ⟨a, vs, e, z0, zg, ha, r⟩ := q; exact ⟨a, vs, e, z0, zg, by rw [upd_ne (ne e rfl)]; exact ha, r⟩
    | od xs => obtain ⟨a, vs, e, z0, zg, ha, r⟩ := q; exact ⟨a, vs, e, z0, zg, by rw [upd_ne (ne e rfl)]; exact ha, r⟩
    | ex => exact q
    | tr n k t => exact q
theorem wipe_idem (σ : L2.St) : ∀ vs : List Nat, ∀ i ∈ vs, (L2.wipe σ vs).set i none = L2.wipe σ vs
  | [], i, h => by cases h
  | v :: vs, i, h => by
    show ((L2.wipe σ vs).set v none).set i none = (L2.wipe σ vs).set v none
    by_cases e : i = v
    · subst e; rw [List.set_set]
    · have : i ∈ vs := by
        rcases List.mem_cons.mp h with z | z
        · exact absurd z e
        · exact z
      rw [List.set_comm _ _ (Ne.symm e), wipe_idem σ vs i this]
theorem wipe_sub (σ σ' : L2.St) (ts vs : List Nat) (hs : ∀ i ∈ ts, i ∈ vs) (h : L2.wipe σ' ts = L2.wipe σ ts) : L2.wipe σ' vs = L2.wipe σ vs := by
  have key : ∀ (τ : L2.St) (us : List Nat), (∀ i ∈ us, i ∈ vs) → L2.wipe (L2.wipe τ us) vs = L2.wipe τ vs := by
    intro τ us hus
    have sw : ∀ (τ : L2.St) (i : Nat), i ∈ vs → L2.wipe (τ.set i none) vs = L2.wipe τ vs := by
      intro τ i hi
      have h1 : ∀ (ws : List Nat) (τ : L2.St), L2.wipe (τ.set i none) ws = (L2.wipe τ ws).set i none := by
        intro ws
        induction ws with
        | nil => intro τ; rfl
        | cons u ws ih =>
          intro τ
          show (L2.wipe (τ.set i none) ws).set u none = ((L2.wipe τ ws).set u none).set i none
          rw [ih]
          by_cases e : i = u
          · subst e; rfl
          · rw [List.set_comm _ _ e]
      rw [h1, wipe_idem τ vs i hi]
    induction us generalizing τ with
    | nil => rfl
    | cons u us ih =>
      show L2.wipe ((L2.wipe τ us).set u none) vs = _
      rw [sw _ u (hus u (by simp)), ih τ fun i hi => hus i (by simp [hi])]
  rw [← key σ' ts hs, h, key σ ts hs]
theorem wipe_wipe (σ : L2.St) (vs : List Nat) : L2.wipe (L2.wipe σ vs) vs = L2.wipe σ vs := by
  have : ∀ us : List Nat, (∀ i ∈ us, i ∈ vs) → L2.wipe (L2.wipe σ vs) us = L2.wipe σ vs := by
    intro us
    induction us with
    | nil => intro _; rfl
    | cons u us ih =>
      intro h
      show (L2.wipe (L2.wipe σ vs) us).set u none = _
      rw [ih fun i hi => h i (by simp [hi]), wipe_idem σ vs u (h u (by simp))]
  exact this vs fun _ h => h
end

section
variable {X : Cx} {W : WX} {ξ : Str → Value} {elt tg iter : Expr} {ifs : List Expr} {scope : Scope} {own : List (Str × Nat)} {pos pos' : Pos} {c : Bool}
variable {Fi : En → R (List D)} {T : D → En → R En} {C : En → R Bool} {F : En → R D} {ts : List Nat}
abbrev DTs (X : Cx) (W : WX) (ξ : Str → Value) (ifs : List Expr) (C : En → R Bool) : Prop := PTs X ifs (tDT X.K W ξ C)
def tTrue : En → R Bool := fun _ => .ok true
theorem dts_nil : DTs X W ξ [] tTrue := ⟨fun pins s σ H Q I ⟨M, H0, env, E, p⟩ => pts_nil.run pins s σ H Q I (p H0 H (.refl E))⟩
theorem dts_one {e : Expr} (h : DT X W ξ e C) : DTs X W ξ [e] C := pts_one h
theorem lc_loop {K : PySem.W.Frag} {Wo : WX} {M : Fm ξ} {σ : L2.St} {env : En} {H0 H : Hp} {Q : VK} (vs : List Nat) (hts : ∀ i ∈ ts, i ∈ vs) {J : It} {ds : List D} (E : EnvAt K M H0 H σ env) (fd : Feeds K H0 (if c = true then H0 else H) J ds)
    (p : PostF K Wo ξ M σ env H0 H Q (compO T C F (wipeE env vs) ds)) :
    ∀ Da, H Da = none → ∃ W : Nat → Nat → Hp → Prop, (∃ m, W 0 m (upd H Da (.lst []))) ∧ ∀ i m H, W i m H →
      (J.stop i H ∧ Q (.ref Da) H) ∨ (J.go i H ∧ ∃ Nx : Hp → Prop, (∀ H', Nx H' → ∃ m', m' < m ∧ W (i + 1) m' H') ∧ ∀ x H', J.yld i H x H' → tDG K ξ ts T x (wipe σ vs) H' fun σ2 H2 => wipe σ2 vs = wipe σ vs ∧ tDT K W0 ξ C σ2 H2 fun b H3 =>
        if b = true then tD K W0 ξ true F σ2 H3 fun y H4 => ∃ acc, H4 Da = some (.lst acc) ∧ acc.length < sizeLine ∧ Nx (upd H4 Da (.lst (acc ++ [y]))) else Nx H3) := by
  intro Da hDa
  obtain ⟨hlen, Gd, Y, wk, hGd, hY⟩ := fd
  obtain ⟨g0, n0⟩ := E.newAt (o := .lst []) hDa
  have hg : M.G Da = none := n0.g
  have ifS : ∀ {H1 H01 : Hp}, Same H0 H01 → Same H01 H1 → Same H H1 → Gd H1 := fun a b cc => hGd _ (by
    cases c with
    | true => exact a.trans b
    | false => exact cc)
  refine lc_it (g := tDG K ξ ts T) (tt := tDT K W0 ξ C) (te := tD K W0 ξ true F) wk (fun i H1 => ∃ H01 acc done, Same H0 H01 ∧ Same H H1 ∧ EnvAt K (M.plus Da) H01 H1 σ env ∧ H1 Da = some (.lst acc) ∧ RepAll K H01 acc done ∧ acc.length ≤ i ∧ (∀ a, H a ≠ none → H0 a = none → H01 a = none) ∧
      (∃ rest, compO T C F (wipeE env vs) (ds.drop i) = .ok rest ∧ compO T C F (wipeE env vs) ds = .ok (done ++ rest)))
    ?_ (fun i H1 _ ⟨H01, acc, done, s0, s, E1, _⟩ => ifS s0 E1.same s) (fun i x H1 H2 hi ⟨H01, acc, done, s0, s, E1, hacc, racc, hal, hnew, rest, hrest, hall⟩ y => ?_) fun H1 ⟨H01, acc, done, s0, s, E1, hacc, racc, hal, hnew, rest, hrest, hall⟩ => ?_
  · cases h : compO T C F (wipeE env vs) ds with
    | ok xs => exact ⟨H0, [], [], Same.refl _, same_upd hDa, g0.e.plus n0, upd_same, .nil, Nat.le_refl _, fun _ _ z => z, xs, by rw [List.drop_zero]; exact h, rfl⟩
    | exc x =>
      exfalso
      have : ∀ l, compO T C F (wipeE env vs) l ≠ .exc x := by
        intro l
        induction l with
        | nil => intro z; cases z
        | cons d l ih =>
          intro z
          unfold compO at z
          split at z
          · split at z
            · split at z
              · cases hl : compO T C F (wipeE env vs) l with
                | ok xs => rw [hl] at z; cases z
                | exc y => rw [hl] at z; cases z; exact ih hl
                | bad => rw [hl] at z; cases z
              · cases z
            · exact ih z
            · cases z
          · cases z
      exact this ds h
    | bad => rw [h] at p; exact p.elim
  · obtain ⟨d, hd⟩ : ∃ d, ds[i]? = some d := ⟨ds[i], by simp [hi]⟩
    have hdrop : ds.drop i = d :: ds.drop (i + 1) := by
      rw [List.drop_eq_getElem_cons hi]
      rw [List.getElem?_eq_getElem hi] at hd
      cases hd; rfl
    rw [hdrop] at hrest
    unfold compO at hrest
    have fin : ∀ {H02 : Hp}, Gr K (M.plus Da) σ env H01 H1 H02 H2 → Rep K H02 x d → tDG K ξ ts T x (wipe σ vs) H2 fun σ2 H2 => wipe σ2 vs = wipe σ vs ∧ tDT K W0 ξ C σ2 H2 fun b H3 =>
        if b = true then tD K W0 ξ true F σ2 H3 fun y H4 => ∃ acc, H4 Da = some (.lst acc) ∧ acc.length < sizeLine ∧ (∃ H01 acc' done, Same H0 H01 ∧ Same H (upd H4 Da (.lst (acc ++ [y]))) ∧ EnvAt K (M.plus Da) H01 (upd H4 Da (.lst (acc ++ [y]))) σ env ∧ (upd H4 Da (.lst (acc ++ [y]))) Da = some (.lst acc') ∧ RepAll K H01 acc' done ∧ acc'.length ≤ i + 1 ∧ (∀ a, H a ≠ none → H0 a = none → H01 a = none) ∧
          (∃ rest, compO T C F (wipeE env vs) (ds.drop (i + 1)) = .ok rest ∧ compO T C F (wipeE env vs) ds = .ok (done ++ rest)))
        else (∃ H01 acc done, Same H0 H01 ∧ Same H H3 ∧ EnvAt K (M.plus Da) H01 H3 σ env ∧ H3 Da = some (.lst acc) ∧ RepAll K H01 acc done ∧ acc.length ≤ i + 1 ∧ (∀ a, H a ≠ none → H0 a = none → H01 a = none) ∧
          (∃ rest, compO T C F (wipeE env vs) (ds.drop (i + 1)) = .ok rest ∧ compO T C F (wipeE env vs) ds = .ok (done ++ rest))) := by
      intro H02 g2 r
      split at hrest
      · rename_i e1 he1
        refine ⟨M.plus Da, H02, wipeE env vs, d, e1, g2.e.wipe vs, r, he1, fun σ2 hw E3 => ⟨?_, ?_⟩⟩
        · rw [wipe_sub _ _ ts vs hts hw, wipe_wipe]
        · refine ⟨M.plus Da, H02, e1, E3, ?_⟩
          have back : ∀ {H03 H3 : Hp}, Gr K (M.plus Da) σ2 e1 H02 H2 H03 H3 → Gr K (M.plus Da) σ env H01 H1 H03 H3 := fun {H03 H3} g3 =>
            g2.trans ⟨g3.s0, g3.s, g2.e.grow g3.s0 g3.s g3.e.same g3.n, g3.n⟩
          split at hrest
          · rename_i hC
            rw [hC]
            intro H03 H3 g3
            rw [if_pos rfl]
            split at hrest
            · rename_i x' hF
              refine ⟨M.plus Da, H03, e1, g3.e, ?_⟩
              rw [hF]
              intro v H04 H4 g4 rv
              have gg : Gr K (M.plus Da) σ env H01 H1 H04 H4 := (back g3).trans ⟨g4.s0, g4.s, (back g3).e.grow g4.s0 g4.s g4.e.same g4.n, g4.n⟩
              have rv : Rep K H04 v x' := rv
              refine ⟨acc, gg.s _ _ hacc, by have := hlen; omega, ?_⟩
              cases hl : compO T C F (wipeE env vs) (ds.drop (i + 1)) with
              | ok xs =>
                rw [hl] at hrest
                cases hrest
                have s4 : Same H (upd H4 Da (.lst (acc ++ [v]))) := fun b o e => by
                  rw [upd_ne (ne_of_none e hDa)]; exact gg.s _ _ (s _ _ e)
                refine ⟨H04, acc ++ [v], done ++ [x'], s0.trans gg.s0, s4, gg.e.app hg _, upd_same, (racc.mono gg.s0).snoc rv, by simp; omega, fun a h1 h2 => gg.n a (fun z => h1 (s.free z)) (hnew a h1 h2), xs, rfl, ?_⟩
                rw [hall]; simp
              | exc x => rw [hl] at hrest; cases hrest
              | bad => rw [hl] at hrest; cases hrest
            · cases hrest
          · rename_i hC
            rw [hC]
            intro H03 H3 g3
            rw [if_neg Bool.false_ne_true]
            have gg := back g3
            exact ⟨H03, acc, done, s0.trans gg.s0, s.trans gg.s, gg.e, gg.s _ _ hacc, racc.mono gg.s0, by omega, fun a h1 h2 => gg.n a (fun z => h1 (s.free z)) (hnew a h1 h2), rest, hrest, hall⟩
          · cases hrest
      · cases hrest
    rcases hY i H1 x H2 d (ifS s0 E1.same s) hd y with ⟨e1, r⟩ | ⟨T', ws, ds', hT, e1, e2, e3, hz, r⟩
    · subst e1
      exact fin (Gr.refl E1) (r.mono s0)
    · subst e1 e2 e3
      have n := E1.new (o := .tup ws) hT
      exact fin n (.tup upd_same hz (r.mono (s0.trans n.s0)))
  · rw [List.drop_length] at hrest
    cases hrest
    rw [List.append_nil] at hall
    rw [hall] at p
    have hd0 : H01 Da = none := (E1.nogo Da (.inr rfl)).1
    refine p Da acc H01 H1 ⟨s0, s, E1.minus, hnew⟩ hDa ⟨hacc, hd0, hg, n0.n, n0.w⟩ ⟨?_, racc⟩
    rw [← racc.length]
    exact Nat.le_trans hal hlen
theorem compI {K : PySem.W.Frag} {M : Fm ξ} {σ : L2.St} {env : En} {H0 H : Hp} {Q : VK} {R' : It → Hp → Prop} {x : R (List D)} {k : List D → R (List D)} (p : PostF K W ξ M σ env H0 H Q (x >>= k))
    (h : ∀ ds J H0' H', Gr K M σ env H0 H H0' H' → Feeds K H0' (if c = true then H0' else H') J ds → PostF K W ξ M σ env H0' H' Q (k ds) → R' J H') : PostI K W ξ M σ env c H0 H R' x := by
  cases x with
  | ok ds => exact fun J H0' H' g f => h ds J H0' H' g f (PostF.weak g p)
  | exc x => exact fun H0' H' g => p H0' H' g
  | bad => exact p
theorem lc_imp {K : PySem.W.Frag} (hts : ∀ i ∈ ts, i ∈ own.map (·.2)) : ∀ σ H Q, tDF K W ξ (fun env => Fi env >>= fun ds => compO T C F (wipeE env (own.map (·.2))) ds) σ H Q → tLc (tDI K W ξ c Fi) (tDG K ξ ts T) (tDT K W0 ξ C) (tD K W0 ξ true F) (own.map (·.2)) σ H Q :=
  fun σ H Q ⟨M, H0, env, E, p⟩ => ⟨M, H0, env, E, compI p fun ds J H1 H2 g f p1 => lc_loop (own.map (·.2)) hts g.e f p1⟩
def eComp (I : En → R (List D)) (T : D → En → R En) (C : En → R Bool) (F : En → R D) (own : List Nat) : En → R (List D) := fun env => I env >>= fun ds => compO T C F (wipeE env own) ds
theorem df_lc (hN : X.N.Nodup) (hi : DI X W ξ c tg iter Fi) (ok : blkC X.N X.env.scope scope own = true) (hg : ∀ (s : Shared) (H : Hp) (C : Addr) (cl : List (Str × Addr)) (fp : List Addr), DGt (X.blk s H scope (compEnvC scope cl C X.env) fp) ξ tg ts T)
    (ht : ∀ (s : Shared) (H : Hp) (Ca : Addr) (cl : List (Str × Addr)) (fp : List Addr), DTs (X.blk s H scope (compEnvC scope cl Ca X.env) fp) W0 ξ ifs C)
    (he : ∀ (s : Shared) (H : Hp) (C : Addr) (cl : List (Str × Addr)) (fp : List Addr), DE (X.blk s H scope (compEnvC scope cl C X.env) fp) W0 ξ true elt F)
    (hts : ∀ i ∈ ts, i ∈ own.map (·.2) := by decide) (hc : X.calm = true := by rfl) (hs : ∀ x, foldedSetIterable iter X.env x = pure x := by intro _; rfl) :
    DF X W ξ (.ListComp elt [⟨tg, iter, ifs, 0⟩] scope pos) (eComp Fi T C F (own.map (·.2))) :=
  peImp (pe_lc hc hN hi (blkOk_by ok) hg ht he hs) (lc_imp hts)
theorem ds_lcG {i : Nat} {y : Str} {py : Pos} {spos : Pos} (hN : X.N.Nodup) (hi : DI X W ξ c tg iter Fi) (ok : blkC X.N X.env.scope scope own = true) (hg : ∀ (s : Shared) (H : Hp) (C : Addr) (cl : List (Str × Addr)) (fp : List Addr), DGt (X.blk s H scope (compEnvC scope cl C X.env) fp) ξ tg ts T)
    (ht : ∀ (s : Shared) (H : Hp) (Ca : Addr) (cl : List (Str × Addr)) (fp : List Addr), DTs (X.blk s H scope (compEnvC scope cl Ca X.env) fp) W0 ξ ifs C)
    (he : ∀ (s : Shared) (H : Hp) (C : Addr) (cl : List (Str × Addr)) (fp : List Addr), DE (X.blk s H scope (compEnvC scope cl C X.env) fp) W0 ξ true elt F)
    (hts : ∀ i ∈ ts, i ∈ own.map (·.2) := by decide) (hc : X.calm = true := by rfl) (hs : ∀ x, foldedSetIterable iter X.env x = pure x := by intro _; rfl) (hy : X.N[i]? = some y := by rfl) (hyl : X.env.scope.names.lookup y = some .local := by rfl)
    (hsw : swapsWith (.ListComp elt [⟨tg, iter, ifs, 0⟩] scope pos) (some (.Name y py)) spos.line X.env = pure true := by exact sw_true rfl rfl rfl (by decide +kernel)) :
    PS X (.Assign [.Name y py] (.ListComp elt [⟨tg, iter, ifs, 0⟩] scope pos) spos) (tAsg (tDF X.K W ξ (eComp Fi T C F (own.map (·.2)))) (gName i)) :=
  psImp (ps_setLc hc hN hy hyl hsw hi (blkOk_by ok) hg ht he hs) fun Dn σ H h => lc_imp hts σ H _ h
end
end Dx

namespace Dx
open PySem PySem.Spec PyProof.Rows L2
section
variable {X : Cx} {W : WX} {ξ : Str → Value} {e a b : Expr} {es : List Expr} {c c1 c2 c3 : Bool} {pos p : Pos} {fa fb : En → R D} {Fs : En → R (List D)} {x : Str}
variable {K : PySem.W.Frag} {M : Fm ξ} {σ : L2.St} {env : En} {H0 H : Hp} {Q : VK}
def CbD (X : Cx) (W : WX) (ξ : Str → Value) (f : Value) (g : List D → R D) : Prop := ∃ r : List V → Hp → VK → Prop, CallR X f r ∧
  ∀ {c : Bool} {M : Fm ξ} {σ : L2.St} {env : En} {H0 H : Hp} {Q : VK} {vs : List V} {ds : List D}, EnvAt X.K M H0 H σ env → RepXs X.K c H0 H vs ds → PostE X.K W ξ M σ env true H0 H Q (g ds) → r vs H Q
theorem de_callB {id : String} {g : List D → R D} (h : CbD X W ξ (.builtin id) g) (hm : X.mg x = none) (hv : bootBuiltins x = some (.builtin id)) (ha : DA X W ξ c (e :: es) Fs) (hg : Gl X x := by rfl) (hn : x ≠ "__name__" := by decide) (hdb : (x == ("__debug__" : Str)) = false := by decide)
    (he : starEach (e :: es) X.env = (false, eval e X.env) :: starEach es X.env := by rfl) (hpl : (backTo pos (starEach es X.env)).any (·.1) = false := by rfl) : DE X W ξ true (.Call (.Name x p) (e :: es) [] pos) (eUn g Fs) := by
  obtain ⟨r, hc, hr⟩ := h
  exact peImp (pe_callB hc hg hm hv ha hn hdb he hpl) fun σ H Q ⟨M, H0, env, E, p⟩ => ⟨M, H0, env, E, bindA wishE p fun ds vs H1 H2 g r p1 => hr g.e r p1⟩
theorem de_callTy {T : String} {g : List D → R D} (h : CbD X W ξ (.type T) g) (hm : X.mg x = none) (hv : bootBuiltins x = some (.type T)) (ha : DA X W ξ c (e :: es) Fs) (hg : Gl X x := by rfl) (hn : x ≠ "__name__" := by decide) (hdb : (x == ("__debug__" : Str)) = false := by decide)
    (he : starEach (e :: es) X.env = (false, eval e X.env) :: starEach es X.env := by rfl) (hpl : (backTo pos (starEach es X.env)).any (·.1) = false := by rfl) : DE X W ξ true (.Call (.Name x p) (e :: es) [] pos) (eUn g Fs) := by
  obtain ⟨r, hc, hr⟩ := h
  exact peImp (pe_callTy hc hg hm hv ha hn hdb he hpl) fun σ H Q ⟨M, H0, env, E, p⟩ => ⟨M, H0, env, E, bindA wishE p fun ds vs H1 H2 g r p1 => hr g.e r p1⟩
theorem x1 {vs : List V} {d : D} (r : RepXs K c H0 H vs [d]) : ∃ v, vs = [v] ∧ RepX c K H0 H v d := by
  cases r with
  | cons r t => cases t; exact ⟨_, rfl, r⟩
def lenR : List D → R D
  | [.lst xs] => .ok (.int xs.length)
  | [.tup xs] => .ok (.int xs.length)
  | [.str z] => .ok (.int z.length)
  | [.frz ns] => .ok (.int ns.length)
  | [.dic kvs] => .ok (.int kvs.length)
  | _ => .bad
theorem RepKv.length {vs : List (Key × V)} {xs : List (Key × D)} (r : RepKv K H vs xs) : vs.length = xs.length := by
  induction vs generalizing xs with
  | nil => cases r; rfl
  | cons v vs ih => cases r with | cons _ _ t => simp [ih t]
theorem call_lenDR : CallR X (.builtin "len") (fun xs H Q => ∃ a kvs, xs = [V.ref a] ∧ Rd H a (.dK kvs) ∧ Q (.int kvs.length) H) := by
  intro pins s σ H xs us Q I r h
  obtain ⟨a, kvs, rfl, ha, q⟩ := h
  obtain ⟨u, rfl, ru⟩ := vals1 r
  cases ru
  exact d_len I ha fun t s' I' => ⟨.int kvs.length, H, I', ⟨t, rfl⟩, q⟩
theorem cb_len : CbD X W ξ (.builtin "len") lenR := ⟨_, CallR.or call_len_seq (CallR.or call_len_str call_lenDR), fun {c M σ env H0 H Q vs ds} E r p => by
  unfold lenR at p
  split at p
  · obtain ⟨v, rfl, r0⟩ := x1 r
    obtain ⟨a, ws, rfl, h, q⟩ := RepX.lst r0 E.same
    exact .inl ⟨a, ws, rfl, .inl (SqL.of h), by rw [q.length]; exact post_ok E p (.int _)⟩
  · obtain ⟨v, rfl, r0⟩ := x1 r
    obtain ⟨a, ws, rfl, h, q⟩ := RepX.tup r0
    exact .inl ⟨a, ws, rfl, .inr (SqT.of (E.same _ _ h)), by rw [q.length]; exact post_ok E p (.int _)⟩
  · obtain ⟨v, rfl, r0⟩ := x1 r
    exact .inr (.inl ⟨_, by rw [RepX.str r0], RepX.slen r0, post_ok E p (.int _)⟩)
  · obtain ⟨v, rfl, r0⟩ := x1 r
    obtain ⟨a, rfl, h⟩ := RepX.frz r0 E.same
    exact .inl ⟨a, _, rfl, .inl h, by rw [List.length_map]; exact post_ok E p (.int _)⟩
  · obtain ⟨v, rfl, r0⟩ := x1 r
    obtain ⟨a, ws, rfl, h, q⟩ := RepX.dic r0 E.same
    exact .inr (.inr ⟨a, ws, rfl, h, by rw [q.length]; exact post_ok E p (.int _)⟩)
  · exact p.elim⟩
def tupleR : List D → R D
  | [.lst xs] => .ok (.tup xs)
  | [.tup xs] => .ok (.tup xs)
  | _ => .bad
def listR : List D → R D
  | [.lst xs] => .ok (.lst xs)
  | [.tup xs] => .ok (.lst xs)
  | _ => .bad
theorem cb_tuple : CbD X W ξ (.type "tuple") tupleR := ⟨_, call_tuple_of, fun {c M σ env H0 H Q vs ds} E r p => by
  unfold tupleR at p
  split at p
  · obtain ⟨v, rfl, r0⟩ := x1 r
    have z := RepX.lstLen r0
    obtain ⟨a, ws, rfl, h, q⟩ := RepX.lst r0 E.same
    exact ⟨a, ws, rfl, .inl ⟨SqL.of h, new_tup E p z q⟩⟩
  · obtain ⟨v, rfl, r0⟩ := x1 r
    have z := RepX.tupLen r0
    obtain ⟨a, ws, rfl, h, q⟩ := RepX.tup r0
    exact ⟨a, ws, rfl, .inr ⟨SqT.of (E.same _ _ h), post_ok E p (.tup h z q)⟩⟩
  · exact p.elim⟩
theorem cb_list : CbD X W ξ (.type "list") listR := ⟨_, call_list_of, fun {c M σ env H0 H Q vs ds} E r p => by
  unfold listR at p
  split at p
  · obtain ⟨v, rfl, r0⟩ := x1 r
    have z := RepX.lstLen r0
    obtain ⟨a, ws, rfl, h, q⟩ := RepX.lst r0 E.same
    exact ⟨a, ws, rfl, .inl (SqL.of h), new_lst E p z q⟩
  · obtain ⟨v, rfl, r0⟩ := x1 r
    have z := RepX.tupLen r0
    obtain ⟨a, ws, rfl, h, q⟩ := RepX.tup r0
    exact ⟨a, ws, rfl, .inr (SqT.of (E.same _ _ h)), new_lst E p z q⟩
  · exact p.elim⟩

def intsOf : List D → Option (List Int)
  | [] => some []
  | .int i :: xs => (intsOf xs).map (i :: ·)
  | _ :: _ => none
def strsOf : List D → Option (List Str)
  | [] => some []
  | .str i :: xs => (strsOf xs).map (i :: ·)
  | _ :: _ => none
theorem intsOf_eq : ∀ {xs : List D} {ns : List Int}, intsOf xs = some ns → xs = ns.map D.int
  | [], _, h => by cases h; rfl
  | .int i :: xs, ns, h => by
    unfold intsOf at h
    cases e : intsOf xs with
    | none => rw [e] at h; cases h
    | some ms => rw [e] at h; cases h; rw [intsOf_eq e]; rfl
  | .non :: _, _, h => by cases h
  | .bl _ :: _, _, h => by cases h
  | .str _ :: _, _, h => by cases h
  | .tup _ :: _, _, h => by cases h
  | .lst _ :: _, _, h => by cases h
  | .dic _ :: _, _, h => by cases h
  | .frz _ :: _, _, h => by cases h
  | .opq :: _, _, h => by cases h
theorem strsOf_eq : ∀ {xs : List D} {ns : List Str}, strsOf xs = some ns → xs = ns.map D.str
  | [], _, h => by cases h; rfl
  | .str i :: xs, ns, h => by
    unfold strsOf at h
    cases e : strsOf xs with
    | none => rw [e] at h; cases h
    | some ms => rw [e] at h; cases h; rw [strsOf_eq e]; rfl
  | .non :: _, _, h => by cases h
  | .bl _ :: _, _, h => by cases h
  | .int _ :: _, _, h => by cases h
  | .tup _ :: _, _, h => by cases h
  | .lst _ :: _, _, h => by cases h
  | .dic _ :: _, _, h => by cases h
  | .frz _ :: _, _, h => by cases h
  | .opq :: _, _, h => by cases h
theorem strsOf_map (ns : List Str) : strsOf (ns.map D.str) = some ns := by
  induction ns with
  | nil => rfl
  | cons n ns ih => simp [strsOf, ih]
end
end Dx

namespace Dx
open PySem PySem.Spec PyProof.Rows L2
section
variable {X : Cx} {W : WX} {ξ : Str → Value} {e a b o : Expr} {es : List Expr} {c c1 c2 c3 : Bool} {pos p apos : Pos} {fa fb fo : En → R D} {Fs : En → R (List D)} {x : Str}
variable {K : PySem.W.Frag} {M : Fm ξ} {σ : L2.St} {env : En} {H0 H : Hp} {Q : VK}
theorem R.assoc {α β γ : Type} (x : R α) (f : α → R β) (g : β → R γ) : ((x >>= f) >>= g) = (x >>= fun a => f a >>= g) := by cases x <;> rfl
def blsOf : List D → Option (List Bool)
  | [] => some []
  | .bl i :: xs => (blsOf xs).map (i :: ·)
  | _ :: _ => none
theorem blsOf_eq : ∀ {xs : List D} {ns : List Bool}, blsOf xs = some ns → xs = ns.map D.bl
  | [], _, h => by cases h; rfl
  | .bl i :: xs, ns, h => by
    unfold blsOf at h
    cases e : blsOf xs with
    | none => rw [e] at h; cases h
    | some ms => rw [e] at h; cases h; rw [blsOf_eq e]; rfl
  | .non :: _, _, h => by cases h
  | .str _ :: _, _, h => by cases h
  | .int _ :: _, _, h => by cases h
  | .tup _ :: _, _, h => by cases h
  | .lst _ :: _, _, h => by cases h
  | .dic _ :: _, _, h => by cases h
  | .frz _ :: _, _, h => by cases h
theorem blsOf_map (ns : List Bool) : blsOf (ns.map D.bl) = some ns := by
  induction ns with
  | nil => rfl
  | cons n ns ih => simp [blsOf, ih]
def allR : List D → R D
  | [.lst xs] => (match blsOf xs with
    | some ns => .ok (.bl (ns.all id))
    | none => .bad)
  | _ => .bad
def anyR : List D → R D
  | [.lst xs] => (match blsOf xs with
    | some ns => .ok (.bl (ns.any id))
    | none => .bad)
  | _ => .bad
theorem cb_all (hc : X.calm = true := by rfl) : CbD X W ξ (.builtin "all") allR := ⟨_, cr_all hc, fun {c M σ env H0 H Q vs ds} E r p => by
  unfold allR at p
  split at p
  · split at p
    · rename_i ns hn
      obtain ⟨v, rfl, r0⟩ := x1 r
      obtain ⟨a, ws, rfl, h, q⟩ := RepX.lst r0 E.same
      rw [blsOf_eq hn] at q
      rw [q.bls] at h
      exact ⟨a, ns, rfl, SqL.of h, post_ok E p (.bl _)⟩
    · exact p.elim
  · exact p.elim⟩
theorem RepAll.sok {vs : List V} {ss : List Str} (r : RepAll K H vs (ss.map D.str)) : ∀ x ∈ ss, sOk x = true := by
  induction ss generalizing vs with
  | nil => intro x h; cases h
  | cons s ss ih =>
    cases r with
    | cons r t =>
      intro x h
      rcases List.mem_cons.mp h with e | h
      · subst e; cases r with | str _ q => exact q
      · exact ih t x h
def lstyR : D → R D
  | .lst xs => .ok (.lst xs)
  | _ => .bad
def idxOf : List D → D → Option Nat
  | [], _ => none
  | x :: xs, d => if eqD x d = true then some 0 else (idxOf xs d).map (· + 1)
def indexR : D → List D → R D
  | .lst xs, [d] => if dle 64 d && dle 64 (.lst xs) then (match idxOf xs d with
    | some j => .ok (.int j)
    | none => .bad) else .bad
  | _, _ => .bad
def eMeth (ty : D → R D) (A : En → R D) (As : En → R (List D)) (g : D → List D → R D) : En → R D := fun env => A env >>= ty >>= fun d => As env >>= g d
def appO (i : Nat) (env : En) (d : D) : Out := match env[i]? with
  | some (.ol xs) => if xs.length < sizeLine then .nx (env.set i (.ol (xs ++ [d]))) else .bad
  | _ => .bad
def extO (i : Nat) (env : En) (d : D) : Out := match env[i]?, d with
  | some (.ol xs), .lst ys => if xs.length + ys.length ≤ sizeLine then .nx (env.set i (.ol (xs ++ ys))) else .bad
  | _, _ => .bad
def popO (i : Nat) (env : En) (k : D → En → Out) : Out := match env[i]? with
  | some (.ol xs) => (match xs.getLast? with
    | some d => k d (env.set i (.ol xs.dropLast))
    | none => .bad)
  | _ => .bad
def tgO (T : D → En → R En) (d : D) (e : En) : Out := match T d e with
  | .ok e => .nx e
  | _ => .bad
def sMeth (i : Nat) (A : En → R D) (g : Nat → En → D → Out) : En → Out := fun env => match env[i]? with | some (.ol _) => liftO (A env) env (g i env) | _ => .bad
def sPop (i : Nat) (T : D → En → R En) : En → Out := fun env => popO i env (tgO T)
theorem ownL (E : EnvAt K M H0 H σ env) {i : Nat} {xs : List D} (h : env[i]? = some (.ol xs)) : ∃ a vs, σ[i]? = some (some (.ref a)) ∧ H0 a = none ∧ M.G a = none ∧ H a = some (.lst vs) ∧ xs.length ≤ sizeLine ∧ RepAll K H0 vs xs ∧ Owns σ env i a := by
  obtain ⟨a, vs, e, h0, hg, ha, z, r⟩ := E.slot i _ h
  exact ⟨a, vs, e, h0, hg, ha, z, r, e, _, h, rfl⟩
theorem EnvAt.mutL (E : EnvAt K M H0 H σ env) {i : Nat} {a : Addr} {xs ys : List D} {ws : List V} (h : env[i]? = some (.ol xs)) (e : σ[i]? = some (some (.ref a))) (hz : ys.length ≤ sizeLine) (r : RepAll K H0 ws ys) : EnvAt K M H0 (upd H a (.lst ws)) σ (env.set i (.ol ys)) := by
  obtain ⟨a', vs, e', h0, hg, ha, z, r0, ow⟩ := ownL E h
  rw [e] at e'
  cases e'
  exact E.mutate ow rfl ⟨a, ws, rfl, h0, hg, upd_same, hz, r⟩
section
variable {i : Nat} {l : Str} {lpos : Pos}
theorem ds_append (hl : PE X (.Name l lpos) (tVar i)) (he : DE X W ξ true e fa)
    (hbase : attributeBase (.Name l lpos) "append" X.env (eval (.Name l lpos) X.env) = eval (.Name l lpos) X.env := by rfl)
    (hfew : ((backTo p (starEach [e] X.env)).all (fun x => !x.1) && (backToKw p (keywordEach [] X.env)).all (fun x => x.1.isSome)
      && decide ([e].length + ([] : List Keyword).length + (if ([] : List Keyword).isEmpty then 0 else 1) < 30)) = true := by rfl)
    (hline : (apos.endLine == p.line) = true := by rfl) (hs : starEach (e :: []) X.env = (false, eval e X.env) :: starEach [] X.env := by rfl) (hplain : (backTo p (starEach [] X.env)).any (·.1) = false := by rfl)
    (hsw : swapsWith (.Call (.Attribute (.Name l lpos) "append" apos) [e] [] p) none pos.line X.env = pure false := by rfl) :
    DS X W ξ (.Expr (.Call (.Attribute (.Name l lpos) "append" apos) [e] [] p) pos) (sMeth i fa appO) :=
  psImp (ps_expr (pe_bm F.plainAttrs_list F.slot_list_append F.type_list_append mt_append hl (pa_cons he pa_nil hs) hbase hfew hline hs hplain) hsw) fun Dn σ H ⟨M, H0, env, E, p⟩ => by
    have p : PostS X.K W ξ M H0 Dn (match env[i]? with | some (.ol _) => liftO (fa env) env (appO i env) | _ => .bad) := p
    split at p
    · rename_i xs hi
      obtain ⟨a, vs, e1, h0, hg, ha, z, r, ow⟩ := ownL E hi
      refine ⟨_, e1, .inl ⟨rfl, vs, SqL.of ha⟩, M, H0, env, E, liftE p fun d v H1 H2 g rv p1 => ?_⟩
      unfold appO at p1
      rw [hi] at p1
      simp only at p1
      split at p1
      · rename_i hz
        have r' := r.mono g.s0
        refine ⟨a, vs, v, rfl, rfl, g.s _ _ ha, by rw [r.length]; exact hz, ?_⟩
        exact p1 σ H1 _ (Same.refl _) (g.e.mutL hi e1 (by simp; omega) (r'.snoc rv))
      · exact p1.elim
    · exact p.elim
end
end
end Dx

namespace Dx
open PySem PySem.Spec PyProof.Rows L2

def defR (n m : Nat) (G : En → Out) (ds : List D) : R D := if ds.length = n then runB m G ds else .bad

theorem roomU1 {A : Around} {k : Nat} (r : Room k A) : A.units + 1 < cLine := by have := r.un; omega
theorem roomU64 {A : Around} {k : Nat} (r : Room k A) : A.units + 64 < cLine := by have := r.un; omega
theorem roomU65 {A : Around} {k : Nat} (r : Room k A) : A.units + 65 < cLine := by have := r.un; omega

section
variable {X : Cx} {W : WX} {ξ : Str → Value} {e a b o : Expr} {es : List Expr} {c c1 c2 c3 : Bool} {pos p apos : Pos} {fa fb fo : En → R D} {Fs : En → R (List D)} {x : Str} {st : Stmt}
variable {K : PySem.W.Frag} {M : Fm ξ} {σ : L2.St} {env : En} {H0 H : Hp} {Q : VK}
def revF : D → R (List D)
  | .lst xs => .ok xs.reverse
  | _ => .bad
theorem ds_setFDG {i : Nat} {fs : En → R (List D)} (h : PS X st (tAsg (tDF X.K W ξ fs) (gName i))) : DS X W ξ st (sSetFD i fs) :=
  psImp h fun Dn σ H ⟨M, H0, env, E, p⟩ => ⟨M, H0, env, E, liftF p fun d q vs H0' H' g hq n r p => by
    obtain ⟨s0, E'⟩ := n.frz0 g.e
    exact p _ _ H' s0 (E'.set i (.lst upd_same r.1 (r.2.mono s0)))⟩
end

structure FnF (K : PySem.W.Frag) (mg : Str → Option Value) (x : Str) (st : Stmt) (ps : List Str) where
  f : Addr
  fd : FuncData
  Fn : Fun K x x st f fd
  m : mg x = some (.ref f)
  b : Binds K fd ps []
structure ExF (K : PySem.W.Frag) (mg : Str → Option Value) (x : Str) where
  C : Addr
  q : PySem.W.excIn K C [.type "ValueError", .type "Exception", .type "BaseException", .type "object"] "ValueError.__new__" = true
  m : mg x = some (.ref C)
  k : PySem.W.keepIn K (.ref C) = true
  s : PySem.W.subIn K (.ref C) (.type "BaseException") = some true
  t : PySem.W.typeIn K (.ref C) = some (.type "type")
section
variable {P : Program} {w : World} {K : PySem.W.Frag} {mg : Str → Option Value} {base : Heap} {ξ : Str → Value}
theorem fn_bad {x qual : Str} {st : Stmt} {f : Addr} {fd : FuncData} {N ps : List Str} {k : Nat} (Fn : Fun K x qual st f fd) (S : FnScope N ps (defScope st)) : FnOk P w K mg base (L2.CX P w) (k + 1) f fd ps (spD K ξ fun _ => .bad) :=
  Fn.okX S (fun _ _ _ _ ⟨_, _, _, _, p⟩ => p.elim) fun _ _ _ _ _ _ _ _ _ ⟨_, _, _, _, p⟩ => p.elim
end
end Dx
namespace Dx
open PySem PySem.Spec PyProof.Rows L2
def spLaw (K : PySem.W.Frag) : Sp := fun vs H Q _ => ∃ (a : Addr) (ns : List Int), vs = [.ref a] ∧ SqL K H a (ns.map V.int) ∧ ns.length ≤ 63 ∧ ∀ H', Q (.bl true) H'
theorem law_imp {K : PySem.W.Frag} {ξ : Str → Value} {F : List D → R D} (h : ∀ ns : List Int, ns.length ≤ 63 → F [.frz ns] = .ok (.bl true)) : ∀ vs H Q E, spLaw K vs H Q E → spD K ξ F vs H Q E := fun vs H Q E ⟨a, ns, e, hs, hl, q⟩ => by
  subst e
  refine ⟨[.frz ns], H, Same.refl _, .cons (.frz hs) .nil, ?_⟩
  rw [h ns hl]
  intro v H0' H' _ _ _ _ r
  cases r
  exact q H'
end Dx

namespace Dx
open PySem PySem.Spec PyProof.Rows L2
section
variable {X : Cx} {W : WX} {ξ : Str → Value} {e f a b o : Expr} {es : List Expr} {c c1 c2 c3 : Bool} {pos p apos cpos : Pos} {fa fb fo : En → R D} {Fs : En → R (List D)} {x : Str}
variable {K : PySem.W.Frag} {M : Fm ξ} {σ : L2.St} {env : En} {H0 H : Hp} {Q : VK}

def dictyR : D → R D
  | .dic kvs => .ok (.dic kvs)
  | _ => .bad
def getR (d y : D) : R D := match d with
  | .dic kvs => (match keyOf y with
    | some k => .ok ((valD kvs k).getD .non)
    | none => .bad)
  | _ => .bad
def get2R (d y z : D) : R D := match d with
  | .dic kvs => (match keyOf y with
    | some k => .ok ((valD kvs k).getD z)
    | none => .bad)
  | _ => .bad
def eGet (A B : En → R D) : En → R D := fun env => A env >>= dictyR >>= fun d => B env >>= fun y => getR d y
def eGet2 (A B C : En → R D) : En → R D := fun env => A env >>= dictyR >>= fun d => B env >>= fun y => C env >>= fun z => get2R d y z
def putD (kvs : List (Key × D)) (k : Key) (v : D) : List (Key × D) :=
  if (kvs.any fun kv => decide (kv.1 = k)) = true then kvs.map (fun kv => if kv.1 = k then (kv.1, v) else kv) else kvs ++ [(k, v)]
theorem RepKv.any {vs : List (Key × V)} {xs : List (Key × D)} (r : RepKv K H vs xs) (k : Key) : (vs.any fun kv => decide (kv.1 = k)) = (xs.any fun kv => decide (kv.1 = k)) := by
  induction vs generalizing xs with
  | nil => cases r; rfl
  | cons v vs ih => cases r with | cons h r t => rw [List.any_cons, List.any_cons, ih t]
theorem RepKv.append {vs ws : List (Key × V)} {xs ys : List (Key × D)} (r : RepKv K H vs xs) (q : RepKv K H ws ys) : RepKv K H (vs ++ ws) (xs ++ ys) := by
  induction vs generalizing xs with
  | nil => cases r; exact q
  | cons v vs ih => cases r with | cons h a t => exact .cons h a (ih t)
def putO (i : Nat) (y v : D) (env : En) : Out := match env[i]?, keyOf y with
  | some (.od kvs), some k => if kvs.length < sizeLine then .nx (env.set i (.od (putD kvs k v))) else .bad
  | _, _ => .bad
def sPut (i : Nat) (B V : En → R D) : En → Out := fun env => match env[i]? with
  | some (.od _) => liftO (V env) env fun v => liftO (B env) env fun y => putO i y v env
  | _ => .bad
def tyD : D → String
  | .non => "NoneType"
  | .bl _ => "bool"
  | .int _ => "int"
  | .str _ => "str"
  | .tup _ => "tuple"
  | .lst _ => "list"
  | .dic _ => "dict"
  | .frz _ => "list"
  | .opq => "list"
def isTy (T : String) (d : D) : Bool := tyD d == T || (T == "int" && tyD d == "bool")
def isFrz : D → Bool
  | .frz _ => true
  | .opq => true
  | _ => false
def isiR (T : String) (d : D) : R D := if (T = "int" ∨ T = "bool" ∨ T = "str" ∨ T = "tuple") ∧ isFrz d = false then .ok (.bl (isTy T d)) else .bad
theorem kit_b (K : PySem.W.Frag) (T : String) (d : D) (h : T = "int" ∨ T = "bool" ∨ T = "str" ∨ T = "tuple") : PySem.W.kitOne K (.type (tyD d)) (.type T) = some (isTy T d) := by
  rcases h with rfl | rfl | rfl | rfl <;> cases d <;> (show _ = _) <;> first | rfl | kernel_rfl | with_unfolding_all rfl
theorem tyx {v : V} {d : D} (E : EnvAt K M H0 H σ env) (hf : isFrz d = false) (r : RepX c K H0 H v d) : TyX K H v (.type (tyD d)) := by
  have r := r.rep E.same
  cases r with
  | non => exact .base .non
  | bl b => exact .base (.bl b)
  | int i => exact .base (.int i)
  | str s _ => exact .base (.str s)
  | tup h _ _ => exact .base (.tup h)
  | lst h _ _ => exact .base (.lst h)
  | dic h _ =>
    rcases h with h | ⟨o, h⟩
    · exact .base (.dK h)
    · exact .fDict h
  | frz h => cases hf
  | opq a => cases hf
theorem de_isi {T : String} {t : Str} {p2 : Pos} (hm : X.mg "isinstance" = none) (ht : X.mg t = none) (hv : bootBuiltins t = some (.type T)) (he : DE X W ξ c e fa) (hg : Gl X "isinstance" := by rfl) (hgt : Gl X t := by rfl)
    (hnt : t ≠ "__name__" := by decide) (hdt : (t == ("__debug__" : Str)) = false := by decide)
    (hs1 : starEach [.Name t p2] X.env = (false, eval (.Name t p2) X.env) :: starEach [] X.env := by rfl)
    (hs : starEach (e :: [.Name t p2]) X.env = (false, eval e X.env) :: starEach [.Name t p2] X.env := by rfl) (hpl : (backTo pos (starEach [.Name t p2] X.env)).any (·.1) = false := by rfl) :
    DE X W ξ true (.Call (.Name "isinstance" p) [e, .Name t p2] [] pos) (eUn (isiR T) fa) := by
  have hT : PE X (.Name t p2) (tC (.ty T)) := pe_bltn hgt ht hv rfl hnt hdt
  exact peImp (pe_callB call_isi hg hm (by decide +kernel) (pa_cons he (pa_cons hT pa_nil hs1) hs) (by decide) (by decide) hs hpl) fun σ H Q ⟨M, H0, env, E, p⟩ => ⟨M, H0, env, E, bindE wishE p fun d v H1 H2 g r p1 => by
    unfold isiR at p1
    split at p1
    · rename_i hT
      exact ⟨v, .ty T, .type (tyD d), .type T, isTy T d, rfl, .ty T, tyx g.e hT.2 r, kit_b _ T d hT.1, post_ok g.e p1 (.bl _)⟩
    · exact p1.elim⟩
end
end Dx
namespace Dx
open PySem PySem.Spec PyProof.Rows L2
section
variable {X : Cx} {W : WX} {ξ : Str → Value} {pos : Pos} {x : Str}
theorem de_gint {i : Int} (h : ∃ t, X.mg x = some (.int i t)) (hg : Gl X x := by rfl) (hd : (x == ("__debug__" : Str)) = false := by decide) : DE X W ξ true (.Name x pos) (eC (.int i)) := by
  obtain ⟨t, hm⟩ := h
  exact de_c (pe_glob (v := .int i) hg hm ⟨t, rfl⟩ hd) fun _ => .int i
theorem de_gstr {z : Str} (h : ∃ t, X.mg x = some (.str z t)) (hz : sOk z = true := by decide +kernel) (hg : Gl X x := by rfl) (hd : (x == ("__debug__" : Str)) = false := by decide) : DE X W ξ true (.Name x pos) (eC (.str z)) := by
  obtain ⟨t, hm⟩ := h
  exact de_c (pe_glob (v := .str z) hg hm ⟨t, rfl⟩ hd) fun _ => .str z hz
end
end Dx

namespace Dx
open PySem PySem.Spec PyProof.Rows L2
section
variable {X : Cx} {W : WX} {ξ : Str → Value} {e a b o tg : Expr} {es : List Expr} {c c1 c2 c3 : Bool} {pos p : Pos} {fa fb fo : En → R D} {Fs : En → R (List D)} {x : Str}
variable {K : PySem.W.Frag} {M : Fm ξ} {σ : L2.St} {env : En} {H0 H : Hp} {Q : VK}

end
end Dx

namespace Dx
open PySem PySem.Spec PyProof.Rows L2
end Dx

namespace Dx
open PySem PySem.Spec PyProof.Rows L2
section
variable {X : Cx} {W : WX} {ξ : Str → Value} {e a b o tg k v : Expr} {es vs : List Expr} {ks : List (Option Expr)} {c c1 c2 c3 : Bool} {pos p apos : Pos} {fa fb fo : En → R D} {Fs : En → R (List D)} {Fp : En → R (List (Key × D))} {x : Str}
variable {K : PySem.W.Frag} {M : Fm ξ} {σ : L2.St} {env : En} {H0 H : Hp} {Q : VK}

def PostP (K : PySem.W.Frag) (W : WX) (ξ : Str → Value) (M : Fm ξ) (σ : L2.St) (env : En) (H0 H : Hp) (Q : List (V × V) → Hp → Prop) : R (List (Key × D)) → Prop
  | .ok ds => ∀ kvs H0' H', Gr K M σ env H0 H H0' H' → RepKv K H0' kvs ds → Q (kvs.map fun kv => (kV kv.1, kv.2)) H'
  | .exc x => ∀ H0' H', Gr K M σ env H0 H H0' H' → W (ξ x) none σ H'
  | .bad => False
theorem PostP.weak {x : R (List (Key × D))} {Q : List (V × V) → Hp → Prop} {H0' H' : Hp} (g : Gr K M σ env H0 H H0' H') (p : PostP K W ξ M σ env H0 H Q x) : PostP K W ξ M σ env H0' H' Q x := by
  cases x with
  | ok d => exact fun v H02 H2 g2 r => p v H02 H2 (g.trans g2) r
  | exc x => exact fun H02 H2 g2 => p H02 H2 (g.trans g2)
  | bad => exact p
structure DPs (X : Cx) (W : WX) (ξ : Str → Value) (pos : Pos) (keys : List (Option Expr)) (values : List Expr) (F : En → R (List (Key × D))) : Prop where
  ex : ∃ trs, PPs X pos keys values trs ∧ ∀ (σ : L2.St) (H : Hp) (Q : List (V × V) → Hp → Prop) (M : Fm ξ) (H0 : Hp) (env : En), EnvAt X.K M H0 H σ env → PostP X.K W ξ M σ env H0 H Q (F env) → tPairs trs σ H Q
def keyD : Key → D
  | .inl i => .int i
  | .inr s => .str s
end
end Dx
namespace Dx
open PySem PySem.Spec PyProof.Rows L2
section
variable {X : Cx} {W : WX} {ξ : Str → Value} {e : Expr} {c : Bool} {pos p apos : Pos} {fa : En → R D}
variable {K : PySem.W.Frag} {M : Fm ξ} {σ : L2.St} {env : En} {H0 H : Hp}
def dropD (kvs : List (Key × D)) (k : Key) : List (Key × D) := kvs.filter fun kv => decide (kv.1 ≠ k)
theorem RepKv.drop {vs : List (Key × V)} {xs : List (Key × D)} {k : Key} (r : RepKv K H vs xs) : RepKv K H (dropK vs k) (dropD xs k) := by
  unfold dropD dropK
  induction vs generalizing xs with
  | nil => cases r; exact .nil
  | cons v vs ih =>
    cases r with
    | @cons k' v' _ y ys h a t =>
      rw [List.filter_cons, List.filter_cons]
      by_cases z : k' = k
      · rw [if_neg (by simp [z]), if_neg (by simp [z])]; exact ih t
      · rw [if_pos (by simp [z]), if_pos (by simp [z])]; exact .cons h a (ih t)
end
end Dx
namespace Dx
open PySem PySem.Spec PyProof.Rows L2
section
variable {X : Cx} {W : WX} {ξ : Str → Value} {pos p : Pos} {k : Nat} {f : Addr} {fd : FuncData} {ps : List Str} {F : List D → R D} {x : Str}
end
end Dx

namespace Dx
open PySem PySem.Spec PyProof.Rows L2
section
variable {K : PySem.W.Frag} {H0 H : Hp}
end
section
variable {X : Cx} {W : WX} {ξ : Str → Value}
end
end Dx

set_option maxHeartbeats 8000000
namespace Sx
open PySem PySem.Spec PyProof.Rows L2
section
variable {P : Program} {w : World} {A : Around} {E : Value → Shared → Prop} {s : Shared} {κ : Type} [DecidableEq κ] {knd : PySem.KeyKind P w κ} {rd : Value → κ} {a : Addr} {S : κ → Bool} {n : Nat}
structure Mem (knd : PySem.KeyKind P w κ) (rd : Value → κ) (S : κ → Bool) (n : Nat) (vs : List Value) : Prop where
  nd : (vs.map rd).Nodup
  mem : ∀ k, k ∈ vs.map rd ↔ S k = true
  len : vs.length = n
  is : ∀ v ∈ vs, knd.is (rd v) v = true
end
section
variable {P : Program} {w : World} {A : Around} {E : Value → Shared → Prop} {s : Shared} {a : Addr} {n : Nat}
end
def nub {κ : Type} [DecidableEq κ] : List κ → List κ
  | [] => []
  | k :: ks => if k ∈ ks then nub ks else k :: nub ks
theorem nub_mem {κ : Type} [DecidableEq κ] (k : κ) : ∀ ks : List κ, k ∈ nub ks ↔ k ∈ ks
  | [] => Iff.rfl
  | x :: ks => by
    unfold nub
    split
    · rename_i h
      rw [nub_mem k ks, List.mem_cons]
      exact ⟨.inr, fun z => z.elim (fun e => e ▸ h) id⟩
    · rw [List.mem_cons, List.mem_cons, nub_mem k ks]
theorem nub_nd {κ : Type} [DecidableEq κ] : ∀ ks : List κ, (nub ks).Nodup
  | [] => List.nodup_nil
  | x :: ks => by
    unfold nub
    split
    · exact nub_nd ks
    · rename_i h
      exact List.nodup_cons.mpr ⟨fun z => h ((nub_mem x ks).mp z), nub_nd ks⟩
theorem nub_len {κ : Type} [DecidableEq κ] : ∀ ks : List κ, (nub ks).length = metN ks
  | [] => rfl
  | x :: ks => by unfold nub metN; split <;> simp [nub_len ks]
theorem nd_perm {κ : Type} [DecidableEq κ] {l m : List κ} (h1 : l.Nodup) (h2 : m.Nodup) (h : ∀ k, k ∈ l ↔ k ∈ m) : l.Perm m := (List.perm_ext_iff_of_nodup h1 h2).mpr h
theorem metN_rev {κ : Type} [DecidableEq κ] (ks : List κ) : metN ks.reverse = (nub ks).length := by
  rw [← nub_len]
  exact (nd_perm (nub_nd _) (nub_nd _) fun k => by rw [nub_mem, nub_mem, List.mem_reverse]).length_eq
def SetH {P : Program} {w : World} {κ : Type} [DecidableEq κ] (knd : PySem.KeyKind P w κ) (rd : Value → κ) (a : Addr) (ks : List κ) : HO := .ext fun h => SetG knd rd h a (metS ks.reverse) (metN ks.reverse)
section
variable {X : Cx} {κ : Type} [DecidableEq κ] {knd : PySem.KeyKind X.prog X.w κ} {rd : Value → κ}
theorem setH_ok {H : Hp} {h : Heap} {a : Addr} {ks : List κ} (g : SetG knd rd h a (metS ks.reverse) (metN ks.reverse)) : ObjOk X.prog X.w H h a (SetH knd rd a ks) := by
  have ⟨o, _, _, _, ho, _⟩ := g
  exact ⟨g, ⟨o, ho⟩, fun h1 h2 p k => SetG.at p k⟩
theorem setH_get {pins : List (Addr × Obj)} {σ : L2.St} {H : Hp} {s : Shared} {a : Addr} {ks : List κ} (I : Inv X pins σ H s) (ha : H a = some (SetH knd rd a ks)) : SetG knd rd s.heap a (metS ks.reverse) (metN ks.reverse) := (I.hok a _ ha).1
theorem laid_set {pins : List (Addr × Obj)} {σ : L2.St} {H : Hp} {s s' : Shared} {ks : List κ} {Q : VK} (I : Inv X pins σ H s) (f : Filled knd rd s ks s') (q : ∀ p, H p = none → Q (.ref p) (upd H p (SetH knd rd p ks))) :
    EP X pins σ Q (.ref s.heap.objs.size) s' := by
  obtain ⟨hp, tk, rfl, g, k⟩ := f
  exact ⟨.ref _, upd H s.heap.objs.size (SetH knd rd s.heap.objs.size ks), I.laid (t' := tk) (fun b u e => k b u (Heap.lt_size e) e) (Nat.le_refl _) (setH_ok g), rfl, q _ (I.hok.fresh (Nat.le_refl _))⟩
theorem cr_setLI (hc : X.calm = true) : CallR X (.type "set") (fun xs H Q => ∃ (l : Addr) (ns : List Int), xs = [.ref l] ∧ SqL X.K H l (ns.map V.int) ∧ ns.length < 4000 ∧ ∀ p, H p = none → Q (.ref p) (upd H p (SetH (intKind X.prog X.w) rdI p ns))) := by
  intro pins s σ H xs us Q I r h
  obtain ⟨l, ns, rfl, hq, hb, q⟩ := h
  rw [Vals.ref1 r]
  obtain ⟨its, rv, pl, _⟩ := I.list hq
  have hi := rv.ints
  have hl : ns.length = its.toArray.size := by rw [List.size_toArray]; exact (IntsAre.length hi).symm
  refine call_setL (knd := intKind X.prog X.w) (rd := rdI) (I.ok.hd hc) pl.isList hl (fun i v k h1 h2 => ?_) (by rw [← hl]; unfold scanBound; omega) fun s' f => laid_set I f q
  obtain ⟨t, e⟩ := IntsAre.int_at hi i v (by simpa using h1)
  rw [e, List.getD_eq_getElem?_getD, h2]
  exact gdI k t
theorem cr_setLS (hc : X.calm = true) : CallR X (.type "set") (fun xs H Q => ∃ (l : Addr) (ns : List Str), xs = [.ref l] ∧ SqL X.K H l (ns.map V.str) ∧ ns.length < 4000 ∧ ∀ p, H p = none → Q (.ref p) (upd H p (SetH (PySem.strKind X.prog X.w) rdS p ns))) := by
  intro pins s σ H xs us Q I r h
  obtain ⟨l, ns, rfl, hq, hb, q⟩ := h
  rw [Vals.ref1 r]
  obtain ⟨its, rv, pl, _⟩ := I.list hq
  have hi : StrsAre its ns := strsAre_of rv
  have hl : ns.length = its.toArray.size := by rw [List.size_toArray]; exact (StrsAre.length hi).symm
  refine call_setL (knd := PySem.strKind X.prog X.w) (rd := rdS) (I.ok.hd hc) pl.isList hl (fun i v k h1 h2 => ?_) (by rw [← hl]; unfold scanBound; omega) fun s' f => laid_set I f q
  obtain ⟨t, e⟩ := SS.strs_at hi i v (by simpa using h1)
  rw [e, List.getD_eq_getElem?_getD, h2]
  exact gdS k t
theorem cr_setT (hc : X.calm = true) : CallR X (.type "set") (fun xs H Q => ∃ x : Str, xs = [.str x] ∧ x.cps.size < 4000 ∧ ∀ p, H p = none → Q (.ref p) (upd H p (SetH (PySem.strKind X.prog X.w) rdS p (x.cps.toList.map fun c => (⟨#[c]⟩ : Str))))) := by
  intro pins s σ H xs us Q I r h
  obtain ⟨x, rfl, hb, q⟩ := h
  cases r with
  | cons r1 r2 =>
    cases r2
    obtain ⟨t, rfl⟩ := r1
    exact call_setT (I.ok.hd hc) (by unfold scanBound; omega) fun s' f => laid_set I f q
theorem cr_lenSet : CallR X (.builtin "len") (fun xs H Q => ∃ (a : Addr) (ks : List κ), xs = [.ref a] ∧ H a = some (SetH knd rd a ks) ∧ Q (.int ((nub ks).length : Nat)) H) := by
  intro pins s σ H xs us Q I r h
  obtain ⟨a, ks, rfl, ha, q⟩ := h
  rw [Vals.ref1 r]
  obtain ⟨ob, el, epo, tb, h1, h2, h3, g0, nd, mm, b0, f0, e0, r0, l0⟩ := setH_get I ha
  have e1 : el.size = (nub ks).length := e0.trans (metN_rev ks)
  refine call_len_set h1 h2 h3 f0 (by have : scanBound < 2 ^ 62 := by decide
                                      omega) ⟨.int (nub ks).length, H, (I.tok _).tok _, ⟨_, by rw [e1]⟩, q⟩
end
end Sx

namespace Dx
open PySem PySem.Spec PyProof.Rows L2 Sx
def chrs (z : Str) : List Str := z.cps.toList.map fun c => ⟨#[c]⟩
def lenSetR (d : D) : R D := match d with
  | .lst xs => if xs.length < 4000 then (match intsOf xs with
    | some ns => .ok (.int ((nub ns).length : Nat))
    | none => (match strsOf xs with
      | some ss => .ok (.int ((nub ss).length : Nat))
      | none => .bad)) else .bad
  | .str z => if z.cps.size < 4000 then .ok (.int ((nub (chrs z)).length : Nat)) else .bad
  | _ => .bad
section
variable {X : Cx} {W : WX} {ξ : Str → Value} {a : Expr} {c : Bool} {fa : En → R D} {p p2 q pos : Pos} {K : PySem.W.Frag} {M : Fm ξ} {σ : L2.St} {env : En} {H0 H : Hp}
theorem grow_set (E : EnvAt K M H0 H σ env) {p : Addr} {o : HO} (h : H p = none) : EnvAt K M H0 (upd H p o) σ env := by
  have s : Same H (upd H p o) := same_upd h
  exact E.grow (Same.refl _) s (E.same.trans s) fun _ _ z => z
theorem gr_set (E : EnvAt K M H0 H σ env) {p : Addr} {o : HO} (h : H p = none) : Gr K M σ env H0 H H0 (upd H p o) := ⟨Same.refl _, same_upd h, grow_set E h, fun _ _ z => z⟩
theorem de_lenSet (hm : X.mg "len" = none) (hm2 : X.mg "set" = none) (ha : DE X W ξ c a fa) (hc : X.calm = true := by rfl) (hg : Gl X "len" := by rfl) (hg2 : Gl X "set" := by rfl)
    (na : starEach [a] X.env = (false, eval a X.env) :: starEach [] X.env := by rfl) (nb : starEach [.Call (.Name "set" p2) [a] [] q] X.env = (false, eval (.Call (.Name "set" p2) [a] [] q) X.env) :: starEach [] X.env := by rfl)
    (pl : (backTo q (starEach [] X.env)).any (·.1) = false := by rfl) (pl2 : (backTo pos (starEach [] X.env)).any (·.1) = false := by rfl) :
    DE X W ξ true (.Call (.Name "len" p) [.Call (.Name "set" p2) [a] [] q] [] pos) (eUn lenSetR fa) :=
  peImp (pe_callB (CallR.or (cr_lenSet (knd := intKind X.prog X.w) (rd := rdI)) (cr_lenSet (knd := PySem.strKind X.prog X.w) (rd := rdS))) hg hm (by decide +kernel)
    (pa_cons (pe_callTy (CallR.or (cr_setLI hc) (CallR.or (cr_setLS hc) (cr_setT hc))) hg2 hm2 (by decide +kernel) (pa_cons ha pa_nil na) (by decide) (by decide) na pl) pa_nil nb) (by decide) (by decide) nb pl2)
    fun σ H Q ⟨M, H0, env, E, p⟩ => ⟨M, H0, env, E, bindE wishE p fun d v H1 H2 g r p1 => by
      unfold lenSetR at p1
      split at p1
      · split at p1
        · rename_i xs hz
          obtain ⟨l, vs, rfl, h, rr⟩ := r.lst g.e.same
          split at p1
          · rename_i ns hn
            rw [intsOf_eq hn] at rr hz
            rw [rr.ints] at h
            exact .inl ⟨l, ns, rfl, SqL.of h, by simpa using hz, fun p hp => .inl ⟨p, ns, rfl, upd_same, p1 _ _ _ (gr_set g.e hp) (.of (.int _))⟩⟩
          · split at p1
            · rename_i ss hn
              rw [strsOf_eq hn] at rr hz
              rw [rr.strs] at h
              exact .inr (.inl ⟨l, ss, rfl, SqL.of h, by simpa using hz, fun p hp => .inr ⟨p, ss, rfl, upd_same, p1 _ _ _ (gr_set g.e hp) (.of (.int _))⟩⟩)
            · exact p1.elim
        · exact p1.elim
      · split at p1
        · rename_i z hz
          exact .inr (.inr ⟨z, by rw [r.str], hz, fun p hp => .inr ⟨p, chrs z, rfl, upd_same, p1 _ _ _ (gr_set g.e hp) (.of (.int _))⟩⟩)
        · exact p1.elim
      · exact p1.elim⟩
end
end Dx

namespace Dx
open PySem PySem.Spec PyProof.Rows L2

structure ZSrc (P : Program) (w : World) (K : PySem.W.Frag) (n : Nat) (src : Hp → Prop) (Pv : Nat → V → Prop) (iterAt : Addr → Nat → Heap → Prop) : Prop where
  obj : ∀ it i h, iterAt it i h → ∃ o, h.get? it = some o ∧ ∀ v, o.data ≠ .cell v
  keep : ∀ it i h h', iterAt it i h → (∀ o, h.get? it = some o → h'.get? it = some o) → iterAt it i h'
  draw : ∀ (X : Cx) (pins : List (Addr × Obj)) (s : Shared) (σ : L2.St) (H : Hp), X.prog = P → X.w = w → X.K = K → X.calm = true → Inv X pins σ H s → src H → ∀ it, H it = none → ∀ i, iterAt it i s.heap →
    ∃ (m : List Addr) (Pu : Nat → Value → Prop) (St : Nat → Heap → Prop), Draws P w X.A.in1 it (it :: m) n Pu St ∧ (∀ b ∈ m, H b ≠ none) ∧ St i s.heap ∧ (∀ j h, St j h → iterAt it j h) ∧ ∀ j u, Pu j u → ∃ v, RelV v u ∧ Pv j v
def ItZ (n1 n2 : Nat) (s1 s2 : Hp → Prop) (P1 P2 : Nat → V → Prop) : It :=
  ⟨fun i H => i < min n1 n2 ∧ s1 H ∧ s2 H, fun i H v H' => ∃ T x y, v = .ref T ∧ H T = none ∧ H' = upd H T (.tup [x, y]) ∧ P1 i x ∧ P2 i y, fun i H => min n1 n2 ≤ i ∧ s1 H ∧ s2 H⟩
theorem walk_Z {n1 n2 : Nat} {s1 s2 : Hp → Prop} {P1 P2 : Nat → V → Prop} : Walk (ItZ n1 n2 s1 s2 P1 P2) (min n1 n2) (fun H => s1 H ∧ s2 H) (fun i H v H' => ∃ T x y, v = .ref T ∧ H T = none ∧ H' = upd H T (.tup [x, y]) ∧ P1 i x ∧ P2 i y) :=
  ⟨fun _ _ hi q => ⟨hi, q⟩, fun _ q => ⟨Nat.le_refl _, q⟩, fun _ _ _ _ _ _ y => y⟩
section
variable {P : Program} {w : World} {K : PySem.W.Frag} {elts : List Expr} {kk : Nat} {tpos : Pos} {n1 n2 : Nat} {s1 s2 : Hp → Prop} {P1 P2 : Nat → V → Prop} {at1 at2 : Addr → Nat → Heap → Prop}
theorem turn_zipG (Z1 : ZSrc P w K n1 s1 P1 at1) (Z2 : ZSrc P w K n2 s2 P2 at2) {z TI TO i1 i2 : Addr} (hd : [z, TI, TO, i1, i2].Nodup) :
    Turn P w K (.Tuple elts kk tpos) (ItZ n1 n2 s1 s2 P1 P2) [z, TI, TO, i1, i2] z (fun i h => i ≤ min n1 n2 ∧ IsZip h z TI TO .none ∧ IsTupOf2 h TI (.ref i1) (.ref i2) ∧ (∃ x y, IsTupOf2 h TO x y) ∧ at1 i1 i h ∧ at2 i2 i h) := by
  have sepL : ∀ {X : Cx} {pins : List (Addr × Obj)} {H : Hp} {m1 m2 : List Addr}, (∀ b ∈ [z, TI, TO, i1, i2], FpOk X pins H b) → (∀ b ∈ m1, H b ≠ none) → (∀ b ∈ m2, H b ≠ none) → ZipSep2 z TI TO i1 i2 (i1 :: m1) (i2 :: m2) := by
    intro X pins H m1 m2 hf h1 h2
    have hz : ∀ b ∈ [z, TI, TO, i1, i2], b ∉ m1 ∧ b ∉ m2 := fun b hb => ⟨fun q => h1 b q (hf b hb).1, fun q => h2 b q (hf b hb).1⟩
    have nz : ∀ {b : Addr} {m : List Addr} {i : Addr}, b ≠ i → b ∉ m → b ∉ (i :: m) := fun {b m i} a c q => by
      rcases List.mem_cons.mp q with q | q
      · exact a q
      · exact c q
    simp only [List.nodup_cons, List.mem_cons, List.not_mem_nil, or_false, not_or, List.nodup_nil, and_true, not_false_eq_true] at hd
    obtain ⟨⟨a1, a2, a3, a4⟩, ⟨a5, a6, a7⟩, ⟨a8, a9⟩, a10⟩ := hd
    exact ⟨Ne.symm a1, Ne.symm a2, a5, a6, List.mem_cons_self .., nz a3 (hz z (by simp)).1, nz a8 (hz TO (by simp)).1, a7, List.mem_cons_self .., nz a4 (hz z (by simp)).2, nz a9 (hz TO (by simp)).2, nz a10 (hz i1 (by simp)).2, nz (Ne.symm a10) (hz i2 (by simp)).1⟩
  refine ⟨by simp, fun i h st b hb => ?_, fun i h h' st k => ?_, ?_, ?_, fun A i s Q E st h => wpAny_pyIter_zip st.2.1 h⟩
  · obtain ⟨_, hz, hTI, ⟨x, y, hTO⟩, h1, h2⟩ := st
    have e' : b = z ∨ b = TI ∨ b = TO ∨ b = i1 ∨ b = i2 := by simpa using hb
    rcases e' with q | q | q | q | q
    · rw [q]; exact ⟨_, hz, fun v q => nomatch q⟩
    · rw [q]; exact ⟨_, hTI, fun v q => nomatch q⟩
    · rw [q]; exact ⟨_, hTO, fun v q => nomatch q⟩
    · rw [q]; exact Z1.obj _ _ _ h1
    · rw [q]; exact Z2.obj _ _ _ h2
  · obtain ⟨hn, hz, hTI, ⟨x, y, hTO⟩, h1, h2⟩ := st
    exact ⟨hn, k z (by simp) _ hz, k TI (by simp) _ hTI, ⟨x, y, k TO (by simp) _ hTO⟩, Z1.keep _ _ _ _ h1 fun o q => k i1 (by simp) o q, Z2.keep _ _ _ _ h2 fun o q => k i2 (by simp) o q⟩
  · intro X hP hw hK hc i pins s σ H E I hf st hg
    obtain ⟨hn, hz, hTI, ⟨x, y, hTO⟩, h1, h2⟩ := st
    obtain ⟨hi, q1, q2⟩ := hg
    obtain ⟨m1, Pu1, St1, D1, hm1, hst1, back1, rel1⟩ := Z1.draw X pins s σ H hP hw hK hc I q1 i1 (hf i1 (by simp)).1 i h1
    obtain ⟨m2, Pu2, St2, D2, hm2, hst2, back2, rel2⟩ := Z2.draw X pins s σ H hP hw hK hc I q2 i2 (hf i2 (by simp)).1 i h2
    subst hP hw hK
    have S := sepL hf hm1 hm2
    have W := WalksT.zipD2 S D1 D2
    have lt : ∀ b ∈ [z, TI, TO, i1, i2], b < s.heap.objs.size := by
      intro b hb
      have e' : b = z ∨ b = TI ∨ b = TO ∨ b = i1 ∨ b = i2 := by simpa using hb
      rcases e' with q | q | q | q | q
      · rw [q]; exact Heap.lt_size hz
      · rw [q]; exact Heap.lt_size hTI
      · rw [q]; exact Heap.lt_size hTO
      · rw [q]; obtain ⟨_, e, _⟩ := Z1.obj _ _ _ h1; exact Heap.lt_size e
      · rw [q]; obtain ⟨_, e, _⟩ := Z2.obj _ _ _ h2; exact Heap.lt_size e
    have wr : ∀ b, b ∉ [z, TI, TO, i1, i2] → b ∉ [z, TO, i1, i2] := fun b hb q => hb (by
      have e' : b = z ∨ b = TO ∨ b = i1 ∨ b = i2 := by simpa using q
      rcases e' with q | q | q | q <;> simp [q])
    refine W.item i s _ _ hi ⟨hz, hTI, ⟨x, y, hTO⟩, hst1, hst2⟩ fun T vals h' tk hPt hTle hT hMid hk => ⟨_, rfl, ?_⟩
    refine W.go elts kk tpos i T { s with heap := h', toks := tk } _ _ hMid fun h'' hst' hk' => ?_
    obtain ⟨u1, u2, hu1, hu2, ev⟩ := hPt
    obtain ⟨v1, rv1, pv1⟩ := rel1 i u1 hu1
    obtain ⟨v2, rv2, pv2⟩ := rel2 i u2 hu2
    obtain ⟨o, ho, hcls, nn, hdat⟩ := hT
    have hT2 : h''.get? T = some o := hk' _ _ (W.apart i T h' hMid) ho
    have new : ObjOk X.prog X.w (upd H T (.tup [v1, v2])) h'' T (.tup [v1, v2]) :=
      ⟨by show 2 ≤ sizeLine; decide, [u1, u2], .cons rv1 (.cons rv2 .nil), ⟨o, hT2, hcls, nn, by rw [hdat, ev]⟩⟩
    have I1 : Inv X pins σ (upd H T (.tup [v1, v2])) { s with heap := h'', toks := tk } :=
      I.turnedNew (ch := [z, TI, TO, i1, i2]) (fun b ob hb q => hk' b ob (wr b hb) (hk b ob (wr b hb) q)) hf hTle new
    obtain ⟨z', TI', TO', st1', st2'⟩ := hst'
    refine ⟨.ref T, _, I1, rfl, ⟨T, v1, v2, rfl, I.hok.fresh hTle, rfl, pv1, pv2⟩, ⟨hi, z', TI', TO', back1 _ _ st1', back2 _ _ st2'⟩, fun b hb => ?_⟩
    have := lt b hb
    rw [upd_ne (show b ≠ T from fun e => by rw [e] at this; exact absurd hTle (Nat.not_le_of_lt this))]
    exact (hf b hb).1
  · intro X hP hw hK hc i pins s σ H E I hf st hg
    obtain ⟨hn, hz, hTI, ⟨x, y, hTO⟩, h1, h2⟩ := st
    obtain ⟨hi, q1, q2⟩ := hg
    have hin : i = min n1 n2 := Nat.le_antisymm hn hi
    obtain ⟨m1, Pu1, St1, D1, hm1, hst1, back1, rel1⟩ := Z1.draw X pins s σ H hP hw hK hc I q1 i1 (hf i1 (by simp)).1 i h1
    obtain ⟨m2, Pu2, St2, D2, hm2, hst2, back2, rel2⟩ := Z2.draw X pins s σ H hP hw hK hc I q2 i2 (hf i2 (by simp)).1 i h2
    subst hP hw hK hin
    have S := sepL hf hm1 hm2
    have W := WalksT.zipD2 S D1 D2
    have wr : ∀ b, b ∉ [z, TI, TO, i1, i2] → b ∉ [z, TO, i1, i2] := fun b hb q => hb (by
      have e' : b = z ∨ b = TO ∨ b = i1 ∨ b = i2 := by simpa using q
      rcases e' with q | q | q | q <;> simp [q])
    exact W.done s _ _ ⟨hz, hTI, ⟨x, y, hTO⟩, hst1, hst2⟩ fun h' tk hk => ⟨rfl, I.turnedL (t' := tk) (ch := [z, TI, TO, i1, i2]) (fun c o hb q => hk c o (wr c hb) q) hf⟩

theorem zsrc_list (a : Addr) (vs : List V) : ZSrc P w K vs.length (fun H => H a = some (.lst vs)) (fun i x => vs[i]? = some x) (fun it i h => h.IsListIter it a i) :=
  ⟨fun it i h st => by
    have st : h.IsListIter it a i := st
    obtain ⟨o, h1, h2, h3⟩ := st
    exact ⟨o, h1, fun v z => by rw [h3] at z; cases z⟩, fun it i h h' st k => by
    have st : h.IsListIter it a i := st
    exact Heap.IsListIter.at st k, fun X pins s σ H hP hw hK hc I hsrc it hit0 i hit => by
    subst hP hw hK
    obtain ⟨its, rv, pt, _⟩ := I.list (SqL.of hsrc)
    have hta : a ≠ it := fun z => by rw [z, hit0] at hsrc; cases hsrc
    have hl : its.toArray.size = vs.length := by rw [List.size_toArray, rv.length]
    refine ⟨[a], fun i v => its.toArray[i]? = some v, fun i h => h.IsListIter it a i ∧ h.IsList a its.toArray, ?_, fun b hb => ?_, ⟨hit, pt.isList⟩, fun j h st => st.1, fun j u hu => ?_⟩
    · rw [← hl]
      exact Draws.list (show X.A.in1.handled = none from I.ok.hd hc) it a hta its.toArray
    · have : b = a := by simpa using hb
      rw [this, hsrc]; intro z; cases z
    · have hj : j < its.toArray.size := (Array.getElem?_eq_some_iff.mp hu).1
      obtain ⟨v, hv⟩ : ∃ v, vs[j]? = some v := ⟨vs[j]'(by omega), by simp [hl ▸ hj]⟩
      obtain ⟨u', hu', ru⟩ := rv.get hv
      have : u' = u := by
        have h2 : its[j]? = some u := by simpa using hu
        rw [hu'] at h2; cases h2; rfl
      exact ⟨v, this ▸ ru, hv⟩⟩
theorem zsrc_tup (a : Addr) (vs : List V) : ZSrc P w K vs.length (fun H => H a = some (.tup vs)) (fun i x => vs[i]? = some x) (fun it i h => h.IsTupleIter it a i) :=
  ⟨fun it i h st => by
    have st : h.IsTupleIter it a i := st
    obtain ⟨o, h1, h2, h3⟩ := st
    exact ⟨o, h1, fun v z => by rw [h3] at z; cases z⟩, fun it i h h' st k => by
    have st : h.IsTupleIter it a i := st
    exact Heap.IsTupleIter.at st k, fun X pins s σ H hP hw hK hc I hsrc it hit0 i hit => by
    subst hP hw hK
    obtain ⟨its, rv, pt, _⟩ := I.tuple (SqT.of hsrc)
    have hta : a ≠ it := fun z => by rw [z, hit0] at hsrc; cases hsrc
    have hl : its.toArray.size = vs.length := by rw [List.size_toArray, rv.length]
    refine ⟨[a], fun i v => its.toArray[i]? = some v, fun i h => h.IsTupleIter it a i ∧ h.IsTuple a its.toArray, ?_, fun b hb => ?_, ⟨hit, pt⟩, fun j h st => st.1, fun j u hu => ?_⟩
    · rw [← hl]
      exact Draws.tuple (show X.A.in1.handled = none from I.ok.hd hc) it a hta its.toArray
    · have : b = a := by simpa using hb
      rw [this, hsrc]; intro z; cases z
    · have hj : j < its.toArray.size := (Array.getElem?_eq_some_iff.mp hu).1
      obtain ⟨v, hv⟩ : ∃ v, vs[j]? = some v := ⟨vs[j]'(by omega), by simp [hl ▸ hj]⟩
      obtain ⟨u', hu', ru⟩ := rv.get hv
      have : u' = u := by
        have h2 : its[j]? = some u := by simpa using hu
        rw [hu'] at h2; cases h2; rfl
      exact ⟨v, this ▸ ru, hv⟩⟩
theorem zsrc_str (z : Str) (t : Tok) : ZSrc P w K z.cps.size (fun _ => True) (fun i x => ∃ c, z.cps[i]? = some c ∧ x = .str ⟨#[c]⟩) (fun it i h => h.IsStrIter it (strIterType z) z t i) where
  obj := by
    intro it i h st
    obtain ⟨o, h1, h2, h3⟩ := st
    exact ⟨o, h1, fun v z => by rw [h3] at z; cases z⟩
  keep := by
    intro it i h h' st k
    obtain ⟨o, h1, h2⟩ := st
    exact ⟨o, k o h1, h2⟩
  draw := by
    intro X pins s σ H hP hw hK hc I hsrc it hit0 i hit
    subst hP hw hK
    refine ⟨[], fun i v => ∃ c u, z.cps[i]? = some c ∧ v = .str ⟨#[c]⟩ u, fun i h => h.IsStrIter it (strIterType z) z t i, Draws.text (show X.A.in1.handled = none from I.ok.hd hc) it z t, (by intro b hb; simp at hb), hit, fun j h st => st, ?_⟩
    rintro j u ⟨c, u', hc', hu'⟩
    exact ⟨.str ⟨#[c]⟩, ⟨u', hu'⟩, c, hc', rfl⟩
end

def ZV (H : Hp) (v : V) (n : Nat) (src : Hp → Prop) (Pv : Nat → V → Prop) : Prop :=
  (∃ a vs, v = .ref a ∧ H a = some (.lst vs) ∧ n = vs.length ∧ (src = fun H => H a = some (.lst vs)) ∧ Pv = fun i x => vs[i]? = some x) ∨
  (∃ a vs, v = .ref a ∧ H a = some (.tup vs) ∧ n = vs.length ∧ (src = fun H => H a = some (.tup vs)) ∧ Pv = fun i x => vs[i]? = some x) ∨
  (∃ z, v = .str z ∧ n = z.cps.size ∧ (src = fun _ => True) ∧ Pv = fun i x => ∃ c, z.cps[i]? = some c ∧ x = .str ⟨#[c]⟩)
section
variable {X : Cx} {W : WX} {ξ : Str → Value} {e e2 tg : Expr} {c c1 c2 : Bool} {pos p tpos : Pos} {elts : List Expr} {kk : Nat} {f g : En → R D}
variable {K : PySem.W.Frag} {M : Fm ξ} {σ : L2.St} {env : En} {H0 H : Hp}
theorem ZV.begins {pins : List (Addr × Obj)} {s : Shared} {v : V} {u : Value} {n : Nat} {src : Hp → Prop} {Pv : Nat → V → Prop} (I : Inv X pins σ H s) (r : RelV v u) (z : ZV H v n src Pv) :
    ∃ (o : Obj) (Hb : Heap → Prop) (iterAt : Addr → Nat → Heap → Prop), Begins u o Hb ∧ Hb s.heap ∧ ZSrc X.prog X.w X.K n src Pv iterAt ∧ ∀ it h, h.get? it = some o → iterAt it 0 h := by
  rcases z with ⟨a, vs, rfl, ha, rfl, rfl, rfl⟩ | ⟨a, vs, rfl, ha, rfl, rfl, rfl⟩ | ⟨z, rfl, rfl, rfl, rfl⟩
  · obtain rfl : u = Value.ref a := r
    obtain ⟨its, rv, pt, _⟩ := I.list (SqL.of ha)
    exact ⟨_, _, _, begins_list a its.toArray, pt.isList, zsrc_list a vs, fun it h hit => ⟨_, hit, rfl, rfl⟩⟩
  · obtain rfl : u = Value.ref a := r
    obtain ⟨its, rv, pt, _⟩ := I.tuple (SqT.of ha)
    exact ⟨_, _, _, begins_tuple a its.toArray, pt, zsrc_tup a vs, fun it h hit => ⟨_, hit, rfl, rfl⟩⟩
  · obtain ⟨t, rfl⟩ := r
    exact ⟨_, _, _, begins_text z t, trivial, zsrc_str z t, fun it h hit => ⟨_, hit, rfl, rfl⟩⟩
def iZipG (ta : TA) : TI := fun σ H R => ta σ H fun vs H1 => ∃ v1 v2 n1 n2 s1 s2 P1 P2, vs = [v1, v2] ∧ ZV H1 v1 n1 s1 P1 ∧ ZV H1 v2 n2 s2 P2 ∧ R (ItZ n1 n2 s1 s2 P1 P2) H1
theorem pi_zipG {ta : TA} (hg : Gl X "zip") (hm : X.mg "zip" = none) (ha : PA X [e, e2] ta)
    (hs : starEach [e, e2] X.env = (false, eval e X.env) :: starEach [e2] X.env := by rfl) (hpl : (backTo pos (starEach [e2] X.env)).any (·.1) = false := by rfl) :
    PI X (.Tuple elts kk tpos) (.Call (.Name "zip" p) [e, e2] [] pos) (iZipG ta) := by
  refine ⟨fun pins s σ H R I h => ?_⟩
  refine Call_ (ld_blt I hg hm PyProof.Rows.boot_zip (PyProof.Rows.callWith_type1 (thn (ha.run pos pins s σ H _ I h) fun us s1 ⟨vs, H1, I1, r1, q1⟩ => ?_) hs hpl))
  obtain ⟨v1, v2, n1, n2, q1', q2', P1, P2, ex, z1, z2, q⟩ := q1
  subst ex
  cases r1 with
  | cons r rr =>
    cases rr with
    | cons r' rr =>
      cases rr
      obtain ⟨o1, Hb1, at1, B1, hb1, S1, a1⟩ := z1.begins I1 r
      obtain ⟨o2, Hb2, at2, B2, hb2, S2, a2⟩ := z2.begins I1 r'
      refine zip_begins2 B1 B2 hb1 hb2 fun h' hz hTI hTO h1 h2 hsz hk => wpAny_pyIter_zip hz ?_
      have I2 : Inv X pins σ H1 { s1 with heap := h' } := I1.kept (t' := s1.toks) hk
      refine ⟨s1.heap.objs.size + 4, [s1.heap.objs.size + 4, s1.heap.objs.size + 2, s1.heap.objs.size + 3, s1.heap.objs.size, s1.heap.objs.size + 1], _, _, H1, rfl, I2, turn_zipG S1 S2 ?_, ⟨Nat.zero_le _, hz, hTI, ⟨_, _, hTO⟩, a1 _ _ h1, a2 _ _ h2⟩, fun b hb => ?_, q⟩
      · simp only [List.nodup_cons, List.mem_cons, List.not_mem_nil, or_false, not_or, List.nodup_nil, and_true, not_false_eq_true]
        refine ⟨⟨?_, ?_, ?_, ?_⟩, ⟨?_, ?_, ?_⟩, ⟨?_, ?_⟩, ?_⟩ <;> (show (_ : Nat) ≠ _) <;> omega
      · have hle : s1.heap.objs.size ≤ b := by
          have e' : b = s1.heap.objs.size + 4 ∨ b = s1.heap.objs.size + 2 ∨ b = s1.heap.objs.size + 3 ∨ b = s1.heap.objs.size ∨ b = s1.heap.objs.size + 1 := by simpa using hb
          rcases e' with z | z | z | z | z
          · rw [z]; exact Nat.le_add_right _ _
          · rw [z]; exact Nat.le_add_right _ _
          · rw [z]; exact Nat.le_add_right _ _
          · rw [z]; exact Nat.le_refl _
          · rw [z]; exact Nat.le_add_right _ _
        exact I1.fpOk hle (I1.hok.fresh hle)

def itsD : D → R (List D)
  | .lst xs => .ok xs
  | .tup xs => .ok xs
  | .str z => .ok (charsD z)
  | _ => .bad
def pairs2 (xs ys : List D) : List D := (xs.zip ys).map fun p => .tup [p.1, p.2]
def fZip (A B : En → R D) : En → R (List D) := fun env => A env >>= fun x => B env >>= fun y => itsD x >>= fun xs => itsD y >>= fun ys => .ok (pairs2 xs ys)
theorem zv_of {v : V} {d : D} {xs : List D} (E : EnvAt K M H0 H σ env) (r : RepX c K H0 H v d) (h : itsD d = .ok xs) :
    ∃ n src Pv, ZV H v n src Pv ∧ n = xs.length ∧ n ≤ sizeLine ∧ (∀ H1, Same (if c = true then H0 else H) H1 → src H1) ∧ ∀ i x dd, Pv i x → xs[i]? = some dd → Rep K H0 x dd := by
  unfold itsD at h
  split at h
  · cases h
    have z := r.lstLen
    obtain ⟨a, vs, rfl, h1, h2, r2⟩ := r.lstAt E.same
    refine ⟨_, _, _, .inl ⟨a, vs, rfl, h2, rfl, rfl, rfl⟩, r2.length, r2.length ▸ z, fun H1 s => s _ _ h1, fun i x dd hx hd => ?_⟩
    obtain ⟨v, hv, rv⟩ := r2.get hd
    replace hx : vs[i]? = some x := hx
    rw [hv] at hx; cases hx; exact rv
  · cases h
    have z := r.tupLen
    obtain ⟨a, vs, rfl, h1, r2⟩ := r.tup
    refine ⟨_, _, _, .inr (.inl ⟨a, vs, rfl, E.same _ _ h1, rfl, rfl, rfl⟩), r2.length, r2.length ▸ z, fun H1 s => ?_, fun i x dd hx hd => ?_⟩
    · exact ifSame E.same s _ _ h1
    · obtain ⟨v, hv, rv⟩ := r2.get hd
      replace hx : vs[i]? = some x := hx
      rw [hv] at hx; cases hx; exact rv
  · rename_i z
    cases h
    have zz : z.cps.size ≤ sizeLine := by rw [sizeLine_eq]; exact of_decide_eq_true (Bool.and_eq_true_iff.mp r.sok).2
    refine ⟨_, _, _, .inr (.inr ⟨z, r.str, rfl, rfl, rfl⟩), (charsD_len z).symm, zz, fun _ _ => trivial, fun i x dd hx hd => ?_⟩
    obtain ⟨c', hc, e⟩ := charsD_get hd
    obtain ⟨c2, hc2, e2⟩ := hx
    rw [hc] at hc2; cases hc2
    subst e e2
    exact charsD_rep r.sok hc
  · cases h
theorem pairs2_get {xs ys : List D} {i : Nat} {d : D} (h : (pairs2 xs ys)[i]? = some d) : ∃ x y, xs[i]? = some x ∧ ys[i]? = some y ∧ d = .tup [x, y] := by
  unfold pairs2 at h
  rw [List.getElem?_map] at h
  cases e : (xs.zip ys)[i]? with
  | none => rw [e] at h; cases h
  | some q =>
    rw [e] at h; cases h
    have := List.getElem?_zip_eq_some.mp e
    exact ⟨q.1, q.2, this.1, this.2, rfl⟩
theorem di_zip (hm : X.mg "zip" = none) (ha : DE X W ξ c1 e f) (hb : DE X W ξ c2 e2 g) (hg : Gl X "zip" := by rfl)
    (hs : starEach [e, e2] X.env = (false, eval e X.env) :: starEach [e2] X.env := by rfl) (hs2 : starEach [e2] X.env = (false, eval e2 X.env) :: starEach [] X.env := by rfl) (hpl : (backTo pos (starEach [e2] X.env)).any (·.1) = false := by rfl) :
    DI X W ξ (c1 && c2) (.Tuple elts kk tpos) (.Call (.Name "zip" p) [e, e2] [] pos) (fZip f g) :=
  piImp (pi_zipG hg hm (pa_cons ha (pa_cons hb pa_nil hs2) hs) hs hpl) fun σ H R' ⟨M, H0, env, E, p⟩ => ⟨M, H0, env, E, bindE wishI p fun d1 x H1 H2 g1 r1 p1 => ⟨M, H1, env, g1.e, bindE wishI p1 fun d2 y H3 H4 g2 r2 p2 => by
    replace r1 := r1.mono g2.s0 g2.s
    replace E := g2.e
    cases e1 : itsD d1 with
    | exc q => exfalso; revert e1; unfold itsD; split <;> simp
    | bad => rw [e1] at p2; exact p2.elim
    | ok xs =>
      rw [e1] at p2
      cases e2 : itsD d2 with
      | exc q => exfalso; revert e2; unfold itsD; split <;> simp
      | bad => rw [e2] at p2; exact p2.elim
      | ok ys =>
        rw [e2] at p2
        obtain ⟨n1, s1, P1, z1, l1, k1, f1, q1⟩ := zv_of E r1 e1
        obtain ⟨n2, s2, P2, z2, l2, k2, f2, q2⟩ := zv_of E r2 e2
        have hl : (pairs2 xs ys).length = min n1 n2 := by unfold pairs2; rw [List.length_map, List.length_zip, l1, l2]
        have fd : Feeds X.K H3 (if (c1 && c2) = true then H3 else H4) (ItZ n1 n2 s1 s2 P1 P2) (pairs2 xs ys) := by
          refine ⟨by rw [hl]; omega, fun H => s1 H ∧ s2 H, fun i H v H' => ∃ T x y, v = .ref T ∧ H T = none ∧ H' = upd H T (.tup [x, y]) ∧ P1 i x ∧ P2 i y, by rw [hl]; exact walk_Z, fun H5 s => ⟨f1 H5 ?_, f2 H5 ?_⟩, fun i H5 v H6 d _ hd yy => ?_⟩
          · revert s; cases c1 <;> cases c2 <;> simp only [Bool.true_and, Bool.false_and, if_true, if_false, Bool.false_eq_true] <;> first | exact fun s => s | exact fun s => E.same.trans s
          · revert s; cases c1 <;> cases c2 <;> simp only [Bool.true_and, Bool.false_and, if_true, if_false, Bool.false_eq_true] <;> first | exact fun s => s | exact fun s => E.same.trans s
          · obtain ⟨T, a, b, ea, hT, eH, pa, pb⟩ := yy
            obtain ⟨da, db, ha', hb', ed⟩ := pairs2_get hd
            exact .inr ⟨T, _, _, hT, eH, ea, ed, (by show 2 ≤ sizeLine; decide), .cons (q1 i a da pa ha') (.cons (q2 i b db pb hb') .nil)⟩
        exact ⟨x, y, n1, n2, s1, s2, P1, P2, rfl, z1, z2, p2 _ H3 H4 (.refl E) fd⟩⟩⟩
end
end Dx

namespace Dx
open PySem PySem.Spec PyProof.Rows L2
section
variable {X : Cx} {W : WX} {ξ : Str → Value} {e f a b o : Expr} {es : List Expr} {c c1 c2 c3 : Bool} {pos p apos cpos : Pos} {fa fb fo : En → R D} {Fs : En → R (List D)} {x : Str}
variable {K : PySem.W.Frag} {M : Fm ξ} {σ : L2.St} {env : En} {H0 H : Hp} {Q : VK}

def itsLT : D → Option (List D)
  | .lst xs => some xs
  | .tup xs => some xs
  | _ => none
def joinR (s l : D) : R D := match s, (itsLT l).bind strsOf with
  | .str a, some ys => if (ys.map (·.length)).sum + ys.length * a.length ≤ 16777216 ∧ sOk (Txt.join a ys) = true then .ok (.str (Txt.join a ys)) else .bad
  | _, _ => .bad
def strR : D → R D
  | .str a => .ok (.str a)
  | _ => .bad
def eJoin (A B : En → R D) : En → R D := fun env => A env >>= strR >>= fun x => B env >>= fun y => joinR x y
theorem de_join (ho : DE X W ξ c o fo) (he : DE X W ξ c1 e fa) (hs : starEach [e] X.env = [(false, eval e X.env)] := by rfl) (hbase : attributeBase o "join" X.env (eval o X.env) = eval o X.env := by rfl) (hline : (apos.endLine == pos.line) = true := by rfl) :
    DE X W ξ true (.Call (.Attribute o "join" apos) [e] [] pos) (eJoin fo fa) :=
  peImp (pe_join ho he hs hbase hline) fun σ H Q ⟨M, H0, env, E, p⟩ => ⟨M, H0, env, E, by
    have p : PostE X.K W ξ M σ env true H0 H Q ((fo env >>= strR) >>= fun d => fa env >>= fun y => joinR d y) := p
    rw [R.assoc] at p
    refine bindE wishE p fun d1 x H1 H2 g1 r1 p1 => ?_
    unfold strR at p1
    split at p1
    · rename_i a
      have p1 : PostE X.K W ξ M σ env true H1 H2 Q (fa env >>= fun y => joinR (.str a) y) := p1
      refine ⟨⟨_, r1.str⟩, M, H1, env, g1.e, bindE wishE p1 fun d2 y H3 H4 g2 r2 p2 => ?_⟩
      unfold joinR at p2
      split at p2
      · rename_i a' ys ha hys
        cases ha
        split at p2
        · rename_i hz
          have key : ∃ q, y = .ref q ∧ (SqL X.K H4 q (ys.map V.str) ∨ SqT X.K H4 q (ys.map V.str)) := by
            cases d2 with
            | lst xs =>
              obtain ⟨q, vs, rfl, h1, r3⟩ := r2.lst g2.e.same
              have e := strsOf_eq (show strsOf xs = some ys from hys)
              subst e
              rw [RepAll.strs r3] at h1
              exact ⟨q, rfl, .inl (SqL.of h1)⟩
            | tup xs =>
              obtain ⟨q, vs, rfl, h1, r3⟩ := r2.tup
              have e := strsOf_eq (show strsOf xs = some ys from hys)
              subst e
              rw [RepAll.strs r3] at h1
              exact ⟨q, rfl, .inr (SqT.of (g2.e.same _ _ h1))⟩
            | _ => cases hys
          obtain ⟨q, rfl, hq⟩ := key
          exact ⟨a, q, ys, r1.str, rfl, hq, hz.1, post_ok g2.e p2 (.str _ hz.2)⟩
        · exact p2.elim
      · exact p2.elim
    · exact p1.elim⟩

def strOfI (i : Int) : Str := Str.ofString (toString i)
def str1R : List D → R D
  | [.int i] => if i.natAbs.log2 < 1920 ∧ sOk (strOfI i) = true then .ok (.str (strOfI i)) else .bad
  | [.str a] => .ok (.str a)
  | _ => .bad
theorem cb_str1 : CbD X W ξ (.type "str") str1R := ⟨_, CallR.or call_str_int SkE.call_str_str, fun {c M σ env H0 H Q vs ds} E r p => by
  unfold str1R at p
  split at p
  · obtain ⟨v, rfl, r0⟩ := x1 r
    split at p
    · rename_i hz
      exact .inl ⟨_, by rw [RepX.int r0], hz.1, post_ok E p (.str _ hz.2)⟩
    · exact p.elim
  · obtain ⟨v, rfl, r0⟩ := x1 r
    exact .inr ⟨_, by rw [RepX.str r0], post_ok E p (.str _ (RepX.sok r0))⟩
  · exact p.elim⟩
end
end Dx
namespace Dx
open PySem PySem.Spec PyProof.Rows L2
section
variable {K : PySem.W.Frag} {ξ : Str → Value} {M : Fm ξ} {σ : L2.St} {env : En} {H0 H : Hp}
mutual
theorem Rep.lock {a : Addr} {u o : HO} (h : H a = some u) (hk : ∃ kvs od, (u = .dK kvs ∧ o = .frz od (.dK kvs)) ∨ (u = .frz od (.dK kvs) ∧ o = .dK kvs)) : ∀ {v : V} {d : D}, Rep K H v d → Rep K (upd H a o) v d
  | _, _, .non => .non
  | _, _, .bl b => .bl b
  | _, _, .int i => .int i
  | _, _, .str x h => .str x h
  | _, _, .tup (a := b) q z r => .tup (by
      have hne : b ≠ a := fun e => by
        subst e; rw [h] at q; cases q
        obtain ⟨_, _, ⟨e, _⟩ | ⟨e, _⟩⟩ := hk <;> cases e
      rw [upd_ne hne]; exact q) z (RepAll.lock h hk r)
  | _, _, .lst (a := b) q z r => .lst (by
      have hne : b ≠ a := fun e => by
        subst e; rw [h] at q; cases q
        obtain ⟨_, _, ⟨e, _⟩ | ⟨e, _⟩⟩ := hk <;> cases e
      rw [upd_ne hne]; exact q) z (RepAll.lock h hk r)
  | _, _, .dic (a := b) q r => .dic (by
      by_cases e : b = a
      · subst e
        unfold Rd at q ⊢
        rw [h] at q
        rw [upd_same]
        obtain ⟨kvs, od, ⟨e1, e2⟩ | ⟨e1, e2⟩⟩ := hk
        · subst e1 e2
          rcases q with q | ⟨_, q⟩
          · cases q; exact .inr ⟨_, rfl⟩
          · cases q
        · subst e1 e2
          rcases q with q | ⟨_, q⟩
          · cases q
          · cases q; exact .inl rfl
      · unfold Rd at q ⊢
        rw [upd_ne e]; exact q) (RepKv.lock h hk r)
  | _, _, .opq b => .opq b
  | _, _, .frz (a := b) q => .frz (by
      rcases q with q | q
      · refine .inl ?_
        by_cases e : b = a
        · subst e
          exfalso
          unfold Rd at q
          rw [h] at q
          obtain ⟨kvs, od, ⟨e1, e2⟩ | ⟨e1, e2⟩⟩ := hk
          · subst e1; rcases q with q | ⟨_, q⟩ <;> cases q
          · subst e1; rcases q with q | ⟨_, q⟩ <;> cases q
        · unfold Rd at q ⊢
          rw [upd_ne e]; exact q
      · exact .inr q)
theorem RepAll.lock {a : Addr} {u o : HO} (h : H a = some u) (hk : ∃ kvs od, (u = .dK kvs ∧ o = .frz od (.dK kvs)) ∨ (u = .frz od (.dK kvs) ∧ o = .dK kvs)) : ∀ {vs : List V} {xs : List D}, RepAll K H vs xs → RepAll K (upd H a o) vs xs
  | _, _, .nil => .nil
  | _, _, .cons r t => .cons (Rep.lock h hk r) (RepAll.lock h hk t)
theorem RepKv.lock {a : Addr} {u o : HO} (h : H a = some u) (hk : ∃ kvs od, (u = .dK kvs ∧ o = .frz od (.dK kvs)) ∨ (u = .frz od (.dK kvs) ∧ o = .dK kvs)) : ∀ {vs : List (Key × V)} {xs : List (Key × D)}, RepKv K H vs xs → RepKv K (upd H a o) vs xs
  | _, _, .nil => .nil
  | _, _, .cons e r t => .cons e (Rep.lock h hk r) (RepKv.lock h hk t)
end
end
end Dx

namespace Dx
open PySem PySem.Spec PyProof.Rows L2
section
variable {K : PySem.W.Frag} {ξ : Str → Value} {M : Fm ξ} {σ : L2.St} {env : En} {H0 H H0' H' : Hp}
theorem EnvAt.lock {a : Addr} {od : Obj} {i : Nat} {kvs : List (Key × D)} {vs : List (Key × V)} (E : EnvAt K M H0 H σ env) (hi : env[i]? = some (.od kvs)) (hs : σ[i]? = some (some (.ref a))) (h0 : H0 a = none) (hg : M.G a = none) (r : RepKv K H0 vs kvs) :
    EnvAt K M (upd H0 a (.frz od (.dK vs))) (upd H a (.frz od (.dK vs))) σ (env.set i (.d (.dic kvs))) := by
  have hw : Owns σ env i a := ⟨hs, _, hi, rfl⟩
  have hlt : i < env.length := (List.getElem?_eq_some_iff.mp hi).1
  have s0 : Same H0 (upd H0 a (.frz od (.dK vs))) := same_upd h0
  have key : ∀ b j, Owns σ (env.set i (.d (.dic kvs))) j b → j ≠ i ∧ Owns σ env j b := fun b j ⟨k1, s3, k2, k3⟩ => by
    by_cases hij : i = j
    · subst hij
      rw [List.getElem?_set_self hlt] at k2; cases k2; cases k3
    · rw [List.getElem?_set_ne hij] at k2
      exact ⟨Ne.symm hij, k1, s3, k2, k3⟩
  refine ⟨fun b u e => ?_, fun b u e => ?_, fun b hb => ?_, by rw [List.length_set]; exact E.len, fun j s2 h2 => ?_, fun j l b hj hl => E.sep j l b (key b j hj).2 (key b l hl).2, fun b j hb ho => E.ng b j hb (key b j ho).2, tg_set E.tg (by intro _ _ _ z; cases z)⟩
  · by_cases hb : b = a
    · subst hb; rw [upd_same] at e ⊢; exact e
    · rw [upd_ne hb] at e ⊢; exact E.same _ _ e
  · rw [upd_ne (ne_of_none e hg)]; exact E.fr _ _ e
  · obtain ⟨z1, z2⟩ := E.nogo b hb
    have : b ≠ a := fun z => by subst z; exact E.ng b i hb hw
    rw [upd_ne this, upd_ne this]; exact ⟨z1, z2⟩
  · by_cases hij : i = j
    · subst hij
      rw [List.getElem?_set_self hlt] at h2; cases h2
      exact ⟨.ref a, hs, .dic (.inr ⟨od, upd_same⟩) (r.mono s0)⟩
    · rw [List.getElem?_set_ne hij] at h2
      have q := E.slot j s2 h2
      have ne : ∀ {b}, σ[j]? = some (some (.ref b)) → s2.own = true → b ≠ a := fun {b} e o' z => by
        subst z; exact hij (E.sep i j b hw ⟨e, s2, h2, o'⟩)
      cases s2 with
      | u => trivial
      | d x => obtain ⟨v, e, r⟩ := q; exact ⟨v, e, r.mono s0⟩
      | ol xs => obtain ⟨b, vs, e, k0, kg, kb, z, r⟩ := q; exact ⟨b, vs, e, by rw [upd_ne (ne e rfl)]; exact k0, kg, by rw [upd_ne (ne e rfl)]; exact kb, z, r.mono s0⟩
      | od xs => obtain ⟨b, vs, e, k0, kg, kb, r⟩ := q; exact ⟨b, vs, e, by rw [upd_ne (ne e rfl)]; exact k0, kg, by rw [upd_ne (ne e rfl)]; exact kb, r.mono s0⟩
      | ex => exact q
      | tr n k t => exact ⟨q.1, q.2.1, q.2.2.mono s0⟩
end
section
variable {X : Cx} {W : WX} {ξ : Str → Value} {body : List Stmt} {B : En → Out} {pos npos : Pos}
end
end Dx
namespace Dx
open PySem PySem.Spec PyProof.Rows L2
section
variable {X : Cx} {W : WX} {ξ : Str → Value} {body : List Stmt} {B : En → Out} {pos npos : Pos}
end
end Dx

namespace Dx
open PySem PySem.Spec PyProof.Rows L2
section
variable {X : Cx} {W : WX} {ξ : Str → Value} {a b : Expr} {c1 c2 : Bool} {pos : Pos} {fa fb : En → R D}
end
end Dx

namespace Dx
open PySem PySem.Spec PyProof.Rows L2
section
variable {X : Cx} {W : WX} {ξ : Str → Value} {K : PySem.W.Frag} {H0 H : Hp}
end
end Dx

namespace Dn
open PySem PySem.Spec PyProof.Rows L2 Dx
def g_is_within : En → Out := (sRet (eAnd (eUn (isiR "int") (getD' 0)) (eAnd (eUn notR (eUn (isiR "bool") (getD' 0))) (eChain leR leR (getD' 1) (getD' 0) (getD' 2)))))
def den_is_within : List D → R D := defR 3 0 g_is_within
def g_is_name : En → Out := (sRet (eAnd (eUn (isiR "str") (getD' 0)) (eAnd (eChain leR leR (eC (.int 1)) (eUn lenR (aCons (getD' 0) aNil)) (eC (.int 3))) (eUn allR (aCons (eOfF (eComp (eUn itemsR (getD' 0)) (nameT 1) tTrue (eBin inR (getD' 1) (eC (.str "abcdefghijklmnopqrstuvwxyz"))) [1])) aNil)))))
def den_is_name : List D → R D := defR 1 1 g_is_name
def g_are_marks : En → Out := (sSeq (sIf (tOr (tNot (tVal (eUn (isiR "str") (getD' 0)))) (tNot (tVal (eUn allR (aCons (eOfF (eComp (eUn itemsR (getD' 0)) (nameT 1) tTrue (eBin inR (getD' 1) (eC (.str "cfhl"))) [1])) aNil)))))
  (sRet (eC (.bl false)))
  sNil)
  (sRet (eUn allR (aCons (eOfF (eComp (fZip (getD' 0) (eSlice (getD' 0) (eUn optR (eC (.int 1))) oNone)) (tupT [2, 3]) tTrue (eBin ltR (getD' 2) (getD' 3)) [2, 3])) aNil))))
def den_are_marks : List D → R D := defR 1 3 g_are_marks
def g_is_box : En → Out := (sSeq (sIf (tOr (tNot (tVal (eUn (isiR "tuple") (getD' 0)))) (tOr (tBin neR (eUn lenR (aCons (getD' 0) aNil)) (eC (.int 7))) (tOr (tNot (tVal (eUn den_is_name (aCons (eBin ixR (getD' 0) (eC (.int 0))) aNil)))) (tNot (tVal (eUn den_are_marks (aCons (eBin ixR (getD' 0) (eC (.int 6))) aNil)))))))
  (sRet (eC (.bl false)))
  sNil)
  (sSeq (sIf (tOr (tNot (tVal (eUn (isiR "str") (eBin ixR (getD' 0) (eC (.int 1)))))) (tNot (tVal (eUn allR (aCons (eOfF (eComp (eUn itemsR (eSlice (getD' 0) (eUn optR (eC (.int 2))) (eUn optR (eC (.int 4))))) (nameT 1) tTrue (eUn den_is_within (aCons (getD' 1) (aCons (eBin subR (eC (.int 0)) (eC (.int 20))) (aCons (eC (.int 20)) aNil)))) [1])) aNil)))))
  (sRet (eC (.bl false)))
  sNil)
  (sRet (eUn allR (aCons (eOfF (eComp (eUn itemsR (eSlice (getD' 0) (eUn optR (eC (.int 4))) (eUn optR (eC (.int 6))))) (nameT 2) tTrue (eUn den_is_within (aCons (getD' 2) (aCons (eC (.int 0)) (aCons (eC (.int 20)) aNil)))) [2])) aNil)))))
def den_is_box : List D → R D := defR 1 2 g_is_box
def g_is_scene : En → Out := (sSeq (sIf (tOr (tNot (tVal (eUn (isiR "tuple") (getD' 0)))) (tOr (tBin gtR (eUn lenR (aCons (getD' 0) aNil)) (eC (.int 12))) (tNot (tVal (eUn allR (aCons (eOfF (eComp (eUn itemsR (getD' 0)) (nameT 2) tTrue (eUn den_is_box (aCons (getD' 2) aNil)) [2])) aNil))))))
  (sRet (eC (.bl false)))
  sNil)
  (sSeq (sSet 1 (eOfF (eComp (eUn itemsR (getD' 0)) (nameT 2) tTrue (eBin ixR (getD' 2) (eC (.int 0))) [2])))
  (sSeq (sIf (tBin ltR (eUn lenSetR (getD' 1)) (eUn lenR (aCons (getD' 1) aNil)))
  (sRet (eC (.bl false)))
  sNil)
  (sRet (eUn allR (aCons (eOfF (eComp (fEnT (getD' 0)) (tupT [3, 2]) tTrue (eOr (eBin eqR (eBin ixR (getD' 2) (eC (.int 1))) (eC (.str ""))) (eBin inR (eBin ixR (getD' 2) (eC (.int 1))) (eSlice (getD' 1) oNone (eUn optR (getD' 3))))) [3, 2])) aNil))))))
def den_is_scene : List D → R D := defR 1 3 g_is_scene
def g__law_cell : En → Out := (sSeq (sIf (tBin eqR (getD' 0) (eOfF (eUn lstR aNil)))
  (sRet (eBin mulR (eC (.int 7)) (getD' 1)))
  sNil)
  (sRet (eBin addR (eBin ixR (getD' 0) (eBin modR (getD' 1) (eUn lenR (aCons (getD' 0) aNil)))) (eBin mulR (eC (.int 6553)) (eBin divR (getD' 1) (eUn lenR (aCons (getD' 0) aNil)))))))
def den__law_cell : List D → R D := defR 2 0 g__law_cell
def g__law_drawn : En → Out := (sSeq (sSet 3 (eBin modR (eBin addR (eBin mulR (eBin modR (eUn den__law_cell (aCons (getD' 0) (aCons (getD' 1) aNil))) (eC (.int 2147483563))) (eC (.int 69069))) (eBin mulR (eC (.int 104723)) (eBin addR (getD' 1) (eC (.int 1))))) (eC (.int 2147483563))))
  (sSeq (sSet 3 (eBin modR (eBin addR (eBin mulR (getD' 3) (getD' 3)) (eBin divR (getD' 3) (eC (.int 3)))) (eC (.int 2147483399))))
  (sRet (eBin modR (eBin divR (eBin modR (eBin addR (eBin mulR (getD' 3) (getD' 3)) (eBin divR (getD' 3) (eC (.int 7)))) (eC (.int 2147483647))) (eC (.int 11))) (getD' 2)))))
def den__law_drawn : List D → R D := defR 3 1 g__law_drawn
def g__law_scene : En → Out := (sSeq (sSet 2 (eUn tupR aNil))
  (sSeq (sSet 3 (eUn den__law_drawn (aCons (getD' 0) (aCons (eBin addR (getD' 1) (eC (.int 1))) (aCons (eC (.int 8)) aNil)))))
  (sSeq (sFor (eUn range1R (eUn den__law_drawn (aCons (getD' 0) (aCons (getD' 1) (aCons (eC (.int 8)) aNil))))) (nameT 4)
  (sEnd [4, 5, 6, 7, 8, 9, 10, 11, 12] (sSeq (sSet 5 (eBin addR (eBin addR (getD' 1) (eC (.int 3))) (eBin mulR (eC (.int 9)) (getD' 4))))
  (sSeq (sSet 6 (eBin ixR (eBin addR (eOfF (eUn lstR (aCons (eC (.str "")) aNil))) (eOfF (eComp (eUn itemsR (getD' 2)) (nameT 13) tTrue (eBin ixR (getD' 13) (eC (.int 0))) [13]))) (eUn den__law_drawn (aCons (getD' 0) (aCons (getD' 5) (aCons (eBin addR (getD' 4) (eC (.int 1))) aNil))))))
  (sSeq (sSetFD 7 (eComp (eUn range1R (eC (.int 2))) (nameT 10) tTrue (eBin subR (eUn den__law_drawn (aCons (getD' 0) (aCons (eBin addR (eBin addR (getD' 5) (eC (.int 1))) (getD' 10)) (aCons (eC (.int 9)) aNil)))) (eC (.int 3))) [10]))
  (sSeq (sSetFD 8 (eComp (eUn range1R (eC (.int 2))) (nameT 10) tTrue (eUn den__law_drawn (aCons (getD' 0) (aCons (eBin addR (eBin addR (getD' 5) (eC (.int 3))) (getD' 10)) (aCons (eC (.int 9)) aNil)))) [10]))
  (sSeq (sSet 9 (eC (.str "")))
  (sSeq (sFor (fEnT (eC (.str "cfhl"))) (tupT [10, 11])
  (sEnd [10, 11] (sIf (tBin eqR (eUn den__law_drawn (aCons (getD' 0) (aCons (eBin addR (eBin addR (getD' 5) (eC (.int 5))) (getD' 10)) (aCons (eBin ixR (eOfF (eUn lstR (aCons (eC (.int 4)) (aCons (eC (.int 2)) (aCons (eC (.int 9)) (aCons (eC (.int 6)) aNil)))))) (getD' 10)) aNil)))) (eC (.int 0)))
  (sSet 9 (eBin addR (getD' 9) (getD' 11)))
  sNil)))
  (sSeq (sSet 12 (eBin ixR (eC (.str "dbgahcfe")) (eBin modR (eBin addR (getD' 4) (getD' 3)) (eC (.int 8)))))
  (sSet 2 (eBin addR (getD' 2) (eUn tupR (aCons (eBin addR (eBin addR (eUn tupR (aCons (getD' 12) (aCons (getD' 6) aNil))) (eUn tupleR (aCons (eBin addR (getD' 7) (getD' 8)) aNil))) (eUn tupR (aCons (getD' 9) aNil))) aNil)))))))))))))
  (sRet (getD' 2)))))
def den__law_scene : List D → R D := defR 2 12 g__law_scene
def g__law_odd : En → Out := (sSeq (sSet 1 (eOfF (eUn lstR (aCons (eUn negR (eC (.int 1))) (aCons (eC (.int 0)) (aCons (eC (.int 1)) (aCons (eC (.int 20)) (aCons (eC (.int 21)) (aCons (eUn negR (eC (.int 20))) (aCons (eUn negR (eC (.int 21))) (aCons (eC (.bl true)) (aCons (eC .non) (aCons (eC (.str "")) (aCons (eC (.str "a")) (aCons (eC (.str "abcd")) (aCons (eC (.str "A")) (aCons (eC (.str "cf")) (aCons (eC (.str "fc")) (aCons (eC (.str "cc")) (aCons (eC (.str "x")) (aCons (eUn tupR aNil) (aCons (eOfF (eUn lstR aNil)) aNil))))))))))))))))))))))
  (sRet (eBin ixR (eBin addR (getD' 1) (eOfF (eUn lstR (aCons (eUn tupR (aCons (eC (.str "a")) (aCons (eC (.str "")) (aCons (eC (.int 0)) (aCons (eC (.int 0)) (aCons (eC (.int 1)) (aCons (eC (.int 1)) (aCons (eC (.str "")) aNil)))))))) aNil)))) (eBin modR (getD' 0) (eC (.int 20))))))
def den__law_odd : List D → R D := defR 1 1 g__law_odd
def g__law_is_number : En → Out := (sRet (eAnd (eUn (isiR "int") (getD' 0)) (eAnd (eUn notR (eUn (isiR "bool") (getD' 0))) (eChain leR leR (getD' 1) (getD' 0) (getD' 2)))))
def den__law_is_number : List D → R D := defR 3 0 g__law_is_number
def g__law_is_box : En → Out := (sSeq (sIf (tOr (tNot (tVal (eUn (isiR "tuple") (getD' 0)))) (tBin neR (eUn lenR (aCons (getD' 0) aNil)) (eC (.int 7))))
  (sRet (eC (.bl false)))
  sNil)
  (sSeq (sIf (tBin neR (eOfF (eComp (eUn itemsR (eBin addR (eSlice (getD' 0) oNone (eUn optR (eC (.int 2)))) (eSlice (getD' 0) (eUn optR (eC (.int 6))) oNone))) (nameT 3) (tNot (tVal (eUn (isiR "str") (getD' 3)))) (getD' 3) [3])) (eOfF (eUn lstR aNil)))
  (sRet (eC (.bl false)))
  sNil)
  (sSeq (sSetFD 2 (eComp (eUn itemsR (eBin ixR (getD' 0) (eC (.int 0)))) (nameT 4) (tBin notInR (getD' 4) (eC (.str "abcdefghijklmnopqrstuvwxyz"))) (getD' 4) [4]))
  (sSeq (sIf (tOr (tNot (tChain leR leR (eC (.int 1)) (eUn lenR (aCons (eBin ixR (getD' 0) (eC (.int 0))) aNil)) (eC (.int 3)))) (tBin neR (getD' 2) (eOfF (eUn lstR aNil))))
  (sRet (eC (.bl false)))
  sNil)
  (sSeq (sIf (tOr (tBin inR (eBin ixR (getD' 0) (eC (.int 0))) (getD' 1)) (tAnd (tBin neR (eBin ixR (getD' 0) (eC (.int 1))) (eC (.str ""))) (tBin notInR (eBin ixR (getD' 0) (eC (.int 1))) (getD' 1))))
  (sRet (eC (.bl false)))
  sNil)
  (sSeq (sIf (tOr (tNot (tVal (eUn den__law_is_number (aCons (eBin ixR (getD' 0) (eC (.int 2))) (aCons (eUn negR (eC (.int 20))) (aCons (eC (.int 20)) aNil)))))) (tNot (tVal (eUn den__law_is_number (aCons (eBin ixR (getD' 0) (eC (.int 3))) (aCons (eUn negR (eC (.int 20))) (aCons (eC (.int 20)) aNil)))))))
  (sRet (eC (.bl false)))
  sNil)
  (sSeq (sIf (tOr (tNot (tVal (eUn den__law_is_number (aCons (eBin ixR (getD' 0) (eC (.int 4))) (aCons (eC (.int 0)) (aCons (eC (.int 20)) aNil)))))) (tNot (tVal (eUn den__law_is_number (aCons (eBin ixR (getD' 0) (eC (.int 5))) (aCons (eC (.int 0)) (aCons (eC (.int 20)) aNil)))))))
  (sRet (eC (.bl false)))
  sNil)
  (sRet (eBin eqR (eJoin (eC (.str "")) (eOfF (eComp (eUn itemsR (eC (.str "cfhl"))) (nameT 4) (tBin inR (getD' 4) (eBin ixR (getD' 0) (eC (.int 6)))) (getD' 4) [4]))) (eBin ixR (getD' 0) (eC (.int 6))))))))))))
def den__law_is_box : List D → R D := defR 2 3 g__law_is_box
def g__law_is_scene : En → Out := (sSeq (sIf (tOr (tNot (tVal (eUn (isiR "tuple") (getD' 0)))) (tBin gtR (eUn lenR (aCons (getD' 0) aNil)) (eC (.int 12))))
  (sRet (eC (.bl false)))
  sNil)
  (sSeq (sSetF 1 (eUn lstR aNil))
  (sSeq (sFor (eUn itemsR (getD' 0)) (nameT 2)
  (sEnd [2] (sSeq (sIf (tNot (tVal (eCallS (aCons (getD' 2) (aCons (getV 1) aNil)) den__law_is_box)))
  (sRet (eC (.bl false)))
  sNil)
  (sMeth 1 (eBin ixR (getD' 2) (eC (.int 0))) appO))))
  (sRet (eC (.bl true))))))
def den__law_is_scene : List D → R D := defR 1 2 g__law_is_scene
def g__law_each (self : List D → R D) : En → Out := (sSeq (sIf (tVal (eUn (isiR "int") (getD' 0)))
  (sRet (eOfF (eUn lstR (aCons (eC .non) (aCons (eC (.bl true)) (aCons (eBin subR (getD' 0) (eC (.int 1))) (aCons (eBin addR (getD' 0) (eC (.int 1))) (aCons (eC (.int 1000)) aNil))))))))
  sNil)
  (sSeq (sIf (tNot (tVal (eUn (isiR "tuple") (getD' 0))))
  (sRet (eOfF (eUn lstR (aCons (eC .non) (aCons (eC (.str "")) (aCons (eC (.str "A")) (aCons (eBin addR (getD' 0) (getD' 0)) (aCons (eC (.str "abcd")) aNil))))))))
  sNil)
  (sSeq (sSet 1 (eOfF (eUn lstR (aCons (eC .non) (aCons (eUn listR (aCons (getD' 0) aNil)) (aCons (eBin addR (getD' 0) (eSlice (getD' 0) (eUn optR (eUn negR (eC (.int 1)))) oNone)) (aCons (eSlice (getD' 0) (eUn optR (eC (.int 1))) oNone) aNil)))))))
  (sSeq (sFor (eUn range1R (eUn lenR (aCons (getD' 0) aNil))) (nameT 2)
  (sEnd [2] (sSet 1 (eBin addR (getD' 1) (eOfF (eComp (eUn itemsR (eUn self (aCons (eBin ixR (getD' 0) (getD' 2)) aNil))) (nameT 3) tTrue (eBin addR (eBin addR (eSlice (getD' 0) oNone (eUn optR (getD' 2))) (eUn tupR (aCons (getD' 3) aNil))) (eSlice (getD' 0) (eUn optR (eBin addR (getD' 2) (eC (.int 1)))) oNone)) [3]))))))
  (sRet (getD' 1))))))
def den__law_each_n : Nat → List D → R D
  | 0 => fun _ => .bad
  | k + 1 => defR 1 3 (g__law_each (den__law_each_n k))
def den__law_each : List D → R D := den__law_each_n 9
def g_box_of : En → Out := (sSeq (sFor (eUn itemsR (getD' 0)) (nameT 2)
  (sEnd [2] (sIf (tBin eqR (eBin ixR (getD' 2) (eC (.int 0))) (getD' 1))
  (sRet (getD' 2))
  sNil)))
  (sRaise "NoBox"))
def den_box_of : List D → R D := defR 2 1 g_box_of
def g_path_of : En → Out := (sSeq (sSet 2 (eOfF (eUn lstR (aCons (eBin ixR (eUn den_box_of (aCons (getD' 0) (aCons (getD' 1) aNil))) (eC (.int 0))) aNil))))
  (sSeq (sWhile (tBin neR (eBin ixR (eUn den_box_of (aCons (getD' 0) (aCons (eBin ixR (getD' 2) (eC (.int 0))) aNil))) (eC (.int 1))) (eC (.str "")))
  (sSet 2 (eBin addR (eOfF (eUn lstR (aCons (eBin ixR (eUn den_box_of (aCons (getD' 0) (aCons (eBin ixR (getD' 2) (eC (.int 0))) aNil))) (eC (.int 1))) aNil))) (getD' 2))) 4096)
  (sRet (getD' 2))))
def den_path_of : List D → R D := defR 2 1 g_path_of
def g_children : En → Out := (sRet (eOfF (eComp (eUn itemsR (getD' 0)) (nameT 2) (tBin eqR (eBin ixR (getD' 2) (eC (.int 1))) (getD' 1)) (eBin ixR (getD' 2) (eC (.int 0))) [2])))
def den_children : List D → R D := defR 2 1 g_children
def g_painted : En → Out := (sSeq (sSetF 1 (eUn revF (eUn den_children (aCons (getD' 0) (aCons (eC (.str "")) aNil)))))
  (sSeq (sSetF 2 (eUn lstR aNil))
  (sSeq (sWhile (tBin neR (getV 1) (eOfF (eUn lstR aNil)))
  (sEnd [3] (sSeq (sPop 1 (nameT 3))
  (sSeq (sMeth 2 (getD' 3) appO)
  (sMeth 1 (eOfF (eUn revF (eUn den_children (aCons (getD' 0) (aCons (getD' 3) aNil))))) extO)))) 4096)
  (sFrz 2 (sRet (getD' 2))))))
def den_painted : List D → R D := defR 1 3 g_painted
def g_below : En → Out := (sSeq (sExpr (eUn den_box_of (aCons (getD' 0) (aCons (getD' 1) aNil))))
  (sRet (eOfF (eComp (eUn itemsR (eUn den_painted (aCons (getD' 0) aNil))) (nameT 2) (tBin inR (getD' 1) (eUn den_path_of (aCons (getD' 0) (aCons (getD' 2) aNil)))) (getD' 2) [2]))))
def den_below : List D → R D := defR 2 1 g_below
def g_area_of : En → Out := (sSeq (sSet 2 (eC (.int 0)))
  (sSeq (sSet 3 (eC (.int 0)))
  (sSeq (sFor (eUn itemsR (eUn den_path_of (aCons (getD' 0) (aCons (getD' 1) aNil)))) (nameT 4)
  (sEnd [4, 5] (sSeq (sSet 5 (eUn den_box_of (aCons (getD' 0) (aCons (getD' 4) aNil))))
  (sSeq (sSet 2 (eBin addR (getD' 2) (eBin ixR (getD' 5) (eC (.int 2)))))
  (sSet 3 (eBin addR (getD' 3) (eBin ixR (getD' 5) (eC (.int 3)))))))))
  (sSeq (sSet 5 (eUn den_box_of (aCons (getD' 0) (aCons (getD' 1) aNil))))
  (sRet (eUn tupR (aCons (getD' 2) (aCons (getD' 3) (aCons (eBin addR (getD' 2) (eBin ixR (getD' 5) (eC (.int 4)))) (aCons (eBin addR (getD' 3) (eBin ixR (getD' 5) (eC (.int 5)))) aNil))))))))))
def g_cut : En → Out := (sSeq (sSet 2 (eUn den_below (aCons (getD' 0) (aCons (getD' 1) aNil))))
  (sRet (eUn tupleR (aCons (eOfF (eComp (eUn itemsR (getD' 0)) (nameT 3) (tBin notInR (eBin ixR (getD' 3) (eC (.int 0))) (getD' 2)) (getD' 3) [3])) aNil))))
def den_cut : List D → R D := defR 2 2 g_cut
def g_raised : En → Out := (sSeq (sSet 2 (eUn den_below (aCons (getD' 0) (aCons (getD' 1) aNil))))
  (sRet (eBin addR (eUn den_cut (aCons (getD' 0) (aCons (getD' 1) aNil))) (eUn tupleR (aCons (eOfF (eComp (eUn itemsR (getD' 0)) (nameT 3) (tBin inR (eBin ixR (getD' 3) (eC (.int 0))) (getD' 2)) (getD' 3) [3])) aNil)))))
def g_laid : En → Out := (sSeq (sSetK 1 kNil)
  (sSeq (sFor (eUn itemsR (getD' 0)) (nameT 2)
  (sEnd [2, 3, 4, 5, 6] (sSeq (sSet 3 (eIf (tBin eqR (eBin ixR (getD' 2) (eC (.int 1))) (eC (.str ""))) (eUn tupR (aCons (eUn tupR (aCons (eC (.int 0)) (aCons (eC (.int 0)) (aCons (eC (.int 0)) (aCons (eC (.int 0)) aNil))))) (aCons (eUn tupR aNil) aNil))) (eGet (getV 1) (eBin ixR (getD' 2) (eC (.int 1))))))
  (sEnd [4, 5, 6] (sIf (tAnd (tBin isNotR (getD' 3) (eC .non)) (tBin notInR (eC (.str "h")) (eBin ixR (getD' 2) (eC (.int 6)))))
  (sSeq (sSet 4 (eBin addR (eBin ixR (eBin ixR (getD' 3) (eC (.int 0))) (eC (.int 0))) (eBin ixR (getD' 2) (eC (.int 2)))))
  (sSeq (sSet 5 (eBin addR (eBin ixR (eBin ixR (getD' 3) (eC (.int 0))) (eC (.int 1))) (eBin ixR (getD' 2) (eC (.int 3)))))
  (sSeq (sSet 6 (eUn tupR (aCons (getD' 4) (aCons (getD' 5) (aCons (eBin addR (getD' 4) (eBin ixR (getD' 2) (eC (.int 4)))) (aCons (eBin addR (getD' 5) (eBin ixR (getD' 2) (eC (.int 5)))) aNil))))))
  (sPut 1 (eBin ixR (getD' 2) (eC (.int 0))) (eUn tupR (aCons (getD' 6) (aCons (eBin addR (eBin ixR (getD' 3) (eC (.int 1))) (eIf (tBin inR (eC (.str "c")) (eBin ixR (getD' 2) (eC (.int 6)))) (eUn tupR (aCons (getD' 6) aNil)) (eUn tupR aNil))) aNil)))))))
  sNil)))))
  (sFrz 1 (sRet (getD' 1)))))
def den_laid : List D → R D := defR 1 6 g_laid
def g_is_shown : En → Out := (sSeq (sExpr (eUn den_box_of (aCons (getD' 0) (aCons (getD' 1) aNil))))
  (sRet (eBin inR (getD' 1) (eUn den_laid (aCons (getD' 0) aNil)))))
def den_is_shown : List D → R D := defR 2 0 g_is_shown
def g_has_point : En → Out := (sRet (eAnd (eChain leR ltR (eBin ixR (getD' 0) (eC (.int 0))) (getD' 1) (eBin ixR (getD' 0) (eC (.int 2)))) (eChain leR ltR (eBin ixR (getD' 0) (eC (.int 1))) (getD' 2) (eBin ixR (getD' 0) (eC (.int 3))))))
def den_has_point : List D → R D := defR 3 0 g_has_point
def g_has_all : En → Out := (sRet (eAnd (eUn den_has_point (aCons (eBin ixR (getD' 0) (eC (.int 0))) (aCons (getD' 1) (aCons (getD' 2) aNil)))) (eUn allR (aCons (eOfF (eComp (eUn itemsR (eBin ixR (getD' 0) (eC (.int 1)))) (nameT 3) tTrue (eUn den_has_point (aCons (getD' 3) (aCons (getD' 1) (aCons (getD' 2) aNil)))) [3])) aNil))))
def den_has_all : List D → R D := defR 3 1 g_has_all
def g_is_touched : En → Out := (sRet (eAnd (eUn den_is_shown (aCons (getD' 0) (aCons (getD' 1) aNil))) (eUn den_has_all (aCons (eBin ixR (eUn den_laid (aCons (getD' 0) aNil)) (getD' 1)) (aCons (getD' 2) (aCons (getD' 3) aNil))))))
def g_from_top : En → Out := (sRet (eOfF (eUn revF (eOfF (eComp (eUn itemsR (eUn den_painted (aCons (getD' 0) aNil))) (nameT 2) (tAnd (tBin inR (getD' 2) (getD' 1)) (tBin notInR (eC (.str "l")) (eBin ixR (eUn den_box_of (aCons (getD' 0) (aCons (getD' 2) aNil))) (eC (.int 6))))) (getD' 2) [2])))))
def den_from_top : List D → R D := defR 2 1 g_from_top
def g_all_hits : En → Out := (sSeq (sSet 3 (eUn den_laid (aCons (getD' 0) aNil)))
  (sRet (eOfF (eComp (eUn itemsR (eUn den_from_top (aCons (getD' 0) (aCons (getD' 3) aNil)))) (nameT 4) (tVal (eUn den_has_all (aCons (eBin ixR (getD' 3) (getD' 4)) (aCons (getD' 1) (aCons (getD' 2) aNil))))) (getD' 4) [4]))))
def den_all_hits : List D → R D := defR 3 2 g_all_hits
def g_hit : En → Out := (sSeq (sSet 3 (eUn den_all_hits (aCons (getD' 0) (aCons (getD' 1) (aCons (getD' 2) aNil)))))
  (sRet (eIf (tBin neR (getD' 3) (eOfF (eUn lstR aNil))) (eBin ixR (getD' 3) (eC (.int 0))) (eC .non))))
def den_hit : List D → R D := defR 3 1 g_hit
def g_hit_path : En → Out := (sSeq (sSet 3 (eUn den_hit (aCons (getD' 0) (aCons (getD' 1) (aCons (getD' 2) aNil)))))
  (sRet (eIf (tBin isR (getD' 3) (eC .non)) (eOfF (eUn lstR aNil)) (eUn den_path_of (aCons (getD' 0) (aCons (getD' 3) aNil))))))
def g_points_of : En → Out := (sSeq (sExpr (eUn den_box_of (aCons (getD' 0) (aCons (getD' 1) aNil))))
  (sSeq (sSet 2 (eUn den_laid (aCons (getD' 0) aNil)))
  (sSeq (sSet 3 (eUn den_from_top (aCons (getD' 0) (aCons (getD' 2) aNil))))
  (sSeq (sIf (tBin notInR (getD' 1) (getD' 3))
  (sRet (eC (.int 0)))
  sNil)
  (sSeq (sAsg (tupT [4, 5, 6, 7]) (eBin ixR (eBin ixR (getD' 2) (getD' 1)) (eC (.int 0))))
  (sSeq (sSet 8 (eSlice (getD' 3) oNone (eUn optR (eMeth lstyR (getD' 3) (aCons (getD' 1) aNil) indexR))))
  (sSeq (sSet 9 (eC (.int 0)))
  (sSeq (sFor (fRng2 (getD' 4) (getD' 6)) (nameT 10)
  (sEnd [10, 11] (sFor (fRng2 (getD' 5) (getD' 7)) (nameT 11)
  (sEnd [11] (sIf (tAnd (tVal (eUn den_has_all (aCons (eBin ixR (getD' 2) (getD' 1)) (aCons (getD' 10) (aCons (getD' 11) aNil))))) (tNot (tVal (eUn anyR (aCons (eOfF (eComp (eUn itemsR (getD' 8)) (nameT 12) tTrue (eUn den_has_all (aCons (eBin ixR (getD' 2) (getD' 12)) (aCons (getD' 10) (aCons (getD' 11) aNil)))) [12])) aNil)))))
  (sSet 9 (eBin addR (getD' 9) (eC (.int 1))))
  sNil)))))
  (sRet (getD' 9))))))))))
end Dn

namespace L2
open PySem PySem.Spec PyProof.Rows
theorem tuple_mulW0 (l : Addr) (n : Nat) (dd : Option Addr) (sl : Array (Option Value)) (x : Int) (u : Tok) (c0 : (decide (x < -(2 ^ 63)) || decide (x ≥ 2 ^ 63)) = false) :
    Meets (Builtin.«tuple.__mul__» ⟨[.ref l, .int x u], []⟩) (fun _ R s => s.heap.get? l = some { cls := .type "tuple", dict := dd, data := .seq #[] n, slots := sl } ∧ R (.ok (.ret (Value.ref l))) s) :=
  .of_wp fun prog w A R s h => by
    obtain ⟨hp, g, d, tk, os⟩ := s
    obtain ⟨hl, h⟩ := h
    have f1 := AutoSeq1.idx_int
    wp_walk using wpAny_loadPart' hl
    repeat (first
      | (refine wpAny_ite_false (decide_eq_false (by rw [c0]; exact Bool.false_ne_true)) ?_; wp_walk using wpAny_loadPart' hl)
      | (refine wpAny_ite_true (decide_eq_true rfl) ?_; wp_walk using wpAny_loadPart' hl))
    exact ⟨_, rfl, h⟩
section
variable {X : Cx}
theorem op_repT0 : OpR X (binaryOp .Mult) (fun x y H Q => ∃ l k, x = V.ref l ∧ y = V.int k ∧ SqT X.K H l [] ∧ 2 ≤ k ∧ k ≤ 1000 ∧ Q (.ref l) H) := by
  intro pins s σ H x y v u Q I rx ry h
  obtain ⟨l, k, rfl, rfl, hT, h1, h2, q⟩ := h
  cases rx
  obtain ⟨t, rfl⟩ := ry
  obtain ⟨its, r, ⟨⟨cls, dd, data, sl⟩, ho, hc, n, hd⟩, hs⟩ := I.tuple hT
  simp only at hc hd
  subst hc hd
  cases r
  have c0 : (decide (k < -(2 ^ 63)) || decide (k ≥ 2 ^ 63)) = false := by
    rw [decide_eq_false (by omega), decide_eq_false (by omega)] <;> rfl
  refine wpAny_binaryOp_repeat_ref (T := "tuple") (U := "int") (by decide) ⟨_, ho, rfl⟩ (fun s' => typeIs_int s' k t) noFill_tuple_mul F.fills_int_mul F.slot_int_rmul repeat_tuple F.slot_int_index.lookup
    (call_meets F.slot_int_rmul (typeIs_int s k t) F.entry_int_rmul (F.args_int_rmul_2 _ _) (int_rmul_tuple k t l #[] n dd sl)
      ⟨ho, rfl, ⟨_, ho, rfl⟩, call_meets F.slot_tuple_mul ⟨_, ho, rfl⟩ F.entry_tuple_mul (F.args_tuple_mul_2 _ _) (tuple_mulW0 l n dd sl k t c0) ⟨ho, ?_⟩⟩)
  exact ⟨.ref l, _, I, rfl, q⟩
end
end L2
namespace Dx
open PySem PySem.Spec PyProof.Rows L2
section
variable {X : Cx} {W : WX} {ξ : Str → Value} {a b : Expr} {c1 c2 : Bool} {pos : Pos} {fa fb : En → R D}
def mul0R : D → D → R D
  | .tup xs, .int k => if 2 ≤ k ∧ k ≤ 1000 ∧ xs.length ≤ 1000 then .ok (.tup (List.replicate k.toNat xs).flatten) else .bad
  | _, _ => .bad
def powR : D → D → R D
  | .int i, .int j => if 0 ≤ j ∧ j ≤ 1000 ∧ i.natAbs < 2 ^ 64 then .ok (.int (i ^ j.toNat)) else .bad
  | _, _ => .bad
theorem de_pow (ha : DE X W ξ c1 a fa) (hb : DE X W ξ c2 b fb) : DE X W ξ true (.BinOp a .Pow b pos) (eBin powR fa fb) :=
  de_op op_pow ha hb fun {M σ env H0 H Q x y d1 d2} E r1 r2 p => by
    unfold powR at p
    split at p
    · split at p
      · rename_i h
        exact ⟨_, _, r1.int, r2.int, ⟨h.1, by omega, h.2.2⟩, post_ok E p (.int _)⟩
      · exact p.elim
    · exact p.elim
theorem de_mul0 (ha : DE X W ξ c1 a fa) (hb : DE X W ξ c2 b fb) : DE X W ξ true (.BinOp a .Mult b pos) (eBin mul0R fa fb) :=
  de_op (OpR.or op_repT op_repT0) ha hb fun {M σ env H0 H Q x y d1 d2} E r1 r2 p => by
    unfold mul0R at p
    split at p
    · rename_i xs k
      split at p
      · rename_i h
        obtain ⟨q1, vs, rfl, h1, r3⟩ := r1.tup
        have z := r1.tupLen
        by_cases hv : vs = []
        · subst hv
          cases r3
          refine .inr ⟨_, _, rfl, r2.int, SqT.of (E.same _ _ h1), h.1, h.2.1, ?_⟩
          have e : (List.replicate k.toNat ([] : List D)).flatten = [] := by
            rw [List.flatten_eq_nil_iff]; intro l hl; exact (List.mem_replicate.mp hl).2
          rw [e] at p
          exact post_ok E p (.tup h1 z .nil)
        · refine .inl ⟨_, _, vs, rfl, r2.int, SqT.of (E.same _ _ h1), hv, h.1, h.2.1, by rw [r3.length]; exact h.2.2, ?_⟩
          refine new_tup E p ?_ (r3.rep _)
          rw [rep_len, PySem.sizeLine_eq]
          have := Nat.mul_le_mul h.2.2 (show k.toNat ≤ 1000 from by omega)
          omega
      · exact p.elim
    · exact p.elim
end
end Dx

namespace HT
open PySem PySem.Spec PyProof.Rows
variable {prog : Program} {w : World} {A : Around} {E : Value → Shared → Prop} {s : Shared}
theorem adjust_rev (n : Nat) : Builtin.Slice.sliceAdjust none none (-1) (n : Int) = ((n : Int) - 1, -1) := by
  unfold Builtin.Slice.sliceAdjust
  simp
theorem places_rev (n : Nat) : Builtin.Slice.slicePlaces ((n : Int) - 1) (-1) (-1) = n := by
  unfold Builtin.Slice.slicePlaces
  simp
  try omega
theorem sliceApplied_rev {sl : Addr} {u : Tok} {n : Nat} {Q : Int × Int × Nat → Shared → Prop} (hs : s.heap.IsSliceOf sl .none .none (.int (-1) u))
    (h : Q ((n : Int) - 1, -1, n) s) : wpAny (model prog w) A (Builtin.Slice.sliceApplied (.ref sl) (pure (n : Int))) Q E s := by
  obtain ⟨os, hos, hcs, hds⟩ := id hs
  unfold Builtin.Slice.sliceApplied Builtin.Slice.sliceFields
  refine wpAny_bind (wpAny_bind (wpAny_field hos hds (x := .none) rfl (wpAny_bind (wpAny_field hos hds (x := .none) rfl (wpAny_bind (wpAny_field hos hds (x := .int (-1) u) rfl (wpAny_pure ?_)))))))
  refine wpAny_bind (slicePart_int ?_)
  show wpAny _ _ (if ((-1 : Int) == 0) = true then _ else _) _ _ s
  rw [if_neg (by decide)]
  refine wpAny_bind (slicePart_none (wpAny_bind (slicePart_none (wpAny_bind (wpAny_pure ?_)))))
  show wpAny _ _ (match Builtin.Slice.sliceAdjust none none (-1) (n : Int) with | (lo, hi) => pure (lo, (-1 : Int), Builtin.Slice.slicePlaces lo hi (-1))) _ _ s
  rw [adjust_rev n]
  show wpAny _ _ (pure ((n : Int) - 1, (-1 : Int), Builtin.Slice.slicePlaces ((n : Int) - 1) (-1) (-1))) _ _ s
  rw [places_rev]
  exact wpAny_pure h
theorem fm_congr {α β : Type} {f g : α → Option β} : ∀ (l : List α), (∀ x ∈ l, f x = g x) → l.filterMap f = l.filterMap g
  | [], _ => rfl
  | a :: l, h => by
    rw [List.filterMap_cons, List.filterMap_cons, h a (List.mem_cons_self ..), fm_congr l fun x hx => h x (List.mem_cons_of_mem _ hx)]
theorem pick_rev (xs : Array Value) : ((List.range xs.size).filterMap fun (m : Nat) => xs[((xs.size : Int) - 1 + (m : Int) * (-1)).toNat]?).toArray = xs.toList.reverse.toArray := by
  have e : (List.range xs.size).filterMap (fun (m : Nat) => xs[((xs.size : Int) - 1 + (m : Int) * (-1)).toNat]?) = ((List.range xs.size).map fun k => xs.size - 1 - k).filterMap (xs[·]?) := by
    rw [List.filterMap_map]
    refine fm_congr _ fun m hm => ?_
    have hm := List.mem_range.mp hm
    have : ((xs.size : Int) - 1 + (m : Int) * (-1)).toNat = xs.size - 1 - m := by omega
    show xs[_]? = xs[_]?
    rw [this]
  rw [e, PySem.W.krv_range, List.filterMap_reverse, PySem.W.krv_all]
theorem getItem_tuple_rev {t sl : Addr} {items : Array Value} {u : Tok} {Q : Value → Shared → Prop} (ht : IsTup s.heap t items) (hs : s.heap.IsSliceOf sl .none .none (.int (-1) u))
    (h : Q (.ref s.heap.objs.size) { s with heap := s.heap.push { cls := .type "tuple", data := .seq items.toList.reverse.toArray } })
    (hsz : items.size ≤ sizeLine) : wpAny (model prog w) A (getItem (.ref t) (.ref sl)) Q E s := by
  have htake : sizeOk (.seq items.toList.reverse.toArray) := by
    show items.toList.reverse.toArray.size ≤ sizeLine
    rw [List.size_toArray, List.length_reverse, Array.length_toList]
    omega
  obtain ⟨os, hos, hcs, hds⟩ := id hs
  have hTs : s.TypeIs (.ref sl) "slice" := ⟨os, hos, hcs⟩
  unfold getItem
  try with_reducible refine wpAny_holding ?_
  first | refine wpAny_bind (wpAny_pure ?_) | skip
  refine wpAny_bind (wpAny_sequenceKey ht.typeIs (by decide) ?_)
  refine wpAny_bind (wpAny_callSpecial?_slot (name := Str.ofString "__getitem__") ht.typeIs PyProof.Rows.slot_tuple_getitem
    (wpAny_call_entry PyProof.Rows.slot_tuple_getitem ht.typeIs entry_tuple_getitem ?_ (args_tuple_getitem _ _)))
  show wpAny _ _ (Builtin.Tuple.tupleItemsOf (.ref t) >>= _) _ _ s
  refine wpAny_bind (tupleItemsOf_ ht ?_)
  refine wpAny_bind (wpAny_typeOf hTs ?_)
  rw [if_pos (by decide)]
  refine wpAny_bind (sliceApplied_rev hs ?_)
  have hno : ¬ ((((items.size : Int) - 1) == 0 && (-1 : Int) == 1 && items.size == items.size) = true) := by
    intro q
    rw [Bool.and_eq_true, Bool.and_eq_true] at q
    exact absurd q.1.2 (by decide)
  show wpAny _ _ (if (((items.size : Int) - 1) == 0 && (-1 : Int) == 1 && items.size == items.size) = true then _ else _) _ _ s
  rw [if_neg hno, pick_rev]
  first
    | exact wpAny_bind (m := Builtin.Tuple.tupleExact _) (wpAny_newObj_type (wpAny_pure ⟨_, rfl, wpAny_pure h⟩) htake)
    | exact wpAny_bind (m := Builtin.Tuple.tupleExact _) (wpAny_newObj_type (wpAny_bind (wpAny_pure (wpAny_pure ⟨_, rfl, wpAny_pure h⟩))) htake)
    | exact wpAny_bind (wpAny_bind (m := Builtin.Tuple.tupleExact _) (wpAny_newObj_type (wpAny_pure (wpAny_pure ⟨_, rfl, wpAny_pure h⟩)) htake))
    | exact wpAny_bind (wpAny_bind (m := Builtin.Tuple.tupleExact _) (wpAny_newObj_type (wpAny_pure ⟨_, rfl, wpAny_pure h⟩) htake))
end HT
namespace L2
open PySem PySem.Spec PyProof.Rows
section
variable {X : Cx}
def tRevT (K : PySem.W.Frag) (te : TE) : TE := fun σ H Q => te σ H fun x H1 => ∃ a xs, x = .ref a ∧ SqT K H1 a xs ∧ ∀ p, H1 p = none → Q (.ref p) (upd H1 p (.tup xs.reverse))
theorem pe_revT {e : Expr} {te : TE} {k : Nat} {p1 p2 p3 pos : Pos} (he : PE X e te) : PE X (.Subscript e (.Slice none none (some (.UnaryOp .USub (.Constant (.int 1) k p1) p2)) p3) pos) (tRevT X.K te) := by
  refine ⟨fun pins s σ H Q I h => ?_⟩
  refine Subscript_ (thn (he.run pins s σ H _ I h) fun v s1 ⟨x, H1, I1, r1, q1⟩ => ?_)
  obtain ⟨a, xs, ex, hx, q⟩ := q1
  subst ex
  cases r1
  have hst : PO X (some (.UnaryOp .USub (.Constant (.int 1) k p1) p2)) (tPart (tUn (rU fun i => .int (-i)) (tC (.int 1)))) := po_some (pe_un un_neg pe_int)
  refine wpAny_Slice ?_
  rw [evalPart_none]
  refine wpAny_pure ?_
  refine wpAny_pure ?_
  refine thn (hst.run pins s1 σ H1 (fun o H4 => o = some (-1) ∧ H4 = H1) I1 ⟨1, rfl, -1, rfl, rfl, rfl⟩) fun vs s4 ⟨o, H4, I4, ps, eo, e4⟩ => ?_
  subst eo e4
  cases ps with
  | int i u =>
  have I5 : Inv X pins σ H4 { s4 with heap := s4.heap.push { cls := .type "slice", data := .fields #[.none, .none, .int (-1) u] } } := I4.kept (t' := s4.toks) fun b ob q => Heap.get?_push_of_some _ q
  obtain ⟨its, r, ht, hz⟩ := I5.tuple hx
  have hlen := r.length
  show wpAny (model X.prog X.w) X.A (subscriptTail e (.Slice none none (some (.UnaryOp .USub (.Constant (.int 1) k p1) p2)) p3) (.ref a) (.ref s4.heap.objs.size)) (EP X pins σ Q) X.xe { s4 with heap := s4.heap.push { cls := .type "slice", data := .fields #[.none, .none, .int (-1) u] } }
  refine tail_any (ops := [.ref a, .ref s4.heap.objs.size]) ht.typeIs (PyProof.Rows.slot_tuple_getitem.lookup) ?_ (by with_unfolding_all rfl)
  refine HT.getItem_tuple_rev ht (Heap.IsSliceOf.new _ .none .none (.int (-1) u)) ?_ (by rw [List.size_toArray]; omega)
  refine ⟨.ref _, _, I5.laid (t' := s4.toks) (o := .tup xs.reverse) (fun b ob q => Heap.get?_push_of_some _ q) (Nat.le_refl _) ?_, rfl, q _ (I5.hok.fresh (Nat.le_refl _))⟩
  exact ⟨by rw [List.length_reverse]; exact hz, _, r.reverse, IsTup.new _ _⟩
end
end L2
namespace Dx
open PySem PySem.Spec PyProof.Rows L2
section
variable {X : Cx} {W : WX} {ξ : Str → Value} {a : Expr} {c1 : Bool} {pos : Pos} {fa : En → R D}
def revT : D → R D
  | .tup xs => .ok (.tup xs.reverse)
  | _ => .bad
theorem de_revT {k : Nat} {p1 p2 p3 : Pos} (ha : DE X W ξ c1 a fa) : DE X W ξ true (.Subscript a (.Slice none none (some (.UnaryOp .USub (.Constant (.int 1) k p1) p2)) p3) pos) (eUn revT fa) :=
  peImp (pe_revT ha) fun σ H Q ⟨M, H0, env, E, p⟩ => ⟨M, H0, env, E, bindE wishE p fun d1 x H1 H2 g1 r1 p1 => by
    unfold revT at p1
    split at p1
    · have z1 := r1.tupLen
      obtain ⟨q1, vs, rfl, h1, r3⟩ := r1.tup
      exact ⟨_, _, rfl, SqT.of (g1.e.same _ _ h1), new_tup g1.e p1 (by rw [List.length_reverse]; exact z1) r3.reverse⟩
    · exact p1.elim⟩
end
end Dx

namespace Dn
open PySem PySem.Spec PyProof.Rows L2 Dx
def g__law_spoilt01 (self : List D → R D) : En → Out := (sSeq (sEnd [3, 4] (sIf (tAnd (tBin gtR (getD' 2) (eC (.int 0))) (tAnd (tVal (eUn (isiR "tuple") (getD' 0))) (tAnd (tBin gtR (eUn lenR (aCons (getD' 0) aNil)) (eC (.int 0))) (tBin gtR (eBin modR (getD' 1) (eC (.int 7))) (eC (.int 0))))))
  (sSeq (sSet 3 (eBin modR (eBin divR (getD' 1) (eC (.int 7))) (eUn lenR (aCons (getD' 0) aNil))))
  (sSeq (sSet 4 (eUn self (aCons (eBin ixR (getD' 0) (getD' 3)) (aCons (eBin divR (getD' 1) (eC (.int 91))) (aCons (eBin subR (getD' 2) (eC (.int 1))) aNil)))))
  (sRet (eBin addR (eBin addR (eSlice (getD' 0) oNone (eUn optR (getD' 3))) (eUn tupR (aCons (getD' 4) aNil))) (eSlice (getD' 0) (eUn optR (eBin addR (getD' 3) (eC (.int 1)))) oNone)))))
  sNil))
  (sSeq (sIf (tAnd (tVal (eUn (isiR "tuple") (getD' 0))) (tAnd (tBin gtR (eUn lenR (aCons (getD' 0) aNil)) (eC (.int 0))) (tBin eqR (eBin modR (eBin divR (getD' 1) (eC (.int 7))) (eC (.int 2))) (eC (.int 0)))))
  (sRet (eBin ixR (eOfF (eUn lstR (aCons (eUn listR (aCons (getD' 0) aNil)) (aCons (eSlice (getD' 0) oNone (eUn optR (eUn negR (eC (.int 1))))) (aCons (eBin addR (getD' 0) (eSlice (getD' 0) (eUn optR (eUn negR (eC (.int 1)))) oNone)) (aCons (eSlice (getD' 0) (eUn optR (eC (.int 1))) oNone) (aCons (eUn revT (getD' 0)) (aCons (eBin mulR (getD' 0) (eC (.int 2))) aNil)))))))) (eBin modR (eBin divR (getD' 1) (eC (.int 14))) (eC (.int 6)))))
  sNil)
  (sSeq (sIf (tAnd (tVal (eUn (isiR "int") (getD' 0))) (tBin eqR (eBin modR (eBin divR (getD' 1) (eC (.int 7))) (eC (.int 2))) (eC (.int 0))))
  (sRet (eBin ixR (eOfF (eUn lstR (aCons (eUn str1R (aCons (getD' 0) aNil)) (aCons (eBin subR (eC (.int 0)) (getD' 0)) (aCons (eBin addR (getD' 0) (eC (.int 1))) (aCons (eBin eqR (getD' 0) (eC (.int 1))) (aCons (eBin subR (getD' 0) (eC (.int 30))) (aCons (eBin addR (getD' 0) (eC (.int 30))) aNil)))))))) (eBin modR (eBin divR (getD' 1) (eC (.int 14))) (eC (.int 6)))))
  sNil)
  (sRet (eUn den__law_odd (aCons (eBin divR (getD' 1) (eC (.int 7))) aNil))))))
def den__law_spoilt01_n : Nat → List D → R D
  | 0 => fun _ => .bad
  | k + 1 => defR 3 2 (g__law_spoilt01 (den__law_spoilt01_n k))
def den__law_spoilt01 : List D → R D := den__law_spoilt01_n 9
def g_law_k01 : En → Out := (sSeq (sSet 1 (eUn den__law_scene (aCons (getD' 0) (aCons (eC (.int 0)) aNil))))
  (sSeq (sSet 2 (eUn den__law_spoilt01 (aCons (getD' 1) (aCons (eUn den__law_drawn (aCons (getD' 0) (aCons (eC (.int 100)) (aCons (eBin powR (eC (.int 10)) (eC (.int 6))) aNil)))) (aCons (eUn den__law_drawn (aCons (getD' 0) (aCons (eC (.int 101)) (aCons (eC (.int 3)) aNil)))) aNil)))))
  (sSeq (sSet 3 (eBin addR (getD' 1) (eUn tupleR (aCons (eOfF (eComp (eUn range1R (eUn den__law_drawn (aCons (getD' 0) (aCons (eC (.int 102)) (aCons (eC (.int 14)) aNil))))) (nameT 7) tTrue (eUn tupR (aCons (eBin addR (eC (.str "k")) (eBin ixR (eC (.str "abcdefghijklm")) (getD' 7))) (aCons (eC (.str "")) (aCons (getD' 7) (aCons (eC (.int 0)) (aCons (eC (.int 1)) (aCons (getD' 7) (aCons (eC (.str "")) aNil)))))))) [7])) aNil))))
  (sSeq (sFor (eUn itemsR (eUn tupR (aCons (getD' 1) (aCons (getD' 2) (aCons (getD' 3) (aCons (eUn listR (aCons (getD' 1) aNil)) (aCons (eUn revT (getD' 1)) (aCons (eBin mul0R (getD' 1) (eC (.int 2))) (aCons (eUn tupR (aCons (eUn tupR (aCons (eC (.str "a")) (aCons (eC (.str "a")) (aCons (eC (.int 0)) (aCons (eC (.int 0)) (aCons (eC (.int 1)) (aCons (eC (.int 1)) (aCons (eC (.str "")) aNil)))))))) aNil)) (aCons (eC .non) aNil)))))))))) (nameT 4)
  (sEnd [4, 5] (sSeq (sSet 5 (eUn den_is_scene (aCons (getD' 4) aNil)))
  (sIf (tOr (tNot (tVal (eUn (isiR "bool") (getD' 5)))) (tBin neR (getD' 5) (eUn den__law_is_scene (aCons (getD' 4) aNil))))
  (sRet (eC (.bl false)))
  sNil))))
  (sSeq (sSet 6 (eUn tupR (aCons (eUn tupR (aCons (eC (.str "a")) (aCons (eC (.str "")) (aCons (eUn negR (eC (.int 20))) (aCons (eC (.int 20)) (aCons (eC (.int 0)) (aCons (eC (.int 20)) (aCons (eC (.str "c")) aNil)))))))) (aCons (eUn tupR (aCons (eC (.str "b")) (aCons (eC (.str "a")) (aCons (eC (.int 0)) (aCons (eC (.int 0)) (aCons (eC (.int 1)) (aCons (eC (.int 1)) (aCons (eC (.str "fh")) aNil)))))))) aNil))))
  (sRet (eBin eqR (eOfF (eComp (eUn itemsR (eBin addR (eOfF (eUn lstR (aCons (getD' 6) aNil))) (eUn den__law_each (aCons (getD' 6) aNil)))) (nameT 8) (tBin neR (eUn den_is_scene (aCons (getD' 8) aNil)) (eUn den__law_is_scene (aCons (getD' 8) aNil))) (getD' 8) [8])) (eOfF (eUn lstR aNil)))))))))
def den_law_k01 : List D → R D := defR 1 8 g_law_k01
end Dn

namespace Fo
open PySem
structure Box where
  nm : Str
  ar : Str
  l : Int
  t : Int
  w : Int
  h : Int
  ms : Str
deriving DecidableEq

def names (S : List Box) : List Str := S.map (·.nm)
def wf : List Str → List Box → Prop
  | _, [] => True
  | K, b :: T => b.nm ≠ "" ∧ b.nm ∉ K ∧ (b.ar = "" ∨ b.ar ∈ K) ∧ wf (b.nm :: K) T
def kids : List Box → Str → List Str
  | [], _ => []
  | b :: T, n => if b.ar = n then b.nm :: kids T b.nm ++ kids T n else kids T n
def children (S : List Box) (n : Str) : List Str := (S.filter fun b => decide (b.ar = n)).map (·.nm)
def pathR : List Box → Str → List Str
  | [], _ => []
  | b :: R, n => if n = b.nm then pathR R b.ar ++ [n] else pathR R n
def path (S : List Box) (n : Str) : List Str := pathR S.reverse n
def findB (S : List Box) (n : Str) : Option Box := S.find? fun b => decide (b.nm = n)

theorem names_length (S : List Box) : (names S).length = S.length := List.length_map ..

def blk (S : List Box) (n : Str) : List Str := n :: kids S n
end Fo

namespace Dx
open PySem PySem.Spec PyProof.Rows L2
section
variable {env : En} {A B C : En → R D} {As : En → R (List D)} {t u : En → R Bool} {G G1 G2 : En → Out} {x y : D} {s : Slot} {e : En} {n : Nat}
@[simp] theorem getD_0 : getD' 0 (.d x :: e) = .ok x := (rfl)
@[simp] theorem getD_s : getD' (n + 1) (s :: e) = getD' n e := (rfl)
@[simp] theorem getV_0 : getV 0 (.d x :: e) = .ok x := (rfl)
@[simp] theorem getV_1 {xs : List D} : getV 0 (.ol xs :: e) = .ok (.lst xs) := (rfl)
@[simp] theorem getV_2 {xs : List (L2.Key × D)} : getV 0 (.od xs :: e) = .ok (.dic xs) := (rfl)
@[simp] theorem getV_s : getV (n + 1) (s :: e) = getV n e := (rfl)
@[simp] theorem eC_ap : eC x env = .ok x := (rfl)
@[simp] theorem eBin_ap {f : D → D → R D} : eBin f A B env = (A env >>= fun x => B env >>= fun y => f x y) := (rfl)
@[simp] theorem eUn_ap {α β : Type} {f : α → R β} {A : En → R α} : eUn f A env = (A env >>= f) := (rfl)
@[simp] theorem eOfF_ap : eOfF As env = (As env >>= fun xs => .ok (.lst xs)) := (rfl)
@[simp] theorem tBin_ap {f : D → D → R D} : tBin f A B env = (A env >>= fun x => B env >>= fun y => f x y >>= boolR) := (rfl)
@[simp] theorem oNone_ap : oNone env = .ok none := (rfl)
@[simp] theorem eSlice_ap {l h : En → R (Option Int)} : eSlice A l h env = (A env >>= fun x => l env >>= fun l => h env >>= fun h => sliceR x l h) := (rfl)
@[simp] theorem eChain_ap {f g : D → D → R D} : eChain f g A B C env = (A env >>= fun x => B env >>= fun y => chainR f g x y (C env)) := (rfl)
@[simp] theorem tChain_ap {f g : D → D → R D} : tChain f g A B C env = (A env >>= fun x => B env >>= fun y => chainR f g x y (C env) >>= boolR) := (rfl)
@[simp] theorem tVal_ap : tVal A env = (A env >>= boolR) := (rfl)
@[simp] theorem tNot_ap : tNot t env = (t env >>= fun k => .ok (!k)) := (rfl)
@[simp] theorem tAnd_ap : tAnd t u env = (t env >>= fun k => if k = true then u env else .ok false) := (rfl)
@[simp] theorem tOr_ap : tOr t u env = (t env >>= fun k => if k = true then .ok true else u env) := (rfl)
@[simp] theorem tTrue_ap : tTrue env = .ok true := (rfl)
@[simp] theorem eAnd_ap : eAnd A B env = (A env >>= fun x => boolR x >>= fun k => if k = true then B env else .ok (.bl false)) := (rfl)
@[simp] theorem eOr_ap : eOr A B env = (A env >>= fun x => boolR x >>= fun k => if k = true then .ok (.bl true) else B env) := (rfl)
@[simp] theorem eIf_ap : eIf t A B env = (t env >>= fun k => if k = true then A env else B env) := (rfl)
@[simp] theorem aNil_ap : aNil env = .ok [] := (rfl)
@[simp] theorem aCons_ap : aCons A As env = (A env >>= fun x => As env >>= fun xs => .ok (x :: xs)) := (rfl)
@[simp] theorem eMeth_ap {ty : D → R D} {g : D → List D → R D} : eMeth ty A As g env = (A env >>= ty >>= fun d => As env >>= g d) := (rfl)
@[simp] theorem eComp_ap {I : En → R (List D)} {T : D → En → R En} {C : En → R Bool} {F : En → R D} {own : List Nat} : eComp I T C F own env = (I env >>= fun ds => compO T C F (wipeE env own) ds) := (rfl)
@[simp] theorem eCallS_ap {F : List D → R D} : eCallS As F env = (As env >>= fun ds => F ds >>= scR) := (rfl)
@[simp] theorem fEn_ap : fEn A env = (A env >>= fun d => (match d with | .lst xs => R.ok xs | _ => R.bad) >>= fun xs => .ok (pairs0 xs)) := (rfl)
@[simp] theorem fEnT_ap : fEnT A env = (A env >>= fun d => (match d with | .tup xs => R.ok xs | .str z => R.ok (charsD z) | _ => R.bad) >>= fun xs => .ok (pairs0 xs)) := (rfl)
@[simp] theorem fRng2_ap : fRng2 A B env = (A env >>= fun x => B env >>= fun y => range2R x y) := (rfl)
@[simp] theorem sNil_ap : sNil env = .nx env := (rfl)
@[simp] theorem sSeq_ap : sSeq G1 G2 env = seqO (G1 env) G2 := (rfl)
@[simp] theorem sSet_ap : sSet n A env = liftO (A env) env fun d => .nx (env.set n (.d d)) := (rfl)
@[simp] theorem sSetF_ap : sSetF n As env = liftO (As env) env fun d => .nx (env.set n (.ol d)) := (rfl)
@[simp] theorem sSetFD_ap : sSetFD n As env = liftO (As env) env fun d => .nx (env.set n (.d (.lst d))) := (rfl)
@[simp] theorem sRet_ap : sRet A env = liftO (A env) env fun d => .rt d env := (rfl)
@[simp] theorem sRetN_ap : sRetN env = .rt .non env := (rfl)
@[simp] theorem sBrk_ap : sBrk env = .bk env := (rfl)
@[simp] theorem sCnt_ap : sCnt env = .ct env := (rfl)
@[simp] theorem sIf_ap : sIf t G1 G2 env = liftO (t env) env fun k => if k = true then G1 env else G2 env := (rfl)
@[simp] theorem sRaise_ap {z : Str} : sRaise z env = .exc z env := (rfl)
@[simp] theorem sExpr_ap : sExpr A env = liftO (A env) env fun _ => .nx env := (rfl)
@[simp] theorem sAsg_ap {T : D → En → R En} : sAsg T A env = liftO (A env) env fun d => match T d env with | .ok env' => .nx env' | _ => .bad := (rfl)
@[simp] theorem sFrz_ap : sFrz n G env = G (frz n env) := (rfl)
@[simp] theorem sEnd_ap {is : List Nat} : sEnd is G env = endK is (G env) := (rfl)
@[simp] theorem sFor_ap {I : En → R (List D)} {T : D → En → R En} : sFor I T G env = liftO (I env) env fun ds => forO T G ds env := (rfl)
@[simp] theorem sWhile_ap : sWhile t G n env = whileO t G n env := (rfl)
@[simp] theorem sMeth_ap {g : Nat → En → D → Out} : sMeth n A g env = (match env[n]? with | some (.ol _) => liftO (A env) env (g n env) | _ => .bad) := (rfl)
@[simp] theorem sPop_ap {T : D → En → R En} : sPop n T env = popO n env (tgO T) := (rfl)
@[simp] theorem endK_nx {is : List Nat} : endK is (.nx e) = .nx (killS is e) := (rfl)
@[simp] theorem endK_ct {is : List Nat} : endK is (.ct e) = .ct (killS is e) := (rfl)
@[simp] theorem endK_bk {is : List Nat} : endK is (.bk e) = .bk (killS is e) := (rfl)
@[simp] theorem endK_rt {is : List Nat} {d : D} : endK is (.rt d e) = .rt d e := (rfl)
@[simp] theorem endK_exc {is : List Nat} {z : Str} : endK is (.exc z e) = .exc z e := (rfl)
@[simp] theorem endK_bad {is : List Nat} : endK is .bad = .bad := (rfl)
@[simp] theorem killS_nil : killS [] e = e := (rfl)
@[simp] theorem killS_cons {i : Nat} {is : List Nat} : killS (i :: is) e = killS is (e.set i .u) := (rfl)
@[simp] theorem wipeE_nil : wipeE e [] = e := (rfl)
@[simp] theorem wipeE_cons {i : Nat} {is : List Nat} : wipeE e (i :: is) = (wipeE e is).set i .u := (rfl)
@[simp] theorem nameT_ap : nameT n x e = .ok (e.set n (.d x)) := (rfl)
@[simp] theorem boolR_bl {b : Bool} : boolR (.bl b) = .ok b := (rfl)
@[simp] theorem optR_int {i : Int} : optR (.int i) = .ok (some i) := (rfl)
@[simp] theorem itemsR_tup {xs : List D} : itemsR (.tup xs) = .ok xs := (rfl)
@[simp] theorem itemsR_lst {xs : List D} : itemsR (.lst xs) = .ok xs := (rfl)
@[simp] theorem forO_nil {T : D → En → R En} : forO T G [] e = .nx e := (rfl)
@[simp] theorem compO_nil {T : D → En → R En} {C : En → R Bool} {F : En → R D} : compO T C F e [] = .ok [] := (rfl)
@[simp] theorem lstyR_lst {xs : List D} : lstyR (.lst xs) = .ok (.lst xs) := (rfl)
@[simp] theorem revF_lst {xs : List D} : revF (.lst xs) = .ok xs.reverse := (rfl)
@[simp] theorem negR_int {i : Int} : negR (.int i) = .ok (.int (-i)) := (rfl)
@[simp] theorem subR_int {i j : Int} : subR (.int i) (.int j) = .ok (.int (i - j)) := (rfl)
@[simp] theorem addR_int {i j : Int} : addR (.int i) (.int j) = .ok (.int (i + j)) := (rfl)
theorem defR_ok {n m : Nat} {G : En → Out} {ds : List D} (h : ds.length = n) : defR n m G ds = runB m G ds := if_pos h
theorem forO_same {T : D → En → R En} {ds : List D} (h : ∀ d ∈ ds, ∃ e1, T d e = .ok e1 ∧ (G e1 = .nx e ∨ G e1 = .ct e)) : forO T G ds e = .nx e := by
  induction ds with
  | nil => rfl
  | cons d ds ih =>
    obtain ⟨e1, h1, h2⟩ := h d List.mem_cons_self
    have := ih fun d hd => h d (List.mem_cons_of_mem _ hd)
    unfold forO
    rcases h2 with h2 | h2 <;> simp only [h1, h2, this]
theorem forO_fold {α : Type} {T : D → En → R En} {f : α → D} {inv : List α → En} (xs : List α) (done : List α) (h : ∀ a pre rest, xs = pre ++ a :: rest → ∃ e1, T (f a) (inv (done ++ pre)) = .ok e1 ∧ (G e1 = .nx (inv (done ++ pre ++ [a])) ∨ G e1 = .ct (inv (done ++ pre ++ [a])))) :
    forO T G (xs.map f) (inv done) = .nx (inv (done ++ xs)) := by
  induction xs generalizing done with
  | nil => simp
  | cons a xs ih =>
    obtain ⟨e1, h1, h2⟩ := h a [] xs rfl
    rw [List.append_nil] at h1 h2
    have := ih (done ++ [a]) fun b pre rest e => by
      obtain ⟨e2, h3, h4⟩ := h b (a :: pre) rest (by rw [e]; rfl)
      refine ⟨e2, ?_, ?_⟩
      · simpa using h3
      · simpa using h4
    rw [List.map_cons]
    unfold forO
    rcases h2 with h2 | h2
    · simp only [h1, h2, this]; simp
    · simp only [h1, h2, this]; simp
theorem compO_map {α : Type} {T : D → En → R En} {C : En → R Bool} {F : En → R D} {f : α → D} {p : α → Bool} {g : α → D} : ∀ (xs : List α), (∀ a ∈ xs, ∃ e1, T (f a) e = .ok e1 ∧ C e1 = .ok (p a) ∧ (p a = true → F e1 = .ok (g a))) →
    compO T C F e (xs.map f) = .ok ((xs.filter p).map g)
  | [], _ => rfl
  | a :: xs, h => by
    obtain ⟨e1, h1, h2, h3⟩ := h a List.mem_cons_self
    have ih := compO_map (p := p) (g := g) xs fun a ha => h a (List.mem_cons_of_mem _ ha)
    rw [List.map_cons]
    unfold compO
    rw [List.filter_cons]
    cases hp : p a with
    | true => rw [hp] at h2; simp only [h1, h2, h3 hp, ih, if_true, R.ok_bind, List.map_cons]
    | false => rw [hp] at h2; simp only [h1, h2, ih, Bool.false_eq_true, if_false]
end

theorem dle_all {n : Nat} {α : Type} {f : α → D} (h : ∀ a, dle n (f a) = true) (xs : List α) : (xs.map f).all (dle n) = true := by
  rw [List.all_map, List.all_eq_true]
  exact fun a _ => h a
end Dx
namespace Dx
open PySem
section
variable {env : En} {A B C : En → R D} {x y : D} {n : Nat} {As : En → R (List (L2.Key × D))}
@[simp] theorem kNil_ap : kNil env = .ok [] := (rfl)
@[simp] theorem sSetK_ap : sSetK n As env = liftO (As env) env fun d => .nx (env.set n (.od d)) := (rfl)
@[simp] theorem eOfK_ap : eOfK As env = (As env >>= fun xs => .ok (.dic xs)) := (rfl)
@[simp] theorem eGet_ap : eGet A B env = (A env >>= dictyR >>= fun d => B env >>= fun y => getR d y) := (rfl)
@[simp] theorem eGet2_ap : eGet2 A B C env = (A env >>= dictyR >>= fun d => B env >>= fun y => C env >>= fun z => get2R d y z) := (rfl)
@[simp] theorem sPut_ap : sPut n A B env = (match env[n]? with | some (.od _) => liftO (B env) env fun v => liftO (A env) env fun y => putO n y v env | _ => .bad) := (rfl)
@[simp] theorem dictyR_dic {kvs : List (L2.Key × D)} : dictyR (.dic kvs) = .ok (.dic kvs) := (rfl)
@[simp] theorem getR_str {kvs : List (L2.Key × D)} {z : Str} : getR (.dic kvs) (.str z) = .ok ((valD kvs (.inr z)).getD .non) := (rfl)
@[simp] theorem isNotR_non : isNotR x .non = .ok (.bl (!isN x)) := (rfl)
@[simp] theorem isR_non : isR x .non = .ok (.bl (isN x)) := (rfl)
end
end Dx

namespace Fo
open PySem Dx Dn
def Box.D (b : Box) : D := .tup [.str b.nm, .str b.ar, .int b.l, .int b.t, .int b.w, .int b.h, .str b.ms]
def scD (S : List Box) : D := .tup (S.map Box.D)
def sL (xs : List Str) : D := .lst (xs.map D.str)
theorem eq_str (a b : Str) : eqR (.str a) (.str b) = .ok (.bl (decide (a = b))) := by
  have : (a == b) = decide (a = b) := by by_cases e : a = b <;> simp [e]
  unfold eqR; simp [dle, eqD, this]
theorem ne_str (a b : Str) : neR (.str a) (.str b) = .ok (.bl (!decide (a = b))) := by
  have : (a == b) = decide (a = b) := by by_cases e : a = b <;> simp [e]
  unfold neR; simp [dle, eqD, this]
theorem eqD_str (a b : Str) : eqD (.str a) (.str b) = decide (a = b) := by
  have : (a == b) = decide (a = b) := by by_cases e : a = b <;> simp [e]
  simp [eqD, this]
theorem dle_strs (xs : List Str) : dle 64 (sL xs) = true := by
  unfold sL dle
  exact dle_all (fun _ => rfl) xs
theorem in_strs (n : Str) (xs : List Str) : inR (.str n) (sL xs) = .ok (.bl (decide (n ∈ xs))) := by
  have e : inR (.str n) (sL xs) = if dle 64 (.str n) && dle 64 (sL xs) then .ok (.bl ((xs.map D.str).any fun z => eqD z (.str n))) else .bad := by
    unfold inR inB sL; simp only; split <;> rfl
  rw [e, dle_strs]
  have : ((xs.map D.str).any fun z => eqD z (.str n)) = decide (n ∈ xs) := by
    clear e
    rw [List.any_map]
    induction xs with
    | nil => simp
    | cons x xs ih =>
      rw [List.any_cons, ih]
      simp only [Function.comp, eqD_str, List.mem_cons]
      by_cases e : x = n
      · simp [e]
      · have e' : ¬ n = x := fun z => e z.symm
        simp [e, e']
  rw [this]; rfl
theorem notIn_strs (n : Str) (xs : List Str) : notInR (.str n) (sL xs) = .ok (.bl (!decide (n ∈ xs))) := by
  have h := in_strs n xs
  unfold inR at h
  unfold notInR
  cases e : inB (.str n) (sL xs) with
  | ok k => rw [e] at h; simp at h; simp [h]
  | exc x => rw [e] at h; cases h
  | bad => rw [e] at h; cases h
section
variable {b : Box}
@[simp] theorem ix_0 : ixR b.D (.int 0) = .ok (.str b.nm) := (rfl)
@[simp] theorem ix_1 : ixR b.D (.int 1) = .ok (.str b.ar) := (rfl)
@[simp] theorem ix_2 : ixR b.D (.int 2) = .ok (.int b.l) := (rfl)
@[simp] theorem ix_3 : ixR b.D (.int 3) = .ok (.int b.t) := (rfl)
@[simp] theorem ix_4 : ixR b.D (.int 4) = .ok (.int b.w) := (rfl)
@[simp] theorem ix_5 : ixR b.D (.int 5) = .ok (.int b.h) := (rfl)
@[simp] theorem ix_6 : ixR b.D (.int 6) = .ok (.str b.ms) := (rfl)
end
end Fo

namespace Ty
open PySem Dx Fo
class Enc (α : Type) where
  enc : α → D
open Enc (enc)
structure T1 (α : Type) where
  a : α
deriving DecidableEq
structure T3 (α β γ : Type) where
  a : α
  b : β
  c : γ
deriving DecidableEq
structure T4 (α β γ δ : Type) where
  a : α
  b : β
  c : γ
  d : δ
deriving DecidableEq
structure T5 (α β γ δ ε : Type) where
  a : α
  b : β
  c : γ
  d : δ
  e : ε
deriving DecidableEq
structure T6 (α β γ δ ε ζ : Type) where
  a : α
  b : β
  c : γ
  d : δ
  e : ε
  f : ζ
deriving DecidableEq
structure Tu (α : Type) where
  l : List α
deriving DecidableEq
structure Dc (κ α : Type) where
  l : List (κ × α)
deriving DecidableEq
structure Fz where
  l : List Int
class KeyT (κ : Type) where
  key : κ → L2.Key
  inj : ∀ a b, key a = key b → a = b
instance : KeyT Int := ⟨.inl, fun _ _ h => by cases h; rfl⟩
instance : KeyT Str := ⟨.inr, fun _ _ h => by cases h; rfl⟩
section
variable {α β γ δ ε ζ κ : Type}
instance : Enc Int := ⟨.int⟩
instance : Enc Bool := ⟨.bl⟩
instance : Enc Str := ⟨.str⟩
instance : Enc Unit := ⟨fun _ => .non⟩
instance : Enc D := ⟨id⟩
instance : Enc Box := ⟨Box.D⟩
instance : Enc Fz := ⟨fun x => .frz x.l⟩
instance [Enc α] : Enc (List α) := ⟨fun xs => .lst (xs.map enc)⟩
instance [Enc α] : Enc (Tu α) := ⟨fun x => .tup (x.l.map enc)⟩
instance [Enc α] : Enc (Option α) := ⟨fun x => match x with | some a => enc a | none => .non⟩
instance [Enc α] : Enc (T1 α) := ⟨fun x => .tup [enc x.a]⟩
instance [Enc α] [Enc β] : Enc (α × β) := ⟨fun x => .tup [enc x.1, enc x.2]⟩
instance [Enc α] [Enc β] [Enc γ] : Enc (T3 α β γ) := ⟨fun x => .tup [enc x.a, enc x.b, enc x.c]⟩
instance [Enc α] [Enc β] [Enc γ] [Enc δ] : Enc (T4 α β γ δ) := ⟨fun x => .tup [enc x.a, enc x.b, enc x.c, enc x.d]⟩
instance [Enc α] [Enc β] [Enc γ] [Enc δ] [Enc ε] : Enc (T5 α β γ δ ε) := ⟨fun x => .tup [enc x.a, enc x.b, enc x.c, enc x.d, enc x.e]⟩
instance [Enc α] [Enc β] [Enc γ] [Enc δ] [Enc ε] [Enc ζ] : Enc (T6 α β γ δ ε ζ) := ⟨fun x => .tup [enc x.a, enc x.b, enc x.c, enc x.d, enc x.e, enc x.f]⟩
instance [KeyT κ] [Enc α] : Enc (Dc κ α) := ⟨fun x => .dic (x.l.map fun kv => (KeyT.key kv.1, enc kv.2))⟩
end
class EncE (α : Type) [Enc α] where
  dep : Nat
  hdle : ∀ a : α, dle dep (enc a) = true
  heq : ∀ a b : α, eqD (enc a) (enc b) = true ↔ a = b
class EncN (α : Type) [Enc α] : Prop where
  nn : ∀ a : α, isN (enc a) = false
class EncS (α : Type) [Enc α] : Prop where
  sc : ∀ a : α, scal0 (enc a) = true
theorem dle_succ : ∀ (n : Nat) (d : D), dle n d = true → dle (n + 1) d = true
  | 0, .non, _ => rfl
  | 0, .bl _, _ => rfl
  | 0, .int _, _ => rfl
  | 0, .str _, _ => rfl
  | 0, .tup _, h => by simp [dle] at h
  | 0, .lst _, h => by simp [dle] at h
  | 0, .dic _, h => by simp [dle] at h
  | 0, .frz _, h => by simp [dle] at h
  | n + 1, .non, _ => rfl
  | n + 1, .bl _, _ => rfl
  | n + 1, .int _, _ => rfl
  | n + 1, .str _, _ => rfl
  | n + 1, .dic _, h => by simp [dle] at h
  | n + 1, .frz _, h => by simp [dle] at h
  | n + 1, .tup xs, h => by
    simp only [dle, List.all_eq_true] at h ⊢
    exact fun x hx => dle_succ n x (h x hx)
  | n + 1, .lst xs, h => by
    simp only [dle, List.all_eq_true] at h ⊢
    exact fun x hx => dle_succ n x (h x hx)
theorem dle_le {m n : Nat} {d : D} (hm : m ≤ n) (h : dle m d = true) : dle n d = true := by
  induction hm with
  | refl => exact h
  | step _ ih => exact dle_succ _ _ ih
theorem eqDs_iff {α : Type} [Enc α] [EncE α] : ∀ xs ys : List α, eqDs (xs.map enc) (ys.map enc) = true ↔ xs = ys
  | [], [] => by simp [eqDs]
  | [], y :: ys => by simp [eqDs]
  | x :: xs, [] => by simp [eqDs]
  | x :: xs, y :: ys => by
    rw [List.map_cons, List.map_cons, eqDs, Bool.and_eq_true, EncE.heq, eqDs_iff xs ys]
    simp
section
variable {α β γ δ ε ζ κ : Type} [Enc α] [Enc β] [Enc γ] [Enc δ] [Enc ε] [Enc ζ]
instance : EncE Int := ⟨0, fun _ => rfl, fun a b => by show (a == b) = true ↔ _; simp⟩
instance : EncE Bool := ⟨0, fun _ => rfl, fun a b => by show (a == b) = true ↔ _; simp⟩
instance : EncE Str := ⟨0, fun _ => rfl, fun a b => by show (a == b) = true ↔ _; simp⟩
instance : EncE Unit := ⟨0, fun _ => rfl, fun a b => by simp [enc, eqD]⟩
instance : EncE Box := ⟨1, fun _ => rfl, fun a b => by
  cases a; cases b
  show eqD (.tup _) (.tup _) = true ↔ _
  simp [eqD, eqDs]⟩
theorem all_dle [EncE α] {n : Nat} (h : EncE.dep α ≤ n) (xs : List α) : (xs.map enc).all (dle n) = true := by
  rw [List.all_map, List.all_eq_true]
  exact fun a _ => dle_le h (EncE.hdle a)
instance [EncE α] : EncE (List α) := ⟨EncE.dep α + 1, fun xs => by
    show (xs.map enc).all (dle (EncE.dep α)) = true
    exact all_dle (Nat.le_refl _) xs, fun a b => by show eqDs _ _ = true ↔ _; exact eqDs_iff a b⟩
instance [EncE α] : EncE (Tu α) := ⟨EncE.dep α + 1, fun xs => by
    show (xs.l.map enc).all (dle (EncE.dep α)) = true
    exact all_dle (Nat.le_refl _) xs.l, fun a b => by
    show eqDs _ _ = true ↔ _
    rw [eqDs_iff]
    cases a; cases b; simp⟩
instance [EncE α] : EncE (T1 α) := ⟨EncE.dep α + 1, fun x => by
    show [enc x.a].all (dle _) = true
    simp [EncE.hdle], fun a b => by
    show eqDs [_] [_] = true ↔ _
    cases a; cases b; simp [eqDs, EncE.heq]⟩
instance [EncE α] [EncE β] : EncE (α × β) := ⟨max (EncE.dep α) (EncE.dep β) + 1, fun x => by
    show [enc x.1, enc x.2].all (dle _) = true
    simp only [List.all_cons, List.all_nil, Bool.and_true, Bool.and_eq_true]
    exact ⟨dle_le (by omega) (EncE.hdle x.1), dle_le (by omega) (EncE.hdle x.2)⟩, fun a b => by
    show eqDs [_, _] [_, _] = true ↔ _
    cases a; cases b; simp [eqDs, EncE.heq]⟩
instance [EncE α] [EncE β] [EncE γ] : EncE (T3 α β γ) := ⟨max (max (EncE.dep α) (EncE.dep β)) (EncE.dep γ) + 1, fun x => by
    show [enc x.a, enc x.b, enc x.c].all (dle _) = true
    simp only [List.all_cons, List.all_nil, Bool.and_true, Bool.and_eq_true]
    exact ⟨dle_le (by omega) (EncE.hdle x.a), dle_le (by omega) (EncE.hdle x.b), dle_le (by omega) (EncE.hdle x.c)⟩, fun a b => by
    show eqDs [_, _, _] [_, _, _] = true ↔ _
    cases a; cases b; simp [eqDs, EncE.heq]⟩
instance [EncE α] [EncE β] [EncE γ] [EncE δ] : EncE (T4 α β γ δ) := ⟨max (max (EncE.dep α) (EncE.dep β)) (max (EncE.dep γ) (EncE.dep δ)) + 1, fun x => by
    show [enc x.a, enc x.b, enc x.c, enc x.d].all (dle _) = true
    simp only [List.all_cons, List.all_nil, Bool.and_true, Bool.and_eq_true]
    exact ⟨dle_le (by omega) (EncE.hdle x.a), dle_le (by omega) (EncE.hdle x.b), dle_le (by omega) (EncE.hdle x.c), dle_le (by omega) (EncE.hdle x.d)⟩, fun a b => by
    show eqDs [_, _, _, _] [_, _, _, _] = true ↔ _
    cases a; cases b; simp [eqDs, EncE.heq]⟩
instance [EncE α] [EncE β] [EncE γ] [EncE δ] [EncE ε] : EncE (T5 α β γ δ ε) := ⟨max (max (max (EncE.dep α) (EncE.dep β)) (max (EncE.dep γ) (EncE.dep δ))) (EncE.dep ε) + 1, fun x => by
    show [enc x.a, enc x.b, enc x.c, enc x.d, enc x.e].all (dle _) = true
    simp only [List.all_cons, List.all_nil, Bool.and_true, Bool.and_eq_true]
    exact ⟨dle_le (by omega) (EncE.hdle x.a), dle_le (by omega) (EncE.hdle x.b), dle_le (by omega) (EncE.hdle x.c), dle_le (by omega) (EncE.hdle x.d), dle_le (by omega) (EncE.hdle x.e)⟩, fun a b => by
    show eqDs [_, _, _, _, _] [_, _, _, _, _] = true ↔ _
    cases a; cases b; simp [eqDs, EncE.heq]⟩
instance [EncE α] [EncN α] : EncE (Option α) := ⟨EncE.dep α, fun x => by
    cases x with
    | none => exact dle_le (Nat.zero_le _) (show dle 0 D.non = true from rfl)
    | some a => exact EncE.hdle a, fun a b => by
    have non_l : ∀ d : D, isN d = false → eqD .non d = false := fun d h => by cases d <;> simp_all [isN, eqD]
    have non_r : ∀ d : D, isN d = false → eqD d .non = false := fun d h => by cases d <;> simp_all [isN, eqD]
    cases a with
    | none => cases b with
      | none => exact ⟨fun _ => rfl, fun _ => rfl⟩
      | some b => exact ⟨fun h => Bool.noConfusion ((non_l _ (EncN.nn b)).symm.trans h), fun h => nomatch h⟩
    | some a => cases b with
      | none => exact ⟨fun h => Bool.noConfusion ((non_r _ (EncN.nn a)).symm.trans h), fun h => nomatch h⟩
      | some b => exact (EncE.heq a b).trans ⟨fun h => by rw [h], fun h => by cases h; rfl⟩⟩
instance : EncN Int := ⟨fun _ => rfl⟩
instance : EncN Bool := ⟨fun _ => rfl⟩
instance : EncN Str := ⟨fun _ => rfl⟩
instance : EncN Box := ⟨fun _ => rfl⟩
instance : EncN (List α) := ⟨fun _ => rfl⟩
instance : EncN (Tu α) := ⟨fun _ => rfl⟩
instance : EncN (T1 α) := ⟨fun _ => rfl⟩
instance : EncN (α × β) := ⟨fun _ => rfl⟩
instance : EncN (T3 α β γ) := ⟨fun _ => rfl⟩
instance : EncN (T4 α β γ δ) := ⟨fun _ => rfl⟩
instance : EncN (T5 α β γ δ ε) := ⟨fun _ => rfl⟩
instance : EncN (T6 α β γ δ ε ζ) := ⟨fun _ => rfl⟩
instance [KeyT κ] : EncN (Dc κ α) := ⟨fun _ => rfl⟩
instance : EncS Int := ⟨fun _ => rfl⟩
instance : EncS Bool := ⟨fun _ => rfl⟩
instance : EncS Str := ⟨fun _ => rfl⟩
class Co (α β : Type) [Enc α] [Enc β] where
  f : α → β
  h : ∀ a, enc (f a) = enc a
instance (priority := 2000) : Co α α := ⟨id, fun _ => rfl⟩
instance (priority := 1500) : Co α D := ⟨enc, fun _ => rfl⟩
instance [Co α β] : Co (Option α) (Option β) := ⟨fun x => x.map (Co.f (β := β)), fun x => by cases x with | none => rfl | some a => exact Co.h a⟩
instance (priority := 900) [Co α β] : Co α (Option β) := ⟨fun x => some (Co.f x), fun x => Co.h x⟩
instance (priority := 1200) : Co Unit (Option β) := ⟨fun _ => none, fun _ => rfl⟩
theorem co_map [Co α β] (xs : List α) : (xs.map (Co.f (β := β))).map enc = xs.map enc := by
  rw [List.map_map]
  exact List.map_congr_left fun a _ => Co.h a
instance [Co α β] : Co (List α) (List β) := ⟨fun xs => xs.map Co.f, fun xs => by show D.lst _ = D.lst _; rw [co_map]⟩
instance [Co α β] : Co (Tu α) (Tu β) := ⟨fun xs => ⟨xs.l.map Co.f⟩, fun xs => by show D.tup _ = D.tup _; rw [co_map]⟩
instance [Co α γ] [Co β δ] : Co (α × β) (γ × δ) := ⟨fun x => (Co.f x.1, Co.f x.2), fun x => by show D.tup [enc (Co.f x.1), enc (Co.f x.2)] = _; rw [Co.h, Co.h]; rfl⟩
instance {α' β' γ' : Type} [Enc α'] [Enc β'] [Enc γ'] [Co α α'] [Co β β'] [Co γ γ'] : Co (T3 α β γ) (T3 α' β' γ') := ⟨fun x => ⟨Co.f x.a, Co.f x.b, Co.f x.c⟩, fun x => by show D.tup [enc (Co.f x.a), enc (Co.f x.b), enc (Co.f x.c)] = _; rw [Co.h, Co.h, Co.h]; rfl⟩
instance [Co α γ] : Co (T1 α) (Tu γ) := ⟨fun x => ⟨[Co.f x.a]⟩, fun x => by show D.tup [enc (Co.f x.a)] = _; rw [Co.h]; rfl⟩
instance [Co α γ] [Co β γ] : Co (α × β) (Tu γ) := ⟨fun x => ⟨[Co.f x.1, Co.f x.2]⟩, fun x => by show D.tup [enc (Co.f x.1), enc (Co.f x.2)] = _; rw [Co.h, Co.h]; rfl⟩
instance [Co α δ] [Co β δ] [Co γ δ] : Co (T3 α β γ) (Tu δ) := ⟨fun x => ⟨[Co.f x.a, Co.f x.b, Co.f x.c]⟩, fun x => by show D.tup [enc (Co.f x.a), enc (Co.f x.b), enc (Co.f x.c)] = _; rw [Co.h, Co.h, Co.h]; rfl⟩
end
end Ty

namespace Ty
open PySem Dx Fo
open Enc (enc)
def Rr {α β : Type} (r : R β) (t : R α) (f : α → β) : Prop := match t with
  | .ok a => r = .ok (f a)
  | .exc c => r = .exc c
  | .bad => True
section
variable {α β γ δ : Type}
end
abbrev Pat := List (Option Slot)
def EnvIs (p : Pat) (e : En) : Prop := e.length = p.length ∧ ∀ (i : Nat) (s : Slot), p[i]? = some (some s) → e[i]? = some s
section
variable {α β γ δ κ : Type} [Enc α] [Enc β] [Enc γ] [Enc δ] [KeyT κ] {p p' : Pat} {e : En} {i : Nat}
theorem EnvIs.set (H : EnvIs p e) {s : Slot} (i : Nat) : EnvIs (p.set i (some s)) (e.set i s) := by
  refine ⟨by rw [List.length_set, List.length_set]; exact H.1, fun j t h => ?_⟩
  by_cases hi : i = j
  · subst hi
    by_cases hl : i < p.length
    · rw [List.getElem?_set_self hl] at h; cases h
      exact List.getElem?_set_self (by rw [H.1]; exact hl)
    · rw [List.getElem?_eq_none (by rw [List.length_set]; omega)] at h; cases h
  · rw [List.getElem?_set_ne hi] at h ⊢
    exact H.2 j t h
theorem EnvIs.kill (H : EnvIs p e) {s : Slot} (i : Nat) : EnvIs (p.set i none) (e.set i s) := by
  refine ⟨by rw [List.length_set, List.length_set]; exact H.1, fun j t h => ?_⟩
  by_cases hi : i = j
  · subst hi
    by_cases hl : i < p.length
    · rw [List.getElem?_set_self hl] at h; cases h
    · rw [List.getElem?_eq_none (by rw [List.length_set]; omega)] at h; cases h
  · rw [List.getElem?_set_ne hi] at h ⊢
    exact H.2 j t h
def killP (is : List Nat) (p : Pat) : Pat := is.foldl (fun q i => q.set i none) p
theorem EnvIs.kills (H : EnvIs p e) (is : List Nat) : EnvIs (killP is p) (killS is e) := by
  induction is generalizing p e with
  | nil => exact H
  | cons i is ih => exact ih (H.kill i)
def wipeP (p : Pat) (is : List Nat) : Pat := is.foldr (fun i q => q.set i none) p
theorem EnvIs.wipe (H : EnvIs p e) (is : List Nat) : EnvIs (wipeP p is) (wipeE e is) := by
  induction is with
  | nil => exact H
  | cons i is ih => exact ih.kill i
theorem EnvIs.as (H : EnvIs p e) (h : p = p') : EnvIs p' e := h ▸ H
theorem EnvIs.of (ds : List D) (m : Nat) (h : (ds.map fun d => some (Slot.d d)) ++ List.replicate m none = p) : EnvIs p (ds.map Slot.d ++ List.replicate m .u) := by
  subst h
  refine ⟨by simp, fun i s h => ?_⟩
  rw [List.getElem?_append] at h ⊢
  rw [List.length_map] at h ⊢
  split at h
  · rename_i hl
    rw [if_pos hl]
    rw [List.getElem?_map] at h ⊢
    cases q : ds[i]? with
    | none => rw [q] at h; cases h
    | some d => rw [q] at h; cases h; rfl
  · rw [List.getElem?_replicate] at h
    split at h <;> cases h
end

section
variable {α β γ δ κ : Type} {e : En} {A B C : En → R D} {As : En → R (List D)} {t u : En → R Bool} {f : D → D → R D} {g : γ → D} {T : R γ}
end
end Ty

namespace Ty
open PySem Dx Fo
open Enc (enc)
section
variable {α β γ δ ε ζ κ : Type} [Enc α] [Enc β] [Enc γ] [Enc δ] [Enc ε] [Enc ζ] [KeyT κ]
-- numbers
theorem op_add (a b : Int) : addR (enc a) (enc b) = .ok (enc (a + b)) := (rfl)
theorem op_sub (a b : Int) : subR (enc a) (enc b) = .ok (enc (a - b)) := (rfl)
theorem op_lt (a b : Int) : ltR (enc a) (enc b) = .ok (enc (decide (a < b))) := (rfl)
theorem op_le (a b : Int) : leR (enc a) (enc b) = .ok (enc (decide (a ≤ b))) := (rfl)
theorem op_gt (a b : Int) : gtR (enc a) (enc b) = .ok (enc (decide (b < a))) := (rfl)
theorem op_mod (a k : Int) (h : 0 < k) : modR (enc a) (enc k) = .ok (enc (a % k)) := if_pos h
def hasK [DecidableEq κ] (d : Dc κ α) (k : κ) : Bool := d.l.any fun kv => decide (kv.1 = k)
class KeyE (κ : Type) [KeyT κ] [Enc κ] : Prop where
  h : ∀ k : κ, keyOf (enc k) = some (KeyT.key k)
instance : KeyE Int := ⟨fun _ => rfl⟩
instance : KeyE Str := ⟨fun _ => rfl⟩
variable [Enc κ] [KeyE κ] [DecidableEq κ]
def ixL (xs : List α) (i : Int) : R α := match L2.atI xs i with | some a => .ok a | none => .bad
theorem strsOf_enc (xs : List Str) : strsOf (xs.map enc) = some xs := by
  induction xs with
  | nil => rfl
  | cons x xs ih => show (strsOf (xs.map enc)).map (x :: ·) = _; rw [ih]; rfl
class KeyD (κ : Type) [KeyT κ] [Enc κ] : Prop where
  h : ∀ k : κ, keyD (KeyT.key k) = enc k
instance : KeyD Int := ⟨fun _ => rfl⟩
instance : KeyD Str := ⟨fun _ => rfl⟩
variable {e : En} {A : En → R D}
end
end Ty

namespace Ty
open PySem Dx Fo
open Enc (enc)
inductive OT (σ α : Type) where
  | nx (s : σ)
  | rt (a : α)
  | bk (s : σ)
  | ct (s : σ)
  | exc (c : Str)
  | bad
section
variable {σ σ' α β γ : Type}
def OT.bd (r : R β) (k : β → OT σ α) : OT σ α := match r with
  | .ok b => k b
  | .exc c => .exc c
  | .bad => .bad
def OT.thn (t : OT σ α) (k : σ → R α) : R α := match t with
  | .nx s => k s
  | .rt a => .ok a
  | .exc c => .exc c
  | _ => .bad
end
section
variable {σ σ' α β γ δ ε ζ κ : Type} [Enc α] [Enc β] [Enc γ] [Enc δ] [Enc ε] [Enc ζ] [KeyT κ] {p p' : Pat} {e : En} {i : Nat}
def TO (P : σ → Pat) (o : Out) (t : OT σ α) : Prop := match t with
  | .nx s => ∃ e, o = .nx e ∧ EnvIs (P s) e
  | .rt a => ∃ e, o = .rt (enc a) e
  | .bk s => ∃ e, o = .bk e ∧ EnvIs (P s) e
  | .ct s => ∃ e, o = .ct e ∧ EnvIs (P s) e
  | .exc c => ∃ e, o = .exc c e
  | .bad => True
variable {P : σ → Pat} {P' : σ' → Pat} {A B : En → R D} {As : En → R (List D)} {Ak : En → R (List (L2.Key × D))} {G G1 G2 : En → Out} {t : En → R Bool} {o : Out}
-- a def
structure Jd {τ : Type} (J : Out → τ → Prop) (bd : ∀ {β : Type}, R β → (β → τ) → τ) : Prop where
  exc : ∀ {c : Str} {β : Type} {k : β → τ} {e : En}, J (.exc c e) (bd (.exc c) k)
  bad : ∀ {o : Out} {β : Type} {k : β → τ}, J o (bd .bad k)
  ok : ∀ {o : Out} {β : Type} {b : β} {k : β → τ}, J o (k b) → J o (bd (.ok b) k)
section
variable {τ : Type} {J : Out → τ → Prop} {bd : ∀ {β : Type}, R β → (β → τ) → τ} {T : τ}
end
variable {I : En → R (List D)} {Tg : D → En → R En} {Bo : En → Out}
variable {T : D → En → R En} {C : En → R Bool} {F : En → R D} {own : List Nat}
section
variable {τ : Type} {J : Out → τ → Prop} {bd : ∀ {β : Type}, R β → (β → τ) → τ}
def dropK [DecidableEq κ] (d : Dc κ α) (k : κ) : R (Dc κ α) := if hasK d k = true then .ok ⟨d.l.filter fun kv => decide (kv.1 ≠ k)⟩ else .bad
end
end
end Ty
namespace Ty
open PySem Dx Fo
open Enc (enc)
section
variable {σ σ' α β γ δ ε ζ κ τ : Type} [Enc α] [Enc β] [Enc γ] [Enc δ] [Enc ε] [Enc ζ] [KeyT κ] {p p' : Pat} {e : En} {i : Nat} {A B C : En → R D} {As : En → R (List D)} {G G1 G2 : En → Out} {t : En → R Bool} {o : Out} {P : σ → Pat}
section
variable {J : Out → τ → Prop} {bd : ∀ {β : Type}, R β → (β → τ) → τ} {T : τ}
end
def lenSetG {κ : Type} [DecidableEq κ] (xs : List κ) : R Int := if xs.length < 4000 then .ok ((Sx.nub xs).length : Nat) else .bad
theorem ro_lenSetS (xs : List Str) : Rr (lenSetR (enc xs)) (lenSetG xs) enc := by
  unfold lenSetG; split
  · rename_i h
    show lenSetR (.lst (xs.map enc)) = _
    unfold lenSetR
    simp only [List.length_map]
    rw [if_pos h]
    cases xs with
    | nil => rfl
    | cons x xs =>
      have : intsOf ((x :: xs).map enc) = none := rfl
      simp only [this, strsOf_enc]; rfl
  · trivial
end
end Ty

namespace Fo
open PySem Dx Dn
theorem sz (n : Nat) (h : n ≤ 16777216) : n ≤ sizeLine := by rw [sizeLine_eq]; exact h
theorem sL_cons (x : Str) (xs : List Str) : sL (x :: xs) = .lst (.str x :: xs.map D.str) := rfl
def offs (S : List Box) : List Str → Int × Int
  | [] => (0, 0)
  | n :: ns => match findB S n with
    | some b => (b.l + (offs S ns).1, b.t + (offs S ns).2)
    | none => offs S ns
end Fo

namespace Fo
open PySem Dx Dn
theorem atI_nat {α : Type} (xs : List α) (i : Nat) : L2.atI xs (i : Int) = xs[i]? := by
  unfold L2.atI L2.ixN
  rw [if_pos (by omega)]
  by_cases h : i < xs.length
  · rw [if_pos (by omega)]; simp
  · rw [if_neg (by omega)]
    simp
    omega
theorem m_cell (ns : List Int) (k : Int) (h : ns.length ≤ 63) : ∃ v, den__law_cell [.frz ns, .int k] = .ok (.int v) := by
  show ∃ v, runB 0 g__law_cell [.frz ns, .int k] = _
  unfold runB g__law_cell
  cases ns with
  | nil =>
    refine ⟨7 * k, ?_⟩
    have e : eqR (.frz []) (.lst []) = .ok (.bl true) := rfl
    simp [lstR, e, mulR]
  | cons n ns =>
    have e : eqR (.frz (n :: ns)) (.lst []) = .ok (.bl false) := rfl
    have l : lenR [.frz (n :: ns)] = .ok (.int ((ns.length : Int) + 1)) := by simp [lenR]
    have z : (0 : Int) < (ns.length : Int) + 1 := by omega
    have z2 : (ns.length : Int) + 1 < 1073741824 := by simp at h; omega
    have hm0 : 0 ≤ k % ((ns.length : Int) + 1) := Int.emod_nonneg _ (by omega)
    have hm1 : k % ((ns.length : Int) + 1) < (ns.length : Int) + 1 := Int.emod_lt_of_pos _ z
    obtain ⟨j, hj⟩ := Int.eq_ofNat_of_zero_le hm0
    have hj1 : j < (n :: ns).length := by simp; omega
    have ix : ixR (.frz (n :: ns)) (.int (k % ((ns.length : Int) + 1))) = .ok (.int (n :: ns)[j]) := by
      unfold ixR
      rw [hj]
      show (match L2.atI (n :: ns) (j : Int) with | some n => R.ok (D.int n) | none => R.bad) = _
      rw [atI_nat, List.getElem?_eq_getElem hj1]
    refine ⟨(n :: ns)[j] + 6553 * (k / ((ns.length : Int) + 1)), ?_⟩
    simp [lstR, e, l, modR, z, ix, divR, z2, mulR]
theorem m_drawn (ns : List Int) (k : Int) (many : Int) (h : ns.length ≤ 63) (hm : 0 < many) : ∃ v, den__law_drawn [.frz ns, .int k, .int many] = .ok (.int v) ∧ 0 ≤ v ∧ v < many := by
  obtain ⟨c, hc⟩ := m_cell ns k h
  show ∃ v, runB 1 g__law_drawn [.frz ns, .int k, .int many] = _ ∧ _
  unfold runB g__law_drawn
  have b1 : ∀ x : Int, 0 ≤ x % 2147483563 ∧ x % 2147483563 < 2147483563 := fun x => ⟨Int.emod_nonneg _ (by omega), Int.emod_lt_of_pos _ (by omega)⟩
  have b2 : ∀ x : Int, 0 ≤ x % 2147483399 ∧ x % 2147483399 < 2147483399 := fun x => ⟨Int.emod_nonneg _ (by omega), Int.emod_lt_of_pos _ (by omega)⟩
  generalize hx : (c % 2147483563 * 69069 + 104723 * (k + 1)) % 2147483563 = x
  have hx1 : 0 ≤ x ∧ x < 2147483563 := hx ▸ b1 _
  generalize hy : (x * x + x / 3) % 2147483399 = y
  have hy1 : 0 ≤ y ∧ y < 2147483399 := hy ▸ b2 _
  refine ⟨(y * y + y / 7) % 2147483647 / 11 % many, ?_, Int.emod_nonneg _ (by omega), Int.emod_lt_of_pos _ hm⟩
  have m1 : (-18446744073709551616 < x ∧ x < 18446744073709551616) := by omega
  have m2 : (-18446744073709551616 < y ∧ y < 18446744073709551616) := by omega
  simp [hc, modR, mulR, hx, divR, m1, hy, m2, hm]
def drawn (ns : List Int) (k many : Int) : Int := match den__law_drawn [.frz ns, .int k, .int many] with
  | .ok (.int v) => v
  | _ => 0
theorem drawn_ok {ns : List Int} (h : ns.length ≤ 63) (k : Int) {many : Int} (hm : 0 < many) : den__law_drawn [.frz ns, .int k, .int many] = .ok (.int (drawn ns k many)) := by
  obtain ⟨v, e, _⟩ := m_drawn ns k many h hm
  unfold drawn
  rw [e]
theorem drawn_in {ns : List Int} (h : ns.length ≤ 63) (k : Int) {many : Int} (hm : 0 < many) : 0 ≤ drawn ns k many ∧ drawn ns k many < many := by
  obtain ⟨v, e, q⟩ := m_drawn ns k many h hm
  unfold drawn
  rw [e]
  exact q

def let8 : List Nat := [100, 98, 103, 97, 104, 99, 102, 101]
def letter (i : Nat) : Str := ⟨#[let8.getD (i % 8) 0]⟩
def marks4 : List (Nat × Nat) := [(0, 99), (1, 102), (2, 104), (3, 108)]
def odd4 : Nat → Int
  | 0 => 4
  | 1 => 2
  | 2 => 9
  | 3 => 6
  | _ => 1
def markOn (ns : List Int) (here : Int) (p : Nat × Nat) : Bool := decide (drawn ns (here + 5 + (p.1 : Int)) (odd4 p.1) = 0)
def mkBox (ns : List Int) (at_ : Int) (k : Nat) (S : List Box) : Box :=
  let here := at_ + 3 + 9 * (k : Int)
  { nm := letter (k + (drawn ns (at_ + 1) 8).toNat), ar := (("" : Str) :: names S).getD (drawn ns here ((k : Int) + 1)).toNat "",
    l := drawn ns (here + 1) 9 - 3, t := drawn ns (here + 1 + 1) 9 - 3, w := drawn ns (here + 3) 9, h := drawn ns (here + 3 + 1) 9,
    ms := ⟨((marks4.filter (markOn ns here)).map (·.2)).toArray⟩ }
def mkSc (ns : List Int) (at_ : Int) : Nat → List Box
  | 0 => []
  | k + 1 => mkSc ns at_ k ++ [mkBox ns at_ k (mkSc ns at_ k)]
def scene (ns : List Int) (at_ : Int) : List Box := mkSc ns at_ (drawn ns at_ 8).toNat
theorem mkSc_len (ns : List Int) (at_ : Int) : ∀ k, (mkSc ns at_ k).length = k
  | 0 => rfl
  | k + 1 => by simp [mkSc, mkSc_len ns at_ k]
theorem scene_len {ns : List Int} (h : ns.length ≤ 63) (at_ : Int) : (scene ns at_).length ≤ 7 := by
  unfold scene
  rw [mkSc_len]
  have := drawn_in h at_ (many := 8) (by omega)
  omega
theorem ix_sL {xs : List Str} {i : Int} (h0 : 0 ≤ i) (h1 : i < xs.length) (x : Str) : ixR (sL xs) (.int i) = .ok (.str (xs.getD i.toNat x)) := by
  obtain ⟨j, rfl⟩ := Int.eq_ofNat_of_zero_le h0
  unfold ixR sL
  simp only
  rw [atI_nat]
  have hj : j < xs.length := by omega
  rw [List.getElem?_map, List.getElem?_eq_getElem hj]
  simp [hj]
theorem lstR_s {xs : List D} (h : xs.length ≤ 1000) : lstR xs = .ok xs := if_pos (sz _ (by omega))
theorem tupR_s {xs : List D} (h : xs.length ≤ 1000) : tupR xs = .ok (.tup xs) := if_pos (sz _ (by omega))
theorem addR_t {xs ys : List D} (h : xs.length + ys.length ≤ 1000) : addR (.tup xs) (.tup ys) = .ok (.tup (xs ++ ys)) := if_pos (sz _ (by omega))
theorem addR_l {xs ys : List D} (h : xs.length + ys.length ≤ 1000) : addR (.lst xs) (.lst ys) = .ok (.lst (xs ++ ys)) := if_pos (sz _ (by omega))
theorem compO_all {α : Type} {T : D → En → R En} {C : En → R Bool} {F : En → R D} {f : α → D} {g : α → D} {e : En} : ∀ (xs : List α), (∀ a ∈ xs, ∃ e1, T (f a) e = .ok e1 ∧ C e1 = .ok true ∧ F e1 = .ok (g a)) →
    compO T C F e (xs.map f) = .ok (xs.map g)
  | [], _ => rfl
  | a :: xs, h => by
    obtain ⟨e1, h1, h2, h3⟩ := h a List.mem_cons_self
    have ih := compO_all xs fun a ha => h a (List.mem_cons_of_mem _ ha)
    rw [List.map_cons]
    unfold compO
    simp only [h1, h2, h3, ih, R.ok_bind, List.map_cons]
theorem ix_let (k t : Int) (hk : 0 ≤ k) (ht : 0 ≤ t) : ixR (.str "dbgahcfe") (.int ((k + t) % 8)) = .ok (.str (letter (k.toNat + t.toNat))) := by
  obtain ⟨k, rfl⟩ := Int.eq_ofNat_of_zero_le hk
  obtain ⟨t, rfl⟩ := Int.eq_ofNat_of_zero_le ht
  have e : (Str.ofString "dbgahcfe").cps.toList = let8 := by decide +kernel
  have e2 : ((k : Int) + (t : Int)) % 8 = (((k + t) % 8 : Nat) : Int) := by omega
  unfold ixR
  simp only
  rw [e, e2, atI_nat]
  have hl : (k + t) % 8 < let8.length := by have := Nat.mod_lt (k + t) (show 0 < 8 by omega); simpa [let8] using this
  rw [List.getElem?_eq_getElem hl]
  unfold letter
  simp [hl]
theorem marks_run {ns : List Int} (h : ns.length ≤ 63) (a1 a2 a3 a4 a6 a7 a8 : Slot) (here : Int) :
    forO (tupT [10, 11]) (sEnd [10, 11] (sIf (tBin eqR (eUn den__law_drawn (aCons (getD' 0) (aCons (eBin addR (eBin addR (getD' 5) (eC (.int 5))) (getD' 10)) (aCons (eBin ixR (eOfF (eUn lstR (aCons (eC (.int 4)) (aCons (eC (.int 2)) (aCons (eC (.int 9)) (aCons (eC (.int 6)) aNil)))))) (getD' 10)) aNil)))) (eC (.int 0)))
  (sSet 9 (eBin addR (getD' 9) (getD' 11)))
  sNil)) (pairs0 (charsD "cfhl")) [.d (.frz ns), a1, a2, a3, a4, .d (.int here), a6, a7, a8, .d (.str ""), .u, .u, .u, .u] =
    .nx [.d (.frz ns), a1, a2, a3, a4, .d (.int here), a6, a7, a8, .d (.str ⟨((marks4.filter (markOn ns here)).map (·.2)).toArray⟩), .u, .u, .u, .u] := by
  have ec : (Str.ofString "cfhl").cps.toList = [99, 102, 104, 108] := by decide +kernel
  have e : pairs0 (charsD "cfhl") = marks4.map fun p => .tup [.int (p.1 : Int), .str ⟨#[p.2]⟩] := by
    unfold charsD
    rw [ec]
    rfl
  have e0 : (Str.ofString "" : Str) = ⟨#[]⟩ := by decide +kernel
  rw [e]
  have k := forO_fold (T := tupT [10, 11]) (G := sEnd [10, 11] (sIf (tBin eqR (eUn den__law_drawn (aCons (getD' 0) (aCons (eBin addR (eBin addR (getD' 5) (eC (.int 5))) (getD' 10)) (aCons (eBin ixR (eOfF (eUn lstR (aCons (eC (.int 4)) (aCons (eC (.int 2)) (aCons (eC (.int 9)) (aCons (eC (.int 6)) aNil)))))) (getD' 10)) aNil)))) (eC (.int 0)))
  (sSet 9 (eBin addR (getD' 9) (getD' 11)))
  sNil)) (f := fun p : Nat × Nat => D.tup [.int (p.1 : Int), .str ⟨#[p.2]⟩]) (inv := fun done => [.d (.frz ns), a1, a2, a3, a4, .d (.int here), a6, a7, a8, .d (.str ⟨((done.filter (markOn ns here)).map (·.2)).toArray⟩), .u, .u, .u, .u]) marks4 [] (fun a pre rest hx => ?_)
  · rw [e0]; simpa using k
  · have ha : a ∈ marks4 := by rw [hx]; simp
    have hl : pre.length ≤ 3 := by have := congrArg List.length hx; simp [marks4] at this; omega
    refine ⟨_, by simp [tupT]; rfl, .inl ?_⟩
    have ix : ixR (.lst [.int 4, .int 2, .int 9, .int 6]) (.int (a.1 : Int)) = .ok (.int (odd4 a.1)) ∧ 0 < odd4 a.1 := by
      revert ha
      have : ∀ a ∈ marks4, ixR (.lst [.int 4, .int 2, .int 9, .int 6]) (.int (a.1 : Int)) = .ok (.int (odd4 a.1)) ∧ 0 < odd4 a.1 := by
        intro a ha
        simp [marks4] at ha
        rcases ha with rfl | rfl | rfl | rfl <;> refine ⟨rfl, by decide⟩
      exact this a
    have dr := drawn_ok h (here + 5 + (a.1 : Int)) ix.2
    have eq0 : ∀ v : Int, eqR (.int v) (.int 0) = .ok (.bl (decide (v = 0))) := by
      intro v
      have : (v == 0) = decide (v = 0) := by by_cases e : v = 0 <;> simp [e]
      unfold eqR; simp [dle, eqD, this]
    have z4 : lstR [.int 4, .int 2, .int 9, .int 6] = .ok [.int 4, .int 2, .int 9, .int 6] := rfl
    have zl : (List.filter (markOn ns here) pre).length ≤ 3 := Nat.le_trans (List.length_filter_le ..) hl
    by_cases hm : drawn ns (here + 5 + (a.1 : Int)) (odd4 a.1) = 0
    · have mo : markOn ns here a = true := decide_eq_true hm
      have zz : (⟨((pre.filter (markOn ns here)).map (·.2)).toArray⟩ : Str).length + (⟨#[a.2]⟩ : Str).length ≤ sizeLine := by
        rw [sizeLine_eq]
        show ((pre.filter (markOn ns here)).map (·.2)).toArray.size + 1 ≤ _
        simp
        omega
      have ap : (⟨((pre.filter (markOn ns here)).map (·.2)).toArray⟩ : Str) ++ ⟨#[a.2]⟩ = ⟨(((pre ++ [a]).filter (markOn ns here)).map (·.2)).toArray⟩ := by
        apply Str.ext'
        show ((pre.filter (markOn ns here)).map (·.2)).toArray ++ #[a.2] = _
        simp [mo]
      simp [z4, ix.1, dr, eq0, hm, addR, zz, ap]
    · have mo : markOn ns here a = false := decide_eq_false hm
      simp [z4, ix.1, dr, eq0, hm, mo]
theorem m_scene {ns : List Int} (h : ns.length ≤ 63) (at_ : Int) : den__law_scene [.frz ns, .int at_] = .ok (scD (scene ns at_)) := by
  show runB 12 g__law_scene [.frz ns, .int at_] = _
  have d0 := drawn_in h at_ (many := 8) (by omega)
  have d1 := drawn_in h (at_ + 1) (many := 8) (by omega)
  have rg : range1R (.int (drawn ns at_ 8)) = .ok ((List.range (drawn ns at_ 8).toNat).map fun i : Nat => D.int (i : Int)) := by
    unfold range1R rngD
    simp only
    rw [if_pos (by omega)]
    simp
  unfold runB g__law_scene
  have tn : tupR [] = .ok (.tup []) := rfl
  simp only [List.map_cons, List.map_nil, List.replicate, List.cons_append, List.nil_append, sSeq_ap, sSet_ap, eUn_ap, aNil_ap, R.ok_bind, tn, liftO_ok, List.set_cons_succ, List.set_cons_zero, seqO_nx, aCons_ap, getD_0, getD_s, eBin_ap, eC_ap, addR_int, drawn_ok h _ (many := 8) (by omega), sFor_ap, rg]
  generalize hB : (sEnd [4, 5, 6, 7, 8, 9, 10, 11, 12] _ : En → Out) = B
  have k := forO_fold (T := nameT 4) (G := B) (f := fun i : Nat => D.int (i : Int)) (inv := fun done => [.d (.frz ns), .d (.int at_), .d (scD (mkSc ns at_ done.length)), .d (.int (drawn ns (at_ + 1) 8)), .u, .u, .u, .u, .u, .u, .u, .u, .u, .u]) (List.range (drawn ns at_ 8).toNat) [] (fun a pre rest hx => ?_)
  · simp at k
    have e0 : scD (mkSc ns at_ 0) = .tup [] := rfl
    rw [e0] at k
    rw [k]
    rfl
  · have hpre : a = pre.length ∧ pre.length < (drawn ns at_ 8).toNat := by
      have l := congrArg List.length hx
      simp at l
      have g := congrArg (fun l => l[pre.length]?) hx
      simp at g
      rw [List.getElem?_range (by omega)] at g
      simp at g
      omega
    obtain ⟨rfl, hk⟩ := hpre
    refine ⟨_, by simp; rfl, .inl ?_⟩
    rw [← hB]
    have kk : (pre.length : Int) < 8 := by omega
    generalize hS : mkSc ns at_ pre.length = S
    have lS : S.length = pre.length := by rw [← hS]; exact mkSc_len ns at_ _
    generalize hk' : pre.length = k at *
    have comp : compO (nameT 13) tTrue (eBin ixR (getD' 13) (eC (.int 0))) [.d (.frz ns), .d (.int at_), .d (scD S), .d (.int (drawn ns (at_ + 1) 8)), .d (.int (k : Int)), .d (.int (at_ + 3 + 9 * (k : Int))), .u, .u, .u, .u, .u, .u, .u, .u] (S.map Box.D) = .ok ((names S).map D.str) := by
      rw [compO_all (g := fun b => D.str b.nm) S fun b _ => ⟨_, rfl, rfl, by simp⟩]; simp [names, List.map_map, Function.comp_def]
    have hd := drawn_in h (at_ + 3 + 9 * (k : Int)) (many := (k : Int) + 1) (by omega)
    have ixa := ix_sL (xs := ("" : Str) :: names S) hd.1 (by rw [List.length_cons, names_length, lS]; omega) ""
    rw [sL_cons] at ixa
    have z1 : 1 + S.length ≤ 1000 := by omega
    have z2 : S.length + 1 ≤ 1000 := by omega
    have r2 : range1R (.int 2) = .ok [.int 0, .int 1] := rfl
    have dn := fun j : Int => drawn_ok h j (many := 9) (by omega)
    have dk := drawn_ok h (at_ + 3 + 9 * (k : Int)) (many := (k : Int) + 1) (by omega)
    have m9 : mulR (.int 9) (.int (k : Int)) = .ok (.int (9 * (k : Int))) := by simp [mulR]
    have il := ix_let (k : Int) (drawn ns (at_ + 1) 8) (by omega) d1.1
    have md : modR (.int ((k : Int) + drawn ns (at_ + 1) 8)) (.int 8) = .ok (.int (((k : Int) + drawn ns (at_ + 1) 8) % 8)) := rfl
    have tl : ∀ xs : List D, tupleR [.lst xs] = .ok (.tup xs) := fun _ => rfl
    have it : itemsR (scD S) = .ok (S.map Box.D) := rfl
    have fin : ∀ b : Box, addR (scD S) (.tup [.tup [.str b.nm, .str b.ar, .int b.l, .int b.t, .int b.w, .int b.h, .str b.ms]]) = .ok (scD (S ++ [b])) := by
      intro b
      unfold scD
      rw [addR_t (by simp; omega)]
      simp [Box.D]
    have nx : mkSc ns at_ (k + 1) = S ++ [mkBox ns at_ k S] := by rw [mkSc, hS]
    have f1 : letter (k + (drawn ns (at_ + 1) 8).toNat) = (mkBox ns at_ k S).nm := rfl
    have f2 : (((("" : Str) :: names S)[(drawn ns (at_ + 3 + 9 * (k : Int)) ((k : Int) + 1)).toNat]?).getD "") = (mkBox ns at_ k S).ar := by simp [mkBox]
    have f3 : drawn ns (at_ + 3 + 9 * (k : Int) + 1) 9 - 3 = (mkBox ns at_ k S).l := rfl
    have f4 : drawn ns (at_ + 3 + 9 * (k : Int) + 1 + 1) 9 - 3 = (mkBox ns at_ k S).t := rfl
    have f5 : drawn ns (at_ + 3 + 9 * (k : Int) + 3) 9 = (mkBox ns at_ k S).w := rfl
    have f6 : drawn ns (at_ + 3 + 9 * (k : Int) + 3 + 1) 9 = (mkBox ns at_ k S).h := rfl
    have f7 : (⟨((marks4.filter (markOn ns (at_ + 3 + 9 * (k : Int)))).map (·.2)).toArray⟩ : Str) = (mkBox ns at_ k S).ms := rfl
    have fin := fin (mkBox ns at_ k S)
    simp only [List.nil_append, List.length_append, List.length_singleton, hk', nx]
    generalize mkBox ns at_ k S = bx at *
    simp [m9, lstR_s, addR_l, addR_t, tupR_s, it, comp, z1, names_length, dk, ixa, r2, compO, dn, marks_run h, md, il, tl, fin, f1, f2, f3, f4, f5, f6, f7]
end Fo

namespace Fo
open PySem Dx Dn
theorem cutL_to {α : Type} (xs : List α) (j : Nat) : cutL xs none (some (j : Int)) = xs.take j := by
  unfold cutL
  rw [HT.sIx_nat, HT.sIx_none, List.drop_zero, Nat.sub_zero]
  by_cases h2 : j ≤ xs.length
  · rw [Nat.min_eq_left h2]
  · rw [Nat.min_eq_right (by omega), List.take_of_length_le (Nat.le_refl _), List.take_of_length_le (by omega)]
def plc (xs : List Str) (n : Str) : Nat := xs.findIdx fun x => decide (x = n)
end Fo

namespace Fo
open PySem Dx Dn
structure Area where
  l : Int
  t : Int
  r : Int
  b : Int
deriving DecidableEq
def Area.D (a : Area) : D := .tup [.int a.l, .int a.t, .int a.r, .int a.b]
def areaA (S : List Box) (b : Box) : Area := ⟨(offs S (path S b.nm)).1, (offs S (path S b.nm)).2, (offs S (path S b.nm)).1 + b.w, (offs S (path S b.nm)).2 + b.h⟩
def mark (c : Nat) (b : Box) : Bool := decide (c ∈ b.ms.cps.toList)
def shown (S : List Box) (n : Str) : Bool := (path S n).all fun m => match findB S m with
  | some b => !mark 104 b
  | none => true
def clips (S : List Box) (ns : List Str) : List Area := ns.flatMap fun m => match findB S m with
  | some b => if mark 99 b = true then [areaA S b] else []
  | none => []
end Fo

namespace Fo
open PySem Dx Dn
def has (a : Area) (x y : Int) : Bool := (decide (a.l ≤ x) && decide (x < a.r)) && (decide (a.t ≤ y) && decide (y < a.b))
def lets (S : List Box) (n : Str) : Bool := match findB S n with
  | some b => mark 108 b
  | none => false
def touch (S : List Box) (x y : Int) (n : Str) : Bool := match findB S n with
  | some b => shown S n && (has (areaA S b) x y && (clips S (path S n)).all fun a => has a x y)
  | none => false
def tops (S : List Box) : List Str := ((kids S "").filter fun n => shown S n && !lets S n).reverse
def hits (S : List Box) (x y : Int) : List Str := (tops S).filter (touch S x y)
def hitPath (S : List Box) (x y : Int) : List Str := match hits S x y with
  | [] => []
  | n :: _ => path S n
end Fo

namespace Fo
open PySem Dx Dn
end Fo

namespace Fo
open PySem Dx Dn
end Fo

namespace Fo
open PySem Dx Dn
def rngI (lo : Int) (n : Nat) : List Int := (List.range n).map fun i : Nat => lo + (i : Int)
def grid (a : Area) : List (Int × Int) := (rngI a.l (a.r - a.l).toNat).flatMap fun x => (rngI a.t (a.b - a.t).toNat).map fun y => (x, y)
def small (S : List Box) : Prop := ∀ b ∈ S, -1000 ≤ b.l ∧ b.l ≤ 1000 ∧ -1000 ≤ b.t ∧ b.t ≤ 1000 ∧ 0 ≤ b.w ∧ b.w ≤ 1000 ∧ 0 ≤ b.h ∧ b.h ≤ 1000
def over (S : List Box) (n : Str) : List Str := (tops S).take (plc (tops S) n)
def front (S : List Box) (n : Str) (p : Int × Int) : Bool := touch S p.1 p.2 n && !(over S n).any fun m => touch S p.1 p.2 m
def cnt (S : List Box) (b : Box) : Nat := if shown S b.nm && !mark 108 b then ((grid (areaA S b)).countP (front S b.nm)) else 0
end Fo

namespace Fo
open PySem Dx Dn
end Fo

namespace Fo
open PySem Dx Dn
end Fo

namespace Fo
open PySem Dx Dn
theorem mkSc_small {ns : List Int} (h : ns.length ≤ 63) (at_ : Int) : ∀ k, ∀ b ∈ mkSc ns at_ k, -3 ≤ b.l ∧ b.l ≤ 5 ∧ -3 ≤ b.t ∧ b.t ≤ 5 ∧ 0 ≤ b.w ∧ b.w ≤ 8 ∧ 0 ≤ b.h ∧ b.h ≤ 8
  | 0, b, hb => by cases hb
  | k + 1, b, hb => by
    rw [mkSc] at hb
    rcases List.mem_append.mp hb with hb | hb
    · exact mkSc_small h at_ k b hb
    · rw [List.mem_singleton] at hb
      subst hb
      have d := fun j : Int => drawn_in h j (many := 9) (by omega)
      have d1 := d (at_ + 3 + 9 * (k : Int) + 1)
      have d2 := d (at_ + 3 + 9 * (k : Int) + 1 + 1)
      have d3 := d (at_ + 3 + 9 * (k : Int) + 3)
      have d4 := d (at_ + 3 + 9 * (k : Int) + 3 + 1)
      unfold mkBox
      simp only
      omega
end Fo

namespace Fo
open PySem Dx Dn
def cntN (S : List Box) (m : Str) : Nat := match findB S m with
  | some b => cnt S b
  | none => 0
end Fo

namespace Fo
open PySem Dx Dn
def cutS (S : List Box) (n : Str) : List Box := S.filter fun b => !decide (b.nm ∈ blk S n)
def inS (S : List Box) (n : Str) : List Box := S.filter fun b => decide (b.nm ∈ blk S n)
def raisedS (S : List Box) (n : Str) : List Box := cutS S n ++ inS S n
section
variable {S S' : List Box} (w : wf [] S) (w' : wf [] S') (sub : ∀ b ∈ S', b ∈ S)
include w w' sub
end
end Fo

namespace Fo
open PySem Dx Dn
end Fo

namespace Ty
open PySem Dx Dn Fo
open Enc (enc)
noncomputable section
open Classical
def okS (S : Tu Box) : Prop := wf [] S.l ∧ S.l.length ≤ 100
def g_box_of (S : Tu Box) (n : Str) : R Box := match findB S.l n with | some b => .ok b | none => .exc "NoBox"
def g_path_of (S : Tu Box) (n : Str) : R (List Str) := if okS S then (if n ∈ names S.l then .ok (path S.l n) else .exc "NoBox") else .bad
def g_children (S : Tu Box) (n : Str) : R (List Str) := .ok (children S.l n)
def g_painted (S : Tu Box) : R (List Str) := if okS S then .ok (kids S.l "") else .bad
def g_below (S : Tu Box) (n : Str) : R (List Str) := if okS S then (if n ∈ names S.l then .ok (blk S.l n) else .exc "NoBox") else .bad
abbrev A4 := T4 Int Int Int Int
def ar4 (a : Area) : A4 := ⟨a.l, a.t, a.r, a.b⟩
def g_area_of (S : Tu Box) (n : Str) : R A4 := if okS S then (match findB S.l n with | some b => .ok (ar4 (areaA S.l b)) | none => .exc "NoBox") else .bad
def g_cut (S : Tu Box) (n : Str) : R (Tu Box) := if okS S then (if n ∈ names S.l then .ok ⟨cutS S.l n⟩ else .exc "NoBox") else .bad
def g_raised (S : Tu Box) (n : Str) : R (Tu Box) := if okS S then (if n ∈ names S.l then .ok ⟨raisedS S.l n⟩ else .exc "NoBox") else .bad
def g_is_touched (S : Tu Box) (n : Str) (x y : Int) : R Bool := if okS S ∧ n ∈ names S.l then .ok (touch S.l x y n) else .bad
def g_is_shown (S : Tu Box) (n : Str) : R Bool := if okS S ∧ n ∈ names S.l then .ok (shown S.l n) else .bad
def g_all_hits (S : Tu Box) (x y : Int) : R (List Str) := if okS S then .ok (hits S.l x y) else .bad
def hitO (S : List Box) (x y : Int) : Option Str := (hits S x y).head?
def g_hit (S : Tu Box) (x y : Int) : R (Option Str) := if okS S then .ok (hitO S.l x y) else .bad
def g_hit_path (S : Tu Box) (x y : Int) : R (List Str) := if okS S then .ok (hitPath S.l x y) else .bad
def g_points_of (S : Tu Box) (n : Str) : R Int := if okS S ∧ small S.l ∧ n ∈ names S.l then .ok (cntN S.l n : Nat) else .bad
end
-- known ones, by computing
end Ty

namespace Ty
open PySem Dx Fo
section
variable {σ α β γ κ : Type}
theorem ixL_nat {xs : List α} {i : Nat} (h : i < xs.length) : ixL xs (i : Int) = .ok xs[i] := by
  unfold ixL; rw [atI_nat, List.getElem?_eq_getElem h]
theorem ixL_ok {xs : List α} {i : Int} (h0 : 0 ≤ i) (h1 : i < xs.length) : ∃ a, ixL xs i = .ok a ∧ a ∈ xs ∧ xs[i.toNat]? = some a := by
  obtain ⟨j, rfl⟩ := Int.eq_ofNat_of_zero_le h0
  have hj : j < xs.length := by omega
  exact ⟨xs[j], ixL_nat hj, List.getElem_mem _, by simp [hj]⟩
variable [KeyT κ] [DecidableEq κ]
end
end Ty

namespace Ty
open PySem Dx Fo
open Enc (enc)
section
variable {α β γ δ κ τ : Type} [Enc α] [Enc β] {e : En} {A B : En → R D} {p : Pat} {i : Nat}
instance {ε δ : Type} [Enc ε] [Enc γ] [Enc δ] [Co α ε] [Co β ε] [Co γ ε] [Co δ ε] : Co (T4 α β γ δ) (Tu ε) := ⟨fun x => ⟨[Co.f x.a, Co.f x.b, Co.f x.c, Co.f x.d]⟩, fun x => by show D.tup [enc (Co.f x.a), enc (Co.f x.b), enc (Co.f x.c), enc (Co.f x.d)] = _; rw [Co.h, Co.h, Co.h, Co.h]; rfl⟩
instance [EncS α] : EncS (Option α) := ⟨fun x => by
  cases x with
  | none => rfl
  | some a => exact EncS.sc a⟩
instance : Co Box (Tu D) := ⟨fun b => ⟨[.str b.nm, .str b.ar, .int b.l, .int b.t, .int b.w, .int b.h, .str b.ms]⟩, fun _ => rfl⟩
end
end Ty

namespace Fo
open PySem Dx Dn
def withinB (d : D) (lo hi : Int) : Bool := match d with
  | .int i => decide (lo ≤ i) && decide (i ≤ hi)
  | _ => false
theorem isiR_ok {d : D} (h : isFrz d = false) {T : String} (hT : T = "int" ∨ T = "bool" ∨ T = "str" ∨ T = "tuple") : isiR T d = .ok (.bl (isTy T d)) := if_pos ⟨hT, h⟩
theorem m_within {d : D} (h : isFrz d = false) (lo hi : Int) : den_is_within [d, .int lo, .int hi] = .ok (.bl (withinB d lo hi)) := by
  unfold den_is_within
  rw [defR_ok (by rfl)]
  unfold g_is_within
  cases d with
  | int i =>
    simp only [runB, List.map_cons, List.map_nil, List.replicate_zero, List.append_nil, sRet_ap, eAnd_ap, eUn_ap, getD_0, getD_s, R.ok_bind, isiR_ok (d := .int i) rfl (T := "int") (by simp), isiR_ok (d := .int i) rfl (T := "bool") (by simp), show isTy "int" (.int i) = true from rfl, show isTy "bool" (.int i) = false from rfl, boolR_bl, notR, if_true, Bool.not_false, eChain_ap, chainR, leR]
    show _ = R.ok (D.bl (decide (lo ≤ i) && decide (i ≤ hi)))
    cases decide (lo ≤ i) <;> rfl
  | frz ns => cases h
  | opq => cases h
  | _ => rfl
def charsIn (s z : Str) : Bool := s.cps.toList.all fun c => decide (c ∈ z.cps.toList)
theorem all_bls (xs : List Bool) : allR [.lst (xs.map D.bl)] = .ok (.bl (xs.all id)) := by
  unfold allR
  simp only [blsOf_map]
theorem all_chars {n : Nat} (s z : Str) (e : En) (F : En → R D) (hF : ∀ c : Nat, F ((wipeE e [n]).set n (.d (.str ⟨#[c]⟩))) = .ok (.bl (decide (c ∈ z.cps.toList)))) :
    compO (nameT n) tTrue F (wipeE e [n]) (charsD s) = .ok ((s.cps.toList.map fun c => decide (c ∈ z.cps.toList)).map D.bl) := by
  unfold charsD
  rw [compO_all (f := fun c : Nat => D.str ⟨#[c]⟩) (g := fun c : Nat => D.bl (decide (c ∈ z.cps.toList))) s.cps.toList fun c _ => ⟨_, rfl, rfl, hF c⟩, List.map_map]
  rfl
def letters : Str := "abcdefghijklmnopqrstuvwxyz"
def marksC : Str := "cfhl"
def nameB (d : D) : Bool := match d with
  | .str s => (decide (1 ≤ s.length) && decide (s.length ≤ 3)) && charsIn s letters
  | _ => false
theorem m_name {d : D} (h : isFrz d = false) : den_is_name [d] = .ok (.bl (nameB d)) := by
  unfold den_is_name
  rw [defR_ok (by rfl)]
  unfold g_is_name
  cases d with
  | str s =>
    simp only [runB, List.map_cons, List.map_nil, sRet_ap, eAnd_ap, eUn_ap, getD_0, R.ok_bind, isiR_ok (d := .str s) rfl (T := "str") (by simp), show isTy "str" (.str s) = true from rfl, boolR_bl, if_true, eChain_ap, chainR, leR, eC_ap, aCons_ap, aNil_ap, lenR, eOfF_ap, eComp_ap, List.cons_append, List.nil_append]
    rw [show itemsR (.str s) = .ok (charsD s) from rfl]
    simp only [R.ok_bind]
    rw [all_chars (n := 1) s letters _ _ fun c => rfl]
    simp only [R.ok_bind, all_bls]
    show _ = R.ok (D.bl ((decide (1 ≤ s.length) && decide (s.length ≤ 3)) && charsIn s letters))
    have e : (s.cps.toList.map fun c => decide (c ∈ letters.cps.toList)).all id = charsIn s letters := by unfold charsIn; rw [List.all_map]; rfl
    rw [e]
    have e1 : decide ((1 : Int) ≤ (s.length : Int)) = decide (1 ≤ s.length) := by rw [decide_eq_decide]; omega
    have e2 : decide ((s.length : Int) ≤ 3) = decide (s.length ≤ 3) := by rw [decide_eq_decide]; omega
    rw [e1, e2]
    cases decide (1 ≤ s.length) with
    | false => rfl
    | true =>
      simp only [if_true, boolR_bl, R.ok_bind]
      cases decide (s.length ≤ 3) <;> rfl
  | frz ns => cases h
  | opq => cases h
  | _ => rfl
def risL : List Nat → Bool
  | a :: b :: r => decide (a < b) && risL (b :: r)
  | _ => true
def marksB (d : D) : Bool := match d with
  | .str s => charsIn s marksC && risL s.cps.toList
  | _ => false
theorem lt_chr (a b : Nat) : ltR (.str ⟨#[a]⟩) (.str ⟨#[b]⟩) = .ok (.bl (decide (a < b))) := by
  show R.ok (D.bl (decide (([a] : List Nat) < [b]))) = _
  congr 2
  rw [decide_eq_decide]
  constructor
  · intro h
    cases h with
    | rel h => exact h
    | cons h => cases h
  · exact fun h => .rel h
theorem zip_ris (l : List Nat) : ((l.zip (l.drop 1)).map fun p => decide (p.1 < p.2)).all id = risL l := by
  induction l with
  | nil => rfl
  | cons a l ih =>
    cases l with
    | nil => rfl
    | cons b r =>
      have ih : (((b :: r).zip r).map fun p => decide (p.1 < p.2)).all id = risL (b :: r) := ih
      show (decide (a < b) && (((b :: r).zip r).map fun p => decide (p.1 < p.2)).all id) = _
      rw [ih]; rfl
theorem m_marks {d : D} (h : isFrz d = false) : den_are_marks [d] = .ok (.bl (marksB d)) := by
  unfold den_are_marks
  rw [defR_ok (by rfl)]
  unfold g_are_marks
  cases d with
  | str s =>
    simp only [runB, List.map_cons, List.map_nil, sSeq_ap, sIf_ap, tOr_ap, tNot_ap, tVal_ap, sRet_ap, eUn_ap, getD_0, R.ok_bind, isiR_ok (d := .str s) rfl (T := "str") (by simp), show isTy "str" (.str s) = true from rfl, boolR_bl, Bool.not_true, Bool.false_eq_true, if_false, aCons_ap, aNil_ap, eOfF_ap, eComp_ap, List.cons_append, List.nil_append]
    rw [show itemsR (.str s) = .ok (charsD s) from rfl]
    simp only [R.ok_bind]
    rw [all_chars (n := 1) s marksC _ _ fun c => rfl]
    simp only [R.ok_bind, all_bls, boolR_bl]
    have e : (s.cps.toList.map fun c => decide (c ∈ marksC.cps.toList)).all id = charsIn s marksC := by unfold charsIn; rw [List.all_map]; rfl
    rw [e]
    show _ = R.ok (D.bl (charsIn s marksC && risL s.cps.toList))
    cases charsIn s marksC with
    | false => rfl
    | true =>
      simp only [Bool.not_true, liftO, Bool.false_eq_true, if_false, sNil_ap, seqO, Bool.true_and]
      have ez : fZip (getD' 0) (eSlice (getD' 0) (eUn optR (eC (.int 1))) oNone) (Slot.d (.str s) :: List.replicate 3 Slot.u) = .ok ((s.cps.toList.zip (s.cps.toList.drop 1)).map fun p => D.tup [.str ⟨#[p.1]⟩, .str ⟨#[p.2]⟩]) := by
        have e1 : (L2.cutS s (some (1 : Int)) none).cps.toList = s.cps.toList.drop 1 := by
          have hl : s.length = s.cps.toList.length := by rw [Array.length_toList]; rfl
          show (s.cps.toList.drop (HT.sIx s.length 0 (some ((1 : Nat) : Int)))).take (HT.sIx s.length s.length none - HT.sIx s.length 0 (some ((1 : Nat) : Int))) = _
          rw [HT.sIx_nat, HT.sIx_none, hl]
          by_cases h1 : 1 ≤ s.cps.toList.length
          · rw [Nat.min_eq_left h1, List.take_of_length_le (by rw [List.length_drop]; omega)]
          · have h0 : s.cps.toList = [] := List.eq_nil_of_length_eq_zero (by omega)
            rw [h0]; rfl
        show R.ok (pairs2 (charsD s) (charsD (L2.cutS s (some 1) none))) = _
        unfold pairs2 charsD
        rw [e1, List.zip_map, List.map_map]
        rfl
      simp only [sRet_ap, eUn_ap, aCons_ap, aNil_ap, eOfF_ap, eComp_ap, ez, R.ok_bind]
      rw [compO_all (f := fun p : Nat × Nat => D.tup [.str ⟨#[p.1]⟩, .str ⟨#[p.2]⟩]) (g := fun p : Nat × Nat => D.bl (decide (p.1 < p.2))) _ fun p _ => ⟨_, rfl, rfl, lt_chr p.1 p.2⟩]
      simp only [R.ok_bind]
      rw [show ((s.cps.toList.zip (s.cps.toList.drop 1)).map fun p => D.bl (decide (p.1 < p.2))) = (((s.cps.toList.zip (s.cps.toList.drop 1)).map fun p => decide (p.1 < p.2)).map D.bl) by rw [List.map_map]; rfl, all_bls, zip_ris]
      rfl
  | frz ns => cases h
  | opq => cases h
  | _ => rfl
def strB (d : D) : Bool := match d with
  | .str _ => true
  | _ => false
def boxB (d : D) : Bool := match d with
  | .tup [a, b, c, e, f, g, m] => nameB a && (marksB m && (strB b && ((withinB c (-20) 20 && withinB e (-20) 20) && (withinB f 0 20 && withinB g 0 20))))
  | _ => false
def okD1 (d : D) : Prop := isFrz d = false ∧ ∀ xs, d = .tup xs → ∀ x ∈ xs, isFrz x = false
theorem isStr_ok {d : D} (h : isFrz d = false) : isiR "str" d = .ok (.bl (strB d)) := by
  rw [isiR_ok h (by simp)]
  cases d <;> rfl
theorem m_box {d : D} (h : okD1 d) : den_is_box [d] = .ok (.bl (boxB d)) := by
  obtain ⟨h0, h1⟩ := h
  unfold den_is_box
  rw [defR_ok (by rfl)]
  unfold g_is_box
  cases d with
  | tup xs =>
    have h1 := h1 xs rfl
    by_cases hl : xs.length = 7
    · obtain ⟨a, b, c, e, f, g, m, rfl⟩ : ∃ a b c e f g m, xs = [a, b, c, e, f, g, m] := by
        match xs, hl with
        | [a, b, c, e, f, g, m], _ => exact ⟨a, b, c, e, f, g, m, rfl⟩
      have ha := h1 a (by simp)
      have hb := h1 b (by simp)
      have hc := h1 c (by simp)
      have he := h1 e (by simp)
      have hf := h1 f (by simp)
      have hg := h1 g (by simp)
      have hm := h1 m (by simp)
      have i0 : ixR (.tup [a, b, c, e, f, g, m]) (.int 0) = .ok a := rfl
      have i1 : ixR (.tup [a, b, c, e, f, g, m]) (.int 1) = .ok b := rfl
      have i6 : ixR (.tup [a, b, c, e, f, g, m]) (.int 6) = .ok m := rfl
      have s1 : sliceR (.tup [a, b, c, e, f, g, m]) (some 2) (some 4) = .ok (.tup [c, e]) := rfl
      have s2 : sliceR (.tup [a, b, c, e, f, g, m]) (some 4) (some 6) = .ok (.tup [f, g]) := rfl
      have w1 : ∀ (n : Nat) (env : En) (lo hi : Int) (F : En → R D) (x y : D), (∀ z, (z = x ∨ z = y) → F ((wipeE env [n]).set n (.d z)) = .ok (.bl (withinB z lo hi))) → compO (nameT n) tTrue F (wipeE env [n]) [x, y] = .ok ([withinB x lo hi, withinB y lo hi].map D.bl) := fun n env lo hi F x y hF => by
        have := compO_all (T := nameT n) (C := tTrue) (F := F) (f := fun z : D => z) (g := fun z : D => D.bl (withinB z lo hi)) (e := wipeE env [n]) [x, y] fun z hz => ⟨_, rfl, rfl, hF z (by simpa using hz)⟩
        simpa using this
      simp only [runB, List.map_cons, List.map_nil, sSeq_ap, sIf_ap, tOr_ap, tNot_ap, tVal_ap, tBin_ap, sRet_ap, eUn_ap, eBin_ap, eC_ap, eSlice_ap, optR_int, getD_0, R.ok_bind, isiR_ok (d := .tup [a, b, c, e, f, g, m]) rfl (T := "tuple") (by simp), show isTy "tuple" (.tup [a, b, c, e, f, g, m]) = true from rfl, boolR_bl, Bool.not_true, Bool.false_eq_true, if_false, aCons_ap, aNil_ap, List.cons_append, List.nil_append, show lenR [.tup [a, b, c, e, f, g, m]] = .ok (.int 7) from rfl, show neR (.int 7) (.int 7) = .ok (.bl false) from rfl, i0, i1, i6, s1, s2, m_name ha, m_marks hm, isStr_ok hb]
      show _ = R.ok (D.bl (nameB a && (marksB m && (strB b && ((withinB c (-20) 20 && withinB e (-20) 20) && (withinB f 0 20 && withinB g 0 20))))))
      cases nameB a with
      | false => rfl
      | true =>
        cases marksB m with
        | false => rfl
        | true =>
          simp only [Bool.not_true, Bool.false_eq_true, if_false, liftO, sNil_ap, seqO, sSeq_ap, sIf_ap, tOr_ap, tNot_ap, tVal_ap, sRet_ap, eUn_ap, eBin_ap, eC_ap, eSlice_ap, optR_int, getD_0, R.ok_bind, boolR_bl, aCons_ap, aNil_ap, eOfF_ap, eComp_ap, i1, s1, s2, isStr_ok hb, itemsR_tup]
          rw [w1 1 _ (-20) 20 _ c e (fun z hz => by
            show den_is_within [z, .int (0 - 20), .int 20] = _
            rw [m_within (by rcases hz with rfl | rfl; exact hc; exact he)]; rfl)]
          simp only [R.ok_bind, all_bls, boolR_bl]
          cases strB b with
          | false => rfl
          | true =>
            simp only [Bool.not_true, Bool.false_eq_true, if_false, Bool.true_and, List.all_cons, List.all_nil, id, Bool.and_true]
            cases (withinB c (-20) 20 && withinB e (-20) 20) with
            | false => rfl
            | true =>
              simp only [Bool.not_true, Bool.false_eq_true, if_false, getD_0, R.ok_bind, s2, itemsR_tup]
              rw [w1 2 _ 0 20 _ f g (fun z hz => by
                show den_is_within [z, .int 0, .int 20] = _
                rw [m_within (by rcases hz with rfl | rfl; exact hf; exact hg)])]
              simp only [R.ok_bind, all_bls, List.all_cons, List.all_nil, id, Bool.and_true, Bool.true_and]
    · simp only [runB, List.map_cons, List.map_nil, sSeq_ap, sIf_ap, tOr_ap, tNot_ap, tVal_ap, tBin_ap, sRet_ap, eUn_ap, eC_ap, getD_0, R.ok_bind, isiR_ok (d := .tup xs) rfl (T := "tuple") (by simp), show isTy "tuple" (.tup xs) = true from rfl, boolR_bl, Bool.not_true, Bool.false_eq_true, if_false, aCons_ap, aNil_ap, List.cons_append, List.nil_append, show lenR [.tup xs] = .ok (.int xs.length) from rfl]
      have hne : neR (.int (xs.length : Int)) (.int 7) = .ok (.bl true) := by
        show R.ok (D.bl (!decide ((xs.length : Int) = 7))) = _
        rw [decide_eq_false (by omega)]; rfl
      rw [hne]
      have hb : boxB (.tup xs) = false := by
        unfold boxB
        split
        · rename_i e; cases e; exact absurd rfl hl
        · rfl
      rw [hb]
      rfl
  | frz ns => cases h0
  | opq => cases h0
  | _ => rfl
end Fo

namespace Fo
open PySem Dx Dn
def nmD (d : D) : Str := match d with
  | .tup (.str s :: _) => s
  | _ => ""
def arD (d : D) : Str := match d with
  | .tup (_ :: .str s :: _) => s
  | _ => ""
def nodB : List Str → List D → Bool
  | _, [] => true
  | ns, x :: xs => !decide (nmD x ∈ ns) && nodB (ns ++ [nmD x]) xs
def arB : List Str → List D → Bool
  | _, [] => true
  | ns, x :: xs => (decide (arD x = "") || decide (arD x ∈ ns)) && arB (ns ++ [nmD x]) xs
def lawB : List Str → List D → Bool
  | _, [] => true
  | ns, x :: xs => (boxB x && (!decide (nmD x ∈ ns) && (decide (arD x = "") || decide (arD x ∈ ns)))) && lawB (ns ++ [nmD x]) xs
theorem lawB_eq : ∀ (xs : List D) (ns : List Str), lawB ns xs = (xs.all boxB && (nodB ns xs && arB ns xs))
  | [], _ => rfl
  | x :: xs, ns => by
    unfold lawB nodB arB
    rw [lawB_eq xs, List.all_cons]
    cases boxB x <;> cases decide (nmD x ∈ ns) <;> cases (decide (arD x = "") || decide (arD x ∈ ns)) <;> cases xs.all boxB <;> simp
def scB (d : D) : Bool := match d with
  | .tup xs => decide (xs.length ≤ 12) && lawB [] xs
  | _ => false
def okD2 (d : D) : Prop := isFrz d = false ∧ ∀ xs, d = .tup xs → ∀ x ∈ xs, okD1 x
theorem nodB_iff : ∀ (xs : List D) (ns : List Str), nodB ns xs = true ↔ (∀ x ∈ xs, nmD x ∉ ns) ∧ (xs.map nmD).Nodup
  | [], ns => by simp [nodB]
  | x :: xs, ns => by
    unfold nodB
    rw [Bool.and_eq_true, nodB_iff xs, List.map_cons, List.nodup_cons]
    simp only [Bool.not_eq_true', decide_eq_false_iff_not, List.mem_append, List.mem_singleton, not_or, List.mem_cons, forall_eq_or_imp, List.mem_map, not_exists, not_and, List.not_mem_nil, not_false_eq_true, and_true]
    constructor
    · rintro ⟨h1, h2, h3⟩
      exact ⟨⟨h1, fun y hy => (h2 y hy).1⟩, fun y hy e => (h2 y hy).2 e, h3⟩
    · rintro ⟨⟨h1, h2⟩, h3, h4⟩
      exact ⟨h1, fun y hy => ⟨h2 y hy, h3 y hy⟩, h4⟩
theorem box_shape {d : D} (h : boxB d = true) : ∃ s b c e f g m, d = .tup [.str s, .str b, c, e, f, g, m] := by
  unfold boxB at h
  split at h
  · rename_i a b c e f g m
    rw [Bool.and_eq_true, Bool.and_eq_true, Bool.and_eq_true] at h
    cases a with
    | str s =>
      cases b with
      | str b => exact ⟨s, b, c, e, f, g, m, rfl⟩
      | _ => exact absurd h.2.2.1 (by simp [strB])
    | _ => exact absurd h.1 (by simp [nameB])
  · cases h
theorem nub_le {κ : Type} [DecidableEq κ] : ∀ ks : List κ, (Sx.nub ks).length ≤ ks.length
  | [] => Nat.le_refl _
  | k :: ks => by
    have := nub_le ks
    unfold Sx.nub
    split
    · rw [List.length_cons]; omega
    · rw [List.length_cons, List.length_cons]; omega
theorem nub_lt {κ : Type} [DecidableEq κ] : ∀ ks : List κ, (Sx.nub ks).length < ks.length ↔ ¬ ks.Nodup
  | [] => by simp [Sx.nub]
  | k :: ks => by
    have ih := nub_lt ks
    have := nub_le ks
    unfold Sx.nub
    rw [List.nodup_cons]
    split
    · rename_i h
      rw [List.length_cons]
      constructor
      · intro _ z; exact z.1 h
      · intro _; omega
    · rename_i h
      rw [List.length_cons, List.length_cons]
      constructor
      · intro z y; exact ih.mp (by omega) y.2
      · intro z; have := ih.mpr fun y => z ⟨h, y⟩; omega
theorem lenSet_strs (xs : List Str) (h : xs.length < 4000) : lenSetR (sL xs) = .ok (.int (Sx.nub xs).length) := by
  have := Ty.ro_lenSetS xs
  unfold Ty.lenSetG at this
  rw [if_pos h] at this
  exact this
theorem ar_all (full : List Str) : ∀ (xs : List D) (ns : List Str), full = ns ++ xs.map nmD → ((xs.zipIdx ns.length).map fun p => (decide (arD p.1 = "") || decide (arD p.1 ∈ full.take p.2))).all id = arB ns xs
  | [], _, _ => rfl
  | x :: xs, ns, e => by
    rw [List.zipIdx_cons, List.map_cons, List.all_cons]
    have ih := ar_all full xs (ns ++ [nmD x]) (by rw [e, List.map_cons, List.append_assoc]; rfl)
    rw [List.length_append, List.length_singleton] at ih
    rw [ih]
    show _ = ((decide (arD x = "") || decide (arD x ∈ ns)) && arB (ns ++ [nmD x]) xs)
    have : full.take ns.length = ns := by rw [e]; exact List.take_left' rfl
    rw [this]
    rfl
theorem m_isScene {d : D} (h : okD2 d) : den_is_scene [d] = .ok (.bl (scB d)) := by
  obtain ⟨h0, h1⟩ := h
  unfold den_is_scene
  rw [defR_ok (by rfl)]
  unfold g_is_scene
  cases d with
  | tup xs =>
    have h1 := h1 xs rfl
    simp only [runB, List.map_cons, List.map_nil, sSeq_ap, sIf_ap, tOr_ap, tNot_ap, tVal_ap, tBin_ap, sRet_ap, eUn_ap, eC_ap, getD_0, R.ok_bind, isiR_ok (d := .tup xs) rfl (T := "tuple") (by simp), show isTy "tuple" (.tup xs) = true from rfl, boolR_bl, Bool.not_true, Bool.false_eq_true, if_false, aCons_ap, aNil_ap, List.cons_append, List.nil_append, show lenR [.tup xs] = .ok (.int xs.length) from rfl, show gtR (.int (xs.length : Int)) (.int 12) = .ok (.bl (decide ((12 : Int) < xs.length))) from rfl, eOfF_ap, eComp_ap, itemsR_tup]
    show _ = R.ok (D.bl (decide (xs.length ≤ 12) && lawB [] xs))
    by_cases hl : xs.length ≤ 12
    · rw [decide_eq_true hl, decide_eq_false (show ¬ (12 : Int) < xs.length by omega), lawB_eq, Bool.true_and]
      simp only [Bool.false_eq_true, if_false]
      have ec := compO_all (T := nameT 2) (C := tTrue) (F := eUn den_is_box (aCons (getD' 2) aNil)) (f := fun z : D => z) (g := fun z : D => D.bl (boxB z)) (e := wipeE (Slot.d (.tup xs) :: List.replicate 3 Slot.u) [2]) xs fun z hz => ⟨_, rfl, rfl, m_box (h1 z hz)⟩
      rw [List.map_id'] at ec
      rw [ec]
      have eb : (xs.map fun z => D.bl (boxB z)) = (xs.map boxB).map D.bl := by rw [List.map_map]; rfl
      have ea : (xs.map boxB).all id = xs.all boxB := by rw [List.all_map]; rfl
      simp only [R.ok_bind]
      rw [eb, all_bls, ea]
      simp only [boolR_bl, R.ok_bind]
      cases hab : xs.all boxB with
      | false => rfl
      | true =>
        rw [List.all_eq_true] at hab
        simp only [Bool.not_true, liftO, Bool.false_eq_true, if_false, sNil_ap, seqO, sSeq_ap, sSet_ap, eOfF_ap, eComp_ap, eUn_ap, getD_0, R.ok_bind, itemsR_tup, Bool.true_and]
        have en := compO_all (T := nameT 2) (C := tTrue) (F := eBin ixR (getD' 2) (eC (.int 0))) (f := fun z : D => z) (g := fun z : D => D.str (nmD z)) (e := wipeE (Slot.d (.tup xs) :: List.replicate 3 Slot.u) [2]) xs fun z hz => by
          obtain ⟨s, b, c, e, f, g, m, rfl⟩ := box_shape (hab z hz)
          exact ⟨_, rfl, rfl, rfl⟩
        rw [List.map_id'] at en
        rw [en]
        have es : (xs.map fun z => D.str (nmD z)) = (xs.map nmD).map D.str := by rw [List.map_map]; rfl
        rw [es]
        simp only [R.ok_bind, liftO, seqO, show List.replicate 3 Slot.u = [Slot.u, Slot.u, Slot.u] from rfl, List.set_cons_zero, List.set_cons_succ, sIf_ap, tBin_ap, eUn_ap, eC_ap, getD_0, getD_s, aCons_ap, aNil_ap, sRet_ap, eOfF_ap, eComp_ap, sSeq_ap]
        rw [show (D.lst ((xs.map nmD).map D.str)) = sL (xs.map nmD) from rfl, lenSet_strs _ (by rw [List.length_map]; omega)]
        rw [show lenR [sL (xs.map nmD)] = .ok (.int (xs.map nmD).length) by unfold sL lenR; simp]
        simp only [R.ok_bind]
        rw [show ltR (.int ((Sx.nub (xs.map nmD)).length : Int)) (.int ((xs.map nmD).length : Int)) = .ok (.bl (decide ((Sx.nub (xs.map nmD)).length < (xs.map nmD).length))) by
          show R.ok (D.bl (decide _)) = _
          congr 2
          rw [decide_eq_decide]; omega]
        simp only [R.ok_bind, boolR_bl]
        by_cases nd : (xs.map nmD).Nodup
        · rw [decide_eq_false (fun z => (nub_lt _).mp z nd)]
          have hn : nodB [] xs = true := (nodB_iff xs []).mpr ⟨fun _ _ => by simp, nd⟩
          rw [hn, Bool.true_and]
          simp only [Bool.false_eq_true, if_false, sNil_ap, fEnT_ap, getD_0, R.ok_bind]
          have ep := compO_all (T := tupT [3, 2]) (C := tTrue) (F := (eOr (eBin eqR (eBin ixR (getD' 2) (eC (.int 1))) (eC (.str ""))) (eBin inR (eBin ixR (getD' 2) (eC (.int 1))) (eSlice (getD' 1) oNone (eUn optR (getD' 3))))))
            (f := fun p : D × Nat => D.tup [.int (p.2 : Nat), p.1]) (g := fun p : D × Nat => D.bl (decide (arD p.1 = "") || decide (arD p.1 ∈ (xs.map nmD).take p.2))) (e := wipeE [Slot.d (.tup xs), Slot.d (sL (xs.map nmD)), Slot.u, Slot.u] [3, 2]) xs.zipIdx fun p hp => by
              have hz : p.1 ∈ xs := by
                have h2 : p.1 ∈ (List.zipIdx xs).map Prod.fst := List.mem_map_of_mem hp
                rw [List.zipIdx_map_fst] at h2; exact h2
              obtain ⟨s, b, c, e, f, g, m, hd⟩ := box_shape (hab p.1 hz)
              refine ⟨[Slot.d (.tup xs), Slot.d (sL (xs.map nmD)), Slot.d p.1, Slot.d (.int (p.2 : Nat))], rfl, rfl, ?_⟩
              have i1 : ixR p.1 (.int 1) = .ok (.str (arD p.1)) := by rw [hd]; rfl
              have sl : sliceR (sL (xs.map nmD)) none (some ((p.2 : Nat) : Int)) = .ok (sL ((xs.map nmD).take p.2)) := by
                show R.ok (D.lst (cutL ((xs.map nmD).map D.str) none (some ((p.2 : Nat) : Int)))) = _
                rw [cutL_to, ← List.map_take]
                rfl
              simp only [eOr_ap, eBin_ap, eUn_ap, eC_ap, getD_0, getD_s, R.ok_bind, i1, eq_str, boolR_bl, eSlice_ap, oNone_ap, optR_int, sl, in_strs]
              cases decide (arD p.1 = "") <;> rfl
          rw [show pairs0 xs = xs.zipIdx.map fun p : D × Nat => D.tup [.int (p.2 : Nat), p.1] from rfl, ep]
          simp only [R.ok_bind]
          rw [show (xs.zipIdx.map fun p : D × Nat => D.bl (decide (arD p.1 = "") || decide (arD p.1 ∈ (xs.map nmD).take p.2))) = (xs.zipIdx.map fun p : D × Nat => (decide (arD p.1 = "") || decide (arD p.1 ∈ (xs.map nmD).take p.2))).map D.bl by rw [List.map_map]; rfl, all_bls]
          have := ar_all (xs.map nmD) xs [] rfl
          rw [show xs.zipIdx = xs.zipIdx ([] : List Str).length from rfl, this]
        · rw [decide_eq_true ((nub_lt _).mpr nd)]
          have hn : nodB [] xs = false := by
            rw [Bool.eq_false_iff]
            exact fun z => nd ((nodB_iff xs []).mp z).2
          rw [hn]
          rfl
    · rw [decide_eq_false hl, decide_eq_true (show (12 : Int) < xs.length by omega)]
      rfl
  | frz ns => cases h0
  | opq => cases h0
  | _ => rfl
end Fo

namespace Fo
open PySem Dx Dn
theorem own_number : den__law_is_number = den_is_within := by
  unfold den__law_is_number den_is_within; rfl
def thin (d : D) : Prop := ∀ xs, d = .tup xs → ∀ x ∈ xs, dle 60 x = true
def joinM (s : Str) : Str := ⟨(marksC.cps.toList.filter fun c => decide (c ∈ s.cps.toList)).toArray⟩
theorem charsIn_odd (s z : Str) : (s.cps.toList.filter fun c => !decide (c ∈ z.cps.toList)) = [] ↔ charsIn s z = true := by
  unfold charsIn
  rw [List.filter_eq_nil_iff, List.all_eq_true]
  simp
theorem marks_iff (s : Str) : (charsIn s marksC && risL s.cps.toList) = decide (joinM s = s) := by
  have hm : marksC.cps.toList = [99, 102, 104, 108] := by decide
  have ris : ∀ l : List Nat, risL l = true ↔ l.Pairwise (· < ·) := by
    intro l
    induction l with
    | nil => simp [risL]
    | cons a l ih =>
      cases l with
      | nil => simp [risL]
      | cons b r =>
        show (decide (a < b) && risL (b :: r)) = true ↔ _
        rw [Bool.and_eq_true, decide_eq_true_eq, ih]
        constructor
        · rintro ⟨h1, h2⟩
          refine List.pairwise_cons.mpr ⟨fun x hx => ?_, h2⟩
          rcases List.mem_cons.mp hx with rfl | hx
          · exact h1
          · exact Nat.lt_trans h1 ((List.pairwise_cons.mp h2).1 x hx)
        · intro h
          have h := List.pairwise_cons.mp h
          exact ⟨h.1 b List.mem_cons_self, h.2⟩
  have srt : (marksC.cps.toList.filter fun c => decide (c ∈ s.cps.toList)).Pairwise (· < ·) := by
    rw [hm]
    exact List.Pairwise.filter _ (by decide)
  rw [Bool.eq_iff_iff, decide_eq_true_iff, Bool.and_eq_true, ris]
  constructor
  · rintro ⟨h1, h2⟩
    have hp : (marksC.cps.toList.filter fun c => decide (c ∈ s.cps.toList)).Perm s.cps.toList := by
      refine (List.perm_ext_iff_of_nodup (srt.imp fun h => Nat.ne_of_lt h) (h2.imp fun h => Nat.ne_of_lt h)).mpr fun c => ?_
      rw [List.mem_filter, decide_eq_true_eq]
      constructor
      · exact fun h => h.2
      · intro h
        unfold charsIn at h1
        rw [List.all_eq_true] at h1
        exact ⟨of_decide_eq_true (h1 c h), h⟩
    have e : (marksC.cps.toList.filter fun c => decide (c ∈ s.cps.toList)) = s.cps.toList := hp.eq_of_pairwise (fun a b _ _ h1 h2 => absurd h1 (Nat.lt_asymm h2)) srt h2
    unfold joinM
    rw [e]
  · intro h
    have e : s.cps.toList = marksC.cps.toList.filter fun c => decide (c ∈ s.cps.toList) := by
      conv => lhs; rw [← h]
      unfold joinM
      simp
    refine ⟨?_, e ▸ srt⟩
    unfold charsIn
    rw [List.all_eq_true]
    intro c hc
    rw [e] at hc
    exact decide_eq_true (List.mem_filter.mp hc).1
theorem joinR_strs (a : Str) (ys : List Str) : joinR (.str a) (.lst (ys.map D.str)) = if (ys.map (·.length)).sum + ys.length * a.length ≤ 16777216 ∧ sOk (Txt.join a ys) = true then .ok (.str (Txt.join a ys)) else .bad := by
  unfold joinR
  simp only [itsLT, Option.bind, strsOf_map]
theorem join_four (l : List Nat) (h : (((l.map fun c => (⟨#[c]⟩ : Str)).map (·.length)).sum + (l.map fun c => (⟨#[c]⟩ : Str)).length * ("" : Str).length ≤ 16777216 ∧ sOk (Txt.join "" (l.map fun c => (⟨#[c]⟩ : Str))) = true) ∧ Txt.join "" (l.map fun c => (⟨#[c]⟩ : Str)) = ⟨l.toArray⟩) : joinR (.str "") (.lst (l.map fun c => D.str ⟨#[c]⟩)) = .ok (.str ⟨l.toArray⟩) := by
  have e : (l.map fun c => D.str ⟨#[c]⟩) = (l.map fun c => (⟨#[c]⟩ : Str)).map D.str := by rw [List.map_map]; rfl
  rw [e, joinR_strs, if_pos h.1, h.2]
theorem join_marks (s : Str) : joinR (.str "") (.lst ((marksC.cps.toList.filter fun c => decide (c ∈ s.cps.toList)).map fun c => D.str ⟨#[c]⟩)) = .ok (.str (joinM s)) := by
  have hm : marksC.cps.toList = [99, 102, 104, 108] := by decide
  unfold joinM
  rw [hm]
  generalize (fun c : Nat => decide (c ∈ s.cps.toList)) = p
  refine join_four _ ?_
  simp only [List.filter_cons, List.filter_nil]
  cases p 99 <;> cases p 102 <;> cases p 104 <;> cases p 108 <;> exact ⟨⟨by decide, by decide +kernel⟩, by decide +kernel⟩
theorem ne_nil (xs : List D) (h : ∀ x ∈ xs, dle 60 x = true) : neR (.lst xs) (.lst []) = .ok (.bl (!decide (xs = []))) := by
  cases xs with
  | nil => rfl
  | cons x xs =>
    have hd : dle 64 (.lst (x :: xs)) = true := by
      show (x :: xs).all (dle 63) = true
      rw [List.all_eq_true]
      exact fun z hz => Ty.dle_le (by decide) (h z hz)
    show (if dle 64 (.lst (x :: xs)) && dle 64 (.lst []) then R.ok (D.bl (!eqD (.lst (x :: xs)) (.lst []))) else .bad) = _
    rw [hd]
    rfl
def ownB (ns : List Str) (d : D) : Bool := boxB d && (!decide (nmD d ∈ ns) && (decide (arD d = "") || decide (arD d ∈ ns)))
theorem m_own_box {d : D} (h : okD1 d) (ht : thin d) (ns : List Str) : den__law_is_box [d, sL ns] = .ok (.bl (ownB ns d)) := by
  obtain ⟨h0, h1⟩ := h
  unfold den__law_is_box
  rw [defR_ok (by rfl)]
  unfold g__law_is_box
  cases d with
  | tup xs =>
    have h1 := h1 xs rfl
    have ht := ht xs rfl
    by_cases hl : xs.length = 7
    · obtain ⟨a, b, c, e, f, g, m, rfl⟩ : ∃ a b c e f g m, xs = [a, b, c, e, f, g, m] := by
        match xs, hl with
        | [a, b, c, e, f, g, m], _ => exact ⟨a, b, c, e, f, g, m, rfl⟩
      have ha := h1 a (by simp)
      have hb := h1 b (by simp)
      have hc := h1 c (by simp)
      have he := h1 e (by simp)
      have hf := h1 f (by simp)
      have hg := h1 g (by simp)
      have hm := h1 m (by simp)
      have i0 : ixR (.tup [a, b, c, e, f, g, m]) (.int 0) = .ok a := rfl
      have i1 : ixR (.tup [a, b, c, e, f, g, m]) (.int 1) = .ok b := rfl
      have i2 : ixR (.tup [a, b, c, e, f, g, m]) (.int 2) = .ok c := rfl
      have i3 : ixR (.tup [a, b, c, e, f, g, m]) (.int 3) = .ok e := rfl
      have i4 : ixR (.tup [a, b, c, e, f, g, m]) (.int 4) = .ok f := rfl
      have i5 : ixR (.tup [a, b, c, e, f, g, m]) (.int 5) = .ok g := rfl
      have i6 : ixR (.tup [a, b, c, e, f, g, m]) (.int 6) = .ok m := rfl
      have s1 : sliceR (.tup [a, b, c, e, f, g, m]) none (some 2) = .ok (.tup [a, b]) := rfl
      have s2 : sliceR (.tup [a, b, c, e, f, g, m]) (some 6) none = .ok (.tup [m]) := rfl
      have ad : addR (.tup [a, b]) (.tup [m]) = .ok (.tup [a, b, m]) := by
        show (if [a, b].length + [m].length ≤ sizeLine then R.ok (D.tup ([a, b] ++ [m])) else .bad) = _
        rw [if_pos (by rw [PySem.sizeLine_eq]; show 3 ≤ 16777216; decide)]
        rfl
      have rp : List.replicate 3 Slot.u = [Slot.u, Slot.u, Slot.u] := rfl
      have ef := compO_map (T := nameT 3) (C := tNot (tVal (eUn (isiR "str") (getD' 3)))) (F := getD' 3) (f := fun z : D => z) (p := fun z : D => !strB z) (g := fun z : D => z) (e := [Slot.d (.tup [a, b, c, e, f, g, m]), Slot.d (sL ns), Slot.u, Slot.u, Slot.u]) [a, b, m] fun z hz => by
        refine ⟨_, rfl, ?_, fun _ => rfl⟩
        have hz0 : isFrz z = false := by
          simp only [List.mem_cons, List.not_mem_nil, or_false] at hz
          rcases hz with rfl | rfl | rfl <;> assumption
        show tNot (tVal (eUn (isiR "str") (getD' 3))) [Slot.d (.tup [a, b, c, e, f, g, m]), Slot.d (sL ns), Slot.u, Slot.d z, Slot.u] = _
        simp only [tNot_ap, tVal_ap, eUn_ap, getD_s, getD_0, R.ok_bind, isStr_ok hz0, boolR_bl]
      rw [List.map_id', List.map_id'] at ef
      simp only [runB, rp, List.map_cons, List.map_nil, sSeq_ap, sIf_ap, tOr_ap, tNot_ap, tVal_ap, tBin_ap, sRet_ap, eUn_ap, eBin_ap, eC_ap, eSlice_ap, optR_int, oNone_ap, getD_0, R.ok_bind, isiR_ok (d := .tup [a, b, c, e, f, g, m]) rfl (T := "tuple") (by simp), show isTy "tuple" (.tup [a, b, c, e, f, g, m]) = true from rfl, boolR_bl, Bool.not_true, Bool.false_eq_true, if_false, aCons_ap, aNil_ap, List.cons_append, List.nil_append, show lenR [.tup [a, b, c, e, f, g, m]] = .ok (.int 7) from rfl, show neR (.int 7) (.int 7) = .ok (.bl false) from rfl, liftO, seqO, sNil_ap, eOfF_ap, eComp_ap, s1, s2, ad, itemsR_tup, wipeE_cons, wipeE_nil, List.set_cons_succ, List.set_cons_zero]
      rw [ef]
      simp only [R.ok_bind, show lstR [] = .ok [] from rfl]
      rw [ne_nil _ (fun x hx => ht x (by
        have := (List.mem_filter.mp hx).1
        simp only [List.mem_cons, List.not_mem_nil, or_false] at this
        rcases this with rfl | rfl | rfl <;> simp))]
      simp only [R.ok_bind, boolR_bl]
      by_cases hstr : strB a = true ∧ strB b = true ∧ strB m = true
      · obtain ⟨z1, z2, z3⟩ := hstr
        obtain ⟨s, rfl⟩ : ∃ s, a = .str s := by cases a <;> first | exact ⟨_, rfl⟩ | cases z1
        obtain ⟨t, rfl⟩ : ∃ s, b = .str s := by cases b <;> first | exact ⟨_, rfl⟩ | cases z2
        obtain ⟨u, rfl⟩ : ∃ s, m = .str s := by cases m <;> first | exact ⟨_, rfl⟩ | cases z3
        rw [show [D.str s, D.str t, D.str u].filter (fun z => !strB z) = [] from rfl, decide_eq_true rfl]
        have eo := compO_map (T := nameT 4) (C := tBin notInR (getD' 4) (eC (.str letters))) (F := getD' 4) (f := fun c : Nat => D.str ⟨#[c]⟩) (p := fun c => !decide (c ∈ letters.cps.toList)) (g := fun c : Nat => D.str ⟨#[c]⟩) (e := [Slot.d (.tup [.str s, .str t, c, e, f, g, .str u]), Slot.d (sL ns), Slot.u, Slot.u, Slot.u]) s.cps.toList fun c _ => ⟨_, rfl, rfl, fun _ => rfl⟩
        simp only [Bool.not_true, Bool.false_eq_true, if_false, sSetFD_ap, eComp_ap, eUn_ap, eBin_ap, eC_ap, getD_0, R.ok_bind, i0, show itemsR (.str s) = .ok (s.cps.toList.map fun c => D.str ⟨#[c]⟩) from rfl, wipeE_cons, wipeE_nil, List.set_cons_succ, List.set_cons_zero, show ("abcdefghijklmnopqrstuvwxyz" : Str) = letters from rfl]
        rw [eo]
        simp only [liftO, R.ok_bind, List.set_cons_succ, List.set_cons_zero]
        have eodd : neR (.lst ((s.cps.toList.filter fun c => !decide (c ∈ letters.cps.toList)).map fun c => D.str ⟨#[c]⟩)) (.lst []) = .ok (.bl (!charsIn s letters)) := by
          rw [ne_nil _ (fun x hx => by obtain ⟨c, _, rfl⟩ := List.mem_map.mp hx; rfl)]
          congr 3
          rw [Bool.eq_iff_iff, decide_eq_true_iff, List.map_eq_nil_iff, charsIn_odd]
        have el : lenR [.str s] = .ok (.int s.length) := rfl
        simp only [tChain_ap, eC_ap, eUn_ap, eBin_ap, aCons_ap, aNil_ap, getD_0, getD_s, R.ok_bind, i0, el, chainR, leR, boolR_bl, eodd]
        rw [show decide ((1 : Int) ≤ (s.length : Int)) = decide (1 ≤ s.length) by rw [decide_eq_decide]; omega, show decide ((s.length : Int) ≤ 3) = decide (s.length ≤ 3) by rw [decide_eq_decide]; omega]
        have hgoal : ownB ns (.tup [.str s, .str t, c, e, f, g, .str u]) = (((decide (1 ≤ s.length) && decide (s.length ≤ 3)) && charsIn s letters) && ((!decide (s ∈ ns) && (decide (t = "") || decide (t ∈ ns))) && ((withinB c (-20) 20 && withinB e (-20) 20) && ((withinB f 0 20 && withinB g 0 20) && decide (joinM u = u))))) := by
          unfold ownB
          show ((((decide (1 ≤ s.length) && decide (s.length ≤ 3)) && charsIn s letters) && ((charsIn u marksC && risL u.cps.toList) && (true && ((withinB c (-20) 20 && withinB e (-20) 20) && (withinB f 0 20 && withinB g 0 20))))) && (!decide (s ∈ ns) && (decide (t = "") || decide (t ∈ ns)))) = _
          rw [marks_iff]
          cases ((decide (1 ≤ s.length) && decide (s.length ≤ 3)) && charsIn s letters) <;> cases decide (joinM u = u) <;> cases (withinB c (-20) 20 && withinB e (-20) 20) <;> cases (withinB f 0 20 && withinB g 0 20) <;> cases (!decide (s ∈ ns) && (decide (t = "") || decide (t ∈ ns))) <;> rfl
        rw [hgoal]
        cases decide (1 ≤ s.length) with
        | false => rfl
        | true =>
        cases decide (s.length ≤ 3) with
        | false => rfl
        | true =>
        cases charsIn s letters with
        | false => rfl
        | true =>
        simp only [if_true, R.ok_bind, boolR_bl, Bool.not_true, Bool.false_eq_true, if_false, Bool.true_and, sNil_ap]
        generalize D.lst ((s.cps.toList.filter fun c => !decide (c ∈ letters.cps.toList)).map fun c => D.str ⟨#[c]⟩) = od
        simp only [getD_0, getD_s, R.ok_bind, i0, i1, in_strs, boolR_bl, tAnd_ap, tBin_ap, eBin_ap, eC_ap, ne_str, notIn_strs]
        have c5 : (if decide (s ∈ ns) = true then R.ok true else (if (!decide (t = "")) = true then R.ok (!decide (t ∈ ns)) else R.ok false) : R Bool) = .ok (!(!decide (s ∈ ns) && (decide (t = "") || decide (t ∈ ns)))) := by
          cases decide (s ∈ ns) <;> cases decide (t = "") <;> cases decide (t ∈ ns) <;> rfl
        rw [c5]
        cases (!decide (s ∈ ns) && (decide (t = "") || decide (t ∈ ns))) with
        | false => rfl
        | true =>
        simp only [Bool.not_true, Bool.false_eq_true, if_false, Bool.true_and, sNil_ap, getD_0, getD_s, R.ok_bind, i2, i3, i4, i5, i6, aCons_ap, aNil_ap, eUn_ap, eC_ap, eBin_ap, negR_int, own_number, m_within hc, m_within he, m_within hf, m_within hg, boolR_bl]
        have c6 : ∀ p q : Bool, (if (!p) = true then R.ok true else R.ok (!q) : R Bool) = .ok (!(p && q)) := fun p q => by cases p <;> cases q <;> rfl
        rw [c6]
        cases (withinB c (-20) 20 && withinB e (-20) 20) with
        | false => rfl
        | true =>
        simp only [Bool.not_true, Bool.false_eq_true, if_false, Bool.true_and, sNil_ap, getD_0, getD_s, R.ok_bind, i2, i3, i4, i5, i6, aCons_ap, aNil_ap, eUn_ap, eC_ap, eBin_ap, negR_int, own_number, m_within hc, m_within he, m_within hf, m_within hg, boolR_bl]
        rw [c6]
        cases (withinB f 0 20 && withinB g 0 20) with
        | false => rfl
        | true =>
        simp only [Bool.not_true, Bool.false_eq_true, if_false, Bool.true_and, sNil_ap]
        have em := compO_map (T := nameT 4) (C := tBin inR (getD' 4) (eBin ixR (getD' 0) (eC (.int 6)))) (F := getD' 4) (f := fun c : Nat => D.str ⟨#[c]⟩) (p := fun z => decide (z ∈ u.cps.toList)) (g := fun c : Nat => D.str ⟨#[c]⟩) (e := [Slot.d (.tup [.str s, .str t, c, e, f, g, .str u]), Slot.d (sL ns), Slot.d od, Slot.u, Slot.u]) marksC.cps.toList fun z _ => ⟨_, rfl, rfl, fun _ => rfl⟩
        have ej : eJoin (eC (.str "")) (eOfF (eComp (eUn itemsR (eC (.str "cfhl"))) (nameT 4) (tBin inR (getD' 4) (eBin ixR (getD' 0) (eC (.int 6)))) (getD' 4) [4])) [Slot.d (.tup [.str s, .str t, c, e, f, g, .str u]), Slot.d (sL ns), Slot.d od, Slot.u, Slot.u] = .ok (.str (joinM u)) := by
          show ((compO (nameT 4) (tBin inR (getD' 4) (eBin ixR (getD' 0) (eC (.int 6)))) (getD' 4) [Slot.d (.tup [.str s, .str t, c, e, f, g, .str u]), Slot.d (sL ns), Slot.d od, Slot.u, Slot.u] (marksC.cps.toList.map fun c => D.str ⟨#[c]⟩) >>= fun xs => R.ok (D.lst xs)) >>= fun y => joinR (.str "") y) = _
          rw [em]
          exact join_marks u
        rw [ej]
        simp only [R.ok_bind, getD_0, i6, eq_str]
      · have hne : ¬ [a, b, m].filter (fun z => !strB z) = [] := by
          rw [List.filter_eq_nil_iff]
          intro z
          apply hstr
          refine ⟨?_, ?_, ?_⟩
          · simpa using z a (by simp)
          · simpa using z b (by simp)
          · simpa using z m (by simp)
        rw [decide_eq_false hne]
        have hb0 : boxB (.tup [a, b, c, e, f, g, m]) = false := by
          show (nameB a && (marksB m && (strB b && _))) = false
          cases a <;> first | rfl | skip
          cases m <;> first | (simp [marksB]; done) | skip
          cases b <;> first | (simp [strB]; done) | skip
          exact absurd ⟨rfl, rfl, rfl⟩ hstr
        unfold ownB
        rw [hb0]
        rfl
    · simp only [runB, List.map_cons, List.map_nil, sSeq_ap, sIf_ap, tOr_ap, tNot_ap, tVal_ap, tBin_ap, sRet_ap, eUn_ap, eC_ap, getD_0, R.ok_bind, isiR_ok (d := .tup xs) rfl (T := "tuple") (by simp), show isTy "tuple" (.tup xs) = true from rfl, boolR_bl, Bool.not_true, Bool.false_eq_true, if_false, aCons_ap, aNil_ap, List.cons_append, List.nil_append, show lenR [.tup xs] = .ok (.int xs.length) from rfl]
      have hne : neR (.int (xs.length : Int)) (.int 7) = .ok (.bl true) := by
        show R.ok (D.bl (!decide ((xs.length : Int) = 7))) = _
        rw [decide_eq_false (by omega)]; rfl
      rw [hne]
      have hb : boxB (.tup xs) = false := by
        unfold boxB
        split
        · rename_i e; cases e; exact absurd rfl hl
        · rfl
      unfold ownB
      rw [hb]
      rfl
  | frz ns => cases h0
  | opq => cases h0
  | _ => rfl
end Fo

namespace Fo
open PySem Dx Dn
def thin2 (d : D) : Prop := ∀ xs, d = .tup xs → ∀ x ∈ xs, thin x
theorem own_loop (d : D) : ∀ (xs : List D) (ns : List Str), (∀ x ∈ xs, okD1 x ∧ thin x) → ns.length + xs.length ≤ 1000 →
    ∃ e, forO (nameT 2) (sEnd [2] (sSeq (sIf (tNot (tVal (eCallS (aCons (getD' 2) (aCons (getV 1) aNil)) den__law_is_box))) (sRet (eC (.bl false))) sNil) (sMeth 1 (eBin ixR (getD' 2) (eC (.int 0))) appO))) xs [Slot.d d, Slot.ol (ns.map D.str), Slot.u] = if lawB ns xs = true then .nx e else .rt (.bl false) e
  | [], ns, _, _ => ⟨_, rfl⟩
  | x :: xs, ns, h, hl => by
    obtain ⟨h1, h2⟩ := h x List.mem_cons_self
    rw [List.length_cons] at hl
    have eb : eCallS (aCons (getD' 2) (aCons (getV 1) aNil)) den__law_is_box [Slot.d d, Slot.ol (ns.map D.str), Slot.d x] = .ok (.bl (ownB ns x)) := by
      simp only [eCallS_ap, aCons_ap, aNil_ap, getD_0, getD_s, getV_s, getV_1, R.ok_bind]
      rw [show D.lst (ns.map D.str) = sL ns from rfl, m_own_box h1 h2 ns]
      rfl
    have e1 : lawB ns (x :: xs) = (ownB ns x && lawB (ns ++ [nmD x]) xs) := rfl
    rw [e1]
    rw [forO]
    simp only [nameT_ap, List.set_cons_succ, List.set_cons_zero, sEnd_ap, sSeq_ap, sIf_ap, tNot_ap, tVal_ap, eb, R.ok_bind, boolR_bl, liftO]
    cases hb : ownB ns x with
    | false => exact ⟨_, rfl⟩
    | true =>
      have hbx : boxB x = true := by
        unfold ownB at hb
        rw [Bool.and_eq_true] at hb
        exact hb.1
      obtain ⟨s, b, c, e, f, g, m, rfl⟩ := box_shape hbx
      obtain ⟨e2, h3⟩ := own_loop d xs (ns ++ [s]) (fun x hx => h x (List.mem_cons_of_mem _ hx)) (by rw [List.length_append, List.length_singleton]; omega)
      refine ⟨e2, ?_⟩
      rw [Bool.true_and, show nmD (.tup [.str s, .str b, c, e, f, g, m]) = s from rfl, ← h3]
      simp only [Bool.not_true, Bool.false_eq_true, if_false, sNil_ap, seqO]
      have ha : sMeth 1 (eBin ixR (getD' 2) (eC (.int 0))) appO [Slot.d d, Slot.ol (List.map D.str ns), Slot.d (D.tup [D.str s, D.str b, c, e, f, g, m])] = .nx [Slot.d d, Slot.ol (List.map D.str (ns ++ [s])), Slot.d (D.tup [D.str s, D.str b, c, e, f, g, m])] := by
        show (if (ns.map D.str).length < sizeLine then Out.nx [Slot.d d, Slot.ol (List.map D.str ns ++ [D.str s]), Slot.d (D.tup [D.str s, D.str b, c, e, f, g, m])] else .bad) = _
        rw [if_pos (by rw [List.length_map, PySem.sizeLine_eq]; omega), List.map_append]
        rfl
      rw [ha]
      rfl
theorem m_own_scene {d : D} (h : okD2 d) (ht : thin2 d) : den__law_is_scene [d] = .ok (.bl (scB d)) := by
  obtain ⟨h0, h1⟩ := h
  unfold den__law_is_scene
  rw [defR_ok (by rfl)]
  unfold g__law_is_scene
  cases d with
  | tup xs =>
    have h1 := h1 xs rfl
    have ht := ht xs rfl
    simp only [runB, List.map_cons, List.map_nil, sSeq_ap, sIf_ap, tOr_ap, tNot_ap, tVal_ap, tBin_ap, sRet_ap, eUn_ap, eC_ap, getD_0, R.ok_bind, isiR_ok (d := .tup xs) rfl (T := "tuple") (by simp), show isTy "tuple" (.tup xs) = true from rfl, boolR_bl, Bool.not_true, Bool.false_eq_true, if_false, aCons_ap, aNil_ap, List.cons_append, List.nil_append, show lenR [.tup xs] = .ok (.int xs.length) from rfl, show gtR (.int (xs.length : Int)) (.int 12) = .ok (.bl (decide ((12 : Int) < xs.length))) from rfl]
    show _ = R.ok (D.bl (decide (xs.length ≤ 12) && lawB [] xs))
    by_cases hl : xs.length ≤ 12
    · rw [decide_eq_true hl, decide_eq_false (show ¬ (12 : Int) < xs.length by omega), Bool.true_and]
      obtain ⟨e, he⟩ := own_loop (.tup xs) xs [] (fun x hx => ⟨h1 x hx, ht x hx⟩) (by show 0 + _ ≤ _; omega)
      simp only [Bool.false_eq_true, if_false, liftO, sNil_ap, seqO, sSeq_ap, sSetF_ap, sFor_ap, eUn_ap, getD_0, R.ok_bind, itemsR_tup, show lstR [] = .ok [] from rfl, show List.replicate 2 Slot.u = [Slot.u, Slot.u] from rfl, List.set_cons_succ, List.set_cons_zero, aNil_ap]
      rw [show (Slot.ol []) = Slot.ol (([] : List Str).map D.str) from rfl, he]
      cases lawB [] xs with
      | false => rfl
      | true => rfl
    · rw [decide_eq_false hl, decide_eq_true (show (12 : Int) < xs.length by omega)]
      rfl
  | frz ns => cases h0
  | opq => cases h0
  | _ => rfl
structure Thing (d : D) : Prop where
  o : okD2 d
  t : thin2 d
theorem Thing.same {d : D} (h : Thing d) : den_is_scene [d] = .ok (.bl (scB d)) ∧ den__law_is_scene [d] = .ok (.bl (scB d)) := ⟨m_isScene h.o, m_own_scene h.o h.t⟩
end Fo

namespace Fo
open PySem Dx Dn
theorem dle_frz {n : Nat} {d : D} (h : dle n d = true) : isFrz d = false := by
  cases d with
  | frz ns => cases n <;> cases h
  | opq => cases n <;> cases h
  | _ => rfl
theorem dle_tup {n : Nat} {xs : List D} (h : dle (n + 1) (.tup xs) = true) : ∀ x ∈ xs, dle n x = true := by
  have h : xs.all (dle n) = true := h
  exact List.all_eq_true.mp h
theorem tup_dle {n : Nat} {xs : List D} (h : ∀ x ∈ xs, dle n x = true) : dle (n + 1) (.tup xs) = true := by
  show xs.all (dle n) = true
  exact List.all_eq_true.mpr h
theorem lst_dle {n : Nat} {xs : List D} (h : ∀ x ∈ xs, dle n x = true) : dle (n + 1) (.lst xs) = true := by
  show xs.all (dle n) = true
  exact List.all_eq_true.mpr h
theorem Thing.of {d : D} (h : dle 50 d = true) : Thing d := by
  refine ⟨⟨dle_frz h, ?_⟩, ?_⟩
  · rintro xs rfl x hx
    have h1 := dle_tup h x hx
    refine ⟨dle_frz h1, ?_⟩
    rintro ys rfl y hy
    exact dle_frz (dle_tup h1 y hy)
  · rintro xs rfl x hx ys rfl y hy
    exact Ty.dle_le (by decide) (dle_tup (dle_tup h (D.tup ys) hx) y hy)
theorem at_in {xs : List D} {i : Int} (h0 : 0 ≤ i) (h1 : i < xs.length) : ∃ x ∈ xs, L2.atI xs i = some x := by
  obtain ⟨a, e, ha, _⟩ := Ty.ixL_ok h0 h1
  refine ⟨a, ha, ?_⟩
  unfold Ty.ixL at e
  cases hz : L2.atI xs i with
  | none => rw [hz] at e; cases e
  | some z => rw [hz] at e; cases e; rfl
theorem ixL_in {xs : List D} {i : Int} (h0 : 0 ≤ i) (h1 : i < xs.length) : ∃ x ∈ xs, ixR (.lst xs) (.int i) = .ok x := by
  obtain ⟨x, hx, e⟩ := at_in h0 h1
  refine ⟨x, hx, ?_⟩
  simp only [ixR, e]
theorem ixT_in {xs : List D} {i : Int} (h0 : 0 ≤ i) (h1 : i < xs.length) : ∃ x ∈ xs, ixR (.tup xs) (.int i) = .ok x := by
  obtain ⟨x, hx, e⟩ := at_in h0 h1
  refine ⟨x, hx, ?_⟩
  simp only [ixR, e]
def oddL : List D := [.int (-1), .int 0, .int 1, .int 20, .int 21, .int (-20), .int (-21), .bl true, .non, .str "", .str "a", .str "abcd", .str "A", .str "cf", .str "fc", .str "cc", .str "x", .tup [], .lst [], .tup [.str "a", .str "", .int 0, .int 0, .int 1, .int 1, .str ""]]
theorem m_odd (m : Int) : ∃ r, den__law_odd [.int m] = .ok r ∧ dle 3 r = true := by
  have hm : 0 ≤ m % 20 ∧ m % 20 < 20 := ⟨Int.emod_nonneg _ (by decide), Int.emod_lt_of_pos _ (by decide)⟩
  obtain ⟨x, hx, e⟩ := ixL_in (xs := oddL) hm.1 (by show m % 20 < 20; exact hm.2)
  refine ⟨x, ?_, ?_⟩
  · unfold den__law_odd
    rw [defR_ok (by rfl)]
    unfold g__law_odd
    have e1 : modR (.int m) (.int 20) = .ok (.int (m % 20)) := rfl
    have e2 : ∀ z, addR (.lst [.int (-1), .int 0, .int 1, .int 20, .int 21, .int (-20), .int (-21), .bl true, .non, .str "", .str "a", .str "abcd", .str "A", .str "cf", .str "fc", .str "cc", .str "x", .tup [], .lst []]) (.lst [z]) = .ok (.lst [.int (-1), .int 0, .int 1, .int 20, .int 21, .int (-20), .int (-21), .bl true, .non, .str "", .str "a", .str "abcd", .str "A", .str "cf", .str "fc", .str "cc", .str "x", .tup [], .lst [], z]) := fun z => rfl
    have e3 : ∀ zs : List D, zs.length ≤ 7 → tupR zs = .ok (.tup zs) := fun zs h => if_pos (by rw [PySem.sizeLine_eq]; omega)
    have e4 : ∀ zs : List D, zs.length ≤ 19 → lstR zs = .ok zs := fun zs h => if_pos (by rw [PySem.sizeLine_eq]; omega)
    have e5 : ∀ i : Int, negR (.int i) = .ok (.int (-i)) := fun _ => rfl
    simp only [runB, List.map_cons, List.map_nil, sSeq_ap, sSet_ap, sRet_ap, eUn_ap, eBin_ap, eC_ap, eOfF_ap, getD_0, getD_s, aCons_ap, aNil_ap, R.ok_bind, List.cons_append, List.nil_append, List.replicate, List.set_cons_succ, List.set_cons_zero, seqO, liftO, e1, e5, e3 _ (show ([] : List D).length ≤ 7 by decide), e4 _ (show ([] : List D).length ≤ 19 by decide)]
    rw [e3 _ (by decide), e4 _ (by decide)]
    simp only [R.ok_bind, liftO, seqO]
    rw [e4 _ (by show 1 ≤ 19; decide)]
    simp only [R.ok_bind, liftO, seqO, List.set_cons_succ, List.set_cons_zero, getD_0, getD_s]
    rw [e2]
    unfold oddL at e
    simp only [R.ok_bind]
    rw [e1]
    simp only [R.ok_bind]
    rw [e]
  · have : oddL.all (dle 3) = true := by decide
    exact List.all_eq_true.mp this x hx
def leaf (d : D) : Prop := (∃ i : Int, (-20 ≤ i ∧ i ≤ 20) ∧ d = .int i) ∨ ∃ s, d = .str s
def good : Nat → D → Prop
  | 0, d => leaf d
  | n + 1, d => leaf d ∨ ∃ xs, d = .tup xs ∧ xs.length ≤ 1000 ∧ ∀ x ∈ xs, good n x
theorem cut_mem {xs : List D} {l h : Option Int} {x : D} (hx : x ∈ cutL xs l h) : x ∈ xs := List.mem_of_mem_drop (List.mem_of_mem_take hx)
theorem good_dle : ∀ (n : Nat) (d : D), good n d → dle n d = true
  | 0, d, h => by rcases h with ⟨i, _, rfl⟩ | ⟨s, rfl⟩ <;> rfl
  | n + 1, d, h => by
    rcases h with (⟨i, _, rfl⟩ | ⟨s, rfl⟩) | ⟨xs, rfl, _, h⟩
    · rfl
    · rfl
    · exact tup_dle fun x hx => good_dle n x (h x hx)
theorem str_ok {i : Int} (h : -20 ≤ i ∧ i ≤ 20) : str1R [.int i] = .ok (.str (strOfI i)) := by
  have hs : ∀ k ∈ List.range 41, sOk (strOfI ((k : Int) - 20)) = true := by decide +kernel
  have h2 := hs (i + 20).toNat (List.mem_range.mpr (by omega))
  rw [show (((i + 20).toNat : Nat) : Int) - 20 = i by omega] at h2
  have h3 : i.natAbs.log2 < 1920 := by
    have : i.natAbs ≤ 20 := by omega
    by_cases h0 : i.natAbs = 0
    · rw [h0]; decide
    · exact (Nat.log2_lt h0).mpr (Nat.lt_of_le_of_lt this (Nat.lt_of_lt_of_le (by decide : 20 < 2 ^ 5) (Nat.pow_le_pow_right (by decide) (by decide))))
  exact if_pos ⟨h3, h2⟩
end Fo

namespace Fo
open PySem Dx Dn
def sixT (xs : List D) : List D := [.lst xs, .tup (cutL xs none (some (-1))), .tup (xs ++ cutL xs (some (-1)) none), .tup (cutL xs (some 1) none), .tup xs.reverse, .tup (List.replicate 2 xs).flatten]
def sixI (i : Int) : List D := [.str (strOfI i), .int (0 - i), .int (i + 1), .bl (decide (i = 1)), .int (i - 30), .int (i + 30)]
theorem lst_ok {zs : List D} (h : zs.length ≤ 4000) : lstR zs = .ok zs := if_pos (by rw [PySem.sizeLine_eq]; omega)
theorem tup_ok {zs : List D} (h : zs.length ≤ 4000) : tupR zs = .ok (.tup zs) := if_pos (by rw [PySem.sizeLine_eq]; omega)
theorem addT_ok {xs ys : List D} (h : xs.length + ys.length ≤ 4000) : addR (.tup xs) (.tup ys) = .ok (.tup (xs ++ ys)) := if_pos (by rw [PySem.sizeLine_eq]; omega)
theorem mul2_ok {xs : List D} (hne : xs ≠ []) (h : xs.length ≤ 1000) : mulR (.tup xs) (.int 2) = .ok (.tup (List.replicate 2 xs).flatten) := if_pos ⟨hne, by decide, by decide, h⟩
theorem eq_int01 (i j : Int) : eqR (.int i) (.int j) = .ok (.bl (decide (i = j))) := by
  have : (i == j) = decide (i = j) := by by_cases e : i = j <;> simp [e]
  unfold eqR; simp [dle, eqD, this]
theorem six_t {xs : List D} (hne : xs ≠ []) (hl : xs.length ≤ 1000) (e : En) (h0 : getD' 0 e = .ok (.tup xs)) :
    (eOfF (eUn lstR (aCons (eUn listR (aCons (getD' 0) aNil)) (aCons (eSlice (getD' 0) oNone (eUn optR (eUn negR (eC (.int 1))))) (aCons (eBin addR (getD' 0) (eSlice (getD' 0) (eUn optR (eUn negR (eC (.int 1)))) oNone)) (aCons (eSlice (getD' 0) (eUn optR (eC (.int 1))) oNone) (aCons (eUn revT (getD' 0)) (aCons (eBin mulR (getD' 0) (eC (.int 2))) aNil)))))))) e = .ok (.lst (sixT xs)) := by
  have e1 : negR (.int 1) = .ok (.int (-1)) := rfl
  have e2 : ∀ i, optR (.int i) = .ok (some i) := fun _ => rfl
  have e3 : ∀ l h, sliceR (.tup xs) l h = .ok (.tup (cutL xs l h)) := fun _ _ => rfl
  have e4 : listR [.tup xs] = .ok (.lst xs) := rfl
  have e5 : revT (.tup xs) = .ok (.tup xs.reverse) := rfl
  have hc := cutL_len xs (some (-1)) none
  have e6 : addR (.tup xs) (.tup (cutL xs (some (-1)) none)) = .ok (.tup (xs ++ cutL xs (some (-1)) none)) := addT_ok (by omega)
  simp only [eOfF_ap, eUn_ap, eBin_ap, aCons_ap, aNil_ap, eC_ap, eSlice_ap, oNone_ap, h0, R.ok_bind, e1, e2, e3, e4, e5, e6, mul2_ok hne hl]
  rw [lst_ok (by show 6 ≤ 4000; decide)]
  rfl
theorem six_i {i : Int} (hi : -20 ≤ i ∧ i ≤ 20) (e : En) (h0 : getD' 0 e = .ok (.int i)) :
    (eOfF (eUn lstR (aCons (eUn str1R (aCons (getD' 0) aNil)) (aCons (eBin subR (eC (.int 0)) (getD' 0)) (aCons (eBin addR (getD' 0) (eC (.int 1))) (aCons (eBin eqR (getD' 0) (eC (.int 1))) (aCons (eBin subR (getD' 0) (eC (.int 30))) (aCons (eBin addR (getD' 0) (eC (.int 30))) aNil)))))))) e = .ok (.lst (sixI i)) := by
  have e1 : ∀ a b, subR (.int a) (.int b) = .ok (.int (a - b)) := fun _ _ => rfl
  have e2 : ∀ a b, addR (.int a) (.int b) = .ok (.int (a + b)) := fun _ _ => rfl
  simp only [eOfF_ap, eUn_ap, eBin_ap, aCons_ap, aNil_ap, eC_ap, h0, R.ok_bind, e1, e2, eq_int01, str_ok hi]
  rw [lst_ok (by show 6 ≤ 4000; decide)]
  rfl
theorem sixT_dle {n : Nat} {xs : List D} (h : ∀ x ∈ xs, dle n x = true) : ∀ y ∈ sixT xs, dle (n + 1) y = true := by
  intro y hy
  simp only [sixT, List.mem_cons, List.not_mem_nil, or_false] at hy
  rcases hy with rfl | rfl | rfl | rfl | rfl | rfl
  · exact lst_dle h
  · exact tup_dle fun x hx => h x (cut_mem hx)
  · exact tup_dle fun x hx => (List.mem_append.mp hx).elim (h x) fun q => h x (cut_mem q)
  · exact tup_dle fun x hx => h x (cut_mem hx)
  · exact tup_dle fun x hx => h x (List.mem_reverse.mp hx)
  · refine tup_dle fun x hx => ?_
    obtain ⟨l, hl, hx⟩ := List.mem_flatten.mp hx
    obtain ⟨_, q⟩ := List.mem_replicate.mp hl
    exact h x (q ▸ hx)
theorem sixI_dle (i : Int) : ∀ y ∈ sixI i, dle 0 y = true := by
  intro y hy
  simp only [sixI, List.mem_cons, List.not_mem_nil, or_false] at hy
  rcases hy with rfl | rfl | rfl | rfl | rfl | rfl <;> rfl
theorem mod6 (m : Int) : 0 ≤ m % 6 ∧ m % 6 < 6 := ⟨Int.emod_nonneg _ (by decide), Int.emod_lt_of_pos _ (by decide)⟩
def spT : En → Out := (sSeq (sIf (tAnd (tVal (eUn (isiR "tuple") (getD' 0))) (tAnd (tBin gtR (eUn lenR (aCons (getD' 0) aNil)) (eC (.int 0))) (tBin eqR (eBin modR (eBin divR (getD' 1) (eC (.int 7))) (eC (.int 2))) (eC (.int 0)))))
  (sRet (eBin ixR (eOfF (eUn lstR (aCons (eUn listR (aCons (getD' 0) aNil)) (aCons (eSlice (getD' 0) oNone (eUn optR (eUn negR (eC (.int 1))))) (aCons (eBin addR (getD' 0) (eSlice (getD' 0) (eUn optR (eUn negR (eC (.int 1)))) oNone)) (aCons (eSlice (getD' 0) (eUn optR (eC (.int 1))) oNone) (aCons (eUn revT (getD' 0)) (aCons (eBin mulR (getD' 0) (eC (.int 2))) aNil)))))))) (eBin modR (eBin divR (getD' 1) (eC (.int 14))) (eC (.int 6)))))
  sNil)
  (sSeq (sIf (tAnd (tVal (eUn (isiR "int") (getD' 0))) (tBin eqR (eBin modR (eBin divR (getD' 1) (eC (.int 7))) (eC (.int 2))) (eC (.int 0))))
  (sRet (eBin ixR (eOfF (eUn lstR (aCons (eUn str1R (aCons (getD' 0) aNil)) (aCons (eBin subR (eC (.int 0)) (getD' 0)) (aCons (eBin addR (getD' 0) (eC (.int 1))) (aCons (eBin eqR (getD' 0) (eC (.int 1))) (aCons (eBin subR (getD' 0) (eC (.int 30))) (aCons (eBin addR (getD' 0) (eC (.int 30))) aNil)))))))) (eBin modR (eBin divR (getD' 1) (eC (.int 14))) (eC (.int 6)))))
  sNil)
  (sRet (eUn den__law_odd (aCons (eBin divR (getD' 1) (eC (.int 7))) aNil)))))
theorem gt_ok (i j : Int) : gtR (.int i) (.int j) = .ok (.bl (decide (j < i))) := rfl
theorem len_ok (xs : List D) : lenR [.tup xs] = .ok (.int xs.length) := rfl
theorem sp_tail {n : Nat} {d : D} (hg : good n d) (m : Int) (e : En) (h0 : getD' 0 e = .ok d) (h1 : getD' 1 e = .ok (.int m)) : ∃ r e', spT e = .rt r e' ∧ dle (n + 3) r = true := by
  obtain ⟨o, eo, ho⟩ := m_odd (m / 7)
  have ho' : dle (n + 3) o = true := Ty.dle_le (by omega) ho
  have hf : isFrz d = false := dle_frz (good_dle n d hg)
  have m7 : divR (.int m) (.int 7) = .ok (.int (m / 7)) := rfl
  have m14 : divR (.int m) (.int 14) = .ok (.int (m / 14)) := rfl
  have m2 : ∀ i : Int, modR (.int i) (.int 2) = .ok (.int (i % 2)) := fun _ => rfl
  have m6 : ∀ i : Int, modR (.int i) (.int 6) = .ok (.int (i % 6)) := fun _ => rfl
  have c2 : (eBin modR (eBin divR (getD' 1) (eC (.int 7))) (eC (.int 2))) e = .ok (.int (m / 7 % 2)) := by simp only [eBin_ap, eC_ap, h1, R.ok_bind, m7, m2]
  have c6 : (eBin modR (eBin divR (getD' 1) (eC (.int 14))) (eC (.int 6))) e = .ok (.int (m / 14 % 6)) := by simp only [eBin_ap, eC_ap, h1, R.ok_bind, m14, m6]
  have co : (eUn den__law_odd (aCons (eBin divR (getD' 1) (eC (.int 7))) aNil)) e = .ok o := by simp only [eUn_ap, aCons_ap, aNil_ap, eBin_ap, eC_ap, h1, R.ok_bind, m7, eo]
  have it : (eUn (isiR "tuple") (getD' 0)) e = .ok (.bl (isTy "tuple" d)) := by simp only [eUn_ap, h0, R.ok_bind, isiR_ok hf (T := "tuple") (by simp)]
  have ii : (eUn (isiR "int") (getD' 0)) e = .ok (.bl (isTy "int" d)) := by simp only [eUn_ap, h0, R.ok_bind, isiR_ok hf (T := "int") (by simp)]
  have leafI : ∀ i : Int, (-20 ≤ i ∧ i ≤ 20) → d = .int i → ∃ r e', spT e = .rt r e' ∧ dle (n + 3) r = true := by
    rintro i hi rfl
    obtain ⟨x, hx, ex⟩ := ixL_in (xs := sixI i) (mod6 (m / 14)).1 (mod6 (m / 14)).2
    have h6 := six_i hi e h0
    by_cases c : m / 7 % 2 = 0
    · refine ⟨x, e, ?_, Ty.dle_le (by omega) (sixI_dle i x hx)⟩
      unfold spT
      simp only [sSeq_ap, sIf_ap, tAnd_ap, tVal_ap, tBin_ap, it, ii, c2, eC_ap, R.ok_bind, show isTy "tuple" (.int i) = false from rfl, show isTy "int" (.int i) = true from rfl, boolR_bl, Bool.false_eq_true, if_false, if_true, liftO, sNil_ap, seqO, eq_int01, c, decide_true]
      rw [sRet_ap, eBin_ap, h6, R.ok_bind, c6, R.ok_bind, ex]
      rfl
    · refine ⟨o, e, ?_, ho'⟩
      unfold spT
      simp only [sSeq_ap, sIf_ap, tAnd_ap, tVal_ap, tBin_ap, it, ii, c2, eC_ap, R.ok_bind, show isTy "tuple" (.int i) = false from rfl, show isTy "int" (.int i) = true from rfl, boolR_bl, Bool.false_eq_true, if_false, if_true, liftO, sNil_ap, seqO, eq_int01, c, decide_false]
      rw [sRet_ap, co]
      rfl
  have leafS : ∀ s : Str, d = .str s → ∃ r e', spT e = .rt r e' ∧ dle (n + 3) r = true := by
    rintro s rfl
    refine ⟨o, e, ?_, ho'⟩
    unfold spT
    simp only [sSeq_ap, sIf_ap, tAnd_ap, tVal_ap, tBin_ap, it, ii, c2, eC_ap, R.ok_bind, show isTy "tuple" (.str s) = false from rfl, show isTy "int" (.str s) = false from rfl, boolR_bl, Bool.false_eq_true, if_false, if_true, liftO, sNil_ap, seqO]
    rw [sRet_ap, co]
    rfl
  have tupl : ∀ (k : Nat) (xs : List D), n = k + 1 → d = .tup xs → xs.length ≤ 1000 → (∀ x ∈ xs, good k x) → ∃ r e', spT e = .rt r e' ∧ dle (n + 3) r = true := by
    rintro k xs rfl rfl hl hx
    have cl : (eUn lenR (aCons (getD' 0) aNil)) e = .ok (.int xs.length) := by simp only [eUn_ap, aCons_ap, aNil_ap, h0, R.ok_bind, len_ok]
    have o2 : spT e = .rt o e ∨ (xs ≠ [] ∧ m / 7 % 2 = 0) := by
      by_cases hne : xs = []
      · refine .inl ?_
        have hz : ¬ (0 : Int) < (xs.length : Int) := by rw [hne]; decide
        unfold spT
        simp only [sSeq_ap, sIf_ap, tAnd_ap, tVal_ap, tBin_ap, it, ii, c2, cl, eC_ap, R.ok_bind, show isTy "tuple" (.tup xs) = true from rfl, show isTy "int" (.tup xs) = false from rfl, boolR_bl, Bool.false_eq_true, if_false, if_true, liftO, sNil_ap, seqO, gt_ok, hz, decide_false]
        rw [sRet_ap, co]
        rfl
      · by_cases c : m / 7 % 2 = 0
        · exact .inr ⟨hne, c⟩
        · refine .inl ?_
          have hz : (0 : Int) < (xs.length : Int) := by have := List.length_pos_iff.mpr hne; omega
          unfold spT
          simp only [sSeq_ap, sIf_ap, tAnd_ap, tVal_ap, tBin_ap, it, ii, c2, cl, eC_ap, R.ok_bind, show isTy "tuple" (.tup xs) = true from rfl, show isTy "int" (.tup xs) = false from rfl, boolR_bl, Bool.false_eq_true, if_false, if_true, liftO, sNil_ap, seqO, gt_ok, hz, decide_true, eq_int01, c, decide_false]
          rw [sRet_ap, co]
          rfl
    rcases o2 with o2 | ⟨hne, c⟩
    · exact ⟨o, e, o2, ho'⟩
    · have hz : (0 : Int) < (xs.length : Int) := by have := List.length_pos_iff.mpr hne; omega
      obtain ⟨x, hx1, ex⟩ := ixL_in (xs := sixT xs) (mod6 (m / 14)).1 (mod6 (m / 14)).2
      have h6 := six_t hne hl e h0
      refine ⟨x, e, ?_, Ty.dle_le (by omega) (sixT_dle (n := k) (fun x hq => good_dle k x (hx x hq)) x hx1)⟩
      unfold spT
      simp only [sSeq_ap, sIf_ap, tAnd_ap, tVal_ap, tBin_ap, it, ii, c2, cl, eC_ap, R.ok_bind, show isTy "tuple" (.tup xs) = true from rfl, show isTy "int" (.tup xs) = false from rfl, boolR_bl, Bool.false_eq_true, if_false, if_true, liftO, sNil_ap, seqO, gt_ok, hz, decide_true, eq_int01, c]
      rw [sRet_ap, eBin_ap, h6, R.ok_bind, c6, R.ok_bind, ex]
      rfl
  cases n with
  | zero =>
    rcases hg with ⟨i, hi, h⟩ | ⟨s, h⟩
    · exact leafI i hi h
    · exact leafS s h
  | succ k =>
    rcases hg with (⟨i, hi, h⟩ | ⟨s, h⟩) | ⟨xs, h, hl, hx⟩
    · exact leafI i hi h
    · exact leafS s h
    · exact tupl k xs rfl h hl hx
theorem sp_end {n : Nat} {d : D} (hg : good n d) (m j : Int) (G : En → Out) (hG : G [.d d, .d (.int m), .d (.int j), .u, .u] = .nx [.d d, .d (.int m), .d (.int j), .u, .u]) :
    ∃ r, runB 2 (sSeq (sEnd [3, 4] G) spT) [d, .int m, .int j] = .ok r ∧ dle (n + 4) r = true := by
  obtain ⟨r, e', h, hr⟩ := sp_tail hg m [.d d, .d (.int m), .d (.int j), .u, .u] rfl rfl
  refine ⟨r, ?_, Ty.dle_le (by omega) hr⟩
  simp only [runB, List.map_cons, List.map_nil, List.cons_append, List.nil_append, List.replicate, sSeq_ap, sEnd_ap, hG]
  rw [show endK [3, 4] (Out.nx [Slot.d d, Slot.d (D.int m), Slot.d (D.int j), Slot.u, Slot.u]) = .nx [Slot.d d, Slot.d (D.int m), Slot.d (D.int j), Slot.u, Slot.u] from rfl]
  rw [show ∀ e, seqO (.nx e) spT = spT e from fun _ => rfl, h]
theorem sp_leaf {n : Nat} {d : D} (hg : good n d) (ht : isTy "tuple" d = false) (k : Nat) (m j : Int) : ∃ r, den__law_spoilt01_n (k + 1) [d, .int m, .int j] = .ok r ∧ dle (n + 4) r = true := by
  have hf : isFrz d = false := dle_frz (good_dle n d hg)
  have e : den__law_spoilt01_n (k + 1) [d, .int m, .int j] = runB 2 (g__law_spoilt01 (den__law_spoilt01_n k)) [d, .int m, .int j] := defR_ok (by rfl)
  rw [e]
  refine sp_end hg m j _ ?_
  by_cases c : (0 : Int) < j
  · simp only [sIf_ap, tAnd_ap, tVal_ap, tBin_ap, eUn_ap, eC_ap, getD_0, getD_s, R.ok_bind, isiR_ok hf (T := "tuple") (by simp), ht, boolR_bl, gt_ok, Bool.false_eq_true, if_false, c, decide_true, if_true, liftO, sNil_ap]
  · simp only [sIf_ap, tAnd_ap, tVal_ap, tBin_ap, eUn_ap, eC_ap, getD_0, getD_s, R.ok_bind, gt_ok, boolR_bl, Bool.false_eq_true, if_false, c, decide_false, liftO, sNil_ap]
theorem m_spoilt : ∀ (n k : Nat) (d : D), n < k → good n d → ∀ m j : Int, ∃ r, den__law_spoilt01_n k [d, .int m, .int j] = .ok r ∧ dle (n + 4) r = true := by
  intro n
  induction n with
  | zero =>
    intro k d hk hg m j
    cases k with
    | zero => omega
    | succ k => exact sp_leaf hg (by rcases hg with ⟨i, _, rfl⟩ | ⟨s, rfl⟩ <;> rfl) k m j
  | succ n ih =>
    intro k d hk hg m j
    cases k with
    | zero => omega
    | succ k =>
    rcases id hg with hl | ⟨xs, rfl, hl, hx⟩
    · exact sp_leaf hg (by rcases hl with ⟨i, _, rfl⟩ | ⟨s, rfl⟩ <;> rfl) k m j
    have it : isiR "tuple" (.tup xs) = .ok (.bl true) := isiR_ok (d := .tup xs) rfl (T := "tuple") (by simp)
    have m7 : modR (.int m) (.int 7) = .ok (.int (m % 7)) := rfl
    have d7 : divR (.int m) (.int 7) = .ok (.int (m / 7)) := rfl
    have d91 : divR (.int m) (.int 91) = .ok (.int (m / 91)) := rfl
    have s1 : subR (.int j) (.int 1) = .ok (.int (j - 1)) := rfl
    have e : den__law_spoilt01_n (k + 1) [.tup xs, .int m, .int j] = runB 2 (g__law_spoilt01 (den__law_spoilt01_n k)) [.tup xs, .int m, .int j] := defR_ok (by rfl)
    rw [e]
    by_cases c1 : (0 : Int) < j
    · by_cases c2 : (0 : Int) < (xs.length : Int)
      · by_cases c3 : (0 : Int) < m % 7
        · have hb : 0 ≤ m / 7 % (xs.length : Int) ∧ m / 7 % (xs.length : Int) < xs.length := ⟨Int.emod_nonneg _ (by omega), Int.emod_lt_of_pos _ c2⟩
          obtain ⟨x, hx1, ex⟩ := ixT_in hb.1 hb.2
          obtain ⟨p, hp, hp2⟩ := ih k x (by omega) (hx x hx1) (m / 91) (j - 1)
          have ml : modR (.int (m / 7)) (.int xs.length) = .ok (.int (m / 7 % xs.length)) := if_pos c2
          have z1 := cutL_len xs none (some (m / 7 % (xs.length : Int)))
          have z2 := cutL_len xs (some (m / 7 % (xs.length : Int) + 1)) none
          have a1 : addR (.tup (cutL xs none (some (m / 7 % (xs.length : Int))))) (.tup [p]) = .ok (.tup (cutL xs none (some (m / 7 % (xs.length : Int))) ++ [p])) := addT_ok (by rw [List.length_singleton]; omega)
          have a2 : addR (.tup (cutL xs none (some (m / 7 % (xs.length : Int))) ++ [p])) (.tup (cutL xs (some (m / 7 % (xs.length : Int) + 1)) none)) = .ok (.tup (cutL xs none (some (m / 7 % (xs.length : Int))) ++ [p] ++ cutL xs (some (m / 7 % (xs.length : Int) + 1)) none)) := addT_ok (by rw [List.length_append, List.length_singleton]; omega)
          have o1 : ∀ i, optR (.int i) = .ok (some i) := fun _ => rfl
          have o2 : ∀ l h, sliceR (.tup xs) l h = .ok (.tup (cutL xs l h)) := fun _ _ => rfl
          have o3 : ∀ i : Int, addR (.int i) (.int 1) = .ok (.int (i + 1)) := fun _ => rfl
          refine ⟨.tup (cutL xs none (some (m / 7 % (xs.length : Int))) ++ [p] ++ cutL xs (some (m / 7 % (xs.length : Int) + 1)) none), ?_, ?_⟩
          · unfold g__law_spoilt01
            simp only [runB, List.map_cons, List.map_nil, List.cons_append, List.nil_append, List.replicate, sSeq_ap, sEnd_ap, sIf_ap, tAnd_ap, tVal_ap, tBin_ap, sSet_ap, sRet_ap, eUn_ap, eBin_ap, eC_ap, eSlice_ap, oNone_ap, aCons_ap, aNil_ap, getD_0, getD_s, R.ok_bind, it, boolR_bl, gt_ok, len_ok, if_true, c1, c2, c3, decide_true, m7, d7, d91, s1, ml, ex, hp, liftO, seqO, List.set_cons_succ, List.set_cons_zero, o1, o2, o3, tup_ok (zs := [p]) (by show 1 ≤ 4000; decide), a1, a2]
            rfl
          · refine tup_dle fun y hy => ?_
            rcases List.mem_append.mp hy with hy | hy
            · rcases List.mem_append.mp hy with hy | hy
              · exact Ty.dle_le (by omega) (good_dle n y (hx y (cut_mem hy)))
              · rw [List.mem_singleton.mp hy]; exact hp2
            · exact Ty.dle_le (by omega) (good_dle n y (hx y (cut_mem hy)))
        · refine sp_end hg m j _ ?_
          simp only [sIf_ap, tAnd_ap, tVal_ap, tBin_ap, eUn_ap, eBin_ap, aCons_ap, aNil_ap, eC_ap, getD_0, getD_s, R.ok_bind, it, boolR_bl, gt_ok, len_ok, m7, Bool.false_eq_true, if_false, if_true, c1, c2, c3, decide_true, decide_false, liftO, sNil_ap]
      · refine sp_end hg m j _ ?_
        simp only [sIf_ap, tAnd_ap, tVal_ap, tBin_ap, eUn_ap, eBin_ap, aCons_ap, aNil_ap, eC_ap, getD_0, getD_s, R.ok_bind, it, boolR_bl, gt_ok, len_ok, m7, Bool.false_eq_true, if_false, if_true, c1, c2, decide_true, decide_false, liftO, sNil_ap]
    · refine sp_end hg m j _ ?_
      simp only [sIf_ap, tAnd_ap, tVal_ap, tBin_ap, eUn_ap, eBin_ap, aCons_ap, aNil_ap, eC_ap, getD_0, getD_s, R.ok_bind, it, boolR_bl, gt_ok, len_ok, m7, Bool.false_eq_true, if_false, if_true, c1, decide_true, decide_false, liftO, sNil_ap]
end Fo

namespace Fo
open PySem Dx Dn
def baseD : D := .tup [.tup [.str "a", .str "", .int (-20), .int 20, .int 0, .int 20, .str "c"], .tup [.str "b", .str "a", .int 0, .int 0, .int 1, .int 1, .str "fh"]]
def eachB : List D := match den__law_each [baseD] with | .ok (.lst xs) => xs | _ => []
theorem each_base : den__law_each [baseD] = .ok (.lst eachB) ∧ eachB.length ≤ 200 ∧ ∀ x ∈ eachB, dle 10 x = true := by
  have h : (match den__law_each [baseD] with | .ok (.lst xs) => decide (xs.length ≤ 200) && xs.all (dle 10) | _ => false) = true := by decide +kernel
  unfold eachB
  split at h
  · rename_i xs e
    rw [e]
    rw [Bool.and_eq_true] at h
    exact ⟨rfl, of_decide_eq_true h.1, List.all_eq_true.mp h.2⟩
  · cases h
end Fo

namespace K01H
open PySem Dx Dn Fo
def p0 : En → Out := (sSet 1 (eUn den__law_scene (aCons (getD' 0) (aCons (eC (.int 0)) aNil))))
def p1 : En → Out := (sSet 2 (eUn den__law_spoilt01 (aCons (getD' 1) (aCons (eUn den__law_drawn (aCons (getD' 0) (aCons (eC (.int 100)) (aCons (eBin powR (eC (.int 10)) (eC (.int 6))) aNil)))) (aCons (eUn den__law_drawn (aCons (getD' 0) (aCons (eC (.int 101)) (aCons (eC (.int 3)) aNil)))) aNil)))))
def p2 : En → Out := (sSet 3 (eBin addR (getD' 1) (eUn tupleR (aCons (eOfF (eComp (eUn range1R (eUn den__law_drawn (aCons (getD' 0) (aCons (eC (.int 102)) (aCons (eC (.int 14)) aNil))))) (nameT 7) tTrue (eUn tupR (aCons (eBin addR (eC (.str "k")) (eBin ixR (eC (.str "abcdefghijklm")) (getD' 7))) (aCons (eC (.str "")) (aCons (getD' 7) (aCons (eC (.int 0)) (aCons (eC (.int 1)) (aCons (getD' 7) (aCons (eC (.str "")) aNil)))))))) [7])) aNil))))
def p3 : En → Out := (sFor (eUn itemsR (eUn tupR (aCons (getD' 1) (aCons (getD' 2) (aCons (getD' 3) (aCons (eUn listR (aCons (getD' 1) aNil)) (aCons (eUn revT (getD' 1)) (aCons (eBin mul0R (getD' 1) (eC (.int 2))) (aCons (eUn tupR (aCons (eUn tupR (aCons (eC (.str "a")) (aCons (eC (.str "a")) (aCons (eC (.int 0)) (aCons (eC (.int 0)) (aCons (eC (.int 1)) (aCons (eC (.int 1)) (aCons (eC (.str "")) aNil)))))))) aNil)) (aCons (eC .non) aNil)))))))))) (nameT 4)
  (sEnd [4, 5] (sSeq (sSet 5 (eUn den_is_scene (aCons (getD' 4) aNil)))
  (sIf (tOr (tNot (tVal (eUn (isiR "bool") (getD' 5)))) (tBin neR (getD' 5) (eUn den__law_is_scene (aCons (getD' 4) aNil))))
  (sRet (eC (.bl false)))
  sNil))))
def p4 : En → Out := (sSet 6 (eUn tupR (aCons (eUn tupR (aCons (eC (.str "a")) (aCons (eC (.str "")) (aCons (eUn negR (eC (.int 20))) (aCons (eC (.int 20)) (aCons (eC (.int 0)) (aCons (eC (.int 20)) (aCons (eC (.str "c")) aNil)))))))) (aCons (eUn tupR (aCons (eC (.str "b")) (aCons (eC (.str "a")) (aCons (eC (.int 0)) (aCons (eC (.int 0)) (aCons (eC (.int 1)) (aCons (eC (.int 1)) (aCons (eC (.str "fh")) aNil)))))))) aNil))))
def p5 : En → Out := (sRet (eBin eqR (eOfF (eComp (eUn itemsR (eBin addR (eOfF (eUn lstR (aCons (getD' 6) aNil))) (eUn den__law_each (aCons (getD' 6) aNil)))) (nameT 8) (tBin neR (eUn den_is_scene (aCons (getD' 8) aNil)) (eUn den__law_is_scene (aCons (getD' 8) aNil))) (getD' 8) [8])) (eOfF (eUn lstR aNil))))

theorem parts : g_law_k01 = sSeq p0 (sSeq p1 (sSeq p2 (sSeq p3 (sSeq p4 p5)))) := rfl
theorem scene_good {ns : List Int} (h : ns.length ≤ 63) : good 2 (scD (scene ns 0)) := by
  have hl := scene_len h 0
  refine .inr ⟨_, rfl, by rw [List.length_map]; omega, fun x hx => ?_⟩
  obtain ⟨b, hb, rfl⟩ := List.mem_map.mp hx
  have hs : -3 ≤ b.l ∧ b.l ≤ 5 ∧ -3 ≤ b.t ∧ b.t ≤ 5 ∧ 0 ≤ b.w ∧ b.w ≤ 8 ∧ 0 ≤ b.h ∧ b.h ≤ 8 := by
    unfold scene at hb
    exact mkSc_small h 0 _ b hb
  refine .inr ⟨_, rfl, by show 7 ≤ 1000; decide, fun y hy => ?_⟩
  simp only [List.mem_cons, List.not_mem_nil, or_false] at hy
  rcases hy with rfl | rfl | rfl | rfl | rfl | rfl | rfl
  · exact .inr ⟨_, rfl⟩
  · exact .inr ⟨_, rfl⟩
  · exact .inl ⟨_, by omega, rfl⟩
  · exact .inl ⟨_, by omega, rfl⟩
  · exact .inl ⟨_, by omega, rfl⟩
  · exact .inl ⟨_, by omega, rfl⟩
  · exact .inr ⟨_, rfl⟩
def kT (i : Nat) : D := match ixR (.str "abcdefghijklm") (.int (i : Int)) >>= fun y => addR (.str "k") y with | .ok x => x | _ => .non
theorem kT_ok {i : Nat} (h : i < 13) : (ixR (.str "abcdefghijklm") (.int (i : Int)) >>= fun y => addR (.str "k") y) = .ok (kT i) ∧ dle 0 (kT i) = true := by
  have all : ∀ i ∈ List.range 13, (match ixR (.str "abcdefghijklm") (.int (i : Int)) >>= fun y => addR (.str "k") y with | .ok x => dle 0 x | _ => false) = true := by decide +kernel
  have := all i (List.mem_range.mpr h)
  unfold kT
  split at this
  · rename_i x e
    rw [e]
    exact ⟨rfl, this⟩
  · cases this
def kB (i : Nat) : D := .tup [kT i, .str "", .int i, .int 0, .int 1, .int i, .str ""]
theorem longer {ns : List Int} (h : ns.length ≤ 63) (e : En) (h0 : getD' 0 e = .ok (.frz ns)) (hw : ∀ x : D, getD' 7 ((wipeE e [7]).set 7 (.d x)) = .ok x) :
    (eOfF (eComp (eUn range1R (eUn den__law_drawn (aCons (getD' 0) (aCons (eC (.int 102)) (aCons (eC (.int 14)) aNil))))) (nameT 7) tTrue (eUn tupR (aCons (eBin addR (eC (.str "k")) (eBin ixR (eC (.str "abcdefghijklm")) (getD' 7))) (aCons (eC (.str "")) (aCons (getD' 7) (aCons (eC (.int 0)) (aCons (eC (.int 1)) (aCons (getD' 7) (aCons (eC (.str "")) aNil)))))))) [7])) e =
      .ok (.lst ((List.range (drawn ns 102 14).toNat).map kB)) := by
  have hd := drawn_in h 102 (many := 14) (by omega)
  have rg : range1R (.int (drawn ns 102 14)) = .ok ((List.range (drawn ns 102 14).toNat).map fun i : Nat => D.int (i : Int)) := by
    unfold range1R rngD
    show (if -16777216 ≤ drawn ns 102 14 ∧ drawn ns 102 14 ≤ 16777216 then R.ok _ else R.bad) = _
    rw [if_pos (by omega)]
    simp
  rw [eOfF_ap, eComp_ap]
  rw [show (eUn range1R (eUn den__law_drawn (aCons (getD' 0) (aCons (eC (.int 102)) (aCons (eC (.int 14)) aNil))))) e = .ok ((List.range (drawn ns 102 14).toNat).map fun i : Nat => D.int (i : Int)) by simp only [eUn_ap, aCons_ap, aNil_ap, h0, eC_ap, R.ok_bind, drawn_ok h 102 (many := 14) (by omega), rg]]
  rw [R.ok_bind, compO_all (g := kB) _ fun i hi => ⟨_, rfl, rfl, ?_⟩]
  · rfl
  · have hi := List.mem_range.mp hi
    obtain ⟨h1, h2⟩ := kT_ok (i := i) (by omega)
    have h3 : (eBin addR (eC (.str "k")) (eBin ixR (eC (.str "abcdefghijklm")) (getD' 7))) ((wipeE e [7]).set 7 (.d (.int (i : Int)))) = .ok (kT i) := by
      simp only [eBin_ap, eC_ap, hw, R.ok_bind, h1]
    rw [eUn_ap, aCons_ap, h3]
    simp only [aCons_ap, aNil_ap, hw, eC_ap, R.ok_bind]
    rw [tup_ok (by show 7 ≤ 4000; decide)]
    rfl
theorem kB_dle {i : Nat} (h : i < 13) : dle 1 (kB i) = true := by
  refine tup_dle fun x hx => ?_
  simp only [List.mem_cons, List.not_mem_nil, or_false] at hx
  rcases hx with rfl | rfl | rfl | rfl | rfl | rfl | rfl
  · exact (kT_ok h).2
  all_goals rfl
theorem turn {d : D} (h : Thing d) (a b c : Slot) (x0 : Slot) : sEnd [4, 5] (sSeq (sSet 5 (eUn den_is_scene (aCons (getD' 4) aNil)))
  (sIf (tOr (tNot (tVal (eUn (isiR "bool") (getD' 5)))) (tBin neR (getD' 5) (eUn den__law_is_scene (aCons (getD' 4) aNil))))
  (sRet (eC (.bl false)))
  sNil)) [x0, a, b, c, .d d, .u, .u, .u, .u] = .nx [x0, a, b, c, .u, .u, .u, .u, .u] := by
  have i1 : isiR "bool" (.bl (scB d)) = .ok (.bl true) := isiR_ok (d := .bl (scB d)) rfl (T := "bool") (by simp)
  have n1 : neR (.bl (scB d)) (.bl (scB d)) = .ok (.bl false) := by cases scB d <;> rfl
  simp only [sEnd_ap, sSeq_ap, sSet_ap, sIf_ap, tOr_ap, tNot_ap, tVal_ap, tBin_ap, eUn_ap, aCons_ap, aNil_ap, getD_0, getD_s, R.ok_bind, h.same.1, h.same.2, liftO, seqO, List.set_cons_succ, List.set_cons_zero, i1, n1, boolR_bl, Bool.not_true, Bool.false_eq_true, if_false, sNil_ap]
  rfl
theorem addL_ok {xs ys : List D} (h : xs.length + ys.length ≤ 4000) : addR (.lst xs) (.lst ys) = .ok (.lst (xs ++ ys)) := if_pos (by rw [PySem.sizeLine_eq]; omega)
theorem seq_nx (e : En) (G : En → Out) : seqO (.nx e) G = G e := rfl
theorem law01 {ns : List Int} (h : ns.length ≤ 63) : den_law_k01 [.frz ns] = .ok (.bl true) := by
  have hl := scene_len h 0
  have hg := scene_good h
  obtain ⟨r, hr, hr2⟩ := m_spoilt 2 9 (scD (scene ns 0)) (by decide) hg (drawn ns 100 1000000) (drawn ns 101 3)
  have hS : dle 2 (scD (scene ns 0)) = true := good_dle 2 _ hg
  have hS1 : ∀ x ∈ (scene ns 0).map Box.D, dle 1 x = true := dle_tup hS
  have hlen : ((scene ns 0).map Box.D).length ≤ 7 := by rw [List.length_map]; exact hl
  have hd := drawn_in h 102 (many := 14) (by omega)
  have hlk : ((List.range (drawn ns 102 14).toNat).map kB).length ≤ 13 := by rw [List.length_map, List.length_range]; omega
  have h0 : p0 [.d (.frz ns), .u, .u, .u, .u, .u, .u, .u, .u] = .nx [.d (.frz ns), .d (scD (scene ns 0)), .u, .u, .u, .u, .u, .u, .u] := by
    unfold p0
    simp only [sSet_ap, eUn_ap, aCons_ap, aNil_ap, getD_0, eC_ap, R.ok_bind, m_scene h 0, liftO]
    rfl
  have pw : powR (.int 10) (.int 6) = .ok (.int 1000000) := by
    show (if 0 ≤ (6 : Int) ∧ (6 : Int) ≤ 1000 ∧ (10 : Int).natAbs < 2 ^ 64 then R.ok (D.int ((10 : Int) ^ (6 : Int).toNat)) else R.bad) = _
    rw [if_pos (by decide)]
    rfl
  have h1 : p1 [.d (.frz ns), .d (scD (scene ns 0)), .u, .u, .u, .u, .u, .u, .u] = .nx [.d (.frz ns), .d (scD (scene ns 0)), .d r, .u, .u, .u, .u, .u, .u] := by
    unfold p1
    simp only [sSet_ap, eUn_ap, eBin_ap, aCons_ap, aNil_ap, getD_0, getD_s, eC_ap, R.ok_bind, pw, drawn_ok h 100 (many := 1000000) (by omega), drawn_ok h 101 (many := 3) (by omega), show den__law_spoilt01 [scD (scene ns 0), .int (drawn ns 100 1000000), .int (drawn ns 101 3)] = .ok r from hr, liftO]
    rfl
  have h2 : p2 [.d (.frz ns), .d (scD (scene ns 0)), .d r, .u, .u, .u, .u, .u, .u] = .nx [.d (.frz ns), .d (scD (scene ns 0)), .d r, .d (.tup ((scene ns 0).map Box.D ++ (List.range (drawn ns 102 14).toNat).map kB)), .u, .u, .u, .u, .u] := by
    unfold p2
    rw [sSet_ap, eBin_ap, eUn_ap, aCons_ap, longer h _ rfl (fun _ => rfl)]
    simp only [aNil_ap, getD_0, getD_s, R.ok_bind, show ∀ zs, tupleR [.lst zs] = .ok (.tup zs) from fun _ => rfl, show scD (scene ns 0) = .tup ((scene ns 0).map Box.D) from rfl]
    rw [addT_ok (by omega)]
    rfl
  have h3 : p3 [.d (.frz ns), .d (scD (scene ns 0)), .d r, .d (.tup ((scene ns 0).map Box.D ++ (List.range (drawn ns 102 14).toNat).map kB)), .u, .u, .u, .u, .u] = .nx [.d (.frz ns), .d (scD (scene ns 0)), .d r, .d (.tup ((scene ns 0).map Box.D ++ (List.range (drawn ns 102 14).toNat).map kB)), .u, .u, .u, .u, .u] := by
    unfold p3
    rw [sFor_ap]
    have it : (eUn itemsR (eUn tupR (aCons (getD' 1) (aCons (getD' 2) (aCons (getD' 3) (aCons (eUn listR (aCons (getD' 1) aNil)) (aCons (eUn revT (getD' 1)) (aCons (eBin mul0R (getD' 1) (eC (.int 2))) (aCons (eUn tupR (aCons (eUn tupR (aCons (eC (.str "a")) (aCons (eC (.str "a")) (aCons (eC (.int 0)) (aCons (eC (.int 0)) (aCons (eC (.int 1)) (aCons (eC (.int 1)) (aCons (eC (.str "")) aNil)))))))) aNil)) (aCons (eC .non) aNil)))))))))) [.d (.frz ns), .d (scD (scene ns 0)), .d r, .d (.tup ((scene ns 0).map Box.D ++ (List.range (drawn ns 102 14).toNat).map kB)), .u, .u, .u, .u, .u] =
        .ok [scD (scene ns 0), r, .tup ((scene ns 0).map Box.D ++ (List.range (drawn ns 102 14).toNat).map kB), .lst ((scene ns 0).map Box.D), .tup ((scene ns 0).map Box.D).reverse, .tup (List.replicate 2 ((scene ns 0).map Box.D)).flatten, .tup [.tup [.str "a", .str "a", .int 0, .int 0, .int 1, .int 1, .str ""]], .non] := by
      have m1 : mul0R (scD (scene ns 0)) (.int 2) = .ok (.tup (List.replicate 2 ((scene ns 0).map Box.D)).flatten) := by
        show (if _ then _ else _) = _
        rw [if_pos ⟨by decide, by decide, by omega⟩]
        rfl
      have m2 : listR [scD (scene ns 0)] = .ok (.lst ((scene ns 0).map Box.D)) := rfl
      have m3 : revT (scD (scene ns 0)) = .ok (.tup ((scene ns 0).map Box.D).reverse) := rfl
      simp only [eUn_ap, eBin_ap, aCons_ap, aNil_ap, getD_0, getD_s, eC_ap, R.ok_bind, m1, m2, m3]
      rw [tup_ok (zs := [.str "a", .str "a", .int 0, .int 0, .int 1, .int 1, .str ""]) (by show 7 ≤ 4000; decide), R.ok_bind, R.ok_bind, tup_ok (by show 1 ≤ 4000; decide)]
      simp only [R.ok_bind]
      rw [tup_ok (by show 8 ≤ 4000; decide)]
      rfl
    rw [it]
    simp only [liftO]
    refine forO_same fun d hd => ⟨_, rfl, .inl ?_⟩
    refine turn (Thing.of ?_) _ _ _ _
    simp only [List.mem_cons, List.not_mem_nil, or_false] at hd
    rcases hd with rfl | rfl | rfl | rfl | rfl | rfl | rfl | rfl
    · exact Ty.dle_le (by decide) hS
    · exact Ty.dle_le (by decide) hr2
    · refine Ty.dle_le (m := 2) (by decide) (tup_dle fun x hx => ?_)
      rcases List.mem_append.mp hx with hx | hx
      · exact hS1 x hx
      · obtain ⟨i, hi, rfl⟩ := List.mem_map.mp hx
        have := List.mem_range.mp hi
        exact kB_dle (by omega)
    · exact Ty.dle_le (m := 2) (by decide) (lst_dle hS1)
    · exact Ty.dle_le (m := 2) (by decide) (tup_dle fun x hx => hS1 x (List.mem_reverse.mp hx))
    · refine Ty.dle_le (m := 2) (by decide) (tup_dle fun x hx => ?_)
      obtain ⟨l, hl, hx⟩ := List.mem_flatten.mp hx
      obtain ⟨_, q⟩ := List.mem_replicate.mp hl
      exact hS1 x (q ▸ hx)
    · rfl
    · rfl
  have h4 : p4 [.d (.frz ns), .d (scD (scene ns 0)), .d r, .d (.tup ((scene ns 0).map Box.D ++ (List.range (drawn ns 102 14).toNat).map kB)), .u, .u, .u, .u, .u] = .nx [.d (.frz ns), .d (scD (scene ns 0)), .d r, .d (.tup ((scene ns 0).map Box.D ++ (List.range (drawn ns 102 14).toNat).map kB)), .u, .u, .d baseD, .u, .u] := rfl
  have h5 : p5 [.d (.frz ns), .d (scD (scene ns 0)), .d r, .d (.tup ((scene ns 0).map Box.D ++ (List.range (drawn ns 102 14).toNat).map kB)), .u, .u, .d baseD, .u, .u] = .rt (.bl true) [.d (.frz ns), .d (scD (scene ns 0)), .d r, .d (.tup ((scene ns 0).map Box.D ++ (List.range (drawn ns 102 14).toNat).map kB)), .u, .u, .d baseD, .u, .u] := by
    obtain ⟨b1, b2, b3⟩ := each_base
    have it : (eUn itemsR (eBin addR (eOfF (eUn lstR (aCons (getD' 6) aNil))) (eUn den__law_each (aCons (getD' 6) aNil)))) [.d (.frz ns), .d (scD (scene ns 0)), .d r, .d (.tup ((scene ns 0).map Box.D ++ (List.range (drawn ns 102 14).toNat).map kB)), .u, .u, .d baseD, .u, .u] = .ok (baseD :: eachB) := by
      simp only [eUn_ap, eBin_ap, eOfF_ap, aCons_ap, aNil_ap, getD_0, getD_s, R.ok_bind, b1]
      rw [lst_ok (by show 1 ≤ 4000; decide)]
      simp only [R.ok_bind]
      rw [show addR (.lst [baseD]) (.lst eachB) = .ok (.lst (baseD :: eachB)) from addL_ok (by rw [List.length_singleton]; omega)]
      rfl
    unfold p5
    rw [sRet_ap, eBin_ap, eOfF_ap, eComp_ap, it, R.ok_bind]
    rw [show baseD :: eachB = (baseD :: eachB).map id from (List.map_id _).symm, compO_map (p := fun _ => false) (g := id) _ fun d hd => ⟨_, rfl, ?_, fun q => nomatch q⟩]
    · rw [List.filter_eq_nil_iff.mpr (by simp)]
      rfl
    · have hT : Thing d := Thing.of (by
        rcases List.mem_cons.mp hd with rfl | hd
        · rfl
        · exact Ty.dle_le (by decide) (b3 d hd))
      have n1 : neR (.bl (scB d)) (.bl (scB d)) = .ok (.bl false) := by cases scB d <;> rfl
      show tBin neR (eUn den_is_scene (aCons (getD' 8) aNil)) (eUn den__law_is_scene (aCons (getD' 8) aNil)) [.d (.frz ns), .d (scD (scene ns 0)), .d r, .d (.tup ((scene ns 0).map Box.D ++ (List.range (drawn ns 102 14).toNat).map kB)), .u, .u, .d baseD, .u, .d d] = .ok false
      simp only [tBin_ap, eUn_ap, aCons_ap, aNil_ap, List.set_cons_succ, List.set_cons_zero, id, getD_0, getD_s, R.ok_bind, hT.same.1, hT.same.2, n1, boolR_bl]
  unfold den_law_k01
  rw [defR_ok (by rfl)]
  have hall : g_law_k01 [.d (.frz ns), .u, .u, .u, .u, .u, .u, .u, .u] = .rt (.bl true) [.d (.frz ns), .d (scD (scene ns 0)), .d r, .d (.tup ((scene ns 0).map Box.D ++ (List.range (drawn ns 102 14).toNat).map kB)), .u, .u, .d baseD, .u, .u] := by
    rw [parts, sSeq_ap, h0, seq_nx, sSeq_ap, h1, seq_nx, sSeq_ap, h2, seq_nx, sSeq_ap, h3, seq_nx, sSeq_ap, h4, seq_nx, h5]
  unfold runB
  rw [show ([D.frz ns].map Slot.d ++ List.replicate 8 Slot.u) = [.d (.frz ns), .u, .u, .u, .u, .u, .u, .u, .u] from rfl, hall]
end K01H
theorem Fo.law01_true : ∀ ns : List Int, ns.length ≤ 63 → Dn.den_law_k01 [.frz ns] = .ok (.bl true) := fun _ h => K01H.law01 h

namespace K01
open PySem PySem.Spec PyProof.Rows L2 Dx Dn
def top (i : Nat) : Stmt := PySem.Challenge.pw_touchtree_k01_known.main.body.getD i (.Pass ⟨0, 0, 0, 0⟩)
abbrev st_is_within : Stmt := top 6
abbrev st_is_name : Stmt := top 7
abbrev st_are_marks : Stmt := top 8
abbrev st_is_box : Stmt := top 9
abbrev st_is_scene : Stmt := top 10
abbrev st__law_cell : Stmt := top 12
abbrev st__law_drawn : Stmt := top 13
abbrev st__law_scene : Stmt := top 14
abbrev st__law_odd : Stmt := top 18
abbrev st__law_spoilt : Stmt := top 19
abbrev st__law_is_number : Stmt := top 20
abbrev st__law_is_box : Stmt := top 21
abbrev st__law_is_scene : Stmt := top 22
abbrev st__law_each : Stmt := top 23
abbrev st_law : Stmt := top 24
structure Txt (K : PySem.W.Frag) (mg : Str → Option Value) where
  is_within_ : FnF K mg "is_within" st_is_within ["thing", "low", "high"]
  is_name_ : FnF K mg "is_name" st_is_name ["thing"]
  are_marks_ : FnF K mg "are_marks" st_are_marks ["thing"]
  is_box_ : FnF K mg "is_box" st_is_box ["thing"]
  is_scene_ : FnF K mg "is_scene" st_is_scene ["thing"]
  _law_cell_ : FnF K mg "_law_cell" st__law_cell ["_law_script", "_law_k"]
  _law_drawn_ : FnF K mg "_law_drawn" st__law_drawn ["_law_script", "_law_k", "_law_many"]
  _law_scene_ : FnF K mg "_law_scene" st__law_scene ["_law_script", "_law_at"]
  _law_odd_ : FnF K mg "_law_odd" st__law_odd ["_law_number"]
  _law_spoilt_ : FnF K mg "_law_spoilt" st__law_spoilt ["_law_thing", "_law_number", "_law_deep"]
  _law_is_number_ : FnF K mg "_law_is_number" st__law_is_number ["_law_thing", "_law_low", "_law_high"]
  _law_is_box_ : FnF K mg "_law_is_box" st__law_is_box ["_law_box_here", "_law_names"]
  _law_is_scene_ : FnF K mg "_law_is_scene" st__law_is_scene ["_law_thing"]
  _law_each_ : FnF K mg "_law_each" st__law_each ["_law_thing"]
  law_ : FnF K mg "law" st_law ["_law_script"]
  all_ : mg "all" = none
  bool_ : mg "bool" = none
  enumerate_ : mg "enumerate" = none
  int_ : mg "int" = none
  isinstance_ : mg "isinstance" = none
  len_ : mg "len" = none
  list_ : mg "list" = none
  range_ : mg "range" = none
  set_ : mg "set" = none
  str_ : mg "str" = none
  tuple_ : mg "tuple" = none
  zip_ : mg "zip" = none
  LETTERS_ : ∃ t, mg "LETTERS" = some (.str "abcdefghijklmnopqrstuvwxyz" t)
  MARKS_ : ∃ t, mg "MARKS" = some (.str "cfhl" t)
  MOST_BOXES_ : ∃ t, mg "MOST_BOXES" = some (.int 12 t)
  MOST_PLACE_ : ∃ t, mg "MOST_PLACE" = some (.int 20 t)
  MOST_SIZE_ : ∃ t, mg "MOST_SIZE" = some (.int 20 t)
section
variable {P : Program} {w : World} {K : PySem.W.Frag} {mg : Str → Option Value} {base : Heap}
def Txt.xi (T : Txt K mg) : Str → Value := fun x => .none
theorem sc_is_within : FnScope ["thing", "low", "high"] ["thing", "low", "high"] (defScope st_is_within) := ⟨rfl, rfl, rfl, by decide +kernel, rfl, by decide +kernel, by decide +kernel⟩
theorem ok_is_within (T : Txt K mg) : FnOk P w K mg base (L2.CX P w) 1 T.is_within_.f T.is_within_.fd ["thing", "low", "high"] (spD K T.xi den_is_within) := by
  refine fn_d (G := g_is_within) T.is_within_.Fn sc_is_within (fun ds h => if_neg h) (fun ds h => if_pos h) fun cdv A outer s H E hr => ?_
  have tk := takes_of (X := cxOf (L2.CX P w) P w K mg base ["thing", "low", "high"] "is_within" (defScope st_is_within) T.is_within_.f cdv A outer s H E) rfl rfl rfl rfl
  have hp := passes_of (X := cxOf (L2.CX P w) P w K mg base ["thing", "low", "high"] "is_within" (defScope st_is_within) T.is_within_.f cdv A outer s H E) rfl
  exact (dss_one (ds_ret (de_and (de_isi T.isinstance_ T.int_ (by decide +kernel) (de_v (pv 0))) (de_and (de_not (de_isi T.isinstance_ T.bool_ (by decide +kernel) (de_v (pv 0)))) (de_one (deChain cm_le cm_le (de_v (pv 1)) (de_v (pv 0)) (de_v (pv 2))))))))
theorem sc_is_name : FnScope ["thing", "sign"] ["thing"] (defScope st_is_name) := ⟨rfl, rfl, rfl, by decide +kernel, rfl, by decide +kernel, by decide +kernel⟩
theorem ok_is_name (T : Txt K mg) : FnOk P w K mg base (L2.CX P w) 1 T.is_name_.f T.is_name_.fd ["thing"] (spD K T.xi den_is_name) := by
  refine fn_d (G := g_is_name) T.is_name_.Fn sc_is_name (fun ds h => if_neg h) (fun ds h => if_pos h) fun cdv A outer s H E hr => ?_
  have tk := takes_of (X := cxOf (L2.CX P w) P w K mg base ["thing", "sign"] "is_name" (defScope st_is_name) T.is_name_.f cdv A outer s H E) rfl rfl rfl rfl
  have hp := passes_of (X := cxOf (L2.CX P w) P w K mg base ["thing", "sign"] "is_name" (defScope st_is_name) T.is_name_.f cdv A outer s H E) rfl
  exact (dss_one (ds_ret (de_and (de_isi T.isinstance_ T.str_ (by decide +kernel) (de_v (pv 0))) (de_and (deChain cm_le cm_le de_int (de_callB cb_len T.len_ (by decide +kernel) (da_cons (de_v (pv 0)) da_nil)) de_int) (de_one (de_callB cb_all T.all_ (by decide +kernel) (da_cons (de_ofF (df_lc (own := [("sign", 1)]) (ts := [1]) sc_is_name.nd (di_seq (de_v (pv 0))) rfl (fun _ _ _ _ _ => (dg_name (i := 1) sc_is_name.nd)) (fun _ _ _ _ _ => dts_nil) (fun _ _ _ _ _ => (deC (cm_in (roomU65 hr)) (de_v (pv 1)) (de_gstr T.LETTERS_))))) da_nil)))))))
theorem sc_are_marks : FnScope ["thing", "sign", "one", "other"] ["thing"] (defScope st_are_marks) := ⟨rfl, rfl, rfl, by decide +kernel, rfl, by decide +kernel, by decide +kernel⟩
theorem ok_are_marks (T : Txt K mg) : FnOk P w K mg base (L2.CX P w) 1 T.are_marks_.f T.are_marks_.fd ["thing"] (spD K T.xi den_are_marks) := by
  refine fn_d (G := g_are_marks) T.are_marks_.Fn sc_are_marks (fun ds h => if_neg h) (fun ds h => if_pos h) fun cdv A outer s H E hr => ?_
  have tk := takes_of (X := cxOf (L2.CX P w) P w K mg base ["thing", "sign", "one", "other"] "are_marks" (defScope st_are_marks) T.are_marks_.f cdv A outer s H E) rfl rfl rfl rfl
  have hp := passes_of (X := cxOf (L2.CX P w) P w K mg base ["thing", "sign", "one", "other"] "are_marks" (defScope st_are_marks) T.are_marks_.f cdv A outer s H E) rfl
  exact (dss_cons (ds_if (dt_w (dw_or (dt_not (dt_val (de_isi T.isinstance_ T.str_ (by decide +kernel) (de_v (pv 0))))) (dw_or1 (dt_not (dt_val (de_callB cb_all T.all_ (by decide +kernel) (da_cons (de_ofF (df_lc (own := [("sign", 1)]) (ts := [1]) sc_are_marks.nd (di_seq (de_v (pv 0))) rfl (fun _ _ _ _ _ => (dg_name (i := 1) sc_are_marks.nd)) (fun _ _ _ _ _ => dts_nil) (fun _ _ _ _ _ => (deC (cm_in (roomU65 hr)) (de_v (pv 1)) (de_gstr T.MARKS_))))) da_nil)))))))
  (dss_one (ds_ret de_bl))
  dss_nil)
  (dss_one (ds_ret (de_callB cb_all T.all_ (by decide +kernel) (da_cons (de_ofF (df_lc (own := [("one", 2), ("other", 3)]) (ts := [2, 3]) sc_are_marks.nd (di_zip T.zip_ (de_v (pv 0)) (de_slice (de_v (pv 0)) (do_some de_int) do_none)) rfl (fun _ _ _ _ _ => (dg_tup (ts := [2, 3]) rfl (dgs_cons (i := 2) sc_are_marks.nd (dgs_cons (i := 3) sc_are_marks.nd dgs_nil)))) (fun _ _ _ _ _ => dts_nil) (fun _ _ _ _ _ => (deC cm_lt (de_v (pv 2)) (de_v (pv 3)))))) da_nil)))))
theorem sc_is_box : FnScope ["thing", "at", "size"] ["thing"] (defScope st_is_box) := ⟨rfl, rfl, rfl, by decide +kernel, rfl, by decide +kernel, by decide +kernel⟩
theorem ok_is_box (T : Txt K mg) : FnOk P w K mg base (L2.CX P w) 2 T.is_box_.f T.is_box_.fd ["thing"] (spD K T.xi den_is_box) := by
  refine fn_d (G := g_is_box) T.is_box_.Fn sc_is_box (fun ds h => if_neg h) (fun ds h => if_pos h) fun cdv A outer s H E hr => ?_
  have tk := takes_of (X := cxOf (L2.CX P w) P w K mg base ["thing", "at", "size"] "is_box" (defScope st_is_box) T.is_box_.f cdv A outer s H E) rfl rfl rfl rfl
  have hp := passes_of (X := cxOf (L2.CX P w) P w K mg base ["thing", "at", "size"] "is_box" (defScope st_is_box) T.is_box_.f cdv A outer s H E) rfl
  exact (dss_cons (ds_if (dt_w (dw_or (dt_not (dt_val (de_isi T.isinstance_ T.tuple_ (by decide +kernel) (de_v (pv 0))))) (dw_or (dtC (cm_ne (roomU64 hr)) (de_callB cb_len T.len_ (by decide +kernel) (da_cons (de_v (pv 0)) da_nil)) de_int) (dw_or (dt_not (dt_val (de_call (ok_is_name T) tk (hr.mono (by first | decide | omega)) T.is_name_.m T.is_name_.Fn.kp T.is_name_.b (da_cons (de_ix (roomU1 hr) (fun _ _ => rfl) (de_v (pv 0)) de_int) da_nil)))) (dw_or1 (dt_not (dt_val (de_call (ok_are_marks T) tk (hr.mono (by first | decide | omega)) T.are_marks_.m T.are_marks_.Fn.kp T.are_marks_.b (da_cons (de_ix (roomU1 hr) (fun _ _ => rfl) (de_v (pv 0)) de_int) da_nil)))))))))
  (dss_one (ds_ret de_bl))
  dss_nil)
  (dss_cons (ds_if (dt_w (dw_or (dt_not (dt_val (de_isi T.isinstance_ T.str_ (by decide +kernel) (de_ix (roomU1 hr) (fun _ _ => rfl) (de_v (pv 0)) de_int)))) (dw_or1 (dt_not (dt_val (de_callB cb_all T.all_ (by decide +kernel) (da_cons (de_ofF (df_lc (own := [("at", 1)]) (ts := [1]) sc_is_box.nd (di_seq (de_slice (de_v (pv 0)) (do_some de_int) (do_some de_int))) rfl (fun _ _ _ _ _ => (dg_name (i := 1) sc_is_box.nd)) (fun _ _ _ _ _ => dts_nil) (fun _ _ _ _ _ => (de_call (ok_is_within T) takes0 (hr.mono (by first | decide | omega)) T.is_within_.m T.is_within_.Fn.kp T.is_within_.b (da_cons (de_v (pv 1)) (da_cons (de_sub de_int (de_gint T.MOST_PLACE_)) (da_cons (de_gint T.MOST_PLACE_) da_nil))))))) da_nil)))))))
  (dss_one (ds_ret de_bl))
  dss_nil)
  (dss_one (ds_ret (de_callB cb_all T.all_ (by decide +kernel) (da_cons (de_ofF (df_lc (own := [("size", 2)]) (ts := [2]) sc_is_box.nd (di_seq (de_slice (de_v (pv 0)) (do_some de_int) (do_some de_int))) rfl (fun _ _ _ _ _ => (dg_name (i := 2) sc_is_box.nd)) (fun _ _ _ _ _ => dts_nil) (fun _ _ _ _ _ => (de_call (ok_is_within T) takes0 (hr.mono (by first | decide | omega)) T.is_within_.m T.is_within_.Fn.kp T.is_within_.b (da_cons (de_v (pv 2)) (da_cons de_int (da_cons (de_gint T.MOST_SIZE_) da_nil))))))) da_nil))))))
theorem sc_is_scene : FnScope ["thing", "names", "box", "at"] ["thing"] (defScope st_is_scene) := ⟨rfl, rfl, rfl, by decide +kernel, rfl, by decide +kernel, by decide +kernel⟩
theorem ok_is_scene (T : Txt K mg) : FnOk P w K mg base (L2.CX P w) 3 T.is_scene_.f T.is_scene_.fd ["thing"] (spD K T.xi den_is_scene) := by
  refine fn_d (G := g_is_scene) T.is_scene_.Fn sc_is_scene (fun ds h => if_neg h) (fun ds h => if_pos h) fun cdv A outer s H E hr => ?_
  have tk := takes_of (X := cxOf (L2.CX P w) P w K mg base ["thing", "names", "box", "at"] "is_scene" (defScope st_is_scene) T.is_scene_.f cdv A outer s H E) rfl rfl rfl rfl
  have hp := passes_of (X := cxOf (L2.CX P w) P w K mg base ["thing", "names", "box", "at"] "is_scene" (defScope st_is_scene) T.is_scene_.f cdv A outer s H E) rfl
  exact (dss_cons (ds_if (dt_w (dw_or (dt_not (dt_val (de_isi T.isinstance_ T.tuple_ (by decide +kernel) (de_v (pv 0))))) (dw_or (dtC cm_gt (de_callB cb_len T.len_ (by decide +kernel) (da_cons (de_v (pv 0)) da_nil)) (de_gint T.MOST_BOXES_)) (dw_or1 (dt_not (dt_val (de_callB cb_all T.all_ (by decide +kernel) (da_cons (de_ofF (df_lc (own := [("box", 2)]) (ts := [2]) sc_is_scene.nd (di_seq (de_v (pv 0))) rfl (fun _ _ _ _ _ => (dg_name (i := 2) sc_is_scene.nd)) (fun _ _ _ _ _ => dts_nil) (fun _ _ _ _ _ => (de_call (ok_is_box T) takes0 (hr.mono (by first | decide | omega)) T.is_box_.m T.is_box_.Fn.kp T.is_box_.b (da_cons (de_v (pv 2)) da_nil))))) da_nil))))))))
  (dss_one (ds_ret de_bl))
  dss_nil)
  (dss_cons (ds_set (i := 1) sc_is_scene.nd (de_ofF (df_lc (own := [("box", 2)]) (ts := [2]) sc_is_scene.nd (di_seq (de_v (pv 0))) rfl (fun _ _ _ _ _ => (dg_name (i := 2) sc_is_scene.nd)) (fun _ _ _ _ _ => dts_nil) (fun _ _ _ _ _ => (de_ix (roomU1 hr) (fun _ _ => rfl) (de_v (pv 2)) de_int)))))
  (dss_cons (ds_if (dtC cm_lt (de_lenSet T.len_ T.set_ (de_v (pv 1))) (de_callB cb_len T.len_ (by decide +kernel) (da_cons (de_v (pv 1)) da_nil)))
  (dss_one (ds_ret de_bl))
  dss_nil)
  (dss_one (ds_ret (de_callB cb_all T.all_ (by decide +kernel) (da_cons (de_ofF (df_lc (own := [("at", 3), ("box", 2)]) (ts := [3, 2]) sc_is_scene.nd (di_enumT T.enumerate_ (de_v (pv 0))) rfl (fun _ _ _ _ _ => (dg_tup (ts := [3, 2]) rfl (dgs_cons (i := 3) sc_is_scene.nd (dgs_cons (i := 2) sc_is_scene.nd dgs_nil)))) (fun _ _ _ _ _ => dts_nil) (fun _ _ _ _ _ => (de_or (deC (cm_eq (roomU64 hr)) (de_ix (roomU1 hr) (fun _ _ => rfl) (de_v (pv 2)) de_int) de_str) (de_one (deC (cm_in (roomU65 hr)) (de_ix (roomU1 hr) (fun _ _ => rfl) (de_v (pv 2)) de_int) (de_slice (de_v (pv 1)) do_none (do_some (de_v (pv 3)))))))))) da_nil)))))))
theorem sc__law_cell : FnScope ["_law_script", "_law_k"] ["_law_script", "_law_k"] (defScope st__law_cell) := ⟨rfl, rfl, rfl, by decide +kernel, rfl, by decide +kernel, by decide +kernel⟩
theorem ok__law_cell (T : Txt K mg) : FnOk P w K mg base (L2.CX P w) 1 T._law_cell_.f T._law_cell_.fd ["_law_script", "_law_k"] (spD K T.xi den__law_cell) := by
  refine fn_d (G := g__law_cell) T._law_cell_.Fn sc__law_cell (fun ds h => if_neg h) (fun ds h => if_pos h) fun cdv A outer s H E hr => ?_
  have tk := takes_of (X := cxOf (L2.CX P w) P w K mg base ["_law_script", "_law_k"] "_law_cell" (defScope st__law_cell) T._law_cell_.f cdv A outer s H E) rfl rfl rfl rfl
  have hp := passes_of (X := cxOf (L2.CX P w) P w K mg base ["_law_script", "_law_k"] "_law_cell" (defScope st__law_cell) T._law_cell_.f cdv A outer s H E) rfl
  exact (dss_cons (ds_if (dtC (cm_eq (roomU64 hr)) (de_v (pv 0)) (de_ofF (df_lst da_nil)))
  (dss_one (ds_ret (de_mul de_int (de_v (pv 1)))))
  dss_nil)
  (dss_one (ds_ret (de_add (de_ix (roomU1 hr) (fun _ _ => rfl) (de_v (pv 0)) (de_mod (de_v (pv 1)) (de_callB cb_len T.len_ (by decide +kernel) (da_cons (de_v (pv 0)) da_nil)))) (de_mul de_int (de_div (de_v (pv 1)) (de_callB cb_len T.len_ (by decide +kernel) (da_cons (de_v (pv 0)) da_nil))))))))
theorem sc__law_drawn : FnScope ["_law_script", "_law_k", "_law_many", "_law_cell_here"] ["_law_script", "_law_k", "_law_many"] (defScope st__law_drawn) := ⟨rfl, rfl, rfl, by decide +kernel, rfl, by decide +kernel, by decide +kernel⟩
theorem ok__law_drawn (T : Txt K mg) : FnOk P w K mg base (L2.CX P w) 2 T._law_drawn_.f T._law_drawn_.fd ["_law_script", "_law_k", "_law_many"] (spD K T.xi den__law_drawn) := by
  refine fn_d (G := g__law_drawn) T._law_drawn_.Fn sc__law_drawn (fun ds h => if_neg h) (fun ds h => if_pos h) fun cdv A outer s H E hr => ?_
  have tk := takes_of (X := cxOf (L2.CX P w) P w K mg base ["_law_script", "_law_k", "_law_many", "_law_cell_here"] "_law_drawn" (defScope st__law_drawn) T._law_drawn_.f cdv A outer s H E) rfl rfl rfl rfl
  have hp := passes_of (X := cxOf (L2.CX P w) P w K mg base ["_law_script", "_law_k", "_law_many", "_law_cell_here"] "_law_drawn" (defScope st__law_drawn) T._law_drawn_.f cdv A outer s H E) rfl
  exact (dss_cons (ds_set (i := 3) sc__law_drawn.nd (de_mod (de_add (de_mul (de_mod (de_call (ok__law_cell T) tk (hr.mono (by first | decide | omega)) T._law_cell_.m T._law_cell_.Fn.kp T._law_cell_.b (da_cons (de_v (pv 0)) (da_cons (de_v (pv 1)) da_nil))) de_int) de_int) (de_mul de_int (de_add (de_v (pv 1)) de_int))) de_int))
  (dss_cons (ds_set (i := 3) sc__law_drawn.nd (de_mod (de_add (de_mul (de_v (pv 3)) (de_v (pv 3))) (de_div (de_v (pv 3)) de_int)) de_int))
  (dss_one (ds_ret (de_mod (de_div (de_mod (de_add (de_mul (de_v (pv 3)) (de_v (pv 3))) (de_div (de_v (pv 3)) de_int)) de_int) de_int) (de_v (pv 2)))))))
theorem sc__law_scene : FnScope ["_law_script", "_law_at", "_law_found", "_law_turn", "_law_k", "_law_here", "_law_around", "_law_places", "_law_sizes", "_law_marks", "_law_j", "_law_sign", "_law_name", "_law_box_here"] ["_law_script", "_law_at"] (defScope st__law_scene) := ⟨rfl, rfl, rfl, by decide +kernel, rfl, by decide +kernel, by decide +kernel⟩
theorem ok__law_scene (T : Txt K mg) : FnOk P w K mg base (L2.CX P w) 3 T._law_scene_.f T._law_scene_.fd ["_law_script", "_law_at"] (spD K T.xi den__law_scene) := by
  refine fn_d (G := g__law_scene) T._law_scene_.Fn sc__law_scene (fun ds h => if_neg h) (fun ds h => if_pos h) fun cdv A outer s H E hr => ?_
  have tk := takes_of (X := cxOf (L2.CX P w) P w K mg base ["_law_script", "_law_at", "_law_found", "_law_turn", "_law_k", "_law_here", "_law_around", "_law_places", "_law_sizes", "_law_marks", "_law_j", "_law_sign", "_law_name", "_law_box_here"] "_law_scene" (defScope st__law_scene) T._law_scene_.f cdv A outer s H E) rfl rfl rfl rfl
  have hp := passes_of (X := cxOf (L2.CX P w) P w K mg base ["_law_script", "_law_at", "_law_found", "_law_turn", "_law_k", "_law_here", "_law_around", "_law_places", "_law_sizes", "_law_marks", "_law_j", "_law_sign", "_law_name", "_law_box_here"] "_law_scene" (defScope st__law_scene) T._law_scene_.f cdv A outer s H E) rfl
  exact (dss_cons (ds_set (i := 2) sc__law_scene.nd (de_tup da_nil))
  (dss_cons (ds_set (i := 3) sc__law_scene.nd (de_call (ok__law_drawn T) tk (hr.mono (by first | decide | omega)) T._law_drawn_.m T._law_drawn_.Fn.kp T._law_drawn_.b (da_cons (de_v (pv 0)) (da_cons (de_add (de_v (pv 1)) de_int) (da_cons de_int da_nil)))))
  (dss_cons (ds_for hp (di_range1 (c := true) T.range_ (de_call (ok__law_drawn T) tk (hr.mono (by first | decide | omega)) T._law_drawn_.m T._law_drawn_.Fn.kp T._law_drawn_.b (da_cons (de_v (pv 0)) (da_cons (de_v (pv 1)) (da_cons de_int da_nil))))) (dg_name (i := 4) sc__law_scene.nd) (dss_end [4, 5, 6, 7, 8, 9, 10, 11, 12] (dss_cons (ds_set (i := 5) sc__law_scene.nd (de_add (de_add (de_v (pv 1)) de_int) (de_mul de_int (de_v (pv 4)))))
  (dss_cons (ds_set (i := 6) sc__law_scene.nd (de_ix (roomU1 hr) (fun _ _ => rfl) (de_add (de_ofF (df_lst (da_cons de_str da_nil))) (de_ofF (df_lc (own := [("_law_box_here", 13)]) (ts := [13]) sc__law_scene.nd (di_seq (de_v (pv 2))) rfl (fun _ _ _ _ _ => (dg_name (i := 13) sc__law_scene.nd)) (fun _ _ _ _ _ => dts_nil) (fun _ _ _ _ _ => (de_ix (roomU1 hr) (fun _ _ => rfl) (de_v (pv 13)) de_int))))) (de_call (ok__law_drawn T) tk (hr.mono (by first | decide | omega)) T._law_drawn_.m T._law_drawn_.Fn.kp T._law_drawn_.b (da_cons (de_v (pv 0)) (da_cons (de_v (pv 5)) (da_cons (de_add (de_v (pv 4)) de_int) da_nil))))))
  (dss_cons (ds_setFDG (ds_lcG (i := 7) (own := [("_law_j", 10)]) (ts := [10]) sc__law_scene.nd (di_range1 (c := true) T.range_ de_int) rfl (fun _ _ _ _ _ => (dg_name (i := 10) sc__law_scene.nd)) (fun _ _ _ _ _ => dts_nil) (fun _ _ _ _ _ => (de_sub (de_call (ok__law_drawn T) takes0 (hr.mono (by first | decide | omega)) T._law_drawn_.m T._law_drawn_.Fn.kp T._law_drawn_.b (da_cons (de_v (pv 0)) (da_cons (de_add (de_add (de_v (pv 5)) de_int) (de_v (pv 10))) (da_cons de_int da_nil)))) de_int))))
  (dss_cons (ds_setFDG (ds_lcG (i := 8) (own := [("_law_j", 10)]) (ts := [10]) sc__law_scene.nd (di_range1 (c := true) T.range_ de_int) rfl (fun _ _ _ _ _ => (dg_name (i := 10) sc__law_scene.nd)) (fun _ _ _ _ _ => dts_nil) (fun _ _ _ _ _ => (de_call (ok__law_drawn T) takes0 (hr.mono (by first | decide | omega)) T._law_drawn_.m T._law_drawn_.Fn.kp T._law_drawn_.b (da_cons (de_v (pv 0)) (da_cons (de_add (de_add (de_v (pv 5)) de_int) (de_v (pv 10))) (da_cons de_int da_nil)))))))
  (dss_cons (ds_set (i := 9) sc__law_scene.nd de_str)
  (dss_cons (ds_for hp (di_enumT T.enumerate_ de_str) (dg_tup (ts := [10, 11]) rfl (dgs_cons (i := 10) sc__law_scene.nd (dgs_cons (i := 11) sc__law_scene.nd dgs_nil))) (dss_end [10, 11] (dss_one (ds_if (dtC (cm_eq (roomU64 hr)) (de_call (ok__law_drawn T) tk (hr.mono (by first | decide | omega)) T._law_drawn_.m T._law_drawn_.Fn.kp T._law_drawn_.b (da_cons (de_v (pv 0)) (da_cons (de_add (de_add (de_v (pv 5)) de_int) (de_v (pv 10))) (da_cons (de_ix (roomU1 hr) (fun _ _ => rfl) (de_ofF (df_lst (da_cons de_int (da_cons de_int (da_cons de_int (da_cons de_int da_nil)))))) (de_v (pv 10))) da_nil)))) de_int)
  (dss_one (ds_set (i := 9) sc__law_scene.nd (de_add (de_v (pv 9)) (de_v (pv 11)))))
  dss_nil))))
  (dss_cons (ds_set (i := 12) sc__law_scene.nd (de_ix (roomU1 hr) (fun _ _ => rfl) de_str (de_mod (de_add (de_v (pv 4)) (de_v (pv 3))) de_int)))
  (dss_one (ds_set (i := 2) sc__law_scene.nd (de_add (de_v (pv 2)) (de_tup (da_cons (de_add (de_add (de_tup (da_cons (de_v (pv 12)) (da_cons (de_v (pv 6)) da_nil))) (de_callTy cb_tuple T.tuple_ (by decide +kernel) (da_cons (de_add (de_v (pv 7)) (de_v (pv 8))) da_nil))) (de_tup (da_cons (de_v (pv 9)) da_nil))) da_nil))))))))))))))
  (dss_one (ds_ret (de_v (pv 2)))))))
theorem sc__law_odd : FnScope ["_law_number", "_law_some"] ["_law_number"] (defScope st__law_odd) := ⟨rfl, rfl, rfl, by decide +kernel, rfl, by decide +kernel, by decide +kernel⟩
theorem ok__law_odd (T : Txt K mg) : FnOk P w K mg base (L2.CX P w) 1 T._law_odd_.f T._law_odd_.fd ["_law_number"] (spD K T.xi den__law_odd) := by
  refine fn_d (G := g__law_odd) T._law_odd_.Fn sc__law_odd (fun ds h => if_neg h) (fun ds h => if_pos h) fun cdv A outer s H E hr => ?_
  have tk := takes_of (X := cxOf (L2.CX P w) P w K mg base ["_law_number", "_law_some"] "_law_odd" (defScope st__law_odd) T._law_odd_.f cdv A outer s H E) rfl rfl rfl rfl
  have hp := passes_of (X := cxOf (L2.CX P w) P w K mg base ["_law_number", "_law_some"] "_law_odd" (defScope st__law_odd) T._law_odd_.f cdv A outer s H E) rfl
  exact (dss_cons (ds_set (i := 1) sc__law_odd.nd (de_ofF (df_lst (da_cons (de_neg de_int) (da_cons de_int (da_cons de_int (da_cons de_int (da_cons de_int (da_cons (de_neg de_int) (da_cons (de_neg de_int) (da_cons de_bl (da_cons de_non (da_cons de_str (da_cons de_str (da_cons de_str (da_cons de_str (da_cons de_str (da_cons de_str (da_cons de_str (da_cons de_str (da_cons (de_tup da_nil) (da_cons (de_ofF (df_lst da_nil)) da_nil))))))))))))))))))))))
  (dss_one (ds_ret (de_ix (roomU1 hr) (fun _ _ => rfl) (de_add (de_v (pv 1)) (de_ofF (df_lst (da_cons (de_tup (da_cons de_str (da_cons de_str (da_cons de_int (da_cons de_int (da_cons de_int (da_cons de_int (da_cons de_str da_nil)))))))) da_nil)))) (de_mod (de_v (pv 0)) de_int)))))
theorem sc__law_spoilt01 : FnScope ["_law_thing", "_law_number", "_law_deep", "_law_at", "_law_part"] ["_law_thing", "_law_number", "_law_deep"] (defScope st__law_spoilt) := ⟨rfl, rfl, rfl, by decide +kernel, rfl, by decide +kernel, by decide +kernel⟩
theorem ok__law_spoilt01_n (T : Txt K mg) : ∀ k : Nat, FnOk P w K mg base (L2.CX P w) (1 + k + 1) T._law_spoilt_.f T._law_spoilt_.fd ["_law_thing", "_law_number", "_law_deep"] (spD K T.xi (den__law_spoilt01_n k))
  | 0 => fn_bad T._law_spoilt_.Fn sc__law_spoilt01
  | k + 1 => by
    have Gs := ok__law_spoilt01_n T k
    refine fn_d (G := g__law_spoilt01 (den__law_spoilt01_n k)) T._law_spoilt_.Fn sc__law_spoilt01 (fun ds h => if_neg h) (fun ds h => if_pos h) fun cdv A outer s H E hr => ?_
    have tk := takes_of (X := cxOf (L2.CX P w) P w K mg base ["_law_thing", "_law_number", "_law_deep", "_law_at", "_law_part"] "_law_spoilt" (defScope st__law_spoilt) T._law_spoilt_.f cdv A outer s H E) rfl rfl rfl rfl
    have hp := passes_of (X := cxOf (L2.CX P w) P w K mg base ["_law_thing", "_law_number", "_law_deep", "_law_at", "_law_part"] "_law_spoilt" (defScope st__law_spoilt) T._law_spoilt_.f cdv A outer s H E) rfl
    exact (dss_cons (ds_end [3, 4] (ds_if (dt_w (dw_and (dtC cm_gt (de_v (pv 2)) de_int) (dw_and (dt_val (de_isi T.isinstance_ T.tuple_ (by decide +kernel) (de_v (pv 0)))) (dw_and (dtC cm_gt (de_callB cb_len T.len_ (by decide +kernel) (da_cons (de_v (pv 0)) da_nil)) de_int) (dw_and1 (dtC cm_gt (de_mod (de_v (pv 1)) de_int) de_int))))))
  (dss_cons (ds_set (i := 3) sc__law_spoilt01.nd (de_mod (de_div (de_v (pv 1)) de_int) (de_callB cb_len T.len_ (by decide +kernel) (da_cons (de_v (pv 0)) da_nil))))
  (dss_cons (ds_set (i := 4) sc__law_spoilt01.nd (de_call Gs tk (hr.mono (Nat.le_refl _)) T._law_spoilt_.m T._law_spoilt_.Fn.kp T._law_spoilt_.b (da_cons (de_ix (roomU1 hr) (fun _ _ => rfl) (de_v (pv 0)) (de_v (pv 3))) (da_cons (de_div (de_v (pv 1)) de_int) (da_cons (de_sub (de_v (pv 2)) de_int) da_nil)))))
  (dss_one (ds_ret (de_add (de_add (de_slice (de_v (pv 0)) do_none (do_some (de_v (pv 3)))) (de_tup (da_cons (de_v (pv 4)) da_nil))) (de_slice (de_v (pv 0)) (do_some (de_add (de_v (pv 3)) de_int)) do_none))))))
  dss_nil))
  (dss_cons (ds_if (dt_w (dw_and (dt_val (de_isi T.isinstance_ T.tuple_ (by decide +kernel) (de_v (pv 0)))) (dw_and (dtC cm_gt (de_callB cb_len T.len_ (by decide +kernel) (da_cons (de_v (pv 0)) da_nil)) de_int) (dw_and1 (dtC (cm_eq (roomU64 hr)) (de_mod (de_div (de_v (pv 1)) de_int) de_int) de_int)))))
  (dss_one (ds_ret (de_ix (roomU1 hr) (fun _ _ => rfl) (de_ofF (df_lst (da_cons (de_callTy cb_list T.list_ (by decide +kernel) (da_cons (de_v (pv 0)) da_nil)) (da_cons (de_slice (de_v (pv 0)) do_none (do_some (de_neg de_int))) (da_cons (de_add (de_v (pv 0)) (de_slice (de_v (pv 0)) (do_some (de_neg de_int)) do_none)) (da_cons (de_slice (de_v (pv 0)) (do_some de_int) do_none) (da_cons (de_revT (de_v (pv 0))) (da_cons (de_mul (de_v (pv 0)) de_int) da_nil)))))))) (de_mod (de_div (de_v (pv 1)) de_int) de_int))))
  dss_nil)
  (dss_cons (ds_if (dt_w (dw_and (dt_val (de_isi T.isinstance_ T.int_ (by decide +kernel) (de_v (pv 0)))) (dw_and1 (dtC (cm_eq (roomU64 hr)) (de_mod (de_div (de_v (pv 1)) de_int) de_int) de_int))))
  (dss_one (ds_ret (de_ix (roomU1 hr) (fun _ _ => rfl) (de_ofF (df_lst (da_cons (de_callTy cb_str1 T.str_ (by decide +kernel) (da_cons (de_v (pv 0)) da_nil)) (da_cons (de_sub de_int (de_v (pv 0))) (da_cons (de_add (de_v (pv 0)) de_int) (da_cons (deC (cm_eq (roomU64 hr)) (de_v (pv 0)) de_int) (da_cons (de_sub (de_v (pv 0)) de_int) (da_cons (de_add (de_v (pv 0)) de_int) da_nil)))))))) (de_mod (de_div (de_v (pv 1)) de_int) de_int))))
  dss_nil)
  (dss_one (ds_ret (de_call (ok__law_odd T) tk (hr.mono (by first | decide | omega)) T._law_odd_.m T._law_odd_.Fn.kp T._law_odd_.b (da_cons (de_div (de_v (pv 1)) de_int) da_nil)))))))
theorem ok__law_spoilt01 (T : Txt K mg) : FnOk P w K mg base (L2.CX P w) 11 T._law_spoilt_.f T._law_spoilt_.fd ["_law_thing", "_law_number", "_law_deep"] (spD K T.xi den__law_spoilt01) := ok__law_spoilt01_n T 9
theorem sc__law_is_number : FnScope ["_law_thing", "_law_low", "_law_high"] ["_law_thing", "_law_low", "_law_high"] (defScope st__law_is_number) := ⟨rfl, rfl, rfl, by decide +kernel, rfl, by decide +kernel, by decide +kernel⟩
theorem ok__law_is_number (T : Txt K mg) : FnOk P w K mg base (L2.CX P w) 1 T._law_is_number_.f T._law_is_number_.fd ["_law_thing", "_law_low", "_law_high"] (spD K T.xi den__law_is_number) := by
  refine fn_d (G := g__law_is_number) T._law_is_number_.Fn sc__law_is_number (fun ds h => if_neg h) (fun ds h => if_pos h) fun cdv A outer s H E hr => ?_
  have tk := takes_of (X := cxOf (L2.CX P w) P w K mg base ["_law_thing", "_law_low", "_law_high"] "_law_is_number" (defScope st__law_is_number) T._law_is_number_.f cdv A outer s H E) rfl rfl rfl rfl
  have hp := passes_of (X := cxOf (L2.CX P w) P w K mg base ["_law_thing", "_law_low", "_law_high"] "_law_is_number" (defScope st__law_is_number) T._law_is_number_.f cdv A outer s H E) rfl
  exact (dss_one (ds_ret (de_and (de_isi T.isinstance_ T.int_ (by decide +kernel) (de_v (pv 0))) (de_and (de_not (de_isi T.isinstance_ T.bool_ (by decide +kernel) (de_v (pv 0)))) (de_one (deChain cm_le cm_le (de_v (pv 1)) (de_v (pv 0)) (de_v (pv 2))))))))
theorem sc__law_is_box : FnScope ["_law_box_here", "_law_names", "_law_odd_here", "_law_part", "_law_sign"] ["_law_box_here", "_law_names"] (defScope st__law_is_box) := ⟨rfl, rfl, rfl, by decide +kernel, rfl, by decide +kernel, by decide +kernel⟩
theorem ok__law_is_box (T : Txt K mg) : FnOk P w K mg base (L2.CX P w) 2 T._law_is_box_.f T._law_is_box_.fd ["_law_box_here", "_law_names"] (spD K T.xi den__law_is_box) := by
  refine fn_d (G := g__law_is_box) T._law_is_box_.Fn sc__law_is_box (fun ds h => if_neg h) (fun ds h => if_pos h) fun cdv A outer s H E hr => ?_
  have tk := takes_of (X := cxOf (L2.CX P w) P w K mg base ["_law_box_here", "_law_names", "_law_odd_here", "_law_part", "_law_sign"] "_law_is_box" (defScope st__law_is_box) T._law_is_box_.f cdv A outer s H E) rfl rfl rfl rfl
  have hp := passes_of (X := cxOf (L2.CX P w) P w K mg base ["_law_box_here", "_law_names", "_law_odd_here", "_law_part", "_law_sign"] "_law_is_box" (defScope st__law_is_box) T._law_is_box_.f cdv A outer s H E) rfl
  exact (dss_cons (ds_if (dt_w (dw_or (dt_not (dt_val (de_isi T.isinstance_ T.tuple_ (by decide +kernel) (de_v (pv 0))))) (dw_or1 (dtC (cm_ne (roomU64 hr)) (de_callB cb_len T.len_ (by decide +kernel) (da_cons (de_v (pv 0)) da_nil)) de_int))))
  (dss_one (ds_ret de_bl))
  dss_nil)
  (dss_cons (ds_if (dtC (cm_ne (roomU64 hr)) (de_ofF (df_lc (own := [("_law_part", 3)]) (ts := [3]) sc__law_is_box.nd (di_seq (de_add (de_slice (de_v (pv 0)) do_none (do_some de_int)) (de_slice (de_v (pv 0)) (do_some de_int) do_none))) rfl (fun _ _ _ _ _ => (dg_name (i := 3) sc__law_is_box.nd)) (fun _ _ _ _ _ => (dts_one (dt_not (dt_val (de_isi T.isinstance_ T.str_ (by decide +kernel) (de_v (pv 3))))))) (fun _ _ _ _ _ => (de_v (pv 3))))) (de_ofF (df_lst da_nil)))
  (dss_one (ds_ret de_bl))
  dss_nil)
  (dss_cons (ds_setFDG (ds_lcG (i := 2) (own := [("_law_sign", 4)]) (ts := [4]) sc__law_is_box.nd (di_seq (de_ix (roomU1 hr) (fun _ _ => rfl) (de_v (pv 0)) de_int)) rfl (fun _ _ _ _ _ => (dg_name (i := 4) sc__law_is_box.nd)) (fun _ _ _ _ _ => (dts_one (dtC (cm_notIn (roomU65 hr)) (de_v (pv 4)) de_str))) (fun _ _ _ _ _ => (de_v (pv 4)))))
  (dss_cons (ds_if (dt_w (dw_or (dt_not (dtChain cm_le cm_le de_int (de_callB cb_len T.len_ (by decide +kernel) (da_cons (de_ix (roomU1 hr) (fun _ _ => rfl) (de_v (pv 0)) de_int) da_nil)) de_int)) (dw_or1 (dtC (cm_ne (roomU64 hr)) (de_v (pv 2)) (de_ofF (df_lst da_nil))))))
  (dss_one (ds_ret de_bl))
  dss_nil)
  (dss_cons (ds_if (dt_w (dw_or (dtC (cm_in (roomU65 hr)) (de_ix (roomU1 hr) (fun _ _ => rfl) (de_v (pv 0)) de_int) (de_v (pv 1))) (dw_or1 (dt_w (dw_and (dtC (cm_ne (roomU64 hr)) (de_ix (roomU1 hr) (fun _ _ => rfl) (de_v (pv 0)) de_int) de_str) (dw_and1 (dtC (cm_notIn (roomU65 hr)) (de_ix (roomU1 hr) (fun _ _ => rfl) (de_v (pv 0)) de_int) (de_v (pv 1)))))))))
  (dss_one (ds_ret de_bl))
  dss_nil)
  (dss_cons (ds_if (dt_w (dw_or (dt_not (dt_val (de_call (ok__law_is_number T) tk (hr.mono (by first | decide | omega)) T._law_is_number_.m T._law_is_number_.Fn.kp T._law_is_number_.b (da_cons (de_ix (roomU1 hr) (fun _ _ => rfl) (de_v (pv 0)) de_int) (da_cons (de_neg de_int) (da_cons de_int da_nil)))))) (dw_or1 (dt_not (dt_val (de_call (ok__law_is_number T) tk (hr.mono (by first | decide | omega)) T._law_is_number_.m T._law_is_number_.Fn.kp T._law_is_number_.b (da_cons (de_ix (roomU1 hr) (fun _ _ => rfl) (de_v (pv 0)) de_int) (da_cons (de_neg de_int) (da_cons de_int da_nil)))))))))
  (dss_one (ds_ret de_bl))
  dss_nil)
  (dss_cons (ds_if (dt_w (dw_or (dt_not (dt_val (de_call (ok__law_is_number T) tk (hr.mono (by first | decide | omega)) T._law_is_number_.m T._law_is_number_.Fn.kp T._law_is_number_.b (da_cons (de_ix (roomU1 hr) (fun _ _ => rfl) (de_v (pv 0)) de_int) (da_cons de_int (da_cons de_int da_nil)))))) (dw_or1 (dt_not (dt_val (de_call (ok__law_is_number T) tk (hr.mono (by first | decide | omega)) T._law_is_number_.m T._law_is_number_.Fn.kp T._law_is_number_.b (da_cons (de_ix (roomU1 hr) (fun _ _ => rfl) (de_v (pv 0)) de_int) (da_cons de_int (da_cons de_int da_nil)))))))))
  (dss_one (ds_ret de_bl))
  dss_nil)
  (dss_one (ds_ret (deC (cm_eq (roomU64 hr)) (de_join de_str (de_ofF (df_lc (own := [("_law_sign", 4)]) (ts := [4]) sc__law_is_box.nd (di_seq de_str) rfl (fun _ _ _ _ _ => (dg_name (i := 4) sc__law_is_box.nd)) (fun _ _ _ _ _ => (dts_one (dtC (cm_in (roomU65 hr)) (de_v (pv 4)) (de_ix (roomU1 hr) (fun _ _ => rfl) (de_v (pv 0)) de_int)))) (fun _ _ _ _ _ => (de_v (pv 4)))))) (de_ix (roomU1 hr) (fun _ _ => rfl) (de_v (pv 0)) de_int)))))))))))
theorem sc__law_is_scene : FnScope ["_law_thing", "_law_names", "_law_box_here"] ["_law_thing"] (defScope st__law_is_scene) := ⟨rfl, rfl, rfl, by decide +kernel, rfl, by decide +kernel, by decide +kernel⟩
theorem ok__law_is_scene (T : Txt K mg) : FnOk P w K mg base (L2.CX P w) 3 T._law_is_scene_.f T._law_is_scene_.fd ["_law_thing"] (spD K T.xi den__law_is_scene) := by
  refine fn_d (G := g__law_is_scene) T._law_is_scene_.Fn sc__law_is_scene (fun ds h => if_neg h) (fun ds h => if_pos h) fun cdv A outer s H E hr => ?_
  have tk := takes_of (X := cxOf (L2.CX P w) P w K mg base ["_law_thing", "_law_names", "_law_box_here"] "_law_is_scene" (defScope st__law_is_scene) T._law_is_scene_.f cdv A outer s H E) rfl rfl rfl rfl
  have hp := passes_of (X := cxOf (L2.CX P w) P w K mg base ["_law_thing", "_law_names", "_law_box_here"] "_law_is_scene" (defScope st__law_is_scene) T._law_is_scene_.f cdv A outer s H E) rfl
  exact (dss_cons (ds_if (dt_w (dw_or (dt_not (dt_val (de_isi T.isinstance_ T.tuple_ (by decide +kernel) (de_v (pv 0))))) (dw_or1 (dtC cm_gt (de_callB cb_len T.len_ (by decide +kernel) (da_cons (de_v (pv 0)) da_nil)) de_int))))
  (dss_one (ds_ret de_bl))
  dss_nil)
  (dss_cons (ds_setF (i := 1) sc__law_is_scene.nd (df_lst da_nil))
  (dss_cons (ds_for hp (di_seq (de_v (pv 0))) (dg_name (i := 2) sc__law_is_scene.nd) (dss_end [2] (dss_cons (ds_if (dt_not (dt_val (de_callS (ok__law_is_box T) tk (hr.mono (by first | decide | omega)) T._law_is_box_.m T._law_is_box_.Fn.kp T._law_is_box_.b (da_cons (deB (de_v (pv 2))) (da_cons (de_vb (pv 1)) da_nil)))))
  (dss_one (ds_ret de_bl))
  dss_nil)
  (dss_one (ds_append (pv 1) (de_ix (roomU1 hr) (fun _ _ => rfl) (de_v (pv 2)) de_int))))))
  (dss_one (ds_ret de_bl)))))
theorem sc__law_each : FnScope ["_law_thing", "_law_found", "_law_place", "_law_part"] ["_law_thing"] (defScope st__law_each) := ⟨rfl, rfl, rfl, by decide +kernel, rfl, by decide +kernel, by decide +kernel⟩
theorem ok__law_each_n (T : Txt K mg) : ∀ k : Nat, FnOk P w K mg base (L2.CX P w) (0 + k + 1) T._law_each_.f T._law_each_.fd ["_law_thing"] (spD K T.xi (den__law_each_n k))
  | 0 => fn_bad T._law_each_.Fn sc__law_each
  | k + 1 => by
    have Gs := ok__law_each_n T k
    refine fn_d (G := g__law_each (den__law_each_n k)) T._law_each_.Fn sc__law_each (fun ds h => if_neg h) (fun ds h => if_pos h) fun cdv A outer s H E hr => ?_
    have tk := takes_of (X := cxOf (L2.CX P w) P w K mg base ["_law_thing", "_law_found", "_law_place", "_law_part"] "_law_each" (defScope st__law_each) T._law_each_.f cdv A outer s H E) rfl rfl rfl rfl
    have hp := passes_of (X := cxOf (L2.CX P w) P w K mg base ["_law_thing", "_law_found", "_law_place", "_law_part"] "_law_each" (defScope st__law_each) T._law_each_.f cdv A outer s H E) rfl
    exact (dss_cons (ds_if (dt_val (de_isi T.isinstance_ T.int_ (by decide +kernel) (de_v (pv 0))))
  (dss_one (ds_ret (de_ofF (df_lst (da_cons de_non (da_cons de_bl (da_cons (de_sub (de_v (pv 0)) de_int) (da_cons (de_add (de_v (pv 0)) de_int) (da_cons de_int da_nil)))))))))
  dss_nil)
  (dss_cons (ds_if (dt_not (dt_val (de_isi T.isinstance_ T.tuple_ (by decide +kernel) (de_v (pv 0)))))
  (dss_one (ds_ret (de_ofF (df_lst (da_cons de_non (da_cons de_str (da_cons de_str (da_cons (de_add (de_v (pv 0)) (de_v (pv 0))) (da_cons de_str da_nil)))))))))
  dss_nil)
  (dss_cons (ds_set (i := 1) sc__law_each.nd (de_ofF (df_lst (da_cons de_non (da_cons (de_callTy cb_list T.list_ (by decide +kernel) (da_cons (de_v (pv 0)) da_nil)) (da_cons (de_add (de_v (pv 0)) (de_slice (de_v (pv 0)) (do_some (de_neg de_int)) do_none)) (da_cons (de_slice (de_v (pv 0)) (do_some de_int) do_none) da_nil)))))))
  (dss_cons (ds_for hp (di_range1 (c := true) T.range_ (de_callB cb_len T.len_ (by decide +kernel) (da_cons (de_v (pv 0)) da_nil))) (dg_name (i := 2) sc__law_each.nd) (dss_end [2] (dss_one (ds_set (i := 1) sc__law_each.nd (de_add (de_v (pv 1)) (de_ofF (df_lc (own := [("_law_part", 3)]) (ts := [3]) sc__law_each.nd (di_seq (de_call Gs tk (hr.mono (Nat.le_refl _)) T._law_each_.m T._law_each_.Fn.kp T._law_each_.b (da_cons (de_ix (roomU1 hr) (fun _ _ => rfl) (de_v (pv 0)) (de_v (pv 2))) da_nil))) rfl (fun _ _ _ _ _ => (dg_name (i := 3) sc__law_each.nd)) (fun _ _ _ _ _ => dts_nil) (fun _ _ _ _ _ => (de_add (de_add (de_slice (de_v (pv 0)) do_none (do_some (de_v (pv 2)))) (de_tup (da_cons (de_v (pv 3)) da_nil))) (de_slice (de_v (pv 0)) (do_some (de_add (de_v (pv 2)) de_int)) do_none))))))))))
  (dss_one (ds_ret (de_v (pv 1))))))))
theorem ok__law_each (T : Txt K mg) : FnOk P w K mg base (L2.CX P w) 10 T._law_each_.f T._law_each_.fd ["_law_thing"] (spD K T.xi den__law_each) := ok__law_each_n T 9
theorem sc_law : FnScope ["_law_script", "_law_scene_here", "_law_spoilt_here", "_law_longer", "_law_thing", "_law_said", "_law_base", "_law_k", "_law_one"] ["_law_script"] (defScope st_law) := ⟨rfl, rfl, rfl, by decide +kernel, rfl, by decide +kernel, by decide +kernel⟩
theorem ok_law (T : Txt K mg) : FnOk P w K mg base (L2.CX P w) 12 T.law_.f T.law_.fd ["_law_script"] (spD K T.xi den_law_k01) := by
  refine fn_d (G := g_law_k01) T.law_.Fn sc_law (fun ds h => if_neg h) (fun ds h => if_pos h) fun cdv A outer s H E hr => ?_
  have tk := takes_of (X := cxOf (L2.CX P w) P w K mg base ["_law_script", "_law_scene_here", "_law_spoilt_here", "_law_longer", "_law_thing", "_law_said", "_law_base", "_law_k", "_law_one"] "law" (defScope st_law) T.law_.f cdv A outer s H E) rfl rfl rfl rfl
  have hp := passes_of (X := cxOf (L2.CX P w) P w K mg base ["_law_script", "_law_scene_here", "_law_spoilt_here", "_law_longer", "_law_thing", "_law_said", "_law_base", "_law_k", "_law_one"] "law" (defScope st_law) T.law_.f cdv A outer s H E) rfl
  exact (dss_cons (ds_set (i := 1) sc_law.nd (de_call (ok__law_scene T) tk (hr.mono (by first | decide | omega)) T._law_scene_.m T._law_scene_.Fn.kp T._law_scene_.b (da_cons (de_v (pv 0)) (da_cons de_int da_nil))))
  (dss_cons (ds_set (i := 2) sc_law.nd (de_call (ok__law_spoilt01 T) tk (hr.mono (by first | decide | omega)) T._law_spoilt_.m T._law_spoilt_.Fn.kp T._law_spoilt_.b (da_cons (de_v (pv 1)) (da_cons (de_call (ok__law_drawn T) tk (hr.mono (by first | decide | omega)) T._law_drawn_.m T._law_drawn_.Fn.kp T._law_drawn_.b (da_cons (de_v (pv 0)) (da_cons de_int (da_cons (de_pow de_int de_int) da_nil)))) (da_cons (de_call (ok__law_drawn T) tk (hr.mono (by first | decide | omega)) T._law_drawn_.m T._law_drawn_.Fn.kp T._law_drawn_.b (da_cons (de_v (pv 0)) (da_cons de_int (da_cons de_int da_nil)))) da_nil)))))
  (dss_cons (ds_set (i := 3) sc_law.nd (de_add (de_v (pv 1)) (de_callTy cb_tuple T.tuple_ (by decide +kernel) (da_cons (de_ofF (df_lc (own := [("_law_k", 7)]) (ts := [7]) sc_law.nd (di_range1 (c := true) T.range_ (de_call (ok__law_drawn T) tk (hr.mono (by first | decide | omega)) T._law_drawn_.m T._law_drawn_.Fn.kp T._law_drawn_.b (da_cons (de_v (pv 0)) (da_cons de_int (da_cons de_int da_nil))))) rfl (fun _ _ _ _ _ => (dg_name (i := 7) sc_law.nd)) (fun _ _ _ _ _ => dts_nil) (fun _ _ _ _ _ => (de_tup (da_cons (de_add de_str (de_ix (roomU1 hr) (fun _ _ => rfl) de_str (de_v (pv 7)))) (da_cons de_str (da_cons (de_v (pv 7)) (da_cons de_int (da_cons de_int (da_cons (de_v (pv 7)) (da_cons de_str da_nil))))))))))) da_nil))))
  (dss_cons (ds_for hp (di_seq (de_tup (da_cons (de_v (pv 1)) (da_cons (de_v (pv 2)) (da_cons (de_v (pv 3)) (da_cons (de_callTy cb_list T.list_ (by decide +kernel) (da_cons (de_v (pv 1)) da_nil)) (da_cons (de_revT (de_v (pv 1))) (da_cons (de_mul0 (de_v (pv 1)) de_int) (da_cons (de_tup (da_cons (de_tup (da_cons de_str (da_cons de_str (da_cons de_int (da_cons de_int (da_cons de_int (da_cons de_int (da_cons de_str da_nil)))))))) da_nil)) (da_cons de_non da_nil)))))))))) (dg_name (i := 4) sc_law.nd) (dss_end [4, 5] (dss_cons (ds_set (i := 5) sc_law.nd (de_call (ok_is_scene T) tk (hr.mono (by first | decide | omega)) T.is_scene_.m T.is_scene_.Fn.kp T.is_scene_.b (da_cons (de_v (pv 4)) da_nil)))
  (dss_one (ds_if (dt_w (dw_or (dt_not (dt_val (de_isi T.isinstance_ T.bool_ (by decide +kernel) (de_v (pv 5))))) (dw_or1 (dtC (cm_ne (roomU64 hr)) (de_v (pv 5)) (de_call (ok__law_is_scene T) tk (hr.mono (by first | decide | omega)) T._law_is_scene_.m T._law_is_scene_.Fn.kp T._law_is_scene_.b (da_cons (de_v (pv 4)) da_nil))))))
  (dss_one (ds_ret de_bl))
  dss_nil)))))
  (dss_cons (ds_set (i := 6) sc_law.nd (de_tup (da_cons (de_tup (da_cons de_str (da_cons de_str (da_cons (de_neg de_int) (da_cons de_int (da_cons de_int (da_cons de_int (da_cons de_str da_nil)))))))) (da_cons (de_tup (da_cons de_str (da_cons de_str (da_cons de_int (da_cons de_int (da_cons de_int (da_cons de_int (da_cons de_str da_nil)))))))) da_nil))))
  (dss_one (ds_ret (deC (cm_eq (roomU64 hr)) (de_ofF (df_lc (own := [("_law_one", 8)]) (ts := [8]) sc_law.nd (di_seq (de_add (de_ofF (df_lst (da_cons (de_v (pv 6)) da_nil))) (de_call (ok__law_each T) tk (hr.mono (by first | decide | omega)) T._law_each_.m T._law_each_.Fn.kp T._law_each_.b (da_cons (de_v (pv 6)) da_nil)))) rfl (fun _ _ _ _ _ => (dg_name (i := 8) sc_law.nd)) (fun _ _ _ _ _ => (dts_one (dtC (cm_ne (roomU64 hr)) (de_call (ok_is_scene T) takes0 (hr.mono (by first | decide | omega)) T.is_scene_.m T.is_scene_.Fn.kp T.is_scene_.b (da_cons (de_v (pv 8)) da_nil)) (de_call (ok__law_is_scene T) takes0 (hr.mono (by first | decide | omega)) T._law_is_scene_.m T._law_is_scene_.Fn.kp T._law_is_scene_.b (da_cons (de_v (pv 8)) da_nil))))) (fun _ _ _ _ _ => (de_v (pv 8))))) (de_ofF (df_lst da_nil))))))))))
end
theorem all_mk (hlaw : ∀ ns : List Int, ns.length ≤ 63 → den_law_k01 [.frz ns] = .ok (.bl true)) {l : PySem.W.OpenLaw} {w : World} {K : PySem.W.Frag} {h : Heap} {mg : Str → Option Value} {fa f0 f1 f2 f3 f4 f5 f6 f7 f8 f9 f10 f11 f12 f13 f14 : Addr} {od0 an0 od1 an1 od2 an2 od3 an3 od4 an4 od5 an5 od6 an6 od7 an7 od8 an8 od9 an9 od10 an10 od11 an11 od12 an12 od13 an13 od14 an14 : Option Addr} {sl0 sl1 sl2 sl3 sl4 sl5 sl6 sl7 sl8 sl9 sl10 sl11 sl12 sl13 sl14 : Array (Option Value)} {oc0 kV0 dc0 pm0 cd0 ct0 oc1 kV1 dc1 pm1 cd1 ct1 oc2 kV2 dc2 pm2 cd2 ct2 oc3 kV3 dc3 pm3 cd3 ct3 oc4 kV4 dc4 pm4 cd4 ct4 oc5 kV5 dc5 pm5 cd5 ct5 oc6 kV6 dc6 pm6 cd6 ct6 oc7 kV7 dc7 pm7 cd7 ct7 oc8 kV8 dc8 pm8 cd8 ct8 oc9 kV9 dc9 pm9 cd9 ct9 oc10 kV10 dc10 pm10 cd10 ct10 oc11 kV11 dc11 pm11 cd11 ct11 oc12 kV12 dc12 pm12 cd12 ct12 oc13 kV13 dc13 pm13 cd13 ct13 oc14 kV14 dc14 pm14 cd14 ct14 : Value} {t0 t1 t2 t3 t4 : Tok} (X : K.In h) (G : h.Ns mainGlobals mg) (hfa : mg "law" = some (.ref fa))
    (a0 : PySem.W.nsIn K mainGlobals "is_within" = some (some (.ref f0))) (l0 : K.lookup f0 = some ⟨oc0, od0, .func (PySem.W.fnOf "is_within" "is_within" (defArgs st_is_within) (defBody st_is_within) (defScope st_is_within) .none kV0 dc0 pm0 an0 cd0 ct0), sl0⟩) (c0 : PySem.W.codeIn K cd0 "is_within" = true) (k0 : PySem.W.keepIn K (.ref f0) = true)
    (a1 : PySem.W.nsIn K mainGlobals "is_name" = some (some (.ref f1))) (l1 : K.lookup f1 = some ⟨oc1, od1, .func (PySem.W.fnOf "is_name" "is_name" (defArgs st_is_name) (defBody st_is_name) (defScope st_is_name) .none kV1 dc1 pm1 an1 cd1 ct1), sl1⟩) (c1 : PySem.W.codeIn K cd1 "is_name" = true) (k1 : PySem.W.keepIn K (.ref f1) = true)
    (a2 : PySem.W.nsIn K mainGlobals "are_marks" = some (some (.ref f2))) (l2 : K.lookup f2 = some ⟨oc2, od2, .func (PySem.W.fnOf "are_marks" "are_marks" (defArgs st_are_marks) (defBody st_are_marks) (defScope st_are_marks) .none kV2 dc2 pm2 an2 cd2 ct2), sl2⟩) (c2 : PySem.W.codeIn K cd2 "are_marks" = true) (k2 : PySem.W.keepIn K (.ref f2) = true)
    (a3 : PySem.W.nsIn K mainGlobals "is_box" = some (some (.ref f3))) (l3 : K.lookup f3 = some ⟨oc3, od3, .func (PySem.W.fnOf "is_box" "is_box" (defArgs st_is_box) (defBody st_is_box) (defScope st_is_box) .none kV3 dc3 pm3 an3 cd3 ct3), sl3⟩) (c3 : PySem.W.codeIn K cd3 "is_box" = true) (k3 : PySem.W.keepIn K (.ref f3) = true)
    (a4 : PySem.W.nsIn K mainGlobals "is_scene" = some (some (.ref f4))) (l4 : K.lookup f4 = some ⟨oc4, od4, .func (PySem.W.fnOf "is_scene" "is_scene" (defArgs st_is_scene) (defBody st_is_scene) (defScope st_is_scene) .none kV4 dc4 pm4 an4 cd4 ct4), sl4⟩) (c4 : PySem.W.codeIn K cd4 "is_scene" = true) (k4 : PySem.W.keepIn K (.ref f4) = true)
    (a5 : PySem.W.nsIn K mainGlobals "_law_cell" = some (some (.ref f5))) (l5 : K.lookup f5 = some ⟨oc5, od5, .func (PySem.W.fnOf "_law_cell" "_law_cell" (defArgs st__law_cell) (defBody st__law_cell) (defScope st__law_cell) .none kV5 dc5 pm5 an5 cd5 ct5), sl5⟩) (c5 : PySem.W.codeIn K cd5 "_law_cell" = true) (k5 : PySem.W.keepIn K (.ref f5) = true)
    (a6 : PySem.W.nsIn K mainGlobals "_law_drawn" = some (some (.ref f6))) (l6 : K.lookup f6 = some ⟨oc6, od6, .func (PySem.W.fnOf "_law_drawn" "_law_drawn" (defArgs st__law_drawn) (defBody st__law_drawn) (defScope st__law_drawn) .none kV6 dc6 pm6 an6 cd6 ct6), sl6⟩) (c6 : PySem.W.codeIn K cd6 "_law_drawn" = true) (k6 : PySem.W.keepIn K (.ref f6) = true)
    (a7 : PySem.W.nsIn K mainGlobals "_law_scene" = some (some (.ref f7))) (l7 : K.lookup f7 = some ⟨oc7, od7, .func (PySem.W.fnOf "_law_scene" "_law_scene" (defArgs st__law_scene) (defBody st__law_scene) (defScope st__law_scene) .none kV7 dc7 pm7 an7 cd7 ct7), sl7⟩) (c7 : PySem.W.codeIn K cd7 "_law_scene" = true) (k7 : PySem.W.keepIn K (.ref f7) = true)
    (a8 : PySem.W.nsIn K mainGlobals "_law_odd" = some (some (.ref f8))) (l8 : K.lookup f8 = some ⟨oc8, od8, .func (PySem.W.fnOf "_law_odd" "_law_odd" (defArgs st__law_odd) (defBody st__law_odd) (defScope st__law_odd) .none kV8 dc8 pm8 an8 cd8 ct8), sl8⟩) (c8 : PySem.W.codeIn K cd8 "_law_odd" = true) (k8 : PySem.W.keepIn K (.ref f8) = true)
    (a9 : PySem.W.nsIn K mainGlobals "_law_spoilt" = some (some (.ref f9))) (l9 : K.lookup f9 = some ⟨oc9, od9, .func (PySem.W.fnOf "_law_spoilt" "_law_spoilt" (defArgs st__law_spoilt) (defBody st__law_spoilt) (defScope st__law_spoilt) .none kV9 dc9 pm9 an9 cd9 ct9), sl9⟩) (c9 : PySem.W.codeIn K cd9 "_law_spoilt" = true) (k9 : PySem.W.keepIn K (.ref f9) = true)
    (a10 : PySem.W.nsIn K mainGlobals "_law_is_number" = some (some (.ref f10))) (l10 : K.lookup f10 = some ⟨oc10, od10, .func (PySem.W.fnOf "_law_is_number" "_law_is_number" (defArgs st__law_is_number) (defBody st__law_is_number) (defScope st__law_is_number) .none kV10 dc10 pm10 an10 cd10 ct10), sl10⟩) (c10 : PySem.W.codeIn K cd10 "_law_is_number" = true) (k10 : PySem.W.keepIn K (.ref f10) = true)
    (a11 : PySem.W.nsIn K mainGlobals "_law_is_box" = some (some (.ref f11))) (l11 : K.lookup f11 = some ⟨oc11, od11, .func (PySem.W.fnOf "_law_is_box" "_law_is_box" (defArgs st__law_is_box) (defBody st__law_is_box) (defScope st__law_is_box) .none kV11 dc11 pm11 an11 cd11 ct11), sl11⟩) (c11 : PySem.W.codeIn K cd11 "_law_is_box" = true) (k11 : PySem.W.keepIn K (.ref f11) = true)
    (a12 : PySem.W.nsIn K mainGlobals "_law_is_scene" = some (some (.ref f12))) (l12 : K.lookup f12 = some ⟨oc12, od12, .func (PySem.W.fnOf "_law_is_scene" "_law_is_scene" (defArgs st__law_is_scene) (defBody st__law_is_scene) (defScope st__law_is_scene) .none kV12 dc12 pm12 an12 cd12 ct12), sl12⟩) (c12 : PySem.W.codeIn K cd12 "_law_is_scene" = true) (k12 : PySem.W.keepIn K (.ref f12) = true)
    (a13 : PySem.W.nsIn K mainGlobals "_law_each" = some (some (.ref f13))) (l13 : K.lookup f13 = some ⟨oc13, od13, .func (PySem.W.fnOf "_law_each" "_law_each" (defArgs st__law_each) (defBody st__law_each) (defScope st__law_each) .none kV13 dc13 pm13 an13 cd13 ct13), sl13⟩) (c13 : PySem.W.codeIn K cd13 "_law_each" = true) (k13 : PySem.W.keepIn K (.ref f13) = true)
    (a14 : PySem.W.nsIn K mainGlobals "law" = some (some (.ref f14))) (l14 : K.lookup f14 = some ⟨oc14, od14, .func (PySem.W.fnOf "law" "law" (defArgs st_law) (defBody st_law) (defScope st_law) .none kV14 dc14 pm14 an14 cd14 ct14), sl14⟩) (c14 : PySem.W.codeIn K cd14 "law" = true) (k14 : PySem.W.keepIn K (.ref f14) = true)
    (z0 : PySem.W.nsIn K mainGlobals "all" = some none)
    (z1 : PySem.W.nsIn K mainGlobals "bool" = some none)
    (z2 : PySem.W.nsIn K mainGlobals "enumerate" = some none)
    (z3 : PySem.W.nsIn K mainGlobals "int" = some none)
    (z4 : PySem.W.nsIn K mainGlobals "isinstance" = some none)
    (z5 : PySem.W.nsIn K mainGlobals "len" = some none)
    (z6 : PySem.W.nsIn K mainGlobals "list" = some none)
    (z7 : PySem.W.nsIn K mainGlobals "range" = some none)
    (z8 : PySem.W.nsIn K mainGlobals "set" = some none)
    (z9 : PySem.W.nsIn K mainGlobals "str" = some none)
    (z10 : PySem.W.nsIn K mainGlobals "tuple" = some none)
    (z11 : PySem.W.nsIn K mainGlobals "zip" = some none)
    (gcn0 : PySem.W.nsIn K mainGlobals "LETTERS" = some (some (.str "abcdefghijklmnopqrstuvwxyz" t0)))
    (gcn1 : PySem.W.nsIn K mainGlobals "MARKS" = some (some (.str "cfhl" t1)))
    (gcn2 : PySem.W.nsIn K mainGlobals "MOST_BOXES" = some (some (.int 12 t2)))
    (gcn3 : PySem.W.nsIn K mainGlobals "MOST_PLACE" = some (some (.int 20 t3)))
    (gcn4 : PySem.W.nsIn K mainGlobals "MOST_SIZE" = some (some (.int 20 t4))) :
    ∃ fd : FuncData, (∀ (s : Shared) (v : Value), BindsTo s fd ⟨[v], []⟩ [("_law_script", v)]) ∧ ∀ base : Heap, K.In base → base.Ns mainGlobals mg → FnOk l.prog w K mg base (L2.CX l.prog w) 12 fa fd ["_law_script"] (spLaw K) := by
  have e := hfa.symm.trans (PySem.W.mg_of X G a14)
  cases e
  have T : Σ' T : Txt K mg, T.law_.f = fa ∧ T.law_.fd = PySem.W.fnOf "law" "law" (defArgs st_law) (defBody st_law) (defScope st_law) .none kV14 dc14 pm14 an14 cd14 ct14 := ⟨{
    is_within_ := ⟨_, _, fun_mk (st := st_is_within) l0 c0 k0, PySem.W.mg_of X G a0, (fun_mk (st := st_is_within) l0 c0 k0).binds (ps := ["thing", "low", "high"]) fun _ _ _ _ _ _ us hl => match us, hl with | [_, _, _], _ => rfl⟩,
    is_name_ := ⟨_, _, fun_mk (st := st_is_name) l1 c1 k1, PySem.W.mg_of X G a1, (fun_mk (st := st_is_name) l1 c1 k1).binds (ps := ["thing"]) fun _ _ _ _ _ _ us hl => match us, hl with | [_], _ => rfl⟩,
    are_marks_ := ⟨_, _, fun_mk (st := st_are_marks) l2 c2 k2, PySem.W.mg_of X G a2, (fun_mk (st := st_are_marks) l2 c2 k2).binds (ps := ["thing"]) fun _ _ _ _ _ _ us hl => match us, hl with | [_], _ => rfl⟩,
    is_box_ := ⟨_, _, fun_mk (st := st_is_box) l3 c3 k3, PySem.W.mg_of X G a3, (fun_mk (st := st_is_box) l3 c3 k3).binds (ps := ["thing"]) fun _ _ _ _ _ _ us hl => match us, hl with | [_], _ => rfl⟩,
    is_scene_ := ⟨_, _, fun_mk (st := st_is_scene) l4 c4 k4, PySem.W.mg_of X G a4, (fun_mk (st := st_is_scene) l4 c4 k4).binds (ps := ["thing"]) fun _ _ _ _ _ _ us hl => match us, hl with | [_], _ => rfl⟩,
    _law_cell_ := ⟨_, _, fun_mk (st := st__law_cell) l5 c5 k5, PySem.W.mg_of X G a5, (fun_mk (st := st__law_cell) l5 c5 k5).binds (ps := ["_law_script", "_law_k"]) fun _ _ _ _ _ _ us hl => match us, hl with | [_, _], _ => rfl⟩,
    _law_drawn_ := ⟨_, _, fun_mk (st := st__law_drawn) l6 c6 k6, PySem.W.mg_of X G a6, (fun_mk (st := st__law_drawn) l6 c6 k6).binds (ps := ["_law_script", "_law_k", "_law_many"]) fun _ _ _ _ _ _ us hl => match us, hl with | [_, _, _], _ => rfl⟩,
    _law_scene_ := ⟨_, _, fun_mk (st := st__law_scene) l7 c7 k7, PySem.W.mg_of X G a7, (fun_mk (st := st__law_scene) l7 c7 k7).binds (ps := ["_law_script", "_law_at"]) fun _ _ _ _ _ _ us hl => match us, hl with | [_, _], _ => rfl⟩,
    _law_odd_ := ⟨_, _, fun_mk (st := st__law_odd) l8 c8 k8, PySem.W.mg_of X G a8, (fun_mk (st := st__law_odd) l8 c8 k8).binds (ps := ["_law_number"]) fun _ _ _ _ _ _ us hl => match us, hl with | [_], _ => rfl⟩,
    _law_spoilt_ := ⟨_, _, fun_mk (st := st__law_spoilt) l9 c9 k9, PySem.W.mg_of X G a9, (fun_mk (st := st__law_spoilt) l9 c9 k9).binds (ps := ["_law_thing", "_law_number", "_law_deep"]) fun _ _ _ _ _ _ us hl => match us, hl with | [_, _, _], _ => rfl⟩,
    _law_is_number_ := ⟨_, _, fun_mk (st := st__law_is_number) l10 c10 k10, PySem.W.mg_of X G a10, (fun_mk (st := st__law_is_number) l10 c10 k10).binds (ps := ["_law_thing", "_law_low", "_law_high"]) fun _ _ _ _ _ _ us hl => match us, hl with | [_, _, _], _ => rfl⟩,
    _law_is_box_ := ⟨_, _, fun_mk (st := st__law_is_box) l11 c11 k11, PySem.W.mg_of X G a11, (fun_mk (st := st__law_is_box) l11 c11 k11).binds (ps := ["_law_box_here", "_law_names"]) fun _ _ _ _ _ _ us hl => match us, hl with | [_, _], _ => rfl⟩,
    _law_is_scene_ := ⟨_, _, fun_mk (st := st__law_is_scene) l12 c12 k12, PySem.W.mg_of X G a12, (fun_mk (st := st__law_is_scene) l12 c12 k12).binds (ps := ["_law_thing"]) fun _ _ _ _ _ _ us hl => match us, hl with | [_], _ => rfl⟩,
    _law_each_ := ⟨_, _, fun_mk (st := st__law_each) l13 c13 k13, PySem.W.mg_of X G a13, (fun_mk (st := st__law_each) l13 c13 k13).binds (ps := ["_law_thing"]) fun _ _ _ _ _ _ us hl => match us, hl with | [_], _ => rfl⟩,
    law_ := ⟨_, _, fun_mk (st := st_law) l14 c14 k14, PySem.W.mg_of X G a14, (fun_mk (st := st_law) l14 c14 k14).binds (ps := ["_law_script"]) fun _ _ _ _ _ _ us hl => match us, hl with | [_], _ => rfl⟩,
    all_ := PySem.W.mg_none_of X G z0,
    bool_ := PySem.W.mg_none_of X G z1,
    enumerate_ := PySem.W.mg_none_of X G z2,
    int_ := PySem.W.mg_none_of X G z3,
    isinstance_ := PySem.W.mg_none_of X G z4,
    len_ := PySem.W.mg_none_of X G z5,
    list_ := PySem.W.mg_none_of X G z6,
    range_ := PySem.W.mg_none_of X G z7,
    set_ := PySem.W.mg_none_of X G z8,
    str_ := PySem.W.mg_none_of X G z9,
    tuple_ := PySem.W.mg_none_of X G z10,
    zip_ := PySem.W.mg_none_of X G z11,
    LETTERS_ := ⟨_, PySem.W.mg_of X G gcn0⟩,
    MARKS_ := ⟨_, PySem.W.mg_of X G gcn1⟩,
    MOST_BOXES_ := ⟨_, PySem.W.mg_of X G gcn2⟩,
    MOST_PLACE_ := ⟨_, PySem.W.mg_of X G gcn3⟩,
    MOST_SIZE_ := ⟨_, PySem.W.mg_of X G gcn4⟩
  }, rfl, rfl⟩
  obtain ⟨T, h1, h2⟩ := T
  refine ⟨PySem.W.fnOf "law" "law" (defArgs st_law) (defBody st_law) (defScope st_law) .none kV14 dc14 pm14 an14 cd14 ct14, fun s v => .of_eq rfl, fun base _ _ => ?_⟩
  have q := (ok_law (P := l.prog) (w := w) (base := base) T).imp (law_imp hlaw)
  rw [h1, h2] at q
  exact q
theorem walk {l : PySem.W.OpenLaw} {q : Program} {loose : List Str} {XP : (Str → Option Value) → Heap → Prop} {YP : World → Heap → Prop} {d : DefRec} {K : Params → PySem.W.Frag} (hn : l.most = some 63) (hdf : d.params.defaults = [])
    (hY : ∀ (w : World) (h : Heap), YP w h → (K w.params).In h)
    (F : ∀ (w : World) (mg : Str → Option Value) (fa : Addr) (h : Heap), (K w.params).In h → h.Ns mainGlobals mg → mg d.name = some (.ref fa) →
      ∃ fd : FuncData, (∀ (s : Shared) (u : Value), BindsTo s fd ⟨[u], []⟩ [("_law_script", u)]) ∧ ∀ base : Heap, (K w.params).In base → base.Ns mainGlobals mg → FnOk l.prog w (K w.params) mg base (L2.CX l.prog w) 12 fa fd ["_law_script"] (spLaw (K w.params))) :
    PySem.W.WalkO q loose XP YP l.row.toRowW d [] (fun f vs => PySem.call f vs) :=
  L2.walk_of (n := 63) (k := 12) (x := "_law_script") (CX := fun w => L2.CX l.prog w) (sp := fun w => spLaw (K w.params)) hn (by decide) hdf ⟨rfl, by decide, by decide⟩ hY F (fun _ _ a ns hl _ hS => ⟨a, ns, rfl, hS, hl, fun _ => rfl⟩)
    fun _ _ _ _ _ z => by obtain ⟨_, _, _, _, _, _, _, _, _, _, _, _, z⟩ := z; exact z
end K01

theorem K01.law_true : ∀ ns : List Int, ns.length ≤ 63 → Dn.den_law_k01 [.frz ns] = .ok (.bl true) := Fo.law01_true

open PySem PySem.W PyProof.Rows in
set_option maxRecDepth 100000 in
set_option maxHeartbeats 0 in
theorem PySem.Challenge.cw_touchtree_k01_known_holds : PySem.Challenge.rw_touchtree_k01_known.Holds := by
  w_on; o_law; k_head; (case hw => w_witness2)
  k_fill
  refine K01.walk (l := PySem.Challenge.rw_touchtree_k01_known) rfl rfl (fun w h Y => PySem.W.kIn_of Y) ?F
  case F =>
    intro w mg fa h KX G hmg
    refine' K01.all_mk K01.law_true KX G hmg ?a0 ?l0 ?c0 ?k0 ?a1 ?l1 ?c1 ?k1 ?a2 ?l2 ?c2 ?k2 ?a3 ?l3 ?c3 ?k3 ?a4 ?l4 ?c4 ?k4 ?a5 ?l5 ?c5 ?k5 ?a6 ?l6 ?c6 ?k6 ?a7 ?l7 ?c7 ?k7 ?a8 ?l8 ?c8 ?k8 ?a9 ?l9 ?c9 ?k9 ?a10 ?l10 ?c10 ?k10 ?a11 ?l11 ?c11 ?k11 ?a12 ?l12 ?c12 ?k12 ?a13 ?l13 ?c13 ?k13 ?a14 ?l14 ?c14 ?k14 ?z0 ?z1 ?z2 ?z3 ?z4 ?z5 ?z6 ?z7 ?z8 ?z9 ?z10 ?z11 ?gcn0 ?gcn1 ?gcn2 ?gcn3 ?gcn4
    (case a0 => k_is)
    (case l0 => k_is)
    (case c0 => k_is)
    (case k0 => k_is)
    (case a1 => k_is)
    (case l1 => k_is)
    (case c1 => k_is)
    (case k1 => k_is)
    (case a2 => k_is)
    (case l2 => k_is)
    (case c2 => k_is)
    (case k2 => k_is)
    (case a3 => k_is)
    (case l3 => k_is)
    (case c3 => k_is)
    (case k3 => k_is)
    (case a4 => k_is)
    (case l4 => k_is)
    (case c4 => k_is)
    (case k4 => k_is)
    (case a5 => k_is)
    (case l5 => k_is)
    (case c5 => k_is)
    (case k5 => k_is)
    (case a6 => k_is)
    (case l6 => k_is)
    (case c6 => k_is)
    (case k6 => k_is)
    (case a7 => k_is)
    (case l7 => k_is)
    (case c7 => k_is)
    (case k7 => k_is)
    (case a8 => k_is)
    (case l8 => k_is)
    (case c8 => k_is)
    (case k8 => k_is)
    (case a9 => k_is)
    (case l9 => k_is)
    (case c9 => k_is)
    (case k9 => k_is)
    (case a10 => k_is)
    (case l10 => k_is)
    (case c10 => k_is)
    (case k10 => k_is)
    (case a11 => k_is)
    (case l11 => k_is)
    (case c11 => k_is)
    (case k11 => k_is)
    (case a12 => k_is)
    (case l12 => k_is)
    (case c12 => k_is)
    (case k12 => k_is)
    (case a13 => k_is)
    (case l13 => k_is)
    (case c13 => k_is)
    (case k13 => k_is)
    (case a14 => k_is)
    (case l14 => k_is)
    (case c14 => k_is)
    (case k14 => k_is)
    (case z0 => k_is)
    (case z1 => k_is)
    (case z2 => k_is)
    (case z3 => k_is)
    (case z4 => k_is)
    (case z5 => k_is)
    (case z6 => k_is)
    (case z7 => k_is)
    (case z8 => k_is)
    (case z9 => k_is)
    (case z10 => k_is)
    (case z11 => k_is)
    (case gcn0 => k_is)
    (case gcn1 => k_is)
    (case gcn2 => k_is)
    (case gcn3 => k_is)
    (case gcn4 => k_is)
#print axioms PySem.Challenge.cw_touchtree_k01_known_holds

