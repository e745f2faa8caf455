import PyProof.Rows.All
import Wide.All
import OpenK.AllK
import Wide.FinOn
import HandS.ForMost
import HandS.ForExc
import HandS.Walk
import HandS.Style
import HandS.Deep
import HandS.Rev
import HandS.TupMul
import HandS.Conv
import HandS.Set
import HandS.Strs
import HandS.SetTxt0
import HandS.TupAny
import KE.GoesEnum
import KE.GoesMore
import HandS.SortInts
import HandS.IsInst
import HandS.SortRule
import HandS.More
import PyProof.Rows.SortShellAny
import KE.GoesZip
import HandS.RaiseMore
import PyProof.StrOps2
import HandS.HotCalls
import HandS.TryOnly
import HandS.ExcIs
import KE.GoesComp
import KE.GoesRaise
import HandS.Text
import KE.IntTextLaws
import PySem.Challenge.RW_touchtree_k51_whole_read
set_option Elab.async false
set_option linter.all false
set_option maxRecDepth 100000
set_option maxHeartbeats 4000000
set_option autoImplicit false
namespace Dx
open PySem PySem.Spec PyProof.Rows L2

inductive R (α : Type) : Type where
  | ok (a : α)
  | exc (c : Str)
  | bad
def R.bnd {α β : Type} : R α → (α → R β) → R β
  | .ok a, f => f a
  | .exc c, _ => .exc c
  | .bad, _ => .bad
instance : Monad R where
  pure := R.ok
  bind := R.bnd
@[simp] theorem R.ok_bind {α β : Type} (a : α) (f : α → R β) : (R.ok a >>= f) = f a := (rfl)
@[simp] theorem R.exc_bind {α β : Type} (c : Str) (f : α → R β) : ((R.exc c : R α) >>= f) = R.exc c := (rfl)
@[simp] theorem R.bad_bind {α β : Type} (f : α → R β) : ((R.bad : R α) >>= f) = R.bad := (rfl)
@[simp] theorem R.pure_eq {α : Type} (a : α) : (pure a : R α) = R.ok a := (rfl)

inductive D where
  | non
  | bl (b : Bool)
  | int (i : Int)
  | str (s : Str)
  | tup (xs : List D)
  | lst (xs : List D)
  | dic (kvs : List (Key × D))
  /-- the script -/
  | frz (ns : List Int)
  /-- some object, of which nothing is told -/
  | opq

def sOk (x : Str) : Bool := PyData.strOk x && decide (x.length ≤ 16777216)
def keyOk : Key → Bool
  | .inl _ => true
  | .inr x => sOk x
mutual
inductive Rep (K : PySem.W.Frag) (H : Hp) : V → D → Prop
  | non : Rep K H .non .non
  | bl (b : Bool) : Rep K H (.bl b) (.bl b)
  | int (i : Int) : Rep K H (.int i) (.int i)
  | str (x : Str) : sOk x = true → Rep K H (.str x) (.str x)
  | tup {a : Addr} {vs : List V} {xs : List D} : H a = some (.tup vs) → xs.length ≤ sizeLine → RepAll K H vs xs → Rep K H (.ref a) (.tup xs)
  | lst {a : Addr} {vs : List V} {xs : List D} : H a = some (.lst vs) → xs.length ≤ sizeLine → RepAll K H vs xs → Rep K H (.ref a) (.lst xs)
  | dic {a : Addr} {kvs : List (Key × V)} {xs : List (Key × D)} : Rd H a (.dK kvs) → RepKv K H kvs xs → Rep K H (.ref a) (.dic xs)
  | frz {a : Addr} {ns : List Int} : SqL K H a (ns.map V.int) → Rep K H (.ref a) (.frz ns)
  | opq (a : Addr) : Rep K H (.ref a) .opq
inductive RepAll (K : PySem.W.Frag) (H : Hp) : List V → List D → Prop
  | nil : RepAll K H [] []
  | cons {v : V} {vs : List V} {x : D} {xs : List D} : Rep K H v x → RepAll K H vs xs → RepAll K H (v :: vs) (x :: xs)
inductive RepKv (K : PySem.W.Frag) (H : Hp) : List (Key × V) → List (Key × D) → Prop
  | nil : RepKv K H [] []
  | cons {k : Key} {v : V} {vs : List (Key × V)} {x : D} {xs : List (Key × D)} : keyOk k = true → Rep K H v x → RepKv K H vs xs → RepKv K H ((k, v) :: vs) ((k, x) :: xs)
end

section
variable {K : PySem.W.Frag} {H H' : Hp}
mutual
theorem Rep.mono (s : Same H H') : ∀ {v : V} {d : D}, Rep K H v d → Rep K H' v d
  | _, _, .non => .non
  | _, _, .bl b => .bl b
  | _, _, .int i => .int i
  | _, _, .str x h => .str x h
  | _, _, .tup h z r => .tup (s _ _ h) z (RepAll.mono s r)
  | _, _, .lst h z r => .lst (s _ _ h) z (RepAll.mono s r)
  | _, _, .dic h r => .dic (h.imp (s _ _) fun ⟨o, e⟩ => ⟨o, s _ _ e⟩) (RepKv.mono s r)
  | _, _, .frz h => .frz (s.seq h)
  | _, _, .opq a => .opq a
theorem RepAll.mono (s : Same H H') : ∀ {vs : List V} {xs : List D}, RepAll K H vs xs → RepAll K H' vs xs
  | _, _, .nil => .nil
  | _, _, .cons r t => .cons (Rep.mono s r) (RepAll.mono s t)
theorem RepKv.mono (s : Same H H') : ∀ {vs : List (Key × V)} {xs : List (Key × D)}, RepKv K H vs xs → RepKv K H' vs xs
  | _, _, .nil => .nil
  | _, _, .cons h r t => .cons h (Rep.mono s r) (RepKv.mono s t)
end
theorem RepAll.length {vs : List V} {xs : List D} (r : RepAll K H vs xs) : vs.length = xs.length := by
  induction vs generalizing xs with
  | nil => cases r; rfl
  | cons v vs ih => cases r with | cons _ t => simp [ih t]
theorem RepAll.get {vs : List V} {xs : List D} (r : RepAll K H vs xs) {i : Nat} {x : D} (h : xs[i]? = some x) : ∃ v, vs[i]? = some v ∧ Rep K H v x := by
  induction vs generalizing xs i with
  | nil => cases r; simp at h
  | cons v vs ih =>
    cases r with
    | cons q t =>
      cases i with
      | zero => simp at h; subst h; exact ⟨_, rfl, q⟩
      | succ i => simpa using ih t (by simpa using h)
theorem RepAll.getV {vs : List V} {xs : List D} (r : RepAll K H vs xs) {i : Nat} {v : V} (h : vs[i]? = some v) : ∃ x, xs[i]? = some x ∧ Rep K H v x := by
  induction vs generalizing xs i with
  | nil => simp at h
  | cons w vs ih =>
    cases r with
    | cons q t =>
      cases i with
      | zero => simp at h; subst h; exact ⟨_, rfl, q⟩
      | succ i => simpa using ih t (by simpa using h)
theorem RepAll.append {vs ws : List V} {xs ys : List D} (r : RepAll K H vs xs) (q : RepAll K H ws ys) : RepAll K H (vs ++ ws) (xs ++ ys) := by
  induction vs generalizing xs with
  | nil => cases r; exact q
  | cons v vs ih => cases r with | cons a t => exact .cons a (ih t)
theorem RepAll.take {vs : List V} {xs : List D} (n : Nat) (r : RepAll K H vs xs) : RepAll K H (vs.take n) (xs.take n) := by
  induction vs generalizing xs n with
  | nil => cases r; simp; exact .nil
  | cons v vs ih =>
    cases r with
    | cons a t =>
      cases n with
      | zero => exact .nil
      | succ n => exact .cons a (ih n t)
theorem RepAll.drop {vs : List V} {xs : List D} (n : Nat) (r : RepAll K H vs xs) : RepAll K H (vs.drop n) (xs.drop n) := by
  induction vs generalizing xs n with
  | nil => cases r; simp; exact .nil
  | cons v vs ih =>
    cases r with
    | cons a t =>
      cases n with
      | zero => exact .cons a t
      | succ n => simpa using ih n t
theorem RepAll.reverse {vs : List V} {xs : List D} (r : RepAll K H vs xs) : RepAll K H vs.reverse xs.reverse := by
  induction vs generalizing xs with
  | nil => cases r; exact .nil
  | cons v vs ih =>
    cases r with
    | cons a t =>
      rw [List.reverse_cons, List.reverse_cons]
      exact (ih t).append (.cons a .nil)
theorem RepAll.snoc {vs : List V} {xs : List D} {v : V} {x : D} (r : RepAll K H vs xs) (q : Rep K H v x) : RepAll K H (vs ++ [v]) (xs ++ [x]) := r.append (.cons q .nil)
theorem RepAll.ints {vs : List V} {ns : List Int} (r : RepAll K H vs (ns.map D.int)) : vs = ns.map V.int := by
  induction ns generalizing vs with
  | nil => cases r; rfl
  | cons n ns ih =>
    cases r with
    | cons a t => cases a; rw [ih t]; rfl
theorem RepAll.strs {vs : List V} {ns : List Str} (r : RepAll K H vs (ns.map D.str)) : vs = ns.map V.str := by
  induction ns generalizing vs with
  | nil => cases r; rfl
  | cons n ns ih =>
    cases r with
    | cons a t => cases a; rw [ih t]; rfl
theorem RepAll.bls {vs : List V} {ns : List Bool} (r : RepAll K H vs (ns.map D.bl)) : vs = ns.map V.bl := by
  induction ns generalizing vs with
  | nil => cases r; rfl
  | cons n ns ih =>
    cases r with
    | cons a t => cases a; rw [ih t]; rfl
theorem repAll_ints (ns : List Int) : RepAll K H (ns.map V.int) (ns.map D.int) := by
  induction ns with
  | nil => exact .nil
  | cons n ns ih => exact .cons (.int n) ih
end

inductive Tr where
  | da (d : D)
  | ls (ts : List Tr)
  | dc (kvs : List (Key × Tr))
  | ob (c : Str) (fs : List (Str × Tr))
  | hl (n : Nat)
mutual
inductive TrAt (K : PySem.W.Frag) (ξ : Str → Value) (τ : Nat → Option V) (H0 H : Hp) : V → Tr → List Addr → Prop
  | da {v : V} {d : D} : Rep K H0 v d → TrAt K ξ τ H0 H v (.da d) []
  | ls {a : Addr} {vs : List V} {ts : List Tr} {fp : List Addr} : H a = some (.lst vs) → ts.length ≤ sizeLine → TrAll K ξ τ H0 H vs ts fp → TrAt K ξ τ H0 H (.ref a) (.ls ts) (a :: fp)
  | dc {a : Addr} {vs : List (Key × V)} {ts : List (Key × Tr)} {fp : List Addr} : H a = some (.dK vs) → TrKv K ξ τ H0 H vs ts fp → TrAt K ξ τ H0 H (.ref a) (.dc ts) (a :: fp)
  | ob {a C dx : Addr} {c : Str} {vs : List (Str × V)} {ts : List (Str × Tr)} {fp : List Addr} : H a = some (.ins C dx vs) → ξ c = .ref C → Cls K C → TrFs K ξ τ H0 H C vs ts fp → TrAt K ξ τ H0 H (.ref a) (.ob c ts) (a :: fp)
  | hl {a : Addr} {n : Nat} : (∀ u, τ n = some u → V.ref a = u) → TrAt K ξ τ H0 H (.ref a) (.hl n) []
inductive TrAll (K : PySem.W.Frag) (ξ : Str → Value) (τ : Nat → Option V) (H0 H : Hp) : List V → List Tr → List Addr → Prop
  | nil : TrAll K ξ τ H0 H [] [] []
  | cons {v : V} {vs : List V} {t : Tr} {ts : List Tr} {fp fq : List Addr} : TrAt K ξ τ H0 H v t fp → TrAll K ξ τ H0 H vs ts fq → TrAll K ξ τ H0 H (v :: vs) (t :: ts) (fp ++ fq)
inductive TrKv (K : PySem.W.Frag) (ξ : Str → Value) (τ : Nat → Option V) (H0 H : Hp) : List (Key × V) → List (Key × Tr) → List Addr → Prop
  | nil : TrKv K ξ τ H0 H [] [] []
  | cons {k : Key} {v : V} {vs : List (Key × V)} {t : Tr} {ts : List (Key × Tr)} {fp fq : List Addr} : keyOk k = true → TrAt K ξ τ H0 H v t fp → TrKv K ξ τ H0 H vs ts fq → TrKv K ξ τ H0 H ((k, v) :: vs) ((k, t) :: ts) (fp ++ fq)
inductive TrFs (K : PySem.W.Frag) (ξ : Str → Value) (τ : Nat → Option V) (H0 H : Hp) : Addr → List (Str × V) → List (Str × Tr) → List Addr → Prop
  | nil {C : Addr} : TrFs K ξ τ H0 H C [] [] []
  | cons {C : Addr} {f : Str} {v : V} {vs : List (Str × V)} {t : Tr} {ts : List (Str × Tr)} {fp fq : List Addr} : NoAttr K C f → TrAt K ξ τ H0 H v t fp → TrFs K ξ τ H0 H C vs ts fq → TrFs K ξ τ H0 H C ((f, v) :: vs) ((f, t) :: ts) (fp ++ fq)
end
section
variable {K : PySem.W.Frag} {ξ : Str → Value} {τ τ' : Nat → Option V} {H0 H H0' H' : Hp}
mutual
theorem TrAt.map (hr : ∀ v d, Rep K H0 v d → Rep K H0' v d) (hτ : ∀ n u, τ' n = some u → τ n = some u) : ∀ {v : V} {t : Tr} {fp : List Addr}, TrAt K ξ τ H0 H v t fp → (∀ a ∈ fp, ∀ o, H a = some o → H' a = some o) → TrAt K ξ τ' H0' H' v t fp
  | _, _, _, .da r, _ => .da (hr _ _ r)
  | _, _, _, .ls h z r, k => .ls (k _ List.mem_cons_self _ h) z (TrAll.map hr hτ r fun a ha => k a (List.mem_cons_of_mem _ ha))
  | _, _, _, .dc h r, k => .dc (k _ List.mem_cons_self _ h) (TrKv.map hr hτ r fun a ha => k a (List.mem_cons_of_mem _ ha))
  | _, _, _, .ob h e c r, k => .ob (k _ List.mem_cons_self _ h) e c (TrFs.map hr hτ r fun a ha => k a (List.mem_cons_of_mem _ ha))
  | _, _, _, .hl h, _ => .hl fun u e => h u (hτ _ u e)
theorem TrAll.map (hr : ∀ v d, Rep K H0 v d → Rep K H0' v d) (hτ : ∀ n u, τ' n = some u → τ n = some u) : ∀ {v : List V} {t : List Tr} {fp : List Addr}, TrAll K ξ τ H0 H v t fp → (∀ a ∈ fp, ∀ o, H a = some o → H' a = some o) → TrAll K ξ τ' H0' H' v t fp
  | _, _, _, .nil, _ => .nil
  | _, _, _, .cons r q, k => .cons (TrAt.map hr hτ r fun a ha => k a (List.mem_append_left _ ha)) (TrAll.map hr hτ q fun a ha => k a (List.mem_append_right _ ha))
theorem TrKv.map (hr : ∀ v d, Rep K H0 v d → Rep K H0' v d) (hτ : ∀ n u, τ' n = some u → τ n = some u) : ∀ {v : List (Key × V)} {t : List (Key × Tr)} {fp : List Addr}, TrKv K ξ τ H0 H v t fp → (∀ a ∈ fp, ∀ o, H a = some o → H' a = some o) → TrKv K ξ τ' H0' H' v t fp
  | _, _, _, .nil, _ => .nil
  | _, _, _, .cons h r q, k => .cons h (TrAt.map hr hτ r fun a ha => k a (List.mem_append_left _ ha)) (TrKv.map hr hτ q fun a ha => k a (List.mem_append_right _ ha))
theorem TrFs.map (hr : ∀ v d, Rep K H0 v d → Rep K H0' v d) (hτ : ∀ n u, τ' n = some u → τ n = some u) {C : Addr} : ∀ {v : List (Str × V)} {t : List (Str × Tr)} {fp : List Addr}, TrFs K ξ τ H0 H C v t fp → (∀ a ∈ fp, ∀ o, H a = some o → H' a = some o) → TrFs K ξ τ' H0' H' C v t fp
  | _, _, _, .nil, _ => .nil
  | _, _, _, .cons h r q, k => .cons h (TrAt.map hr hτ r fun a ha => k a (List.mem_append_left _ ha)) (TrFs.map hr hτ q fun a ha => k a (List.mem_append_right _ ha))
end
end
def TrV (K : PySem.W.Frag) (ξ : Str → Value) (H0 H : Hp) (v : V) (t : Tr) : Prop := ∃ fp, TrAt K ξ (fun _ => none) H0 H v t fp
theorem TrV.map {K : PySem.W.Frag} {ξ : Str → Value} {H0 H H0' : Hp} {v : V} {t : Tr} (hr : ∀ v d, Rep K H0 v d → Rep K H0' v d) : TrV K ξ H0 H v t → TrV K ξ H0' H v t := fun ⟨fp, r⟩ => ⟨fp, r.map hr (fun _ _ e => e) fun _ _ _ e => e⟩
theorem TrV.mono {K : PySem.W.Frag} {ξ : Str → Value} {H0 H H0' : Hp} {v : V} {t : Tr} (s : Same H0 H0') : TrV K ξ H0 H v t → TrV K ξ H0' H v t := TrV.map fun _ _ r => r.mono s

inductive St where
  | fl (f : Str)
  | ix (i : Nat)
  | ky (k : Key)
inductive Tk where
  | par
  | loc
  | tkn (j : Nat) (p : List St)
inductive Slot where
  | u
  | d (x : D)
  | ol (xs : List D)
  | od (kvs : List (Key × D))
  /-- an object that changes, at the n-th name -/
  | tr (n : Nat) (k : Tk) (t : Tr)
  /-- the exception that is handled -/
  | ex
abbrev En := List Slot

structure Fm (ξ : Str → Value) where
  G : Hp
  N : Addr → Prop
  /-- where the objects that change stand -/
  T : Nat → Addr
  R : Nat → Option (Tk × Tr)

def SlotAt (K : PySem.W.Frag) {ξ : Str → Value} (M : Fm ξ) (H0 H : Hp) (o : Option (Option V)) : Slot → Prop
  | .u => True
  | .d x => ∃ v, o = some (some v) ∧ Rep K H0 v x
  | .ol xs => ∃ a vs, o = some (some (.ref a)) ∧ H0 a = none ∧ M.G a = none ∧ H a = some (.lst vs) ∧ xs.length ≤ sizeLine ∧ RepAll K H0 vs xs
  | .od xs => ∃ a vs, o = some (some (.ref a)) ∧ H0 a = none ∧ M.G a = none ∧ H a = some (.dK vs) ∧ RepKv K H0 vs xs
  | .ex => ∃ a, o = some (some (.ref a)) ∧ ξ "!" = .ref a
  | .tr n k t => o = some (some (.ref (M.T n))) ∧ M.R n = some (k, t) ∧ TrV K ξ H0 M.G (.ref (M.T n)) t
def Slot.own : Slot → Bool
  | .ol _ => true
  | .od _ => true
  | _ => false
def Owns (σ : L2.St) (env : En) (i : Nat) (a : Addr) : Prop := σ[i]? = some (some (.ref a)) ∧ ∃ s, env[i]? = some s ∧ s.own = true

structure EnvAt (K : PySem.W.Frag) {ξ : Str → Value} (M : Fm ξ) (H0 H : Hp) (σ : L2.St) (env : En) : Prop where
  same : Same H0 H
  fr : Same M.G H
  nogo : ∀ a, M.N a → H0 a = none ∧ H a ≠ none
  len : σ.length = env.length
  slot : ∀ (i : Nat) (s : Slot), env[i]? = some s → SlotAt K M H0 H σ[i]? s
  sep : ∀ (i j : Nat) (a : Addr), Owns σ env i a → Owns σ env j a → i = j
  ng : ∀ (a : Addr) (j : Nat), M.N a → ¬ Owns σ env j a
  tg : ∀ (i n : Nat) (k : Tk) (t : Tr), env[i]? = some (.tr n k t) → n = i
theorem tg_set {env : En} {i : Nat} {s : Slot} (h : ∀ (i n : Nat) (k : Tk) (t : Tr), env[i]? = some (.tr n k t) → n = i) (hs : ∀ n k t, s ≠ .tr n k t) : ∀ (j n : Nat) (k : Tk) (t : Tr), (env.set i s)[j]? = some (.tr n k t) → n = j := fun j n k t e => by
  by_cases hi : i = j
  · subst hi
    by_cases hl : i < env.length
    · rw [List.getElem?_set_self hl] at e; cases e; exact absurd rfl (hs _ _ _)
    · rw [List.getElem?_eq_none (by rw [List.length_set]; omega)] at e; cases e
  · rw [List.getElem?_set_ne hi] at e; exact h j n k t e
theorem own_tr {s : Slot} (h : s.own = true) : ∀ n k t, s ≠ .tr n k t := fun n k t e => by subst e; cases h
theorem set_same {α : Type} : ∀ {l : List α} {i : Nat} {x : α}, l[i]? = some x → l.set i x = l
  | [], _, _, h => by simp at h
  | y :: l, 0, x, h => by simp at h; subst h; rfl
  | y :: l, i + 1, x, h => by simp at h; simp [set_same h]

section
variable {K : PySem.W.Frag} {ξ : Str → Value} {M : Fm ξ} {H0 H H0' H' : Hp} {σ : L2.St} {env : En}
theorem same_upd {p : Addr} {o : HO} (h : H p = none) : Same H (upd H p o) := fun b u e => by
  rw [upd_ne (ne_of_none e h)]; exact e
theorem EnvAt.grow (E : EnvAt K M H0 H σ env) (s0 : Same H0 H0') (s : Same H H') (s1 : Same H0' H') (n : ∀ a, H a ≠ none → H0 a = none → H0' a = none) : EnvAt K M H0' H' σ env := by
  have ne : ∀ {a o}, H a = some o → H a ≠ none := fun e z => by rw [e] at z; cases z
  refine ⟨s1, E.fr.trans s, fun a h => ?_, E.len, fun i sl h => ?_, E.sep, E.ng, E.tg⟩
  · obtain ⟨h1, h2⟩ := E.nogo a h
    refine ⟨n a h2 h1, fun z => ?_⟩
    cases q : H a with
    | none => exact h2 q
    | some o => rw [s a o q] at z; cases z
  · have q := E.slot i sl h
    cases sl with
    | u => trivial
    | d x => obtain ⟨v, e, r⟩ := q; exact ⟨v, e, r.mono s0⟩
    | ol xs => obtain ⟨a, vs, e, h0, hg, ha, z, r⟩ := q; exact ⟨a, vs, e, n a (ne ha) h0, hg, s _ _ ha, z, r.mono s0⟩
    | od xs => obtain ⟨a, vs, e, h0, hg, ha, r⟩ := q; exact ⟨a, vs, e, n a (ne ha) h0, hg, s _ _ ha, r.mono s0⟩
    | ex => exact q
    | tr n k t => exact ⟨q.1, q.2.1, q.2.2.mono s0⟩
theorem EnvAt.alloc (E : EnvAt K M H0 H σ env) {p : Addr} {o : HO} (h : H p = none) : EnvAt K M (upd H0 p o) (upd H p o) σ env := by
  refine E.grow (same_upd (E.same.free h)) (same_upd h) (fun b u e => ?_) fun a h1 h2 => ?_
  · by_cases hb : b = p
    · subst hb; rw [upd_same] at e ⊢; exact e
    · rw [upd_ne hb] at e ⊢; exact E.same _ _ e
  · by_cases hb : a = p
    · subst hb; exact absurd h h1
    · rw [upd_ne hb]; exact h2
theorem EnvAt.get (E : EnvAt K M H0 H σ env) {i : Nat} {x : D} (h : env[i]? = some (.d x)) : ∃ v, σ[i]? = some (some v) ∧ Rep K H0 v x := E.slot i _ h
theorem EnvAt.set (E : EnvAt K M H0 H σ env) {v : V} {x : D} (i : Nat) (r : Rep K H0 v x) : EnvAt K M H0 H (σ.set i (some v)) (env.set i (.d x)) := by
  have key : ∀ a j, Owns (σ.set i (some v)) (env.set i (.d x)) j a → Owns σ env j a := fun a j ⟨h1, s, h2, h3⟩ => by
    by_cases hi : i = j
    · subst hi
      by_cases hlt : i < env.length
      · rw [List.getElem?_set_self hlt] at h2; cases h2; cases h3
      · rw [List.getElem?_eq_none (by rw [List.length_set]; omega)] at h2; cases h2
    · rw [List.getElem?_set_ne hi] at h1 h2
      exact ⟨h1, s, h2, h3⟩
  refine ⟨E.same, E.fr, E.nogo, by rw [List.length_set, List.length_set]; exact E.len, fun j s h => ?_, fun j l a hj hl => E.sep j l a (key a j hj) (key a l hl), fun a j hn ho => E.ng a j hn (key a j ho), tg_set E.tg (by intro _ _ _ z; cases z)⟩
  · by_cases hi : i = j
    · subst hi
      by_cases hlt : i < env.length
      · rw [List.getElem?_set_self hlt] at h
        cases h
        exact ⟨v, List.getElem?_set_self (by rw [E.len]; exact hlt), r⟩
      · rw [List.getElem?_eq_none (by rw [List.length_set]; omega)] at h; cases h
    · rw [List.getElem?_set_ne hi] at h
      have q := E.slot j s h
      rw [List.getElem?_set_ne hi]
      exact q
theorem EnvAt.kill (E : EnvAt K M H0 H σ env) (i : Nat) : EnvAt K M H0 H σ (env.set i .u) := by
  have key : ∀ a j, Owns σ (env.set i .u) j a → Owns σ env j a := fun a j ⟨h1, s, h2, h3⟩ => by
    by_cases hi : i = j
    · subst hi
      by_cases hlt : i < env.length
      · rw [List.getElem?_set_self hlt] at h2; cases h2; cases h3
      · rw [List.getElem?_eq_none (by rw [List.length_set]; omega)] at h2; cases h2
    · rw [List.getElem?_set_ne hi] at h2
      exact ⟨h1, s, h2, h3⟩
  refine ⟨E.same, E.fr, E.nogo, by rw [List.length_set]; exact E.len, fun j s h => ?_, fun j l a hj hl => E.sep j l a (key a j hj) (key a l hl), fun a j hn ho => E.ng a j hn (key a j ho), tg_set E.tg (by intro _ _ _ z; cases z)⟩
  · by_cases hi : i = j
    · subst hi
      by_cases hlt : i < env.length
      · rw [List.getElem?_set_self hlt] at h; cases h; trivial
      · rw [List.getElem?_eq_none (by rw [List.length_set]; omega)] at h; cases h
    · rw [List.getElem?_set_ne hi] at h
      exact E.slot j s h
theorem EnvAt.unset (E : EnvAt K M H0 H σ env) (i : Nat) : EnvAt K M H0 H (σ.set i none) (env.set i .u) := by
  have key : ∀ a j, Owns (σ.set i none) (env.set i .u) j a → Owns σ env j a := fun a j ⟨h1, s, h2, h3⟩ => by
    by_cases hi : i = j
    · subst hi
      by_cases hlt : i < env.length
      · rw [List.getElem?_set_self hlt] at h2; cases h2; cases h3
      · rw [List.getElem?_eq_none (by rw [List.length_set]; omega)] at h2; cases h2
    · rw [List.getElem?_set_ne hi] at h1 h2
      exact ⟨h1, s, h2, h3⟩
  refine ⟨E.same, E.fr, E.nogo, by rw [List.length_set, List.length_set]; exact E.len, fun j s h => ?_, fun j l a hj hl => E.sep j l a (key a j hj) (key a l hl), fun a j hn ho => E.ng a j hn (key a j ho), tg_set E.tg (by intro _ _ _ z; cases z)⟩
  · by_cases hi : i = j
    · subst hi
      by_cases hlt : i < env.length
      · rw [List.getElem?_set_self hlt] at h; cases h; trivial
      · rw [List.getElem?_eq_none (by rw [List.length_set]; omega)] at h; cases h
    · rw [List.getElem?_set_ne hi] at h ⊢
      exact E.slot j s h
theorem EnvAt.setOwn (E : EnvAt K M H0 H σ env) {a : Addr} {s : Slot} (i : Nat) (ho : s.own = true) (hn : ∀ j, ¬ Owns σ env j a) (hN : ¬ M.N a) (r : SlotAt K M H0 H (some (some (.ref a))) s) : EnvAt K M H0 H (σ.set i (some (.ref a))) (env.set i s) := by
  have key : ∀ b j, j ≠ i → Owns (σ.set i (some (.ref a))) (env.set i s) j b → Owns σ env j b := fun b j hne ⟨h1, s', h2, h3⟩ => by
    rw [List.getElem?_set_ne (Ne.symm hne)] at h1 h2
    exact ⟨h1, s', h2, h3⟩
  have at_i : ∀ b, Owns (σ.set i (some (.ref a))) (env.set i s) i b → b = a := fun b ⟨h1, s', h2, h3⟩ => by
    have hlt : i < σ.length := by
      apply Decidable.byContradiction
      intro z
      rw [List.getElem?_eq_none (by rw [List.length_set]; omega)] at h1; cases h1
    rw [List.getElem?_set_self hlt] at h1
    cases h1; rfl
  refine ⟨E.same, E.fr, E.nogo, by rw [List.length_set, List.length_set]; exact E.len, fun j s' h => ?_, fun j l b hj hl => ?_, fun b j hb hw => ?_, tg_set E.tg (own_tr ho)⟩
  · by_cases hi : i = j
    · subst hi
      by_cases hlt : i < env.length
      · rw [List.getElem?_set_self hlt] at h
        cases h
        rw [List.getElem?_set_self (by rw [E.len]; exact hlt)]
        exact r
      · rw [List.getElem?_eq_none (by rw [List.length_set]; omega)] at h; cases h
    · rw [List.getElem?_set_ne hi] at h ⊢
      exact E.slot j s' h
  · by_cases h1 : j = i
    · by_cases h2 : l = i
      · rw [h1, h2]
      · have := key b l h2 hl
        rw [h1] at hj
        rw [at_i b hj] at this
        exact absurd this (hn l)
    · by_cases h2 : l = i
      · have := key b j h1 hj
        rw [h2] at hl
        rw [at_i b hl] at this
        exact absurd this (hn j)
      · exact E.sep j l b (key b j h1 hj) (key b l h2 hl)
  · by_cases h1 : j = i
    · rw [h1] at hw
      rw [at_i b hw] at hb
      exact hN hb
    · exact E.ng b j hb (key b j h1 hw)
theorem EnvAt.mutate (E : EnvAt K M H0 H σ env) {a : Addr} {i : Nat} {o : HO} {s : Slot} (h : Owns σ env i a) (ho : s.own = true)
    (r : SlotAt K M H0 (upd H a o) (some (some (.ref a))) s) : EnvAt K M H0 (upd H a o) σ (env.set i s) := by
  obtain ⟨h1, s0, h2, h3⟩ := id h
  have q0 := E.slot i s0 h2
  rw [h1] at q0
  have own : H0 a = none ∧ M.G a = none := by
    cases s0 with
    | u => cases h3
    | d _ => cases h3
    | ol xs => obtain ⟨b, vs, e, h0, hg, _, _⟩ := q0; cases e; exact ⟨h0, hg⟩
    | od xs => obtain ⟨b, vs, e, h0, hg, _, _⟩ := q0; cases e; exact ⟨h0, hg⟩
    | ex => cases h3
    | tr n k t => cases h3
  have hlt : i < env.length := by
    apply Decidable.byContradiction
    intro z
    rw [List.getElem?_eq_none (by omega)] at h2; cases h2
  have key : ∀ b j, Owns σ (env.set i s) j b → Owns σ env j b := fun b j ⟨k1, s', k2, k3⟩ => by
    by_cases hi : i = j
    · subst hi
      exact ⟨k1, s0, h2, h3⟩
    · rw [List.getElem?_set_ne hi] at k2
      exact ⟨k1, s', k2, k3⟩
  refine ⟨fun b u e => ?_, fun b u e => ?_, fun b hb => ?_, by rw [List.length_set]; exact E.len, fun j s' hs => ?_, fun j l b hj hl => E.sep j l b (key b j hj) (key b l hl), fun b j hb hw => E.ng b j hb (key b j hw), tg_set E.tg (own_tr ho)⟩
  · rw [upd_ne (ne_of_none e own.1)]; exact E.same _ _ e
  · rw [upd_ne (ne_of_none e own.2)]; exact E.fr _ _ e
  · obtain ⟨z1, z2⟩ := E.nogo b hb
    refine ⟨z1, ?_⟩
    by_cases hba : b = a
    · subst hba; rw [upd_same]; intro z; cases z
    · rw [upd_ne hba]; exact z2
  · by_cases hi : i = j
    · subst hi
      rw [List.getElem?_set_self hlt] at hs
      cases hs
      rw [h1]
      exact r
    · rw [List.getElem?_set_ne hi] at hs
      have q := E.slot j s' hs
      have ne : ∀ {b}, σ[j]? = some (some (.ref b)) → s'.own = true → b ≠ a := fun {b} e o z => by
        subst z
        exact hi (E.sep i j b h ⟨e, s', hs, o⟩)
      cases s' with
      | u => trivial
      | d x => exact q
      | ol xs => obtain ⟨b, vs, e, h0, hg, hb, z, r⟩ := q; exact ⟨b, vs, e, h0, hg, by rw [upd_ne (ne e rfl)]; exact hb, z, r⟩
      | od xs => obtain ⟨b, vs, e, h0, hg, hb, r⟩ := q; exact ⟨b, vs, e, h0, hg, by rw [upd_ne (ne e rfl)]; exact hb, r⟩
      | ex => exact q
      | tr n k t => exact q
def Slot.fz : Slot → Slot
  | .ol xs => .d (.lst xs)
  | .od xs => .d (.dic xs)
  | s => s
def frz (i : Nat) (env : En) : En := match env[i]? with
  | some s => env.set i s.fz
  | none => env
theorem EnvAt.freeze (E : EnvAt K M H0 H σ env) (i : Nat) : ∃ H0', Same H0 H0' ∧ EnvAt K M H0' H σ (frz i env) := by
  cases hs : env[i]? with
  | none => exact ⟨H0, Same.refl _, by unfold frz; rw [hs]; exact E⟩
  | some s =>
    have hlt : i < env.length := by
      apply Decidable.byContradiction
      intro z
      rw [List.getElem?_eq_none (by omega)] at hs; cases hs
    have fzE : frz i env = env.set i s.fz := by unfold frz; rw [hs]
    have q := E.slot i s hs
    -- the general step
    have step : ∀ (a : Addr) (o : HO) (s' : Slot), Owns σ env i a → H0 a = none → M.G a = none → H a = some o → s'.own = false → SlotAt K M (upd H0 a o) H (some (some (.ref a))) s' → (∀ n k t, s' ≠ .tr n k t) → EnvAt K M (upd H0 a o) H σ (env.set i s') := by
      intro a o s' hw h0 hg ha hno hr htr
      have s0 : Same H0 (upd H0 a o) := same_upd h0
      have key : ∀ b j, Owns σ (env.set i s') j b → Owns σ env j b := fun b j ⟨k1, s3, k2, k3⟩ => by
        by_cases hi : i = j
        · subst hi
          rw [List.getElem?_set_self hlt] at k2
          cases k2
          rw [hno] at k3; cases k3
        · rw [List.getElem?_set_ne hi] at k2
          exact ⟨k1, s3, k2, k3⟩
      refine ⟨fun b u e => ?_, E.fr, fun b hb => ?_, by rw [List.length_set]; exact E.len, fun j s2 h2 => ?_, fun j l b hj hl => E.sep j l b (key b j hj) (key b l hl), fun b j hb hw => E.ng b j hb (key b j hw), tg_set E.tg htr⟩
      · by_cases hb : b = a
        · subst hb; rw [upd_same] at e; cases e; exact ha
        · rw [upd_ne hb] at e; exact E.same _ _ e
      · obtain ⟨z1, z2⟩ := E.nogo b hb
        refine ⟨?_, z2⟩
        by_cases hba : b = a
        · subst hba
          exact absurd hw (E.ng b i hb)
        · rw [upd_ne hba]; exact z1
      · by_cases hi : i = j
        · subst hi
          rw [List.getElem?_set_self hlt] at h2
          cases h2
          rw [hw.1]; exact hr
        · rw [List.getElem?_set_ne hi] at h2
          have q2 := E.slot j s2 h2
          have ne : ∀ {b}, σ[j]? = some (some (.ref b)) → s2.own = true → b ≠ a := fun {b} e o' z => by
            subst z
            exact hi (E.sep i j b hw ⟨e, s2, h2, o'⟩)
          cases s2 with
          | u => trivial
          | d x => obtain ⟨v, e, r⟩ := q2; exact ⟨v, e, r.mono s0⟩
          | ol xs => obtain ⟨b, vs, e, k0, kg, kb, z, r⟩ := q2; exact ⟨b, vs, e, by rw [upd_ne (ne e rfl)]; exact k0, kg, kb, z, r.mono s0⟩
          | od xs => obtain ⟨b, vs, e, k0, kg, kb, r⟩ := q2; exact ⟨b, vs, e, by rw [upd_ne (ne e rfl)]; exact k0, kg, kb, r.mono s0⟩
          | ex => exact q2
          | tr n k t => exact ⟨q2.1, q2.2.1, q2.2.2.mono s0⟩
    cases s with
    | u => exact ⟨H0, Same.refl _, by rw [fzE]; exact (by rw [show env.set i Slot.u.fz = env from set_same hs] ; exact E)⟩
    | d x => exact ⟨H0, Same.refl _, by rw [fzE]; exact (by rw [show env.set i (Slot.d x).fz = env from set_same hs] ; exact E)⟩
    | ex => exact ⟨H0, Same.refl _, by rw [fzE]; exact (by rw [show env.set i Slot.ex.fz = env from set_same hs] ; exact E)⟩
    | tr n k t => exact ⟨H0, Same.refl _, by rw [fzE]; exact (by rw [show env.set i (Slot.tr n k t).fz = env from set_same hs] ; exact E)⟩
    | ol xs =>
      obtain ⟨a, vs, e, h0, hg, ha, z, r⟩ := q
      refine ⟨upd H0 a (.lst vs), same_upd h0, ?_⟩
      rw [fzE]
      exact step a _ _ ⟨e, _, hs, rfl⟩ h0 hg ha rfl ⟨_, rfl, .lst upd_same z (r.mono (same_upd h0))⟩ (by intro _ _ _ z; cases z)
    | od xs =>
      obtain ⟨a, vs, e, h0, hg, ha, r⟩ := q
      refine ⟨upd H0 a (.dK vs), same_upd h0, ?_⟩
      rw [fzE]
      exact step a _ _ ⟨e, _, hs, rfl⟩ h0 hg ha rfl ⟨_, rfl, .dic (.inl upd_same) (r.mono (same_upd h0))⟩ (by intro _ _ _ z; cases z)
end
end Dx

namespace Sx
open PySem PySem.Spec PyProof.Rows L2
section
variable {P : Program} {w : World} {κ : Type} [DecidableEq κ]
structure Gd (knd : PySem.KeyKind P w κ) (rd : Value → κ) (x : Int × Value) : Prop where
  is : knd.is (rd x.2) x.2 = true
  hs : x.1 = knd.hash (rd x.2)
  sc : x.2.scannable = true
variable {knd : PySem.KeyKind P w κ} {rd : Value → κ}
def SetG (knd : PySem.KeyKind P w κ) (rd : Value → κ) (hp : Heap) (a : Addr) (S : κ → Bool) (n : Nat) : Prop :=
  ∃ ob el epo tb, hp.get? a = some ob ∧ ob.ExactSet ∧ ob.data = .set el epo tb ∧ (∀ x ∈ el.toList, Gd knd rd x) ∧ (el.toList.map fun x => rd x.2).Nodup ∧ (∀ k, S k = true ↔ k ∈ el.toList.map fun x => rd x.2) ∧
    el.size < scanBound ∧ tb.fits el.size = true ∧ el.size = n ∧ Ris tb.place.toList ∧ (w.params.followText "set-order" = true ∨ tb.led = true)
theorem SetG.at {hp hp' : Heap} {a : Addr} {S : κ → Bool} {n : Nat} (g : SetG knd rd hp a S n) (k : ∀ o, hp.get? a = some o → hp'.get? a = some o) : SetG knd rd hp' a S n := by
  obtain ⟨ob, el, epo, tb, h1, r⟩ := g
  exact ⟨ob, el, epo, tb, k ob h1, r⟩
theorem SetG.congr {hp : Heap} {a : Addr} {S S' : κ → Bool} {n m : Nat} (g : SetG knd rd hp a S n) (e : ∀ k, S' k = S k) (en : n = m) : SetG knd rd hp a S' m := by
  have : S' = S := funext e
  subst this en; exact g
theorem gd_is {x : Int × Value} (g : Gd knd rd x) (k : κ) : knd.is k x.2 = true ↔ rd x.2 = k := ⟨fun q => knd.inj _ _ _ g.is q, fun q => q ▸ g.is⟩
theorem gd_els {l : List (Int × Value)} (g : ∀ x ∈ l, Gd knd rd x) : ElemsOf knd l := fun x hx => ⟨⟨_, (g x hx).is, (g x hx).hs⟩, (g x hx).sc⟩
theorem gd_mem {l : List (Int × Value)} (g : ∀ x ∈ l, Gd knd rd x) (k : κ) : (k ∈ l.map fun x => rd x.2) ↔ ∃ x ∈ l, knd.is k x.2 = true := by
  rw [List.mem_map]
  exact ⟨fun ⟨x, h1, h2⟩ => ⟨x, h1, (gd_is (g x h1) k).mpr h2⟩, fun ⟨x, h1, h2⟩ => ⟨x, h1, (gd_is (g x h1) k).mp h2⟩⟩
variable {A : Around} {E : Value → Shared → Prop} {s : Shared} {a : Addr} {S : κ → Bool} {n : Nat}
theorem add_tail {rl : Bool → Sem Unit} (hrl : ∀ (b : Bool) (s₁ : Shared) (Z : Unit → Shared → Prop), Z () s₁ → wpAny (model P w) A (rl b) Z E s₁)
    {ob : Obj} {el : Array (Int × Value)} {epo : Nat} {tb : SetTable} (h1 : s.heap.get? a = some ob) (h2 : ob.ExactSet) (h3 : ob.data = .set el epo tb)
    {el1 : Array (Int × Value)} {tb2 : SetTable} {S' : κ → Bool} (g1 : ∀ x ∈ el1.toList, Gd knd rd x) (nd1 : (el1.toList.map fun x => rd x.2).Nodup) (m1 : ∀ k, S' k = true ↔ k ∈ el1.toList.map fun x => rd x.2)
    (b1 : el1.size < scanBound) (f2 : tb2.fits el1.size = true) (r2 : Ris tb2.place.toList) (l2 : w.params.followText "set-order" = true ∨ tb2.led = true) {wd : Bool} {Z : Option Bool → Shared → Prop}
    (fin : ∀ hp', Heap.SameBut a s.heap hp' → SetG knd rd hp' a S' el1.size → Z (some true) { s with heap := hp' }) :
    wpAny (model P w) A (do
        storeSet a el1 tb2
        if (!wd && tb2.tooFull) = true then do
            rl (relayAll tb2 el1 (SetTable.grown el1.size)).2.2
            storeSet a (relayAll tb2 el1 (SetTable.grown el1.size)).1 (relayAll tb2 el1 (SetTable.grown el1.size)).2.1
            pure (some true)
          else pure (some true)) Z E s := by
  refine wpAny_bind (wpAny_storeSet_of h1 h3 ?_ (fits_of_scanBound b1))
  have at1 := store_at (es' := el1) (t' := tb2) h1 h3
  have sb := Heap.SameBut.update s.heap a (Obj.putSet el1 tb2)
  split
  · have q1 := relayAll_perm tb2 el1 (SetTable.grown el1.size)
    have q2 := relayAll_fits tb2 el1 (SetTable.grown el1.size)
    have q3 := relayAll_ris tb2 el1 (SetTable.grown el1.size)
    have q4 := relayAll_led tb2 el1 (SetTable.grown el1.size)
    generalize relayAll tb2 el1 (SetTable.grown el1.size) = Y at q1 q2 q3 q4 ⊢
    obtain ⟨el2, tb3, gv⟩ := Y
    dsimp only at q1 q2 q3 q4 ⊢
    have sz2 : el2.size = el1.size := by rw [← Array.length_toList, q1.length_eq, Array.length_toList]
    have b2 : el2.size < scanBound := by rw [sz2]; exact b1
    refine wpAny_bind (hrl _ _ _ ?_)
    refine wpAny_bind (wpAny_storeSet_of at1 rfl ?_ (fits_of_scanBound b2))
    have at2 := store_at (es' := el2) (t' := tb3) at1 rfl
    have pm : (el2.toList.map fun x => rd x.2).Perm (el1.toList.map fun x => rd x.2) := q1.map _
    exact wpAny_pure (fin _ (sb.trans (Heap.SameBut.update _ a _)) ⟨_, el2, _, tb3, at2, h2, rfl, fun x hx => g1 x (q1.mem_iff.mp hx), pm.nodup_iff.mpr nd1, fun k => (m1 k).trans pm.mem_iff.symm, b2, q2, sz2, q3, l2.imp id fun z => by rw [q4]; exact z⟩)
  · exact wpAny_pure (fin _ sb ⟨_, el1, _, tb2, at1, h2, rfl, g1, nd1, m1, b1, f2, rfl, r2, l2⟩)
theorem add_hashed {k : κ} {v : Value} {Z : Bool → Shared → Prop} (gk : Gd knd rd (knd.hash k, v)) (ek : rd v = k) (g : SetG knd rd s.heap a S n) (room : n + 1 < scanBound)
    (fin : ∀ hp', Heap.SameBut a s.heap hp' → SetG knd rd hp' a (fun j => S j || decide (j = k)) (if S k = true then n else n + 1) → Z (!S k) { s with heap := hp' }) :
    wpAny (model P w) A (setAddHashed a v (knd.hash k)) Z E s := by
  obtain ⟨ob, el, epo, tb, h1, h2, h3, g0, nd, mm, b0, f0, e0, r0, l0⟩ := g
  have kv : knd.is k v = true := by have := gk.is; rw [ek] at this; exact this
  have vs : v.scannable = true := gk.sc
  have els : ElemsOf knd el.toList := gd_els g0
  unfold setAddHashed setAddHashedIn
  refine wpAny_holding (wpAny_bind (wpAny_setState_of h1 h3 f0 ?_))
  dsimp only
  rw [byScan_of vs b0 els]
  simp only [↓reduceIte]
  unfold setAddByScan
  refine wpAny_bind ?_
  refine wpAny_bind (wpAny_rule ?_)
  refine wpAny_bind (wpAny_setScan_of kv h1 h3 f0 els ?_)
  cases fi : List.findIdx? (fun x => knd.is k x.2) el.toList with
  | some j =>
    dsimp only
    obtain ⟨hj, pj, _⟩ := List.findIdx?_eq_some_iff_getElem.mp fi
    have Sk : S k = true := (mm k).mpr ((gd_mem g0 k).mpr ⟨el.toList[j], List.getElem_mem hj, pj⟩)
    refine wpAny_pure (wpAny_pure ?_)
    have q := fin s.heap (Heap.SameBut.refl a s.heap) ⟨ob, el, epo, tb, h1, h2, h3, g0, nd, fun i => by
      rw [Bool.or_eq_true, decide_eq_true_eq, ← mm i]
      exact ⟨fun z => z.elim id (fun e => e ▸ Sk), .inl⟩, b0, f0, by rw [if_pos Sk]; exact e0, r0, l0⟩
    rw [Sk] at q
    exact q
  | none =>
    dsimp only
    have nk : k ∉ el.toList.map fun x => rd x.2 := fun z => by
      obtain ⟨x, hx, q⟩ := (gd_mem g0 k).mp z
      have c := List.findIdx?_eq_none_iff.mp fi x hx
      rw [q] at c; cases c
    have Sk : S k = false := by
      cases q : S k with
      | false => rfl
      | true => exact absurd ((mm k).mp q) nk
    have rules : ∀ (b : Bool) {s₁ : Shared} {Z' : Unit → Shared → Prop}, Z' () s₁ → wpAny (model P w) A (match b with | true => rule "set.scan.the-table-gave-way" | false => pure ()) Z' E s₁ :=
      fun b s₁ Z' q => by cases b <;> first | exact wpAny_pure q | exact wpAny_rule q
    have p1 := layNew_perm tb el (knd.hash k) v
    have p2 := layNew_fits tb el (knd.hash k) v
    have p3 := layNew_ris tb el (knd.hash k) v r0
    have p4 := layNew_led tb el (knd.hash k) v
    generalize layNew tb el (knd.hash k) v = Y at p1 p2 p3 p4 ⊢
    obtain ⟨el1, tb1, wd, gv⟩ := Y
    dsimp only at p1 p2 p3 p4 ⊢
    rw [Array.toList_push] at p1
    have pc : el1.toList.Perm ((knd.hash k, v) :: el.toList) := p1.trans (List.perm_append_singleton _ _)
    have pk : (el1.toList.map fun x => rd x.2).Perm (k :: el.toList.map fun x => rd x.2) := by
      have := pc.map fun x : Int × Value => rd x.2
      rw [List.map_cons] at this
      simp only [ek] at this
      exact this
    have g1 : ∀ x ∈ el1.toList, Gd knd rd x := fun x hx => by
      rcases List.mem_cons.mp (pc.mem_iff.mp hx) with z | z
      · rw [z]; exact gk
      · exact g0 x z
    have nd1 := pk.nodup_iff.mpr (List.nodup_cons.mpr ⟨nk, nd⟩)
    have m1 : ∀ i, (S i || decide (i = k)) = true ↔ i ∈ el1.toList.map fun x => rd x.2 := fun i => by
      rw [Bool.or_eq_true, decide_eq_true_eq, mm i, pk.mem_iff, List.mem_cons]
      exact Or.comm
    have sz1 : el1.size = n + 1 := by rw [← Array.length_toList, pc.length_eq, List.length_cons, Array.length_toList, e0]
    have b1 : el1.size < scanBound := by rw [sz1]; exact room
    have l1 : w.params.followText "set-order" = true ∨ tb1.led = true := l0.imp id fun z => by rw [p4]; exact z
    have fin1 : ∀ hp', Heap.SameBut a s.heap hp' → SetG knd rd hp' a (fun j => S j || decide (j = k)) el1.size → Z true { s with heap := hp' } := fun hp' sb g' => by
      have q := fin hp' sb
      rw [Sk] at q
      rw [sz1] at g'
      exact q g'
    refine wpAny_bind (rules _ ?_)
    split
    · refine wpAny_bind ?_
      rw [hashByValue_scannable 8 vs]
      refine wpAny_pure ?_
      refine add_tail ?_ h1 h2 h3 g1 nd1 m1 b1 ?_ ?_ ?_ ?_
      · intro b s₁ Z' q; cases b <;> first | exact wpAny_pure q | exact wpAny_rule q
      · first | (split <;> first | exact p2 | exact SetTable.fits_plain_off p2) | exact p2
      · first | (split <;> exact p3) | exact p3
      · first | (split <;> exact l1) | exact l1
      · intro hp' sb g'; dsimp only; exact wpAny_pure (fin1 hp' sb g')
    · refine wpAny_bind (wpAny_pure ?_)
      simp only [↓reduceIte]
      refine add_tail ?_ h1 h2 h3 g1 nd1 m1 b1 p2 p3 l1 ?_
      · intro b s₁ Z' q; cases b <;> first | exact wpAny_pure q | exact wpAny_rule q
      · intro hp' sb g'; dsimp only; exact wpAny_pure (fin1 hp' sb g')
end
def metS {κ : Type} [DecidableEq κ] (ks : List κ) : κ → Bool := fun k => decide (k ∈ ks)
def metN {κ : Type} [DecidableEq κ] : List κ → Nat
  | [] => 0
  | k :: ks => if k ∈ ks then metN ks else metN ks + 1
section
variable {P : Program} {w : World} {κ : Type} [DecidableEq κ] {knd : PySem.KeyKind P w κ} {rd : Value → κ}
variable {A : Around} {R : Result → Shared → Prop} {I : Addr} {fp wr : List Addr} {G : Array GenState → Array GenState → Prop} {n : Nat} {Pv : Nat → Value → Prop} {St : Nat → Shared → Prop}
theorem metN_le : ∀ ks : List κ, metN ks ≤ ks.length
  | [] => Nat.le_refl _
  | k :: ks => by unfold metN; have := metN_le ks; split <;> simp <;> omega
theorem upd_loop (W : WalksS P w A.in1 I fp wr G n Pv St) (a : Addr) (ha : a ∉ fp) (ks : List κ) (hl : ks.length = n)
    (hv : ∀ (i : Nat) (v : Value) (k : κ), Pv i v → ks[i]? = some k → Gd knd rd (knd.hash k, v) ∧ rd v = k ∧ knd.is k v = true) (hb : n + 1 < scanBound) :
    ∀ (m i : Nat) (s : Shared), n - i = m → i ≤ n → St i s → SetG knd rd s.heap a (metS (ks.take i).reverse) (metN (ks.take i).reverse) →
      (∀ s', Moved (a :: wr) G s s' → SetG knd rd s'.heap a (metS ks.reverse) (metN ks.reverse) → R (.ok (.ret .none)) s') →
      codeAny (model P w) A (.builtin "set.update.loop" ⟨[.ref a, .ref I], []⟩) R s := by
  have aw : a ∉ wr := fun z => ha (W.sub _ z)
  have sub : ∀ b ∈ wr, b ∈ a :: wr := fun b z => List.mem_cons_of_mem _ z
  intro m
  induction m with
  | zero =>
    intro i s hm hi st g fin
    have : i = n := by omega
    subst this
    refine codeAny_builtin F.entry_set_update_loop ?_
    rw [Around.under_plainId F.plain_set_update_loop _]
    show wpAny _ A.in1 (pyNext (.ref I) >>= _) _ _ s
    refine wpAny_bind (W.done s _ _ st fun s' mv => ?_)
    show wpAny _ A.in1 (ret Value.none) _ _ s'
    refine wpAny_pure (fin s' (mv.mono sub) ?_)
    rw [List.take_of_length_le (Nat.le_of_eq hl)] at g
    exact g.at fun o e => mv.heap a o aw e
  | succ m ih =>
    intro i s hm hi st g fin
    have lt : i < n := by omega
    refine codeAny_builtin F.entry_set_update_loop ?_
    rw [Around.under_plainId F.plain_set_update_loop _]
    show wpAny _ A.in1 (pyNext (.ref I) >>= _) _ _ s
    refine wpAny_bind (W.item i s _ _ lt st fun v s' pv st' mv => ?_)
    have hk : ks[i]? = some ks[i] := List.getElem?_eq_getElem (by omega)
    obtain ⟨gk, ek, ik⟩ := hv i v _ pv hk
    have g' : SetG knd rd s'.heap a (metS (ks.take i).reverse) (metN (ks.take i).reverse) := g.at fun o e => mv.heap a o aw e
    show wpAny _ A.in1 (holding [v] (setAdd a v) >>= _) _ _ s'
    refine wpAny_bind (wpAny_holding ?_)
    unfold setAdd
    refine wpAny_holding ?_
    refine wpAny_bind (knd.pyHash ik ?_)
    have few : metN (ks.take i).reverse + 1 < scanBound := by
      have := metN_le (ks.take i).reverse
      rw [List.length_reverse, List.length_take] at this; omega
    refine add_hashed (s := { s' with toks := s'.toks + 1 }) gk ek g' few fun hp' sb g2 => ?_
    have tk : (ks.take (i + 1)).reverse = ks[i] :: (ks.take i).reverse := by
      rw [List.take_succ, hk]; simp
    have g3 : SetG knd rd hp' a (metS (ks.take (i + 1)).reverse) (metN (ks.take (i + 1)).reverse) := g2.congr (fun k => by
      rw [tk]; unfold metS
      by_cases h1 : k = ks[i] <;> by_cases h2 : k ∈ (ks.take i).reverse <;> simp [h1, h2]) (by
      rw [tk]
      show (if decide (ks[i] ∈ (ks.take i).reverse) = true then metN (ks.take i).reverse else metN (ks.take i).reverse + 1) = if ks[i] ∈ (ks.take i).reverse then metN (ks.take i).reverse else metN (ks.take i).reverse + 1
      by_cases h2 : ks[i] ∈ (ks.take i).reverse
      · rw [if_pos h2, if_pos (decide_eq_true h2)]
      · rw [if_neg h2, if_neg (fun z => h2 (of_decide_eq_true z))])
    refine wpAny_pure ⟨plainId_quiet F.plain_set_update_loop _, ih (i + 1) _ (by omega) lt (W.frame _ s' _ _ st' (Nat.le_succ _) fun b hb' o e => ?_) g3 fun s'' mv2 g4 => ?_⟩
    · rw [sb.2 b (fun z : b = a => ha (by rw [← z]; exact hb'))]; exact e
    · refine fin s'' (Moved.trans W.gtrans ((mv.mono sub).then_heap (Nat.le_succ _) fun b o hb' e => ?_) mv2) g4
      rw [sb.2 b (fun z : b = a => hb' (by rw [z]; exact List.mem_cons_self))]; exact e
end
end Sx

set_option maxHeartbeats 8000000
namespace Sx
open PySem PySem.Spec PyProof.Rows L2
section
variable {P : Program} {w : World} {κ : Type} [DecidableEq κ] {knd : PySem.KeyKind P w κ} {rd : Value → κ}
variable {A : Around} {E : Value → Shared → Prop} {s : Shared}
def setObj0 (w : World) : Obj := { cls := .type "set", dict := none, data := .set #[] 0 (.fresh 0 0 (!w.params.followText "set-order")) }
theorem setG_fresh (hp : Heap) : SetG knd rd (hp.push (setObj0 w)) hp.objs.size (metS []) (metN ([] : List κ)) :=
  ⟨_, #[], 0, _, Heap.get?_push_size _ rfl, ⟨rfl, rfl, rfl⟩, rfl, (fun e he => by simp at he), (by simp), (fun k => by simp [metS]), (by decide), (by rfl), rfl, List.Pairwise.nil, by
    show _ ∨ (!w.params.followText "set-order") = true
    cases w.params.followText "set-order"
    · exact .inr rfl
    · exact .inl rfl⟩
theorem code_new1 (v : Value) {Z : Value → Shared → Prop} (fin : Z (.ref s.heap.objs.size) { s with heap := s.heap.push (setObj0 w) }) :
    codeAny (model P w) A (.call (.builtin "set.__new__") ⟨[.type "set", v], []⟩) (wants Z E) s := by
  refine codeAny_of_tree ?_
  show wpAny _ A.in1 (checkBuiltinCall "set.__new__" ⟨[.type "set", v], []⟩ >>= fun _ => again (.builtin "set.__new__" ⟨[.type "set", v], []⟩)) _ _ s
  refine wpAny_bind (wpAny_of_eq (F.newCall_set_1 v) (wpAny_pure ⟨plainId_quiet F.plain_set_new _, codeAny_builtin F.entry_set_new ?_⟩))
  rw [Around.under_plainId F.plain_set_new _]
  unfold Builtin.«set.__new__» Builtin.Frozenset.newClass
  have sub := sub_set_self
  obtain ⟨hp, gs, dr, tk, os⟩ := s
  dsimp only
  wp_walk
  refine wpAny_askSetting (wpAny_pure ?_)
  dsimp only
  simp only [newObj]
  refine wpAny_bind (wpAny_alloc (wpAny_pure ?_))
  exact wpAny_pure fin
structure Filled (knd : PySem.KeyKind P w κ) (rd : Value → κ) (s0 : Shared) (ks : List κ) (s' : Shared) : Prop where
  ex : ∃ hp tk, s' = { s0 with heap := hp, toks := tk } ∧ SetG knd rd hp s0.heap.objs.size (metS ks.reverse) (metN ks.reverse) ∧ ∀ b o, b < s0.heap.objs.size → s0.heap.get? b = some o → hp.get? b = some o
theorem call_set1 {v : Value} {ks : List κ} {Z : Value → Shared → Prop}
    (init : ∀ (A1 : Around) (Q1 : PySem.Fin → Shared → Prop) (E1 : Value → Shared → Prop), A1.handled = A.handled → (∀ s', Filled knd rd s ks s' → Q1 (.done (.ret .none)) s') → wpAny (model P w) A1 (Builtin.«set.__init__» ⟨[.ref s.heap.objs.size, v], []⟩) Q1 E1 { s with heap := s.heap.push (setObj0 w) })
    (fin : ∀ s', Filled knd rd s ks s' → Z (.ref s.heap.objs.size) s') : wpAny (model P w) A (call (.type "set") [v]) Z E s := by
  obtain ⟨c, tl, mro⟩ := F.called_set.mro
  have made := F.called_set.made
  have sub := F.called_set.sub
  refine wpAny_call (codeAny_of_tree ?_)
  show wpAny _ _ (callAny (.type "set") _) _ _ _
  refine wpAny_pure ⟨Code.quiet_builtin _ (by decide +kernel), codeAny_builtin F.entry_type_call ?_⟩
  rw [Around.under_plain (weight_type_call_type "set" [v] []) rfl]
  have nt := F.called_set.notType
  have cc := F.called_set.canCreate
  have tc := F.typeCall_set_1 v
  repeat (any_goals (first | assumption | wp_step))
  refine codeAny_mono (code_new1 v (E := E) (Z := fun ob s₁ => ob = .ref s.heap.objs.size ∧ s₁ = { s with heap := s.heap.push (setObj0 w) }) ⟨rfl, rfl⟩) fun r s₁ hr => ?_
  cases r with
  | error e => exact hr
  | ok fl =>
    cases fl with
    | ret ob =>
      obtain ⟨rfl, rfl⟩ := hr
      have at0 : (s.heap.push (setObj0 w)).get? s.heap.objs.size = some (setObj0 w) := Heap.get?_push_size _ rfl
      have ty : Shared.TypeIs { s with heap := s.heap.push (setObj0 w) } (.ref s.heap.objs.size) "set" := ⟨_, at0, rfl⟩
      have li := F.called_set.init.lookup
      have bi := F.called_set.init.bind (.ref s.heap.objs.size)
      repeat (any_goals (first | assumption | wp_step))
      refine codeAny_mono (codeAny_call_builtin (R := wants (fun r s₂ => r = .none ∧ Filled knd rd s ks s₂) E) F.called_set.init.plain F.entry_set_init (check_set_init_1 ty ?_)) fun r₂ s₂ hr₂ => ?_
      · exact init A.in1.in1 _ _ (by simp) fun s' hf => ⟨rfl, hf⟩
      · cases r₂ with
        | error e => exact hr₂
        | ok fl₂ =>
          cases fl₂ with
          | ret r =>
            obtain ⟨rfl, hf⟩ := hr₂
            repeat (any_goals (first | assumption | wp_step))
            exact fin _ hf
          | _ => exact hr₂.elim
    | _ => exact hr.elim
theorem call_setL {l : Addr} {items : Array Value} {ks : List κ} {Z : Value → Shared → Prop} (hh : A.handled = none) (hl : s.heap.IsList l items) (hn : ks.length = items.size)
    (hv : ∀ (i : Nat) (v : Value) (k : κ), items[i]? = some v → ks[i]? = some k → Gd knd rd (knd.hash k, v) ∧ rd v = k ∧ knd.is k v = true) (hb : items.size + 1 < scanBound)
    (fin : ∀ s', Filled knd rd s ks s' → Z (.ref s.heap.objs.size) s') : wpAny (model P w) A (call (.type "set") [.ref l]) Z E s := by
  refine call_set1 (ks := ks) (fun A1 Q1 E1 hA done => ?_) fin
  obtain ⟨ob, h1, h2, cn, h3⟩ := hl
  obtain ⟨c1, d1, da, sl⟩ := ob
  simp only at h2 h3
  subst h2; subst h3
  have at0 : (s.heap.push (setObj0 w)).get? s.heap.objs.size = some (setObj0 w) := Heap.get?_push_size _ rfl
  have at1 : (s.heap.push (setObj0 w)).get? l = some { cls := .type "list", dict := d1, data := .seq items cn, slots := sl } := Heap.get?_push_of_some _ h1
  have s1 := F.sub_list_set
  have s2 := F.sub_list_frozenset
  have ne : (Value.type "list" == Value.type "dict") = false := by decide
  have isl : (s.heap.push (setObj0 w)).IsList l items := ⟨_, at1, rfl, cn, rfl⟩
  unfold Builtin.«set.__init__» noKeywords Builtin.Frozenset.updateFrom
  generalize hIt : pyIter = It
  wp_walk
  subst hIt
  refine wpAny_pyIter_list isl ?_
  refine wpAny_bind (wpAny_runValue ?_)
  have lt : l < s.heap.objs.size := Heap.lt_size h1
  have sz : (s.heap.push (setObj0 w)).objs.size = s.heap.objs.size + 1 := size_push' _ _
  have h3 : A1.in1.handled = none := by simp [hA, hh]
  have neI : l ≠ (s.heap.push (setObj0 w)).objs.size := by rw [sz]; exact Nat.ne_of_lt (Nat.lt_succ_of_lt lt)
  have nfp : s.heap.objs.size ∉ [(s.heap.push (setObj0 w)).objs.size, l] := by
    rw [sz]; simp only [List.mem_cons, List.mem_singleton, List.not_mem_nil, or_false, not_or]; exact ⟨Nat.ne_of_lt (Nat.lt_succ_self _), Nat.ne_of_gt lt⟩
  refine upd_loop (knd := knd) (rd := rd) (Walks.list h3 _ l neI items).toS s.heap.objs.size nfp ks hn hv hb items.size 0 _ (by omega) (Nat.zero_le _) ⟨⟨_, Heap.get?_push_size _ rfl, rfl, rfl⟩, isl.push _⟩ ?g0 ?end_
  case g0 => exact (setG_fresh (P := P) (knd := knd) (rd := rd) s.heap).at fun o e => Heap.get?_push_of_some _ e
  case end_ =>
    intro s' mv g
    obtain ⟨hp, gs, dr, tk, os⟩ := s'
    have e1 : gs = s.gens := mv.gens
    have e2 : dr = s.drawn := mv.drawn
    have e3 : os = s.os := mv.os
    subst e1; subst e2; subst e3
    show wpAny _ _ _ _ _ _
    refine wpAny_pure ?_
    show wpAny _ _ (ret Value.none) _ _ _
    refine wpAny_pure (done _ ⟨hp, tk, rfl, g, fun b o hb' e => ?_⟩)
    refine mv.heap b o ?_ (Heap.get?_push_of_some _ (Heap.get?_push_of_some _ e))
    rw [sz]
    simp only [List.mem_cons, List.mem_singleton, List.not_mem_nil, or_false, not_or]
    exact ⟨Nat.ne_of_lt hb', Nat.ne_of_lt (Nat.lt_succ_of_lt hb')⟩
end
end Sx

set_option maxHeartbeats 8000000
namespace Sx
open PySem PySem.Spec PyProof.Rows L2
section
variable {P : Program} {w : World} {A : Around} {E : Value → Shared → Prop} {s : Shared}
def rdI : Value → Int
  | .int k _ => k
  | _ => 0
def rdS : Value → Str
  | .str k _ => k
  | _ => Str.empty
theorem gdI (k : Int) (t : Tok) : Gd (intKind P w) rdI ((intKind P w).hash k, .int k t) ∧ rdI (.int k t) = k ∧ (intKind P w).is k (.int k t) = true := ⟨⟨intKind_is P w k t, rfl, rfl⟩, rfl, intKind_is P w k t⟩
theorem gdS (k : Str) (t : Tok) : Gd (PySem.strKind P w) rdS ((PySem.strKind P w).hash k, .str k t) ∧ rdS (.str k t) = k ∧ (PySem.strKind P w).is k (.str k t) = true := ⟨⟨PySem.Froz.is_str k t, rfl, rfl⟩, rfl, PySem.Froz.is_str k t⟩
theorem chr_at {x : Str} {i : Nat} {k : Str} (h : (x.cps.toList.map fun c => (⟨#[c]⟩ : Str))[i]? = some k) : ∃ c, x.cps[i]? = some c ∧ k = ⟨#[c]⟩ := by
  rw [List.getElem?_map, Array.getElem?_toList] at h
  cases q : x.cps[i]? with
  | none => rw [q] at h; cases h
  | some c => rw [q] at h; cases h; exact ⟨c, rfl, rfl⟩
theorem call_setT {x : Str} {t : Tok} {Z : Value → Shared → Prop} (hh : A.handled = none) (hb : x.cps.size + 1 < scanBound)
    (fin : ∀ s', Filled (PySem.strKind P w) rdS s (x.cps.toList.map fun c => (⟨#[c]⟩ : Str)) s' → Z (.ref s.heap.objs.size) s') : wpAny (model P w) A (call (.type "set") [.str x t]) Z E s := by
  refine call_set1 (ks := x.cps.toList.map fun c => (⟨#[c]⟩ : Str)) (fun A1 Q1 E1 hA done => ?_) fin
  have at0 : (s.heap.push (setObj0 w)).get? s.heap.objs.size = some (setObj0 w) := Heap.get?_push_size _ rfl
  have s1 := F.sub_str_set
  have s2 := F.sub_str_frozenset
  have ne : (Value.type "str" == Value.type "dict") = false := by decide
  unfold Builtin.«set.__init__» noKeywords Builtin.Frozenset.updateFrom
  generalize hIt : pyIter = It
  wp_walk
  subst hIt
  refine wpAny_pyIter_strU ?_
  refine wpAny_bind (wpAny_runValue ?_)
  have sz : (s.heap.push (setObj0 w)).objs.size = s.heap.objs.size + 1 := size_push' _ _
  have h3 : A1.in1.handled = none := by simp [hA, hh]
  have nfp : s.heap.objs.size ∉ [(s.heap.push (setObj0 w)).objs.size] := by
    rw [sz]; simp only [List.mem_singleton]; exact Nat.ne_of_lt (Nat.lt_succ_self _)
  have hl : (x.cps.toList.map fun c => (⟨#[c]⟩ : Str)).length = x.cps.size := by rw [List.length_map, Array.length_toList]
  have hv : ∀ (i : Nat) (v : Value) (k : Str), SignAt x i v → (x.cps.toList.map fun c => (⟨#[c]⟩ : Str))[i]? = some k → Gd (PySem.strKind P w) rdS ((PySem.strKind P w).hash k, v) ∧ rdS v = k ∧ (PySem.strKind P w).is k v = true := by
    rintro i v k ⟨c, u, h1, rfl⟩ h2
    obtain ⟨c', h4, rfl⟩ := chr_at h2
    rw [h1] at h4; cases h4
    exact gdS _ _
  have fin2 : ∀ (wr : List Addr) (s' : Shared), wr = [(s.heap.push (setObj0 w)).objs.size] → ∀ {y : Obj}, Moved (s.heap.objs.size :: wr) (fun a b => b = a) { s with heap := (s.heap.push (setObj0 w)).push y } s' →
      SetG (PySem.strKind P w) rdS s'.heap s.heap.objs.size (metS (x.cps.toList.map fun c => (⟨#[c]⟩ : Str)).reverse) (metN (x.cps.toList.map fun c => (⟨#[c]⟩ : Str)).reverse) → Q1 (.done (.ret .none)) s' := by
    intro wr s' ewr y mv g
    subst ewr
    obtain ⟨hp, gs, dr, tk, os⟩ := s'
    have e1 : gs = s.gens := mv.gens
    have e2 : dr = s.drawn := mv.drawn
    have e3 : os = s.os := mv.os
    subst e1; subst e2; subst e3
    refine done _ ⟨hp, tk, rfl, g, fun b o hb' e => ?_⟩
    refine mv.heap b o ?_ (Heap.get?_push_of_some _ (Heap.get?_push_of_some _ e))
    rw [sz]
    simp only [List.mem_cons, List.mem_singleton, List.not_mem_nil, or_false, not_or]
    exact ⟨Nat.ne_of_lt hb', Nat.ne_of_lt (Nat.lt_succ_of_lt hb')⟩
  have g0 : ∀ y : Obj, SetG (PySem.strKind P w) rdS ((s.heap.push (setObj0 w)).push y) s.heap.objs.size (metS ((x.cps.toList.map fun c => (⟨#[c]⟩ : Str)).take 0).reverse) (metN ((x.cps.toList.map fun c => (⟨#[c]⟩ : Str)).take 0).reverse) :=
    fun y => (setG_fresh (P := P) (knd := PySem.strKind P w) (rd := rdS) s.heap).at fun o e => Heap.get?_push_of_some _ e
  cases ha : x.cps.all (· < 128)
  · have et : strIterType x = "str_iterator" := by unfold strIterType; rw [ha]; rfl
    refine upd_loop (knd := PySem.strKind P w) (rd := rdS) (Walks.strWide h3 _ x t).toS s.heap.objs.size nfp _ hl hv hb x.cps.size 0 _ (by omega) (Nat.zero_le _) ?_ (g0 _) fun s' mv g => ?_
    · rw [et]; exact ⟨_, Heap.get?_push_size _ rfl, rfl, rfl⟩
    · show wpAny _ _ _ _ _ _
      refine wpAny_pure ?_
      show wpAny _ _ (ret Value.none) _ _ _
      exact wpAny_pure (fin2 _ s' rfl mv g)
  · have et : strIterType x = "str_ascii_iterator" := by unfold strIterType; rw [ha]; rfl
    refine upd_loop (knd := PySem.strKind P w) (rd := rdS) (Walks.strAscii h3 _ x t).toS s.heap.objs.size nfp _ hl hv hb x.cps.size 0 _ (by omega) (Nat.zero_le _) ?_ (g0 _) fun s' mv g => ?_
    · rw [et]; exact ⟨_, Heap.get?_push_size _ rfl, rfl, rfl⟩
    · show wpAny _ _ _ _ _ _
      refine wpAny_pure ?_
      show wpAny _ _ (ret Value.none) _ _ _
      exact wpAny_pure (fin2 _ s' rfl mv g)
end
end Sx

namespace Dx
open PySem PySem.Spec PyProof.Rows L2


def eC (d : D) : En → R D := fun _ => .ok d
def eBin (f : D → D → R D) (A B : En → R D) : En → R D := fun env => A env >>= fun x => B env >>= fun y => f x y
def eUn {α β : Type} (f : α → R β) (A : En → R α) : En → R β := fun env => A env >>= f
def eOfF (A : En → R (List D)) : En → R D := fun env => A env >>= fun xs => .ok (.lst xs)
def eOfK (A : En → R (List (Key × D))) : En → R D := fun env => A env >>= fun xs => .ok (.dic xs)

def RepX (c : Bool) (K : PySem.W.Frag) (H0 H : Hp) (v : V) (d : D) : Prop := match c with
  | true => Rep K H0 v d
  | false => Rep K H0 v d ∨ (∃ a vs xs, v = .ref a ∧ d = .lst xs ∧ H a = some (.lst vs) ∧ xs.length ≤ sizeLine ∧ RepAll K H0 vs xs) ∨ (∃ a vs xs, v = .ref a ∧ d = .dic xs ∧ H a = some (.dK vs) ∧ RepKv K H0 vs xs)
structure Gr (K : PySem.W.Frag) {ξ : Str → Value} (M : Fm ξ) (σ : L2.St) (env : En) (H0 H H0' H' : Hp) : Prop where
  s0 : Same H0 H0'
  s : Same H H'
  e : EnvAt K M H0' H' σ env
  n : ∀ a, H a ≠ none → H0 a = none → H0' a = none
section
variable {K : PySem.W.Frag} {ξ : Str → Value} {M : Fm ξ} {σ : L2.St} {env : En} {H0 H H1 H0' H' H01 : Hp} {v : V} {d : D} {c : Bool}
theorem RepX.mono (r : RepX c K H0 H v d) (s0 : Same H0 H0') (s : Same H H') : RepX c K H0' H' v d := by
  cases c with
  | true => exact Rep.mono s0 r
  | false =>
    rcases r with r | ⟨a, vs, xs, e1, e2, h, z, r⟩ | ⟨a, vs, xs, e1, e2, h, r⟩
    · exact .inl (r.mono s0)
    · exact .inr (.inl ⟨a, vs, xs, e1, e2, s _ _ h, z, r.mono s0⟩)
    · exact .inr (.inr ⟨a, vs, xs, e1, e2, s _ _ h, r.mono s0⟩)
theorem RepX.b (r : RepX c K H0 H v d) : RepX false K H0 H v d := by
  cases c with
  | true => exact .inl r
  | false => exact r
theorem RepX.rep (r : RepX c K H0 H v d) (s : Same H0 H) : Rep K H v d := by
  cases c with
  | true => exact Rep.mono s r
  | false =>
    rcases r with r | ⟨a, vs, xs, e1, e2, h, z, r⟩ | ⟨a, vs, xs, e1, e2, h, r⟩
    · exact r.mono s
    · subst e1 e2; exact .lst h z (r.mono s)
    · subst e1 e2; exact .dic (.inl h) (r.mono s)
theorem RepX.int {i : Int} (r : RepX c K H0 H v (.int i)) : v = .int i := by
  have r := r.b
  rcases r with r | ⟨_, _, _, _, e, _⟩ | ⟨_, _, _, _, e, _⟩
  · cases r; rfl
  · cases e
  · cases e
theorem RepX.bl {i : Bool} (r : RepX c K H0 H v (.bl i)) : v = .bl i := by
  have r := r.b
  rcases r with r | ⟨_, _, _, _, e, _⟩ | ⟨_, _, _, _, e, _⟩
  · cases r; rfl
  · cases e
  · cases e
theorem RepX.str {i : Str} (r : RepX c K H0 H v (.str i)) : v = .str i := by
  have r := r.b
  rcases r with r | ⟨_, _, _, _, e, _⟩ | ⟨_, _, _, _, e, _⟩
  · cases r; rfl
  · cases e
  · cases e
theorem RepX.non (r : RepX c K H0 H v .non) : v = .non := by
  have r := r.b
  rcases r with r | ⟨_, _, _, _, e, _⟩ | ⟨_, _, _, _, e, _⟩
  · cases r; rfl
  · cases e
  · cases e
theorem RepX.lst {xs : List D} (r : RepX c K H0 H v (.lst xs)) (s : Same H0 H) : ∃ a vs, v = .ref a ∧ H a = some (.lst vs) ∧ RepAll K H0 vs xs := by
  have r := r.b
  rcases r with r | ⟨a, vs, xs, e1, e, h, _, r⟩ | ⟨_, _, _, _, e, _⟩
  · cases r with | lst h _ r => exact ⟨_, _, rfl, s _ _ h, r⟩
  · cases e; exact ⟨a, vs, e1, h, r⟩
  · cases e
theorem RepX.lstLen {xs : List D} (r : RepX c K H0 H v (.lst xs)) : xs.length ≤ sizeLine := by
  have r := r.b
  rcases r with r | ⟨a, vs, xs, e1, e, h, z, r⟩ | ⟨_, _, _, _, e, _⟩
  · cases r with | lst h z r => exact z
  · cases e; exact z
  · cases e
theorem RepX.tup {xs : List D} (r : RepX c K H0 H v (.tup xs)) : ∃ a vs, v = .ref a ∧ H0 a = some (.tup vs) ∧ RepAll K H0 vs xs := by
  have r := r.b
  rcases r with r | ⟨a, vs, xs, e1, e, h, r⟩ | ⟨_, _, _, _, e, _⟩
  · cases r with | tup h _ r => exact ⟨_, _, rfl, h, r⟩
  · cases e
  · cases e
theorem RepX.tupLen {xs : List D} (r : RepX c K H0 H v (.tup xs)) : xs.length ≤ sizeLine := by
  have r := r.b
  rcases r with r | ⟨a, vs, xs, e1, e, h, r⟩ | ⟨_, _, _, _, e, _⟩
  · cases r with | tup h z r => exact z
  · cases e
  · cases e
theorem RepX.dic {xs : List (Key × D)} (r : RepX c K H0 H v (.dic xs)) (s : Same H0 H) : ∃ a vs, v = .ref a ∧ Rd H a (.dK vs) ∧ RepKv K H0 vs xs := by
  have r := r.b
  rcases r with r | ⟨a, vs, xs, e1, e, h, r⟩ | ⟨a, vs, xs, e1, e, h, r⟩
  · cases r with | dic h r => exact ⟨_, _, rfl, h.imp (s _ _) fun ⟨o, e⟩ => ⟨o, s _ _ e⟩, r⟩
  · cases e
  · cases e; exact ⟨a, vs, e1, .inl h, r⟩
theorem RepX.frz {ns : List Int} (r : RepX c K H0 H v (.frz ns)) (s : Same H0 H) : ∃ a, v = .ref a ∧ SqL K H a (ns.map V.int) := by
  have r := r.b
  rcases r with r | ⟨a, vs, xs, e1, e, h, r⟩ | ⟨_, _, _, _, e, _⟩
  · cases r with | frz h => exact ⟨_, rfl, s.seq h⟩
  · cases e
  · cases e
theorem RepX.of (r : Rep K H0 v d) : RepX c K H0 H v d := by
  cases c with
  | true => exact r
  | false => exact .inl r
theorem Gr.refl (E : EnvAt K M H0 H σ env) : Gr K M σ env H0 H H0 H := ⟨Same.refl _, Same.refl _, E, fun _ _ z => z⟩
theorem Gr.trans {H02 H2 : Hp} (g : Gr K M σ env H0 H H01 H1) (g' : Gr K M σ env H01 H1 H02 H2) : Gr K M σ env H0 H H02 H2 := ⟨g.s0.trans g'.s0, g.s.trans g'.s, g'.e, fun a h1 h2 => g'.n a (fun z => h1 (g.s.free z)) (g.n a h1 h2)⟩
theorem EnvAt.new (E : EnvAt K M H0 H σ env) {p : Addr} {o : HO} (h : H p = none) : Gr K M σ env H0 H (upd H0 p o) (upd H p o) := ⟨same_upd (E.same.free h), same_upd h, E.alloc h, fun a h1 h2 => by
  by_cases hb : a = p
  · subst hb; exact absurd h h1
  · rw [upd_ne hb]; exact h2⟩
end

theorem DGetR {H : Hp} {a : Addr} {kvs : List (Key × V)} {k : Key} (e : Rd H a (.dK kvs)) : DGet H a (kV k) (valV kvs k) := .inl ⟨kvs, k, e, rfl, rfl⟩
section
variable (K : PySem.W.Frag) (W : WX) (ξ : Str → Value) (M : Fm ξ) (σ : L2.St) (env : En)
def PostE (c : Bool) (H0 H : Hp) (Q : VK) : R D → Prop
  | .ok d => ∀ v H0' H', Gr K M σ env H0 H H0' H' → RepX c K H0' H' v d → Q v H'
  | .exc x => ∀ H0' H', Gr K M σ env H0 H H0' H' → W (ξ x) none σ H'
  | .bad => False
def PostT (H0 H : Hp) (Q : Bool → Hp → Prop) : R Bool → Prop
  | .ok b => ∀ H0' H', Gr K M σ env H0 H H0' H' → Q b H'
  | .exc x => ∀ H0' H', Gr K M σ env H0 H H0' H' → W (ξ x) none σ H'
  | .bad => False
abbrev RepXs (c : Bool) (H0 H : Hp) : List V → List D → Prop := Paired (RepX c K H0 H)
def PostA (c : Bool) (H0 H : Hp) (Q : List V → Hp → Prop) : R (List D) → Prop
  | .ok ds => ∀ vs H0' H', Gr K M σ env H0 H H0' H' → RepXs K c H0' H' vs ds → Q vs H'
  | .exc x => ∀ H0' H', Gr K M σ env H0 H H0' H' → W (ξ x) none σ H'
  | .bad => False
end
structure NewAt {ξ : Str → Value} (M : Fm ξ) (σ : L2.St) (env : En) (H0' H' : Hp) (p : Addr) (o : HO) : Prop where
  at_ : H' p = some o
  h0 : H0' p = none
  g : M.G p = none
  n : ¬ M.N p
  w : ∀ j, ¬ Owns σ env j p
section
variable (K : PySem.W.Frag) (W : WX) (ξ : Str → Value) (M : Fm ξ) (σ : L2.St) (env : En)
def PostF (H0 H : Hp) (Q : VK) : R (List D) → Prop
  | .ok ds => ∀ p vs H0' H', Gr K M σ env H0 H H0' H' → H p = none → NewAt M σ env H0' H' p (.lst vs) → ds.length ≤ sizeLine ∧ RepAll K H0' vs ds → Q (.ref p) H'
  | .exc x => ∀ H0' H', Gr K M σ env H0 H H0' H' → W (ξ x) none σ H'
  | .bad => False
def PostK (H0 H : Hp) (Q : VK) : R (List (Key × D)) → Prop
  | .ok ds => ∀ p vs H0' H', Gr K M σ env H0 H H0' H' → H p = none → NewAt M σ env H0' H' p (.dK vs) → RepKv K H0' vs ds → Q (.ref p) H'
  | .exc x => ∀ H0' H', Gr K M σ env H0 H H0' H' → W (ξ x) none σ H'
  | .bad => False
end
def tD (K : PySem.W.Frag) (W : WX) (ξ : Str → Value) (c : Bool) (F : En → R D) : TE := fun σ H Q => ∃ M H0 env, EnvAt K M H0 H σ env ∧ PostE K W ξ M σ env c H0 H Q (F env)
def tDT (K : PySem.W.Frag) (W : WX) (ξ : Str → Value) (F : En → R Bool) : TT := fun σ H Q => ∃ M H0 env, EnvAt K M H0 H σ env ∧ PostT K W ξ M σ env H0 H Q (F env)
def tDA (K : PySem.W.Frag) (W : WX) (ξ : Str → Value) (c : Bool) (F : En → R (List D)) : TA := fun σ H Q => ∃ M H0 env, EnvAt K M H0 H σ env ∧ PostA K W ξ M σ env c H0 H Q (F env)
def tDF (K : PySem.W.Frag) (W : WX) (ξ : Str → Value) (F : En → R (List D)) : TE := fun σ H Q => ∃ M H0 env, EnvAt K M H0 H σ env ∧ PostF K W ξ M σ env H0 H Q (F env)
abbrev DE (X : Cx) (W : WX) (ξ : Str → Value) (c : Bool) (e : Expr) (F : En → R D) : Prop := PE X e (tD X.K W ξ c F)
abbrev DT (X : Cx) (W : WX) (ξ : Str → Value) (e : Expr) (F : En → R Bool) : Prop := PT X e (tDT X.K W ξ F)
abbrev DW (X : Cx) (W : WX) (ξ : Str → Value) (e : Expr) (F : En → R Bool) : Prop := PW X e (tDT X.K W ξ F)
abbrev DA (X : Cx) (W : WX) (ξ : Str → Value) (c : Bool) (es : List Expr) (F : En → R (List D)) : Prop := PA X es (tDA X.K W ξ c F)
abbrev DF (X : Cx) (W : WX) (ξ : Str → Value) (e : Expr) (F : En → R (List D)) : Prop := PE X e (tDF X.K W ξ F)
theorem peImp {X : Cx} {e : Expr} {t t' : TE} (h : PE X e t) (hi : ∀ σ H Q, t' σ H Q → t σ H Q) : PE X e t' := ⟨fun pins s σ H Q I w => h.run pins s σ H Q I (hi _ _ _ w)⟩
theorem ptImp {X : Cx} {e : Expr} {t t' : TT} (h : PT X e t) (hi : ∀ σ H Q, t' σ H Q → t σ H Q) : PT X e t' := ⟨fun pins s σ H Q I w => h.run pins s σ H Q I (hi _ _ _ w)⟩
theorem pwImp {X : Cx} {e : Expr} {t t' : TT} (h : PW X e t) (hi : ∀ σ H Q, t' σ H Q → t σ H Q) : PW X e t' := ⟨fun wh pins s σ H Q I w => h.run wh pins s σ H Q I (hi _ _ _ w)⟩
theorem paImp {X : Cx} {e : List Expr} {t t' : TA} (h : PA X e t) (hi : ∀ σ H Q, t' σ H Q → t σ H Q) : PA X e t' := ⟨fun p pins s σ H Q I w => h.run p pins s σ H Q I (hi _ _ _ w)⟩
theorem psImp {X : Cx} {e : Stmt} {t t' : TS} (h : PS X e t) (hi : ∀ D σ H, t' D σ H → t D σ H) : PS X e t' := ⟨fun pins s σ H D I w => h.run pins s σ H D I (hi _ _ _ w)⟩
theorem pssImp {X : Cx} {e : List Stmt} {t t' : TS} (h : PSs X e t) (hi : ∀ D σ H, t' D σ H → t D σ H) : PSs X e t' := ⟨fun pins s σ H D I w => h.run pins s σ H D I (hi _ _ _ w)⟩

section
variable {K : PySem.W.Frag} {W : WX} {ξ : Str → Value} {M : Fm ξ} {σ : L2.St} {env : En} {c c1 : Bool} {H0 H H0' H' : Hp} {Q Q1 : VK}
structure Weak (K : PySem.W.Frag) {ξ : Str → Value} (M : Fm ξ) (σ : L2.St) (env : En) (P : Hp → Hp → Prop) : Prop where
  mono : ∀ {H0 H H0' H' : Hp}, Gr K M σ env H0 H H0' H' → P H0 H → P H0' H'
theorem PostE.weak {x : R D} (g : Gr K M σ env H0 H H0' H') (p : PostE K W ξ M σ env c H0 H Q x) : PostE K W ξ M σ env c H0' H' Q x := by
  cases x with
  | ok d => exact fun v H02 H2 g2 r => p v H02 H2 (g.trans g2) r
  | exc x => exact fun H02 H2 g2 => p H02 H2 (g.trans g2)
  | bad => exact p
theorem PostT.weak {x : R Bool} {Q : Bool → Hp → Prop} (g : Gr K M σ env H0 H H0' H') (p : PostT K W ξ M σ env H0 H Q x) : PostT K W ξ M σ env H0' H' Q x := by
  cases x with
  | ok d => exact fun H02 H2 g2 => p H02 H2 (g.trans g2)
  | exc x => exact fun H02 H2 g2 => p H02 H2 (g.trans g2)
  | bad => exact p
theorem PostA.weak {x : R (List D)} {Q : List V → Hp → Prop} (g : Gr K M σ env H0 H H0' H') (p : PostA K W ξ M σ env c H0 H Q x) : PostA K W ξ M σ env c H0' H' Q x := by
  cases x with
  | ok d => exact fun v H02 H2 g2 r => p v H02 H2 (g.trans g2) r
  | exc x => exact fun H02 H2 g2 => p H02 H2 (g.trans g2)
  | bad => exact p
theorem PostF.weak {x : R (List D)} (g : Gr K M σ env H0 H H0' H') (p : PostF K W ξ M σ env H0 H Q x) : PostF K W ξ M σ env H0' H' Q x := by
  cases x with
  | ok d => exact fun v vs H02 H2 g2 hp r => p v vs H02 H2 (g.trans g2) (g.s.free hp) r
  | exc x => exact fun H02 H2 g2 => p H02 H2 (g.trans g2)
  | bad => exact p
theorem PostK.weak {x : R (List (Key × D))} (g : Gr K M σ env H0 H H0' H') (p : PostK K W ξ M σ env H0 H Q x) : PostK K W ξ M σ env H0' H' Q x := by
  cases x with
  | ok d => exact fun v vs H02 H2 g2 hp r => p v vs H02 H2 (g.trans g2) (g.s.free hp) r
  | exc x => exact fun H02 H2 g2 => p H02 H2 (g.trans g2)
  | bad => exact p

structure Wish (K : PySem.W.Frag) (W : WX) (ξ : Str → Value) (M : Fm ξ) (σ : L2.St) (env : En) {β : Type} (P : Hp → Hp → R β → Prop) : Prop where
  weak : ∀ {H0 H H0' H' : Hp} {x : R β}, Gr K M σ env H0 H H0' H' → P H0 H x → P H0' H' x
  exc : ∀ {H0 H : Hp} {x : Str}, P H0 H (.exc x) → ∀ H0' H', Gr K M σ env H0 H H0' H' → W (ξ x) none σ H'
  bad : ∀ {H0 H : Hp}, P H0 H .bad → False
theorem wishE : Wish K W ξ M σ env (fun H0 H => PostE K W ξ M σ env c H0 H Q) := ⟨PostE.weak, fun p => p, fun p => p⟩
theorem wishT {Q : Bool → Hp → Prop} : Wish K W ξ M σ env (fun H0 H => PostT K W ξ M σ env H0 H Q) := ⟨PostT.weak, fun p => p, fun p => p⟩
theorem wishA {Q : List V → Hp → Prop} : Wish K W ξ M σ env (fun H0 H => PostA K W ξ M σ env c H0 H Q) := ⟨PostA.weak, fun p => p, fun p => p⟩
theorem wishF : Wish K W ξ M σ env (fun H0 H => PostF K W ξ M σ env H0 H Q) := ⟨PostF.weak, fun p => p, fun p => p⟩
section
variable {β : Type} {P : Hp → Hp → R β → Prop}
theorem bindE (w : Wish K W ξ M σ env P) {x : R D} {k : D → R β} (p : P H0 H (x >>= k)) (h : ∀ a v H0' H', Gr K M σ env H0 H H0' H' → RepX c1 K H0' H' v a → P H0' H' (k a) → Q1 v H') : PostE K W ξ M σ env c1 H0 H Q1 x := by
  cases x with
  | ok d => exact fun v H0' H' g r => h d v H0' H' g r (w.weak g p)
  | exc x => exact fun H0' H' g => w.exc p H0' H' g
  | bad => exact w.bad p
theorem bindT (w : Wish K W ξ M σ env P) {x : R Bool} {k : Bool → R β} {Q1 : Bool → Hp → Prop} (p : P H0 H (x >>= k)) (h : ∀ a H0' H', Gr K M σ env H0 H H0' H' → P H0' H' (k a) → Q1 a H') : PostT K W ξ M σ env H0 H Q1 x := by
  cases x with
  | ok d => exact fun H0' H' g => h d H0' H' g (w.weak g p)
  | exc x => exact fun H0' H' g => w.exc p H0' H' g
  | bad => exact w.bad p
theorem bindA (w : Wish K W ξ M σ env P) {x : R (List D)} {k : List D → R β} {Q1 : List V → Hp → Prop} (p : P H0 H (x >>= k)) (h : ∀ a v H0' H', Gr K M σ env H0 H H0' H' → RepXs K c1 H0' H' v a → P H0' H' (k a) → Q1 v H') : PostA K W ξ M σ env c1 H0 H Q1 x := by
  cases x with
  | ok d => exact fun v H0' H' g r => h d v H0' H' g r (w.weak g p)
  | exc x => exact fun H0' H' g => w.exc p H0' H' g
  | bad => exact w.bad p
theorem bindF (w : Wish K W ξ M σ env P) {x : R (List D)} {k : List D → R β} (p : P H0 H (x >>= k)) (h : ∀ a q vs H0' H', Gr K M σ env H0 H H0' H' → H q = none → NewAt M σ env H0' H' q (.lst vs) → a.length ≤ sizeLine ∧ RepAll K H0' vs a → P H0 H (k a) → P H0' H' (k a) → Q1 (.ref q) H') : PostF K W ξ M σ env H0 H Q1 x := by
  cases x with
  | ok d => exact fun q vs H0' H' g hq n r => h d q vs H0' H' g hq n r p (w.weak g p)
  | exc x => exact fun H0' H' g => w.exc p H0' H' g
  | bad => exact w.bad p
end
theorem NewAt.frz0 (E : EnvAt K M H0 H σ env) {p : Addr} {o : HO} (n : NewAt M σ env H0 H p o) : Same H0 (upd H0 p o) ∧ EnvAt K M (upd H0 p o) H σ env := by
  have s0 : Same H0 (upd H0 p o) := same_upd n.h0
  have s1 : Same (upd H0 p o) H := fun b u e => by
    by_cases hb : b = p
    · subst hb; rw [upd_same] at e; cases e; exact n.at_
    · rw [upd_ne hb] at e; exact E.same _ _ e
  refine ⟨s0, ⟨s1, E.fr, fun a h => ?_, E.len, fun i s h => ?_, E.sep, E.ng, E.tg⟩⟩
  · obtain ⟨h1, h2⟩ := E.nogo a h
    refine ⟨?_, h2⟩
    by_cases hb : a = p
    · subst hb; exact absurd h n.n
    · rw [upd_ne hb]; exact h1
  · have q := E.slot i s h
    have ne : ∀ {a}, σ[i]? = some (some (.ref a)) → s.own = true → a ≠ p := fun {a} e o z => by
      subst z; exact n.w i ⟨e, s, h, o⟩
    cases s with
    | u => trivial
    | d x => obtain ⟨v, e, r⟩ := q; exact ⟨v, e, r.mono s0⟩
    | ol xs => obtain ⟨a, vs, e, h0, hg, ha, z, r⟩ := q; exact ⟨a, vs, e, by rw [upd_ne (ne e rfl)]; exact h0, hg, ha, z, r.mono s0⟩
    | od xs => obtain ⟨a, vs, e, h0, hg, ha, r⟩ := q; exact ⟨a, vs, e, by rw [upd_ne (ne e rfl)]; exact h0, hg, ha, r.mono s0⟩
    | ex => exact q
    | tr n k t => exact ⟨q.1, q.2.1, q.2.2.mono s0⟩
theorem NewAt.frz {p : Addr} {o : HO} (g : Gr K M σ env H0 H H0' H') (hp : H p = none) (n : NewAt M σ env H0' H' p o) : Gr K M σ env H0 H (upd H0' p o) H' := by
  obtain ⟨a, b⟩ := n.frz0 g.e
  refine ⟨g.s0.trans a, g.s, b, fun q h1 h2 => ?_⟩
  by_cases hb : q = p
  · subst hb; exact absurd hp h1
  · rw [upd_ne hb]; exact g.n q h1 h2
theorem EnvAt.newAt (E : EnvAt K M H0 H σ env) {p : Addr} {o : HO} (h : H p = none) : Gr K M σ env H0 H H0 (upd H p o) ∧ NewAt M σ env H0 (upd H p o) p o := by
  have s : Same H (upd H p o) := same_upd h
  have h0 := E.same.free h
  refine ⟨⟨Same.refl _, s, E.grow (Same.refl _) s (E.same.trans s) fun a _ z => z, fun a _ z => z⟩, upd_same, h0, E.fr.free h, fun z => (E.nogo p z).2 h, fun j ⟨e, sl, h1, h2⟩ => ?_⟩
  have q := E.slot j sl h1
  rw [e] at q
  cases sl with
  | u => cases h2
  | d _ => cases h2
  | ol xs => obtain ⟨a, vs, e, _, _, ha, _, _⟩ := q; cases e; rw [h] at ha; cases ha
  | od xs => obtain ⟨a, vs, e, _, _, ha, _⟩ := q; cases e; rw [h] at ha; cases ha
  | ex => cases h2
  | tr n k t => cases h2
end

section
variable {X : Cx} {W : WX} {ξ : Str → Value} {e a b : Expr} {c c1 c2 : Bool} {pos : Pos}
theorem de_ofF {F : En → R (List D)} (h : DF X W ξ e F) : DE X W ξ true e (eOfF F) := peImp h fun σ H Q ⟨M, H0, env, E, p⟩ => ⟨M, H0, env, E, bindF wishE p fun xs q vs H0' H' g hq n r pu p1 =>
  pu (.ref q) _ _ (n.frz g hq) (Rep.lst upd_same r.1 (r.2.mono (same_upd n.h0)))⟩
def getV (i : Nat) (env : En) : R D := match env[i]? with
  | some (.d x) => .ok x
  | some (.ol xs) => .ok (.lst xs)
  | some (.od xs) => .ok (.dic xs)
  | _ => .bad
def getD' (i : Nat) (env : En) : R D := match env[i]? with
  | some (.d x) => .ok x
  | _ => .bad
theorem de_vb {i : Nat} {x : Str} (h : PE X (.Name x pos) (tVar i)) : DE X W ξ false (.Name x pos) (getV i) := peImp h fun σ H Q ⟨M, H0, env, E, p⟩ => by
  unfold getV at p
  cases h : env[i]? with
  | none => rw [h] at p; exact p.elim
  | some s =>
    rw [h] at p
    have q := E.slot i s h
    cases s with
    | u => exact p.elim
    | d x => obtain ⟨v, e, r⟩ := q; exact ⟨v, e, p v H0 H (.refl E) (.inl r)⟩
    | ol xs => obtain ⟨a, vs, e, h0, hg, ha, z, r⟩ := q; exact ⟨_, e, p _ H0 H (.refl E) (.inr (.inl ⟨a, vs, xs, rfl, rfl, ha, z, r⟩))⟩
    | od xs => obtain ⟨a, vs, e, h0, hg, ha, r⟩ := q; exact ⟨_, e, p _ H0 H (.refl E) (.inr (.inr ⟨a, vs, xs, rfl, rfl, ha, r⟩))⟩
    | ex => exact p.elim
    | tr n k t => exact p.elim
theorem de_v {i : Nat} {x : Str} (h : PE X (.Name x pos) (tVar i)) : DE X W ξ true (.Name x pos) (getD' i) := peImp h fun σ H Q ⟨M, H0, env, E, p⟩ => by
  unfold getD' at p
  cases h : env[i]? with
  | none => rw [h] at p; exact p.elim
  | some s =>
    rw [h] at p
    have q := E.slot i s h
    cases s with
    | u => exact p.elim
    | d x => obtain ⟨v, e, r⟩ := q; exact ⟨v, e, p v H0 H (.refl E) r⟩
    | ol xs => exact p.elim
    | od xs => exact p.elim
    | ex => exact p.elim
    | tr n k t => exact p.elim
theorem de_c {v : V} {d : D} (h : PE X e (tC v)) (r : ∀ H : Hp, Rep X.K H v d) : DE X W ξ true e (eC d) := peImp h fun σ H Q ⟨M, H0, env, E, p⟩ => p v H0 H (.refl E) (r H0)
theorem de_int {i : Int} {j : Nat} : DE X W ξ true (.Constant (.int i) j pos) (eC (.int i)) := de_c pe_int fun _ => .int i
theorem de_bl {i : Bool} {j : Nat} : DE X W ξ true (.Constant (.bool i) j pos) (eC (.bl i)) := de_c pe_bl fun _ => .bl i
theorem de_str {i : Str} {j : Nat} (h : sOk i = true := by decide +kernel) : DE X W ξ true (.Constant (.str i) j pos) (eC (.str i)) := de_c pe_str fun _ => .str i h
theorem de_non {j : Nat} : DE X W ξ true (.Constant .none j pos) (eC .non) := de_c pe_non fun _ => .non

theorem de_op {op : Operator} {r : R2} {fa fb : En → R D} {c3 : Bool} {f : D → D → R D} (ho : OpR X (binaryOp op) r) (ha : DE X W ξ c1 a fa) (hb : DE X W ξ c2 b fb)
    (hr : ∀ {M : Fm ξ} {σ : L2.St} {env : En} {H0 H : Hp} {Q : VK} {x y : V} {d1 d2 : D}, EnvAt X.K M H0 H σ env → RepX c1 X.K H0 H x d1 → RepX c2 X.K H0 H y d2 → PostE X.K W ξ M σ env c3 H0 H Q (f d1 d2) → r x y H Q) :
    DE X W ξ c3 (.BinOp a op b pos) (eBin f fa fb) :=
  peImp (pe_op ho ha hb) fun σ H Q ⟨M, H0, env, E, p⟩ => ⟨M, H0, env, E, bindE wishE p fun d1 x H1 H2 g1 r1 p1 => ⟨M, H1, env, g1.e, bindE wishE p1 fun d2 y H3 H4 g2 r2 p2 => hr g2.e (r1.mono g2.s0 g2.s) r2 p2⟩⟩
theorem de_cmp {op : CmpOp} {r : R2} {fa fb : En → R D} {c3 : Bool} {f : D → D → R D} (ho : OpR X (compareOp op) r) (hm : behindInMarks op b = false) (ha : DE X W ξ c1 a fa) (hb : DE X W ξ c2 b fb)
    (hr : ∀ {M : Fm ξ} {σ : L2.St} {env : En} {H0 H : Hp} {Q : VK} {x y : V} {d1 d2 : D}, EnvAt X.K M H0 H σ env → RepX c1 X.K H0 H x d1 → RepX c2 X.K H0 H y d2 → PostE X.K W ξ M σ env c3 H0 H Q (f d1 d2) → r x y H Q) :
    DE X W ξ c3 (.Compare a [op] [b] pos) (eBin f fa fb) :=
  peImp (pe_cmpR ho ha hb hm) fun σ H Q ⟨M, H0, env, E, p⟩ => ⟨M, H0, env, E, bindE wishE p fun d1 x H1 H2 g1 r1 p1 => ⟨M, H1, env, g1.e, bindE wishE p1 fun d2 y H3 H4 g2 r2 p2 => hr g2.e (r1.mono g2.s0 g2.s) r2 p2⟩⟩
end
end Dx

namespace Dx
open PySem PySem.Spec PyProof.Rows L2

def dle : Nat → D → Bool
  | 0, .non => true
  | 0, .bl _ => true
  | 0, .int _ => true
  | 0, .str _ => true
  | 0, _ => false
  | n + 1, .lst xs => xs.all (dle n)
  | n + 1, .tup xs => xs.all (dle n)
  | _ + 1, .frz _ => false
  | _ + 1, .dic _ => false
  | _ + 1, .opq => false
  | _ + 1, _ => true
mutual
def eqD : D → D → Bool
  | .non, .non => true
  | .bl a, .bl b => a == b
  | .bl a, .int j => (if a then 1 else 0) == j
  | .int i, .bl b => i == (if b then 1 else 0)
  | .int i, .int j => i == j
  | .str x, .str y => x == y
  | .lst xs, .lst ys => eqDs xs ys
  | .tup xs, .tup ys => eqDs xs ys
  | _, _ => false
def eqDs : List D → List D → Bool
  | [], [] => true
  | x :: xs, y :: ys => eqD x y && eqDs xs ys
  | _, _ => false
end
mutual
def toPy : D → PyData
  | .non => .none
  | .bl b => .bool b
  | .int i => .int i
  | .str s => .str s
  | .tup xs => .tuple (toPys xs)
  | .lst xs => .list (toPys xs)
  | .dic _ => .dict []
  | .frz ns => .dict []
  | .opq => .dict []
def toPys : List D → List PyData
  | [] => []
  | x :: xs => toPy x :: toPys xs
end
mutual
theorem eqv_toPy : ∀ a b : D, PyData.eqv (toPy a) (toPy b) = eqD a b
  | .non, b => by cases b <;> simp only [toPy, PyData.eqv, eqD]
  | .bl _, b => by cases b <;> simp only [toPy, PyData.eqv, eqD]
  | .int _, b => by cases b <;> simp only [toPy, PyData.eqv, eqD]
  | .str _, b => by cases b <;> simp only [toPy, PyData.eqv, eqD]
  | .tup xs, b => by cases b <;> simp only [toPy, PyData.eqv, eqD, eqvAll_toPys xs]
  | .lst xs, b => by cases b <;> simp only [toPy, PyData.eqv, eqD, eqvAll_toPys xs]
  | .dic _, b => by cases b <;> simp only [toPy, PyData.eqv, eqD]
  | .frz _, b => by cases b <;> simp only [toPy, PyData.eqv, eqD]
  | .opq, b => by cases b <;> simp only [toPy, PyData.eqv, eqD]
theorem eqvAll_toPys : ∀ xs ys : List D, PyData.eqvAll (toPys xs) (toPys ys) = eqDs xs ys
  | [], [] => by simp only [toPys, PyData.eqvAll, eqDs]
  | [], _ :: _ => by simp only [toPys, PyData.eqvAll, eqDs]
  | _ :: _, [] => by simp only [toPys, PyData.eqvAll, eqDs]
  | x :: xs, y :: ys => by simp only [toPys, PyData.eqvAll, eqDs, eqv_toPy x y, eqvAll_toPys xs ys]
end
section
variable {K : PySem.W.Frag} {H : Hp}
theorem rep_dps {n : Nat} (ih : ∀ (d : D) (v : V), dle n d = true → Rep K H v d → Dp K H v (toPy d) ∧ (toPy d).canLay0 = true ∧ (toPy d).depth ≤ n) :
    ∀ (xs : List D) (vs : List V), xs.all (dle n) = true → RepAll K H vs xs → DpAll K H vs (toPys xs) ∧ PyData.canLayAll0 (toPys xs) = true ∧ PyData.depthAll (toPys xs) ≤ n
  | [], _, _, .nil => ⟨.nil, by simp only [toPys, PyData.canLayAll0], by simp only [toPys, PyData.depthAll]; exact Nat.zero_le _⟩
  | x :: xs, _, h, .cons r t => by
    rw [List.all_cons, Bool.and_eq_true] at h
    obtain ⟨a1, a2, a3⟩ := ih x _ h.1 r
    obtain ⟨b1, b2, b3⟩ := rep_dps ih xs _ h.2 t
    refine ⟨.cons a1 b1, by simp only [toPys, PyData.canLayAll0, a2, b2, Bool.and_self], ?_⟩
    simp only [toPys, PyData.depthAll]
    omega
theorem rep_dp : ∀ (n : Nat) (d : D) (v : V), dle n d = true → Rep K H v d → Dp K H v (toPy d) ∧ (toPy d).canLay0 = true ∧ (toPy d).depth ≤ n
  | n, .non, _, _, .non => ⟨.non, by simp only [toPy, PyData.canLay0], by simp only [toPy, PyData.depth]; exact Nat.zero_le _⟩
  | n, .bl _, _, _, .bl _ => ⟨.bl _, by simp only [toPy, PyData.canLay0], by simp only [toPy, PyData.depth]; exact Nat.zero_le _⟩
  | n, .int _, _, _, .int _ => ⟨.int _, by simp only [toPy, PyData.canLay0], by simp only [toPy, PyData.depth]; exact Nat.zero_le _⟩
  | n, .str _, _, _, .str _ h => ⟨.str _, by simp only [toPy, PyData.canLay0]; exact (Bool.and_eq_true_iff.mp h).1, by simp only [toPy, PyData.depth]; exact Nat.zero_le _⟩
  | 0, .tup _, _, h, _ => by simp only [dle, Bool.false_eq_true] at h
  | 0, .lst _, _, h, _ => by simp only [dle, Bool.false_eq_true] at h
  | 0, .dic _, _, h, _ => by simp only [dle, Bool.false_eq_true] at h
  | 0, .frz _, _, h, _ => by simp only [dle, Bool.false_eq_true] at h
  | 0, .opq, _, h, _ => by simp only [dle, Bool.false_eq_true] at h
  | n + 1, .opq, _, h, _ => by simp only [dle, Bool.false_eq_true] at h
  | n + 1, .dic _, _, h, _ => by simp only [dle, Bool.false_eq_true] at h
  | n + 1, .frz _, _, h, _ => by simp only [dle, Bool.false_eq_true] at h
  | n + 1, .tup xs, _, h, .tup hh _ r => by
    obtain ⟨b1, b2, b3⟩ := rep_dps (rep_dp n) xs _ (by simpa only [dle] using h) r
    exact ⟨.tup (SqT.of hh) b1, by simp only [toPy, PyData.canLay0]; exact b2, by simp only [toPy, PyData.depth]; omega⟩
  | n + 1, .lst xs, _, h, .lst hh _ r => by
    obtain ⟨b1, b2, b3⟩ := rep_dps (rep_dp n) xs _ (by simpa only [dle] using h) r
    exact ⟨.lst (SqL.of hh) b1, by simp only [toPy, PyData.canLay0]; exact b2, by simp only [toPy, PyData.depth]; omega⟩
theorem rep_shaped {d : D} {v : V} (h : dle 64 d = true) (r : Rep K H v d) : Dp K H v (toPy d) ∧ SeqAt.shaped (toPy d) = true := by
  obtain ⟨a, b, c⟩ := rep_dp 64 d v h r
  refine ⟨a, ?_⟩
  unfold SeqAt.shaped
  rw [b, decide_eq_true c]; rfl
end
def eqR (a b : D) : R D := match a, b with
  | .frz ns, .lst [] => .ok (.bl ns.isEmpty)
  | a, b => if dle 64 a && dle 64 b then .ok (.bl (eqD a b)) else .bad
def neR (a b : D) : R D := match a, b with
  | .frz ns, .lst [] => .ok (.bl (!ns.isEmpty))
  | a, b => if dle 64 a && dle 64 b then .ok (.bl (!eqD a b)) else .bad

section
variable {X : Cx} {W : WX} {ξ : Str → Value} {e a b : Expr} {c c1 c2 c3 : Bool} {pos : Pos} {fa fb : En → R D}

theorem post_ok {K : PySem.W.Frag} {M : Fm ξ} {σ : L2.St} {env : En} {H0 H : Hp} {Q : VK} {d : D} {v : V} (E : EnvAt K M H0 H σ env) (p : PostE K W ξ M σ env c H0 H Q (.ok d)) (r : Rep K H0 v d) : Q v H := p v H0 H (.refl E) (.of r)
theorem intsPy : ∀ ns : List Int, (PyData.list (ns.map PyData.int)).canLay0 = true ∧ (PyData.list (ns.map PyData.int)).depth ≤ 64 := by
  intro ns
  have h : PyData.canLayAll0 (ns.map PyData.int) = true ∧ PyData.depthAll (ns.map PyData.int) ≤ 0 := by
    induction ns with
    | nil => exact ⟨by simp only [List.map_nil, PyData.canLayAll0], by simp only [List.map_nil, PyData.depthAll]; exact Nat.le_refl _⟩
    | cons n ns ih => exact ⟨by simp only [List.map_cons, PyData.canLayAll0, PyData.canLay0, ih.1, Bool.and_self], by simp only [List.map_cons, PyData.depthAll, PyData.depth]; omega⟩
  exact ⟨by simp only [PyData.canLay0]; exact h.1, by simp only [PyData.depth]; omega⟩
theorem ints_dp {K : PySem.W.Frag} {H : Hp} : ∀ ns : List Int, DpAll K H (ns.map V.int) (ns.map PyData.int)
  | [] => .nil
  | n :: ns => .cons (.int n) (ints_dp ns)
def boolR : D → R Bool
  | .bl b => .ok b
  | _ => .bad
def tBin (f : D → D → R D) (A B : En → R D) : En → R Bool := fun env => A env >>= fun x => B env >>= fun y => f x y >>= boolR
def CmpD (X : Cx) (W : WX) (ξ : Str → Value) (op : CmpOp) (f : D → D → R D) : Prop := ∃ r : R2, OpR X (compareOp op) r ∧
  ∀ {c1 c2 : Bool} {M : Fm ξ} {σ : L2.St} {env : En} {H0 H : Hp} {Q : VK} {x y : V} {d1 d2 : D}, EnvAt X.K M H0 H σ env → RepX c1 X.K H0 H x d1 → RepX c2 X.K H0 H y d2 → PostE X.K W ξ M σ env true H0 H Q (f d1 d2) → r x y H Q
theorem deC {op : CmpOp} {f : D → D → R D} (h : CmpD X W ξ op f) (ha : DE X W ξ c1 a fa) (hb : DE X W ξ c2 b fb) (hm : behindInMarks op b = false := by first | exact nomark _ | rfl) : DE X W ξ true (.Compare a [op] [b] pos) (eBin f fa fb) := by
  obtain ⟨r, ho, hr⟩ := h
  exact de_cmp ho hm ha hb hr
theorem bool_end {K : PySem.W.Frag} {M : Fm ξ} {σ : L2.St} {env : En} {H0 H : Hp} {Q : Bool → Hp → Prop} {d : D} {v : V} (E : EnvAt K M H0 H σ env) (r : RepX c K H0 H v d) (p : PostT K W ξ M σ env H0 H Q (boolR d)) : ∃ k, v = .bl k ∧ Q k H := by
  cases d with
  | bl b => exact ⟨b, r.bl, p H0 H (.refl E)⟩
  | _ => exact p.elim
theorem dtC {op : CmpOp} {f : D → D → R D} (h : CmpD X W ξ op f) (ha : DE X W ξ c1 a fa) (hb : DE X W ξ c2 b fb) (hm : behindInMarks op b = false := by first | exact nomark _ | rfl) : DT X W ξ (.Compare a [op] [b] pos) (tBin f fa fb) := by
  obtain ⟨r, ho, hr⟩ := h
  exact ptImp (pt_cmpR ho ha hb hm) fun σ H Q ⟨M, H0, env, E, p⟩ => ⟨M, H0, env, E, bindE wishT p fun d1 x H1 H2 g1 r1 p1 => ⟨M, H1, env, g1.e, bindE wishT p1 fun d2 y H3 H4 g2 r2 p2 => hr g2.e (r1.mono g2.s0 g2.s) r2
    (bindE (c1 := true) wishT p2 fun d3 z H5 H6 g3 r3 p3 => bool_end g3.e r3 p3)⟩⟩
theorem cm_eq (hu : X.A.units + 64 < cLine) : CmpD X W ξ .Eq eqR := ⟨_, op_eqD hu, fun {c1 c2 M σ env H0 H Q x y d1 d2} E r1 r2 p => by
    unfold eqR at p
    split at p
    · rename_i ns
      obtain ⟨q, rfl, hq⟩ := r1.frz E.same
      obtain ⟨q2, vs, rfl, h2, r3⟩ := r2.lst E.same
      cases r3
      refine ⟨.list (ns.map .int), .list [], .lst hq (ints_dp ns), .lst (SqL.of h2) .nil, ?_, by decide, ?_⟩
      · unfold SeqAt.shaped; rw [(intsPy ns).1, decide_eq_true (intsPy ns).2]; rfl
      · have : PyData.eqv (.list (ns.map .int)) (.list []) = ns.isEmpty := by cases ns <;> simp only [List.map_nil, List.map_cons, PyData.eqv, PyData.eqvAll, List.isEmpty]
        rw [this]
        exact post_ok E p (.bl _)
    · split at p
      · rename_i h
        rw [Bool.and_eq_true] at h
        obtain ⟨p1, q1⟩ := rep_shaped h.1 (r1.rep E.same)
        obtain ⟨p2, q2⟩ := rep_shaped h.2 (r2.rep E.same)
        exact ⟨_, _, p1, p2, q1, q2, by rw [eqv_toPy]; exact post_ok E p (.bl _)⟩
      · exact p.elim⟩
theorem cm_ne (hu : X.A.units + 64 < cLine) : CmpD X W ξ .NotEq neR := ⟨_, op_neD hu, fun {c1 c2 M σ env H0 H Q x y d1 d2} E r1 r2 p => by
    unfold neR at p
    split at p
    · rename_i ns
      obtain ⟨q, rfl, hq⟩ := r1.frz E.same
      obtain ⟨q2, vs, rfl, h2, r3⟩ := r2.lst E.same
      cases r3
      refine ⟨.list (ns.map .int), .list [], .lst hq (ints_dp ns), .lst (SqL.of h2) .nil, ?_, by decide, ?_⟩
      · unfold SeqAt.shaped; rw [(intsPy ns).1, decide_eq_true (intsPy ns).2]; rfl
      · have : PyData.eqv (.list (ns.map .int)) (.list []) = ns.isEmpty := by cases ns <;> simp only [List.map_nil, List.map_cons, PyData.eqv, PyData.eqvAll, List.isEmpty]
        rw [this]
        exact post_ok E p (.bl _)
    · split at p
      · rename_i h
        rw [Bool.and_eq_true] at h
        obtain ⟨p1, q1⟩ := rep_shaped h.1 (r1.rep E.same)
        obtain ⟨p2, q2⟩ := rep_shaped h.2 (r2.rep E.same)
        exact ⟨_, _, p1, p2, q1, q2, by rw [eqv_toPy]; exact post_ok E p (.bl _)⟩
      · exact p.elim⟩
def isN : D → Bool
  | .non => true
  | _ => false
def isR (x y : D) : R D := if isN y = true then .ok (.bl (isN x)) else .bad
def isNotR (x y : D) : R D := if isN y = true then .ok (.bl (!isN x)) else .bad
def addR : D → D → R D
  | .int i, .int j => .ok (.int (i + j))
  | .str s, .str t => if s.length + t.length ≤ sizeLine then .ok (.str (s ++ t)) else .bad
  | .lst xs, .lst ys => if xs.length + ys.length ≤ sizeLine then .ok (.lst (xs ++ ys)) else .bad
  | .tup xs, .tup ys => if xs.length + ys.length ≤ sizeLine then .ok (.tup (xs ++ ys)) else .bad
  | _, _ => .bad
def subR : D → D → R D
  | .int i, .int j => .ok (.int (i - j))
  | _, _ => .bad
def modR : D → D → R D
  | .int i, .int j => if 0 < j then .ok (.int (i % j)) else .bad
  | _, _ => .bad
def divR : D → D → R D
  | .int i, .int j => if 0 < j ∧ j < 1073741824 then .ok (.int (i / j)) else .bad
  | _, _ => .bad
def ltR : D → D → R D
  | .int i, .int j => .ok (.bl (decide (i < j)))
  | .str i, .str j => .ok (.bl (decide (i.cps.toList < j.cps.toList)))
  | _, _ => .bad
def leR : D → D → R D
  | .int i, .int j => .ok (.bl (decide (i ≤ j)))
  | _, _ => .bad
def gtR : D → D → R D
  | .int i, .int j => .ok (.bl (decide (j < i)))
  | _, _ => .bad
theorem de_sub (ha : DE X W ξ c1 a fa) (hb : DE X W ξ c2 b fb) : DE X W ξ true (.BinOp a .Sub b pos) (eBin subR fa fb) :=
  de_op op_sub ha hb fun {M σ env H0 H Q x y d1 d2} E r1 r2 p => by
    unfold subR at p
    split at p
    · exact ⟨_, _, r1.int, r2.int, post_ok E p (.int _)⟩
    · exact p.elim
theorem de_mod (ha : DE X W ξ c1 a fa) (hb : DE X W ξ c2 b fb) : DE X W ξ true (.BinOp a .Mod b pos) (eBin modR fa fb) :=
  de_op op_mod ha hb fun {M σ env H0 H Q x y d1 d2} E r1 r2 p => by
    unfold modR at p
    split at p
    · split at p
      · rename_i h
        exact ⟨_, _, r1.int, r2.int, h, post_ok E p (.int _)⟩
      · exact p.elim
    · exact p.elim
theorem de_div (ha : DE X W ξ c1 a fa) (hb : DE X W ξ c2 b fb) : DE X W ξ true (.BinOp a .FloorDiv b pos) (eBin divR fa fb) :=
  de_op op_fdiv ha hb fun {M σ env H0 H Q x y d1 d2} E r1 r2 p => by
    unfold divR at p
    split at p
    · split at p
      · rename_i h
        exact ⟨_, _, r1.int, r2.int, h, post_ok E p (.int _)⟩
      · exact p.elim
    · exact p.elim
theorem cm_lt : CmpD X W ξ .Lt ltR := ⟨_, OpR.or op_lt op_lt_str, fun {c1 c2 M σ env H0 H Q x y d1 d2} E r1 r2 p => by
    unfold ltR at p
    split at p
    · exact .inl ⟨_, _, r1.int, r2.int, post_ok E p (.bl _)⟩
    · exact .inr ⟨_, _, r1.str, r2.str, post_ok E p (.bl _)⟩
    · exact p.elim⟩
theorem cm_le : CmpD X W ξ .LtE leR := ⟨_, op_le, fun {c1 c2 M σ env H0 H Q x y d1 d2} E r1 r2 p => by
    unfold leR at p
    split at p
    · exact ⟨_, _, r1.int, r2.int, post_ok E p (.bl _)⟩
    · exact p.elim⟩
theorem cm_gt : CmpD X W ξ .Gt gtR := ⟨_, op_gt, fun {c1 c2 M σ env H0 H Q x y d1 d2} E r1 r2 p => by
    unfold gtR at p
    split at p
    · exact ⟨_, _, r1.int, r2.int, post_ok E p (.bl _)⟩
    · exact p.elim⟩
theorem sOk_append {s t : Str} (h : sOk s = true) (h' : sOk t = true) (hz : s.length + t.length ≤ sizeLine) : sOk (s ++ t) = true := by
  unfold sOk at *
  rw [Bool.and_eq_true] at *
  refine ⟨?_, decide_eq_true ?_⟩
  · have h1 := h.1
    have h2 := h'.1
    unfold PyData.strOk at *
    show (s.cps ++ t.cps).all _ = true
    rw [Array.all_append, h1, h2]; rfl
  · rw [sizeLine_eq] at hz
    show (s.cps ++ t.cps).size ≤ _
    rw [Array.size_append]
    exact hz
theorem RepX.sok {K : PySem.W.Frag} {H0 H : Hp} {v : V} {s : Str} (r : RepX c K H0 H v (.str s)) : sOk s = true := by
  rcases r.b with r | ⟨_, _, _, _, e, _⟩ | ⟨_, _, _, _, e, _⟩
  · cases r with | str _ h => exact h
  · cases e
  · cases e
theorem RepX.slen {K : PySem.W.Frag} {H0 H : Hp} {v : V} {s : Str} (r : RepX c K H0 H v (.str s)) : s.length ≤ sizeLine := by
  rw [sizeLine_eq]
  exact of_decide_eq_true (Bool.and_eq_true_iff.mp r.sok).2
end
end Dx

namespace Dx
open PySem PySem.Spec PyProof.Rows L2
section
variable {X : Cx} {W : WX} {ξ : Str → Value} {e a b : Expr} {es : List Expr} {c c1 c2 c3 : Bool} {pos : Pos} {fa fb : En → R D}
variable {K : PySem.W.Frag} {M : Fm ξ} {σ : L2.St} {env : En} {H0 H : Hp} {Q : VK}

theorem post_new {o : HO} {d : D} (E : EnvAt K M H0 H σ env) (p : PostE K W ξ M σ env c H0 H Q (.ok d)) (r : ∀ q, H q = none → Rep K (upd H0 q o) (.ref q) d) : ∀ q, H q = none → Q (.ref q) (upd H q o) :=
  fun q hq => p (.ref q) _ _ (E.new hq) (.of (r q hq))
theorem new_lst {vs : List V} {xs : List D} (E : EnvAt K M H0 H σ env) (p : PostE K W ξ M σ env c H0 H Q (.ok (.lst xs))) (z : xs.length ≤ sizeLine) (r : RepAll K H0 vs xs) : ∀ q, H q = none → Q (.ref q) (upd H q (.lst vs)) :=
  post_new E p fun q hq => .lst upd_same z (r.mono (same_upd (E.same.free hq)))
theorem new_tup {vs : List V} {xs : List D} (E : EnvAt K M H0 H σ env) (p : PostE K W ξ M σ env c H0 H Q (.ok (.tup xs))) (z : xs.length ≤ sizeLine) (r : RepAll K H0 vs xs) : ∀ q, H q = none → Q (.ref q) (upd H q (.tup vs)) :=
  post_new E p fun q hq => .tup upd_same z (r.mono (same_upd (E.same.free hq)))
def OpD (X : Cx) (W : WX) (ξ : Str → Value) (op : Operator) (f : D → D → R D) : Prop := ∃ r : R2, OpR X (binaryOp op) r ∧
  ∀ {c1 c2 : Bool} {M : Fm ξ} {σ : L2.St} {env : En} {H0 H : Hp} {Q : VK} {x y : V} {d1 d2 : D}, EnvAt X.K M H0 H σ env → RepX c1 X.K H0 H x d1 → RepX c2 X.K H0 H y d2 → PostE X.K W ξ M σ env true H0 H Q (f d1 d2) → r x y H Q
theorem od_add : OpD X W ξ .Add addR :=
  ⟨_, (OpR.or op_add (OpR.or op_add_str (OpR.or op_cat op_catA))), fun {c1 c2 M σ env H0 H Q x y d1 d2} E r1 r2 p => by
    unfold addR at p
    split at p
    · exact .inl ⟨_, _, r1.int, r2.int, post_ok E p (.int _)⟩
    · split at p
      · rename_i h
        exact .inr (.inl ⟨_, _, r1.str, r2.str, h, post_ok E p (.str _ (sOk_append r1.sok r2.sok h))⟩)
      · exact p.elim
    · split at p
      · rename_i h
        obtain ⟨q1, vs, rfl, h1, r3⟩ := r1.lst E.same
        obtain ⟨q2, ws, rfl, h2, r4⟩ := r2.lst E.same
        exact .inr (.inr (.inl ⟨_, _, _, _, rfl, rfl, h1, h2, by rw [r3.length, r4.length]; exact h, new_lst E p (by rw [List.length_append]; exact h) (r3.append r4)⟩))
      · exact p.elim
    · split at p
      · rename_i h
        obtain ⟨q1, vs, rfl, h1, r3⟩ := r1.tup
        obtain ⟨q2, ws, rfl, h2, r4⟩ := r2.tup
        have z1 := r1.tupLen
        have z2 := r2.tupLen
        refine .inr (.inr (.inr ⟨_, _, vs, ws, rfl, rfl, SqT.of (E.same _ _ h1), SqT.of (E.same _ _ h2), by rw [r3.length, r4.length]; exact h, fun z => ?_, fun z1 z => ?_, fun _ _ => new_tup E p (by rw [List.length_append]; exact h) (r3.append r4)⟩))
        · subst z
          cases r3
          exact post_ok E p (.tup h2 z2 r4)
        · subst z
          cases r4
          rw [List.append_nil] at p
          exact post_ok E p (.tup h1 (by assumption) r3)
      · exact p.elim
    · exact p.elim⟩
theorem de_add (ha : DE X W ξ c1 a fa) (hb : DE X W ξ c2 b fb) : DE X W ξ true (.BinOp a .Add b pos) (eBin addR fa fb) := by
  obtain ⟨r, ho, hr⟩ := od_add (X := X) (W := W) (ξ := ξ)
  exact de_op ho ha hb hr
def mulR : D → D → R D
  | .int i, .int j => if (-(2 ^ 64) < i ∧ i < 2 ^ 64) ∨ (-(2 ^ 64) < j ∧ j < 2 ^ 64) then .ok (.int (i * j)) else .bad
  | .lst xs, .int k => if -(2 ^ 63) ≤ k ∧ k < 2 ^ 63 ∧ xs.length * k.toNat ≤ sizeLine then .ok (.lst (List.replicate k.toNat xs).flatten) else .bad
  | .tup xs, .int k => if xs ≠ [] ∧ 2 ≤ k ∧ k ≤ 1000 ∧ xs.length ≤ 1000 then .ok (.tup (List.replicate k.toNat xs).flatten) else .bad
  | _, _ => .bad
theorem RepAll.rep {vs : List V} {xs : List D} (r : RepAll K H vs xs) : ∀ n : Nat, RepAll K H (List.replicate n vs).flatten (List.replicate n xs).flatten
  | 0 => .nil
  | n + 1 => by
    rw [List.replicate_succ, List.replicate_succ, List.flatten_cons, List.flatten_cons]
    exact r.append (RepAll.rep r n)
theorem RepAll.nil_iff {vs : List V} {xs : List D} (r : RepAll K H vs xs) : vs = [] ↔ xs = [] := by
  cases r <;> simp
theorem rep_len {α : Type} (xs : List α) : ∀ n : Nat, (List.replicate n xs).flatten.length = xs.length * n
  | 0 => by simp
  | n + 1 => by rw [List.replicate_succ, List.flatten_cons, List.length_append, rep_len xs n, Nat.mul_succ, Nat.add_comm]
theorem de_mul (ha : DE X W ξ c1 a fa) (hb : DE X W ξ c2 b fb) : DE X W ξ true (.BinOp a .Mult b pos) (eBin mulR fa fb) :=
  de_op (OpR.or op_mul (OpR.or op_rep op_repT)) ha hb fun {M σ env H0 H Q x y d1 d2} E r1 r2 p => by
    unfold mulR at p
    split at p
    · split at p
      · rename_i h
        exact .inl ⟨_, _, r1.int, r2.int, h, post_ok E p (.int _)⟩
      · exact p.elim
    · split at p
      · rename_i h
        obtain ⟨q1, vs, rfl, h1, r3⟩ := r1.lst E.same
        exact .inr (.inl ⟨_, _, _, rfl, r2.int, h1, h.1, h.2.1, by rw [r3.length]; exact h.2.2, new_lst E p (by rw [rep_len]; exact h.2.2) (r3.rep _)⟩)
      · exact p.elim
    · split at p
      · rename_i h
        obtain ⟨q1, vs, rfl, h1, r3⟩ := r1.tup
        exact .inr (.inr ⟨_, _, _, rfl, r2.int, SqT.of (E.same _ _ h1), fun z => h.1 (r3.nil_iff.mp z), h.2.1, h.2.2.1, by rw [r3.length]; exact h.2.2.2, new_tup E p (by
          rw [rep_len, sizeLine_eq]
          have h1 : (_ : Int).toNat ≤ 1000 := Int.toNat_le.mpr h.2.2.1
          exact Nat.le_trans (Nat.mul_le_mul h.2.2.2 h1) (by decide)) (r3.rep _)⟩)
      · exact p.elim
    · exact p.elim

def keyOf : D → Option Key
  | .int i => some (.inl i)
  | .str s => some (.inr s)
  | _ => none
def valD (kvs : List (Key × D)) (k : Key) : Option D := (kvs.find? fun kv => decide (kv.1 = k)).map (·.2)
theorem RepKv.val {vs : List (Key × V)} {xs : List (Key × D)} (r : RepKv K H vs xs) (k : Key) : (valV vs k = none ∧ valD xs k = none) ∨ ∃ v x, valV vs k = some v ∧ valD xs k = some x ∧ Rep K H v x := by
  induction vs generalizing xs with
  | nil => cases r; exact .inl ⟨rfl, rfl⟩
  | cons p vs ih =>
    cases r with
    | @cons k' v _ x xs' _ q t =>
      by_cases e : k' = k
      · refine .inr ⟨v, x, ?_, ?_, q⟩
        · exact valV_pos (p := (k', v)) e
        · simp [valD, List.find?_cons, e]
      · rcases ih t with ⟨h1, h2⟩ | ⟨w', y, h1, h2, h3⟩
        · refine .inl ⟨by rw [valV_neg (p := (k', v)) e]; exact h1, ?_⟩
          simpa [valD, List.find?_cons, e] using h2
        · refine .inr ⟨w', y, by rw [valV_neg (p := (k', v)) e]; exact h1, ?_, h3⟩
          simpa [valD, List.find?_cons, e] using h2
theorem keyOf_v {k : Key} {d : D} {v : V} (h : keyOf d = some k) (r : RepX c K H0 H v d) : v = kV k ∧ keyOk k = true := by
  cases d with
  | int i => cases h; exact ⟨r.int, rfl⟩
  | str s => cases h; exact ⟨r.str, r.sok⟩
  | _ => cases h
def ixR : D → D → R D
  | .lst xs, .int i => match atI xs i with
    | some x => .ok x
    | none => .bad
  | .tup xs, .int i => match atI xs i with
    | some x => .ok x
    | none => .bad
  | .str z, .int i => match atI z.cps.toList i with
    | some x => .ok (.str ⟨#[x]⟩)
    | none => .bad
  | .frz ns, .int i => match atI ns i with
    | some n => .ok (.int n)
    | none => .bad
  | .dic kvs, y => match keyOf y with
    | some k => (match valD kvs k with
      | some x => .ok x
      | none => .bad)
    | none => .bad
  | _, _ => .bad
theorem ix_dict (hu : X.A.units + 1 < cLine) : IxR X (fun x y H Q => ∃ a v, x = .ref a ∧ DGet H a y (some v) ∧ Q v H) := by
  intro value slice pins s σ H x y v u Q I rx ry h hs
  obtain ⟨a, z, rfl, g, q⟩ := h
  cases rx
  exact tail_any (dict_typeIs I g) PySem.F.slot_dict_getitem.lookup (d_getItem hu I g ry fun w' s' I' r => ⟨z, H, I', r, q⟩) hs
theorem atI_rep {vs : List V} {xs : List D} (r : RepAll K H vs xs) {i : Int} {x : D} (h : atI xs i = some x) : ∃ v, atI vs i = some v ∧ Rep K H v x := by
  unfold atI at h ⊢
  rw [r.length]
  cases e : ixN xs.length i with
  | none => rw [e] at h; cases h
  | some j => rw [e] at h; exact r.get h
theorem strOk_get {s : Str} {c : Nat} (h : sOk s = true) (hc : c ∈ s.cps.toList) : sOk ⟨#[c]⟩ = true := by
  unfold sOk at *
  rw [Bool.and_eq_true] at h ⊢
  refine ⟨?_, decide_eq_true (show 1 ≤ 16777216 by decide)⟩
  replace h := h.1
  unfold PyData.strOk at *
  rw [Array.all_eq_true_iff_forall_mem] at h
  have := h c (by simpa using hc)
  simpa using this
theorem atI_mem {α : Type} {xs : List α} {i : Int} {x : α} (h : atI xs i = some x) : x ∈ xs := by
  unfold atI at h
  cases e : ixN xs.length i with
  | none => rw [e] at h; cases h
  | some j => rw [e] at h; exact List.mem_of_getElem? h
def IxD (X : Cx) (W : WX) (ξ : Str → Value) : Prop := ∃ r : R2, IxR X r ∧
  ∀ {c1 c2 : Bool} {M : Fm ξ} {σ : L2.St} {env : En} {H0 H : Hp} {Q : VK} {x y : V} {d1 d2 : D}, EnvAt X.K M H0 H σ env → RepX c1 X.K H0 H x d1 → RepX c2 X.K H0 H y d2 → PostE X.K W ξ M σ env true H0 H Q (ixR d1 d2) → r x y H Q
theorem ixD (hu : X.A.units + 1 < cLine) : IxD X W ξ :=
  ⟨_, (ix_list.or (ix_tup.or (ix_str.or (ix_dict hu)))), fun {c1 c2 M σ env H0 H Q x y d1 d2} E r1 r2 p2 => by
    unfold ixR at p2
    split at p2
    · split at p2
      · rename_i h
        obtain ⟨q1, vs, rfl, h1, r3⟩ := r1.lst E.same
        obtain ⟨v, hv, rv⟩ := atI_rep r3 h
        exact .inl ⟨_, _, _, v, rfl, r2.int, SqL.of h1, hv, post_ok E p2 rv⟩
      · exact p2.elim
    · split at p2
      · rename_i h
        obtain ⟨q1, vs, rfl, h1, r3⟩ := r1.tup
        obtain ⟨v, hv, rv⟩ := atI_rep r3 h
        exact .inr (.inl ⟨_, _, _, v, rfl, r2.int, SqT.of (E.same _ _ h1), hv, post_ok E p2 rv⟩)
      · exact p2.elim
    · split at p2
      · rename_i h
        exact .inr (.inr (.inl ⟨_, _, _, r1.str, r2.int, r1.slen, h, post_ok E p2 (.str _ (strOk_get r1.sok (atI_mem h)))⟩))
      · exact p2.elim
    · split at p2
      · rename_i ns i o n h
        obtain ⟨q1, rfl, h1⟩ := r1.frz E.same
        refine .inl ⟨_, _, _, .int n, rfl, r2.int, h1, ?_, post_ok E p2 (.int _)⟩
        unfold atI at h ⊢
        rw [List.length_map]
        cases e : ixN ns.length i with
        | none => rw [e] at h; cases h
        | some j =>
          rw [e] at h
          have h : ns[j]? = some n := h
          show (ns.map V.int)[j]? = _
          rw [List.getElem?_map, h]; rfl
      · exact p2.elim
    · split at p2
      · rename_i k hk
        split at p2
        · rename_i x hx
          obtain ⟨q1, vs, rfl, h1, r3⟩ := r1.dic E.same
          obtain ⟨ey, _⟩ := keyOf_v hk r2
          rcases r3.val k with ⟨z1, z2⟩ | ⟨v, x', z1, z2, z3⟩
          · rw [hx] at z2; cases z2
          · rw [hx] at z2; cases z2
            refine .inr (.inr (.inr ⟨_, v, rfl, ?_, post_ok E p2 z3⟩))
            rw [ey, ← z1]
            exact DGetR h1
        · exact p2.elim
      · exact p2.elim
    · exact p2.elim⟩
theorem de_ix (hu : X.A.units + 1 < cLine) (hs : PlainIx b) (ha : DE X W ξ c1 a fa) (hb : DE X W ξ c2 b fb) : DE X W ξ true (.Subscript a b pos) (eBin ixR fa fb) := by
  obtain ⟨r, ho, hr⟩ := ixD (X := X) (W := W) (ξ := ξ) hu
  exact peImp (pe_ix ho ha hb hs) fun σ H Q ⟨M, H0, env, E, p⟩ => ⟨M, H0, env, E, bindE wishE p fun d1 x H1 H2 g1 r1 p1 => ⟨M, H1, env, g1.e, bindE wishE p1 fun d2 y H3 H4 g2 r2 p2 => hr g2.e (r1.mono g2.s0 g2.s) r2 p2⟩⟩

def PostO (K : PySem.W.Frag) (W : WX) (ξ : Str → Value) (M : Fm ξ) (σ : L2.St) (env : En) (H0 H : Hp) (Q : Option Int → Hp → Prop) : R (Option Int) → Prop
  | .ok b => ∀ H0' H', Gr K M σ env H0 H H0' H' → Q b H'
  | .exc x => ∀ H0' H', Gr K M σ env H0 H H0' H' → W (ξ x) none σ H'
  | .bad => False
def tDO (K : PySem.W.Frag) (W : WX) (ξ : Str → Value) (F : En → R (Option Int)) : TO := fun σ H Q => ∃ M H0 env, EnvAt K M H0 H σ env ∧ PostO K W ξ M σ env H0 H Q (F env)
abbrev DO (X : Cx) (W : WX) (ξ : Str → Value) (e : Option Expr) (F : En → R (Option Int)) : Prop := PO X e (tDO X.K W ξ F)
def optR : D → R (Option Int)
  | .int i => .ok (some i)
  | _ => .bad
theorem poImp {e : Option Expr} {t t' : TO} (h : PO X e t) (hi : ∀ σ H Q, t' σ H Q → t σ H Q) : PO X e t' := ⟨fun pins s σ H Q I w => h.run pins s σ H Q I (hi _ _ _ w)⟩
theorem bindO {β : Type} {P : Hp → Hp → R β → Prop} (w : Wish K W ξ M σ env P) {x : R (Option Int)} {k : Option Int → R β} {Q1 : Option Int → Hp → Prop} (p : P H0 H (x >>= k)) (h : ∀ a H0' H', Gr K M σ env H0 H H0' H' → P H0' H' (k a) → Q1 a H') : PostO K W ξ M σ env H0 H Q1 x := by
  cases x with
  | ok d => exact fun H0' H' g => h d H0' H' g (w.weak g p)
  | exc x => exact fun H0' H' g => w.exc p H0' H' g
  | bad => exact w.bad p
theorem PostO.weak {x : R (Option Int)} {Q : Option Int → Hp → Prop} {H0' H' : Hp} (g : Gr K M σ env H0 H H0' H') (p : PostO K W ξ M σ env H0 H Q x) : PostO K W ξ M σ env H0' H' Q x := by
  cases x with
  | ok d => exact fun H02 H2 g2 => p H02 H2 (g.trans g2)
  | exc x => exact fun H02 H2 g2 => p H02 H2 (g.trans g2)
  | bad => exact p
theorem wishO {Q : Option Int → Hp → Prop} : Wish K W ξ M σ env (fun H0 H => PostO K W ξ M σ env H0 H Q) := ⟨PostO.weak, fun p => p, fun p => p⟩
def oNone : En → R (Option Int) := fun _ => .ok none
theorem do_none : DO X W ξ none oNone := poImp po_none fun σ H Q ⟨M, H0, env, E, p⟩ => p H0 H (.refl E)
theorem do_some (h : DE X W ξ c e fa) : DO X W ξ (some e) (eUn optR fa) := poImp (po_some h) fun σ H Q ⟨M, H0, env, E, p⟩ => ⟨M, H0, env, E, bindE wishO p fun d x H1 H2 g r p1 => by
  unfold optR at p1
  split at p1
  · exact ⟨_, r.int, p1 H1 H2 (.refl g.e)⟩
  · exact p1.elim⟩
def cutL {α : Type} (xs : List α) (lo hi : Option Int) : List α := (xs.drop (HT.sIx xs.length 0 lo)).take (HT.sIx xs.length xs.length hi - HT.sIx xs.length 0 lo)
def sliceR : D → Option Int → Option Int → R D
  | .lst xs, lo, hi => .ok (.lst (cutL xs lo hi))
  | .tup xs, lo, hi => .ok (.tup (cutL xs lo hi))
  | .str z, lo, hi => .ok (.str (cutS z lo hi))
  | _, _, _ => .bad
def eSlice (A : En → R D) (l h : En → R (Option Int)) : En → R D := fun env => A env >>= fun x => l env >>= fun l => h env >>= fun h => sliceR x l h
theorem RepAll.cut {vs : List V} {xs : List D} (r : RepAll K H vs xs) (lo hi : Option Int) : RepAll K H (cutV vs lo hi) (cutL xs lo hi) := by
  unfold cutV cutL
  rw [r.length]
  exact (r.drop _).take _
theorem cutL_whole {α : Type} {xs : List α} {lo hi : Option Int} (h1 : HT.sIx xs.length 0 lo = 0) (h2 : HT.sIx xs.length xs.length hi = xs.length) : cutL xs lo hi = xs := by
  unfold cutL; rw [h1, h2]; simp
theorem cutL_len {α : Type} (xs : List α) (lo hi : Option Int) : (cutL xs lo hi).length ≤ xs.length := by
  unfold cutL
  rw [List.length_take, List.length_drop]
  omega
theorem strOk_cut {s : Str} {lo hi : Option Int} (h : sOk s = true) : sOk (cutS s lo hi) = true := by
  unfold sOk at *
  rw [Bool.and_eq_true] at h ⊢
  refine ⟨?_, ?_⟩
  · replace h := h.1
    unfold PyData.strOk at *
    rw [Array.all_eq_true_iff_forall_mem] at h ⊢
    intro x hx
    apply h x
    have : x ∈ (cutS s lo hi).cps.toList := by simpa using hx
    unfold cutS at this
    have := List.mem_of_mem_drop (List.mem_of_mem_take (by simpa using this))
    simpa using this
  · exact decide_eq_true (Nat.le_trans (cutS_length s lo hi) (of_decide_eq_true h.2))
def SlD (X : Cx) (W : WX) (ξ : Str → Value) : Prop := ∃ r : V → Option Int → Option Int → Hp → VK → Prop, SlR X r ∧
  ∀ {c1 : Bool} {M : Fm ξ} {σ : L2.St} {env : En} {H0 H : Hp} {Q : VK} {x : V} {d1 : D} {l h : Option Int}, EnvAt X.K M H0 H σ env → RepX c1 X.K H0 H x d1 → PostE X.K W ξ M σ env true H0 H Q (sliceR d1 l h) → r x l h H Q
theorem slD : SlD X W ξ :=
  ⟨_, (SlR.or sl_list (SlR.or sl_tupA sl_str)), fun {c1 M σ env H0 H Q x d1 l h} E r1 p3 => by
    unfold sliceR at p3
    split at p3
    · obtain ⟨q1, vs, rfl, h1, r3⟩ := r1.lst E.same
      exact .inl ⟨_, _, rfl, SqL.of h1, new_lst E p3 (Nat.le_trans (cutL_len _ _ _) r1.lstLen) (r3.cut _ _)⟩
    · have z1 := r1.tupLen
      obtain ⟨q1, vs, rfl, h1, r3⟩ := r1.tup
      refine .inr (.inl ⟨_, _, rfl, SqT.of (E.same _ _ h1), fun z => ?_, fun _ => new_tup E p3 (Nat.le_trans (cutL_len _ _ _) z1) (r3.cut _ _)⟩)
      rw [r3.length] at z
      rw [cutL_whole z.1 z.2] at p3
      exact post_ok E p3 (.tup h1 z1 r3)
    · exact .inr (.inr ⟨_, r1.str, r1.slen, post_ok E p3 (.str _ (strOk_cut r1.sok))⟩)
    · exact p3.elim⟩
theorem de_slice {lo hi : Option Expr} {p2 : Pos} {fl fh : En → R (Option Int)} (ha : DE X W ξ c1 a fa) (hl : DO X W ξ lo fl) (hh : DO X W ξ hi fh) :
    DE X W ξ true (.Subscript a (.Slice lo hi none p2) pos) (eSlice fa fl fh) := by
  obtain ⟨r, ho, hr⟩ := slD (X := X) (W := W) (ξ := ξ)
  exact peImp (pe_slice ho ha hl hh) fun σ H Q ⟨M, H0, env, E, p⟩ => ⟨M, H0, env, E, bindE wishE p fun d1 x H1 H2 g1 r1 p1 => ⟨M, H1, env, g1.e, bindO wishE p1 fun l H3 H4 g2 p2 => ⟨M, H3, env, g2.e, bindO wishE p2 fun h H5 H6 g3 p3 => hr g3.e ((r1.mono g2.s0 g2.s).mono g3.s0 g3.s) p3⟩⟩⟩
def negR : D → R D
  | .int i => .ok (.int (-i))
  | _ => .bad
theorem de_neg (ha : DE X W ξ c1 a fa) : DE X W ξ true (.UnaryOp .USub a pos) (eUn negR fa) :=
  peImp (pe_un un_neg ha) fun σ H Q ⟨M, H0, env, E, p⟩ => ⟨M, H0, env, E, bindE wishE p fun d1 x H1 H2 g1 r1 p1 => by
    unfold negR at p1
    split at p1
    · exact ⟨_, r1.int, post_ok g1.e p1 (.int _)⟩
    · exact p1.elim⟩
end
end Dx

namespace Dx
open PySem PySem.Spec PyProof.Rows L2
section
variable {X : Cx} {W : WX} {ξ : Str → Value} {e a b : Expr} {es : List Expr} {c c1 c2 c3 : Bool} {pos : Pos} {fa fb : En → R D}
variable {K : PySem.W.Frag} {M : Fm ξ} {σ : L2.St} {env : En} {H0 H : Hp} {Q : VK}

def scal0 : D → Bool
  | .non => true
  | .bl _ => true
  | .int _ => true
  | .str _ => true
  | _ => false
theorem scal_flat {d : D} {v : V} (h : scal0 d = true) (r : Rep K H v d) : flatV v = true := by
  cases r <;> first | rfl | cases h
theorem scal_eq {d e : D} {v w : V} (h : scal0 d = true) (h' : scal0 e = true) (r : Rep K H v d) (q : Rep K H w e) : eqV v w = eqD d e := by
  cases r <;> cases q <;> first | (simp only [eqV, eqD]; done) | cases h | cases h'
theorem scal_all : ∀ {xs : List D} {vs : List V}, xs.all scal0 = true → RepAll K H vs xs → vs.all flatV = true
  | _, _, _, .nil => rfl
  | _, _, h, .cons r t => by
    rw [List.all_cons, Bool.and_eq_true] at h
    rw [List.all_cons, scal_flat h.1 r, scal_all h.2 t]; rfl
theorem scal_any {d : D} {v : V} (h : scal0 d = true) (r : Rep K H v d) : ∀ {xs : List D} {vs : List V}, xs.all scal0 = true → RepAll K H vs xs → inV v vs = xs.any fun z => eqD z d
  | _, _, _, .nil => rfl
  | _, _, h', .cons q t => by
    rw [List.all_cons, Bool.and_eq_true] at h'
    have := scal_any h r h'.2 t
    unfold inV at this ⊢
    rw [List.any_cons, List.any_cons, scal_eq h'.1 h q r, this]
def inB (a b : D) : R Bool := match b with
  | .str z => (match a with
    | .str s => (match s.cps.toList with
      | [c] => .ok (decide (c ∈ z.cps.toList))
      | _ => .bad)
    | _ => .bad)
  | .lst xs => if dle 64 a && dle 64 (.lst xs) then .ok (xs.any fun z => eqD z a) else .bad
  | .tup xs => if scal0 a && xs.all scal0 then .ok (xs.any fun z => eqD z a) else if dle 64 a && dle 64 (.tup xs) then .ok (xs.any fun z => eqD z a) else .bad
  | .dic kvs => (match keyOf a with
    | some k => .ok (valD kvs k).isSome
    | none => .bad)
  | _ => .bad
def inR (a b : D) : R D := inB a b >>= fun k => .ok (.bl k)
def notInR (a b : D) : R D := inB a b >>= fun k => .ok (.bl (!k))
theorem any_toPys (d : D) : ∀ xs : List D, ((toPys xs).any fun z => PyData.eqv z (toPy d)) = xs.any fun z => eqD z d
  | [] => rfl
  | x :: xs => by rw [toPys, List.any_cons, List.any_cons, eqv_toPy, any_toPys d xs]
theorem RepKv.isSome {vs : List (Key × V)} {xs : List (Key × D)} (r : RepKv K H vs xs) (k : Key) : (valV vs k).isSome = (valD xs k).isSome := by
  rcases r.val k with ⟨z1, z2⟩ | ⟨v, x', z1, z2, z3⟩
  · rw [z1, z2]; rfl
  · rw [z1, z2]; rfl
theorem op_din (hu : X.A.units + 65 < cLine) : OpR X (compareOp .In) (fun y x H Q => ∃ a o, x = .ref a ∧ DGet H a y o ∧ Q (.bl o.isSome) H) := by
  intro pins s σ H y x v u Q I ry rx h
  obtain ⟨a, o, rfl, g, q⟩ := h
  cases rx
  exact d_in (by omega) I g ry fun s' I' => ⟨.bl o.isSome, H, I', rfl, q⟩
theorem op_dnotin (hu : X.A.units + 65 < cLine) : OpR X (compareOp .NotIn) (fun y x H Q => ∃ a o, x = .ref a ∧ DGet H a y o ∧ Q (.bl (!o.isSome)) H) := by
  intro pins s σ H y x v u Q I ry rx h
  obtain ⟨a, o, rfl, g, q⟩ := h
  cases rx
  exact d_notIn (by omega) I g ry fun s' I' => ⟨.bl (!o.isSome), H, I', rfl, q⟩
theorem str1 {s : Str} {c : Nat} (h : s.cps.toList = [c]) : s = ⟨#[c]⟩ := by
  cases s with
  | mk cps =>
    have h : cps.toList = [c] := h
    have : cps = #[c] := by rw [← Array.toArray_toList (xs := cps), h]
    rw [this]
def rInDT (K : PySem.W.Frag) (neg : Bool) : R2 := fun x y H Q => ∃ d ds, Dp K H x d ∧ Dp K H y (.tuple ds) ∧ SeqAt.shaped d = true ∧ SeqAt.shaped (.tuple ds) = true ∧ Q (.bl (if neg = true then !(ds.any fun z => PyData.eqv z d) else ds.any fun z => PyData.eqv z d)) H
theorem op_inDT (hu : X.A.units + 65 < cLine) : OpR X (compareOp .In) (rInDT X.K false) := fun pins s σ H x y v u Q I rx ry ⟨d, ds, hd, he, sd, se, q⟩ => by
  obtain ⟨_, r1⟩ := Dp.reads I d x v hd rx
  obtain ⟨_, r2⟩ := Dp.reads I (.tuple ds) y u he ry
  exact SeqAt.in_tuple_reads r2 r1 (SeqAt.canLay_of_shaped se) (SeqAt.canLay_of_shaped sd) (room_in_shaped sd hu) ⟨.bl _, H, I, rfl, q⟩
theorem op_notInDT (hu : X.A.units + 65 < cLine) : OpR X (compareOp .NotIn) (rInDT X.K true) := fun pins s σ H x y v u Q I rx ry ⟨d, ds, hd, he, sd, se, q⟩ => by
  obtain ⟨_, r1⟩ := Dp.reads I d x v hd rx
  obtain ⟨_, r2⟩ := Dp.reads I (.tuple ds) y u he ry
  exact SeqAt.notIn_tuple_reads r2 r1 (SeqAt.canLay_of_shaped se) (SeqAt.canLay_of_shaped sd) (room_in_shaped sd hu) ⟨.bl _, H, I, rfl, q⟩
theorem cm_in (hu : X.A.units + 65 < cLine) : CmpD X W ξ .In inR := ⟨_, OpR.or op_in_sign (OpR.or (op_inD hu) (OpR.or op_in_seq (OpR.or (op_din hu) (op_inDT hu)))), fun {c1 c2 M σ env H0 H Q x y d1 d2} E r1 r2 p => by
  unfold inR inB at p
  split at p
  · split at p
    · split at p
      · rename_i h
        have r1s := r1.str
        rw [str1 h] at r1s
        exact .inl ⟨_, _, r1s, r2.str, post_ok E p (.bl _)⟩
      · exact p.elim
    · exact p.elim
  · split at p
    · rename_i h
      rw [Bool.and_eq_true] at h
      obtain ⟨p1, q1⟩ := rep_shaped h.1 (r1.rep E.same)
      obtain ⟨p2, q2⟩ := rep_shaped h.2 (r2.rep E.same)
      simp only [toPy] at p2 q2
      refine .inr (.inl ⟨_, _, p1, p2, q1, q2, ?_⟩)
      rw [any_toPys]
      exact post_ok E p (.bl _)
    · exact p.elim
  · split at p
    · rename_i h
      rw [Bool.and_eq_true] at h
      obtain ⟨q1, vs, rfl, h1, r3⟩ := r2.tup
      have r1r := r1.rep E.same
      have r3' := r3.mono E.same
      refine .inr (.inr (.inl ⟨_, _, rfl, .inr (SqT.of (E.same _ _ h1)), scal_flat h.1 r1r, scal_all h.2 r3', ?_⟩))
      simp only [Bool.false_eq_true, if_false]
      rw [scal_any h.1 r1r h.2 r3']
      exact post_ok E p (.bl _)
    · split at p
      · rename_i h
        rw [Bool.and_eq_true] at h
        obtain ⟨p1, q1⟩ := rep_shaped h.1 (r1.rep E.same)
        obtain ⟨p2, q2⟩ := rep_shaped h.2 (r2.rep E.same)
        simp only [toPy] at p2 q2
        refine .inr (.inr (.inr (.inr ⟨_, _, p1, p2, q1, q2, ?_⟩)))
        simp only [Bool.false_eq_true, if_false, if_true]
        rw [any_toPys]
        exact post_ok E p (.bl _)
      · exact p.elim
  · split at p
    · rename_i k hk
      obtain ⟨q1, vs, rfl, h1, r3⟩ := r2.dic E.same
      obtain ⟨ey, _⟩ := keyOf_v hk r1
      refine .inr (.inr (.inr (.inl ⟨_, valV vs k, rfl, by rw [ey]; exact DGetR h1, ?_⟩)))
      rw [r3.isSome]
      exact post_ok E p (.bl _)
    · exact p.elim
  · exact p.elim⟩
theorem cm_notIn (hu : X.A.units + 65 < cLine) : CmpD X W ξ .NotIn notInR := ⟨_, OpR.or op_notIn_sign (OpR.or (op_notInD hu) (OpR.or op_notIn_seq (OpR.or (op_dnotin hu) (op_notInDT hu)))), fun {c1 c2 M σ env H0 H Q x y d1 d2} E r1 r2 p => by
  unfold notInR inB at p
  split at p
  · split at p
    · split at p
      · rename_i h
        have r1s := r1.str
        rw [str1 h] at r1s
        exact .inl ⟨_, _, r1s, r2.str, post_ok E p (.bl _)⟩
      · exact p.elim
    · exact p.elim
  · split at p
    · rename_i h
      rw [Bool.and_eq_true] at h
      obtain ⟨p1, q1⟩ := rep_shaped h.1 (r1.rep E.same)
      obtain ⟨p2, q2⟩ := rep_shaped h.2 (r2.rep E.same)
      simp only [toPy] at p2 q2
      refine .inr (.inl ⟨_, _, p1, p2, q1, q2, ?_⟩)
      rw [any_toPys]
      exact post_ok E p (.bl _)
    · exact p.elim
  · split at p
    · rename_i h
      rw [Bool.and_eq_true] at h
      obtain ⟨q1, vs, rfl, h1, r3⟩ := r2.tup
      have r1r := r1.rep E.same
      have r3' := r3.mono E.same
      refine .inr (.inr (.inl ⟨_, _, rfl, .inr (SqT.of (E.same _ _ h1)), scal_flat h.1 r1r, scal_all h.2 r3', ?_⟩))
      simp only [if_true]
      rw [scal_any h.1 r1r h.2 r3']
      exact post_ok E p (.bl _)
    · split at p
      · rename_i h
        rw [Bool.and_eq_true] at h
        obtain ⟨p1, q1⟩ := rep_shaped h.1 (r1.rep E.same)
        obtain ⟨p2, q2⟩ := rep_shaped h.2 (r2.rep E.same)
        simp only [toPy] at p2 q2
        refine .inr (.inr (.inr (.inr ⟨_, _, p1, p2, q1, q2, ?_⟩)))
        simp only [Bool.false_eq_true, if_false, if_true]
        rw [any_toPys]
        exact post_ok E p (.bl _)
      · exact p.elim
  · split at p
    · rename_i k hk
      obtain ⟨q1, vs, rfl, h1, r3⟩ := r2.dic E.same
      obtain ⟨ey, _⟩ := keyOf_v hk r1
      refine .inr (.inr (.inr (.inl ⟨_, valV vs k, rfl, by rw [ey]; exact DGetR h1, ?_⟩)))
      rw [r3.isSome]
      exact post_ok E p (.bl _)
    · exact p.elim
  · exact p.elim⟩

def chainR (f g : D → D → R D) (x y : D) (z : R D) : R D := f x y >>= boolR >>= fun k => if k = true then z >>= fun w => g y w else .ok (.bl false)
def eChain (f g : D → D → R D) (A B C : En → R D) : En → R D := fun env => A env >>= fun x => B env >>= fun y => chainR f g x y (C env)
def tChain (f g : D → D → R D) (A B C : En → R D) : En → R Bool := fun env => A env >>= fun x => B env >>= fun y => chainR f g x y (C env) >>= boolR
def tVal (A : En → R D) : En → R Bool := fun env => A env >>= boolR
def tNot (A : En → R Bool) : En → R Bool := fun env => A env >>= fun k => .ok (!k)
def tAnd (A B : En → R Bool) : En → R Bool := fun env => A env >>= fun k => if k = true then B env else .ok false
def tOr (A B : En → R Bool) : En → R Bool := fun env => A env >>= fun k => if k = true then .ok true else B env
def eAnd (A B : En → R D) : En → R D := fun env => A env >>= fun x => boolR x >>= fun k => if k = true then B env else .ok (.bl false)
def eOr (A B : En → R D) : En → R D := fun env => A env >>= fun x => boolR x >>= fun k => if k = true then .ok (.bl true) else B env
def eIf (t : En → R Bool) (A B : En → R D) : En → R D := fun env => t env >>= fun k => if k = true then A env else B env
def aNil : En → R (List D) := fun _ => .ok []
def aCons (A : En → R D) (As : En → R (List D)) : En → R (List D) := fun env => A env >>= fun x => As env >>= fun xs => .ok (x :: xs)
def kNil : En → R (List (Key × D)) := fun _ => .ok []
theorem deChain {e3 : Expr} {fc : En → R D} {op op' : CmpOp} {f g : D → D → R D} (h1 : CmpD X W ξ op f) (h2 : CmpD X W ξ op' g) (ha : DE X W ξ c1 a fa) (hb : DE X W ξ c2 b fb) (hc : DE X W ξ c3 e3 fc)
    (hm : lastMarks [op, op'] [b, e3] = false := by with_unfolding_all rfl) : DE X W ξ true (.Compare a [op, op'] [b, e3] pos) (eChain f g fa fb fc) := by
  obtain ⟨r, ho, hr⟩ := h1
  obtain ⟨r', ho', hr'⟩ := h2
  refine peImp (pe_chain ho ho' ha hb hc hm) fun σ H Q ⟨M, H0, env, E, p⟩ => ⟨M, H0, env, E, bindE wishE p fun d1 x H1 H2 g1 r1 p1 => ⟨M, H1, env, g1.e, bindE wishE p1 fun d2 y H3 H4 g2 r2 p2 => ?_⟩⟩
  refine hr g2.e (r1.mono g2.s0 g2.s) r2 ?_
  have p2 : PostE X.K W ξ M σ env true H3 H4 Q (f d1 d2 >>= fun t => boolR t >>= fun k => if k = true then fc env >>= fun w => g d2 w else .ok (.bl false)) := by
    unfold chainR at p2
    cases h : f d1 d2 with
    | ok d => rw [h] at p2; exact p2
    | exc x => rw [h] at p2; exact p2
    | bad => rw [h] at p2; exact p2
  refine bindE (c1 := true) wishE p2 fun d3 z H5 H6 g3 r3 p3 => ?_
  cases d3 with
  | bl k =>
    refine ⟨k, r3.bl, ?_⟩
    have p3 : PostE X.K W ξ M σ env true H5 H6 Q (if k = true then fc env >>= fun w => g d2 w else .ok (.bl false)) := p3
    cases k with
    | true =>
      rw [if_pos rfl]
      rw [if_pos rfl] at p3
      exact ⟨M, H5, env, g3.e, bindE wishE p3 fun d4 w H7 H8 g4 r4 p4 => hr' g4.e ((r2.mono g3.s0 g3.s).mono g4.s0 g4.s) r4 p4⟩
    | false =>
      rw [if_neg Bool.false_ne_true]
      rw [if_neg Bool.false_ne_true] at p3
      exact post_ok g3.e p3 (.bl _)
  | _ => exact p3.elim

theorem dt_val (h : DE X W ξ c e fa) (he : ∀ whole, isTrue e X.env whole = (do let v ← whole; standAt e.pos; holding [v] (truthy v)) := by intro _; rfl) : DT X W ξ e (tVal fa) :=
  ptImp (pt_val h he) fun σ H Q ⟨M, H0, env, E, p⟩ => ⟨M, H0, env, E, bindE wishT p fun d1 x H1 H2 g1 r1 p1 => by
    obtain ⟨k, e, q⟩ := bool_end g1.e r1 p1
    exact ⟨k, e, q⟩⟩
theorem dtChain {e3 : Expr} {fc : En → R D} {op op' : CmpOp} {f g : D → D → R D} (h1 : CmpD X W ξ op f) (h2 : CmpD X W ξ op' g) (ha : DE X W ξ c1 a fa) (hb : DE X W ξ c2 b fb) (hc : DE X W ξ c3 e3 fc)
    (hm : lastMarks [op, op'] [b, e3] = false := by with_unfolding_all rfl) : DT X W ξ (.Compare a [op, op'] [b, e3] pos) (tChain f g fa fb fc) := by
  obtain ⟨r, ho, hr⟩ := h1
  obtain ⟨r', ho', hr'⟩ := h2
  refine ptImp (pt_chain ho ho' ha hb hc hm) fun σ H Q ⟨M, H0, env, E, p⟩ => ⟨M, H0, env, E, bindE wishT p fun d1 x H1 H2 g1 r1 p1 => ⟨M, H1, env, g1.e, bindE wishT p1 fun d2 y H3 H4 g2 r2 p2 => ?_⟩⟩
  refine hr g2.e (r1.mono g2.s0 g2.s) r2 ?_
  have p2 : PostT X.K W ξ M σ env H3 H4 Q (f d1 d2 >>= fun t => boolR t >>= fun k => (if k = true then fc env >>= fun w => g d2 w else .ok (.bl false)) >>= boolR) := by
    unfold chainR at p2
    cases h : f d1 d2 with
    | ok d =>
      rw [h] at p2
      cases d with
      | bl k => exact p2
      | _ => exact p2
    | exc x => rw [h] at p2; exact p2
    | bad => rw [h] at p2; exact p2
  refine bindE (c1 := true) wishT p2 fun d3 z H5 H6 g3 r3 p3 => ?_
  cases d3 with
  | bl k =>
    refine ⟨k, r3.bl, ?_⟩
    have p3 : PostT X.K W ξ M σ env H5 H6 Q ((if k = true then fc env >>= fun w => g d2 w else .ok (.bl false)) >>= boolR) := p3
    cases k with
    | true =>
      rw [if_pos rfl]
      rw [if_pos rfl] at p3
      have p3' : PostT X.K W ξ M σ env H5 H6 Q (fc env >>= fun w => g d2 w >>= boolR) := by
        cases h : fc env with
        | ok d => rw [h] at p3; exact p3
        | exc x => rw [h] at p3; exact p3
        | bad => rw [h] at p3; exact p3
      exact ⟨M, H5, env, g3.e, bindE wishT p3' fun d4 w H7 H8 g4 r4 p4 => hr' g4.e ((r2.mono g3.s0 g3.s).mono g4.s0 g4.s) r4 (bindE (c1 := true) wishT p4 fun d5 u H9 H10 g5 r5 p5 => bool_end g5.e r5 p5)⟩
    | false =>
      rw [if_neg Bool.false_ne_true]
      rw [if_neg Bool.false_ne_true] at p3
      exact ⟨false, rfl, p3 H5 H6 (.refl g3.e)⟩
  | _ => exact p3.elim
section
variable {ta tb : En → R Bool} {rest : List Expr}
theorem dt_not (h : DT X W ξ a ta) : DT X W ξ (.UnaryOp .Not a pos) (tNot ta) :=
  ptImp (pt_not h) fun σ H Q ⟨M, H0, env, E, p⟩ => ⟨M, H0, env, E, bindT wishT p fun k H1 H2 g p1 => p1 H1 H2 (.refl g.e)⟩
theorem dw_and1 (h : DT X W ξ a ta) : DW X W ξ (.BoolOp .And [a] pos) ta := pw_and1 h
theorem dw_or1 (h : DT X W ξ a ta) : DW X W ξ (.BoolOp .Or [a] pos) ta := pw_or1 h
theorem dw_and (h : DT X W ξ a ta) (h2 : DW X W ξ (.BoolOp .And (b :: rest) pos) tb) : DW X W ξ (.BoolOp .And (a :: b :: rest) pos) (tAnd ta tb) :=
  pwImp (pw_and h h2) fun σ H Q ⟨M, H0, env, E, p⟩ => ⟨M, H0, env, E, bindT wishT p fun k H1 H2 g p1 => by
    cases k with
    | true => rw [if_pos rfl] at p1 ⊢; exact ⟨M, H1, env, g.e, p1⟩
    | false => rw [if_neg Bool.false_ne_true] at p1 ⊢; exact p1 H1 H2 (.refl g.e)⟩
theorem dw_or (h : DT X W ξ a ta) (h2 : DW X W ξ (.BoolOp .Or (b :: rest) pos) tb) : DW X W ξ (.BoolOp .Or (a :: b :: rest) pos) (tOr ta tb) :=
  pwImp (pw_or h h2) fun σ H Q ⟨M, H0, env, E, p⟩ => ⟨M, H0, env, E, bindT wishT p fun k H1 H2 g p1 => by
    cases k with
    | true => rw [if_pos rfl] at p1 ⊢; exact p1 H1 H2 (.refl g.e)
    | false => rw [if_neg Bool.false_ne_true] at p1 ⊢; exact ⟨M, H1, env, g.e, p1⟩⟩
theorem dt_w (h : DW X W ξ e ta) : DT X W ξ e ta := PW.pt h
theorem de_one {op : BoolOp} (h : DE X W ξ c a fa) : DE X W ξ c (.BoolOp op [a] pos) fa := pe_one h
theorem de_and (h : DE X W ξ c1 a fa) (h2 : DE X W ξ c (.BoolOp .And (b :: rest) pos) fb) : DE X W ξ c (.BoolOp .And (a :: b :: rest) pos) (eAnd fa fb) :=
  peImp (pe_and h h2) fun σ H Q ⟨M, H0, env, E, p⟩ => ⟨M, H0, env, E, bindE wishE p fun d x H1 H2 g r p1 => by
    cases d with
    | bl k =>
      refine ⟨k, r.bl, ?_⟩
      have p1 : PostE X.K W ξ M σ env c H1 H2 Q (if k = true then fb env else .ok (.bl false)) := p1
      cases k with
      | true => rw [if_pos rfl] at p1 ⊢; exact ⟨M, H1, env, g.e, p1⟩
      | false => rw [if_neg Bool.false_ne_true] at p1 ⊢; exact post_ok g.e p1 (.bl _)
    | _ => exact p1.elim⟩
theorem de_or (h : DE X W ξ c1 a fa) (h2 : DE X W ξ c (.BoolOp .Or (b :: rest) pos) fb) : DE X W ξ c (.BoolOp .Or (a :: b :: rest) pos) (eOr fa fb) :=
  peImp (pe_or h h2) fun σ H Q ⟨M, H0, env, E, p⟩ => ⟨M, H0, env, E, bindE wishE p fun d x H1 H2 g r p1 => by
    cases d with
    | bl k =>
      refine ⟨k, r.bl, ?_⟩
      have p1 : PostE X.K W ξ M σ env c H1 H2 Q (if k = true then .ok (.bl true) else fb env) := p1
      cases k with
      | true => rw [if_pos rfl] at p1 ⊢; exact post_ok g.e p1 (.bl _)
      | false => rw [if_neg Bool.false_ne_true] at p1 ⊢; exact ⟨M, H1, env, g.e, p1⟩
    | _ => exact p1.elim⟩
def notR (d : D) : R D := boolR d >>= fun k => .ok (.bl (!k))
theorem de_not (h : DE X W ξ c a fa) : DE X W ξ true (.UnaryOp .Not a pos) (eUn notR fa) :=
  peImp (pe_not h) fun σ H Q ⟨M, H0, env, E, p⟩ => ⟨M, H0, env, E, bindE wishE p fun d x H1 H2 g r p1 => by
    cases d with
    | bl k => exact ⟨k, r.bl, post_ok g.e p1 (.bl _)⟩
    | _ => exact p1.elim⟩
theorem de_if (ht : DT X W ξ e ta) (ha : DE X W ξ c a fa) (hb : DE X W ξ c b fb) : DE X W ξ c (.IfExp e a b pos) (eIf ta fa fb) :=
  peImp (pe_ifExp ht ha hb) fun σ H Q ⟨M, H0, env, E, p⟩ => ⟨M, H0, env, E, bindT wishE p fun k H1 H2 g p1 => by
    cases k with
    | true => rw [if_pos rfl] at p1 ⊢; exact ⟨M, H1, env, g.e, p1⟩
    | false => rw [if_neg Bool.false_ne_true] at p1 ⊢; exact ⟨M, H1, env, g.e, p1⟩⟩
end

section
variable {Fs : En → R (List D)}
theorem RepXs.all {vs : List V} {ds : List D} (r : RepXs K true H0 H vs ds) : RepAll K H0 vs ds := by
  induction r with
  | nil => exact .nil
  | cons a _ ih => exact .cons a ih
theorem RepXs.mono {H0' H' : Hp} {vs : List V} {ds : List D} (r : RepXs K c H0 H vs ds) (s0 : Same H0 H0') (s : Same H H') : RepXs K c H0' H' vs ds := by
  induction r with
  | nil => exact .nil
  | cons a _ ih => exact .cons (RepX.mono a s0 s) ih
theorem RepXs.full {vs : List V} {ds : List D} (r : RepXs K c H0 H vs ds) (s : Same H0 H) : RepAll K H vs ds := by
  induction r with
  | nil => exact .nil
  | cons a _ ih => exact .cons (RepX.rep a s) ih
theorem da_nil : DA X W ξ c [] aNil := paImp pa_nil fun σ H Q ⟨M, H0, env, E, p⟩ => p [] H0 H (.refl E) .nil
theorem da_cons (ha : DE X W ξ c e fa) (hr : DA X W ξ c es Fs) (hs : starEach (e :: es) X.env = (false, eval e X.env) :: starEach es X.env := by rfl) : DA X W ξ c (e :: es) (aCons fa Fs) :=
  paImp (pa_cons ha hr hs) fun σ H Q ⟨M, H0, env, E, p⟩ => ⟨M, H0, env, E, bindE wishA p fun d x H1 H2 g r p1 => ⟨M, H1, env, g.e, bindA wishA p1 fun ds vs H3 H4 g2 r2 p2 => p2 _ H3 H4 (.refl g2.e) (.cons (r.mono g2.s0 g2.s) r2)⟩⟩
def tupR (xs : List D) : R D := if xs.length ≤ sizeLine then .ok (.tup xs) else .bad
def lstR (xs : List D) : R (List D) := if xs.length ≤ sizeLine then .ok xs else .bad
theorem de_tup {x1 : _} (h : DA X W ξ true es Fs) : DE X W ξ true (.Tuple es x1 pos) (eUn tupR Fs) :=
  peImp (pe_tup h) fun σ H Q ⟨M, H0, env, E, p⟩ => ⟨M, H0, env, E, bindA wishE p fun ds vs H1 H2 g r p1 => by
    unfold tupR at p1
    have r := RepXs.all r
    split at p1
    · rename_i hz
      exact ⟨by rw [r.length]; exact hz, new_tup g.e p1 hz r⟩
    · exact p1.elim⟩
theorem df_lst (h : DA X W ξ true es Fs) : DF X W ξ (.List es pos) (eUn lstR Fs) :=
  peImp (pe_lst h) fun σ H Q ⟨M, H0, env, E, p⟩ => ⟨M, H0, env, E, bindA wishF p fun ds vs H1 H2 g r p1 => by
    unfold lstR at p1
    have r := RepXs.all r
    split at p1
    · rename_i hz
      refine ⟨by rw [r.length]; exact hz, fun q hq => ?_⟩
      obtain ⟨g2, n⟩ := g.e.newAt (o := .lst vs) hq
      exact p1 q vs _ _ g2 hq n ⟨hz, r⟩
    · exact p1.elim⟩
end

def PostC (K : PySem.W.Frag) (ξ : Str → Value) (H0 H : Hp) (Q : VK) (E : XK) : R D → Prop
  | .ok d => ∀ v H0' H', Same H0 H0' → Same H H' → Same H0' H' → (∀ a, H a ≠ none → H0 a = none → H0' a = none) → Rep K H0' v d → Q v H'
  | .exc x => ∀ H0' H', Same H0 H0' → Same H H' → Same H0' H' → (∀ a, H a ≠ none → H0 a = none → H0' a = none) → E (ξ x) none H'
  | .bad => False
def spD (K : PySem.W.Frag) (ξ : Str → Value) (F : List D → R D) : Sp := fun vs H Q E => ∃ ds H0, Same H0 H ∧ RepAll K H0 vs ds ∧ PostC K ξ H0 H Q E (F ds)
theorem callPost {H0' H' : Hp} (E : EnvAt K M H0 H σ env) {x : R D} (p : PostE K W ξ M σ env true H0 H Q x) : PostC K ξ H0 H Q (WE W σ) x := by
  cases x with
  | ok d => exact fun v H0' H' s0 s s1 n r => p v H0' H' ⟨s0, s, E.grow s0 s s1 n, n⟩ r
  | exc x => exact fun H0' H' s0 s s1 n => p H0' H' ⟨s0, s, E.grow s0 s s1 n, n⟩
  | bad => exact p
def scR : D → R D
  | .non => .ok .non
  | .bl b => .ok (.bl b)
  | .int i => .ok (.int i)
  | .str s => .ok (.str s)
  | _ => .bad
def eCallS (As : En → R (List D)) (F : List D → R D) : En → R D := fun env => As env >>= fun ds => F ds >>= scR
section
variable {k : Nat} {f : Addr} {fd : FuncData} {ps : List Str} {F : List D → R D} {x : Str} {p : Pos} {Fs : En → R (List D)}
theorem de_call (G : FnOk X.prog X.w X.K X.mg X.base (L2.CX X.prog X.w) k f fd ps (spD X.K ξ F)) (tk : Takes X W) (hr : Room k X.A) (hm : X.mg x = some (.ref f)) (hk : PySem.W.keepIn X.K (.ref f) = true) (hb : Binds X.K fd ps [])
    (ha : DA X W ξ true (e :: es) Fs) (hg : Gl X x := by rfl) (hdb : (x == ("__debug__" : Str)) = false := by decide) (he : starEach (e :: es) X.env = (false, eval e X.env) :: starEach es X.env := by rfl) (hpl : (backTo pos (starEach es X.env)).any (·.1) = false := by rfl) :
    DE X W ξ true (.Call (.Name x p) (e :: es) [] pos) (eUn F Fs) :=
  peImp (pe_callS G hr hg hm hk hb (fun σ => passAt tk σ) ha hdb he hpl) fun σ H Q ⟨M, H0, env, E, p⟩ => ⟨M, H0, env, E, bindA wishE p fun ds vs H1 H2 g r p1 => ⟨ds, H1, g.e.same, RepXs.all r, callPost (H0' := H0) (H' := H) g.e p1⟩⟩
end
end
end Dx

namespace Dx
open PySem PySem.Spec PyProof.Rows L2

inductive Out where
  | nx (e : En)
  | rt (d : D) (e : En)
  | bk (e : En)
  | ct (e : En)
  | exc (c : Str) (e : En)
  | bad
structure Ret (K : PySem.W.Frag) {ξ : Str → Value} (M : Fm ξ) (H0' H' : Hp) (v : V) (d : D) : Prop where
  same : Same H0' H'
  fr : Same M.G H'
  nogo : ∀ a, M.N a → H0' a = none
  rep : Rep K H0' v d
def PostS (K : PySem.W.Frag) (W : WX) (ξ : Str → Value) (M : Fm ξ) (H0 : Hp) (Dn : Ends) : Out → Prop
  | .nx e => ∀ σ' H0' H', Same H0 H0' → EnvAt K M H0' H' σ' e → Dn.nx σ' H'
  | .rt d e => ∀ v H0' H', Same H0 H0' → Ret K M H0' H' v d → Dn.rt v H'
  | .bk e => ∀ σ' H0' H', Same H0 H0' → EnvAt K M H0' H' σ' e → Dn.bk σ' H'
  | .ct e => ∀ σ' H0' H', Same H0 H0' → EnvAt K M H0' H' σ' e → Dn.ct σ' H'
  | .exc x e => ∀ σ' H0' H', Same H0 H0' → EnvAt K M H0' H' σ' e → W (ξ x) none σ' H'
  | .bad => False
def tS (K : PySem.W.Frag) (W : WX) (ξ : Str → Value) (G : En → Out) : TS := fun Dn σ H => ∃ M H0 env, EnvAt K M H0 H σ env ∧ PostS K W ξ M H0 Dn (G env)
abbrev DS (X : Cx) (W : WX) (ξ : Str → Value) (st : Stmt) (G : En → Out) : Prop := PS X st (tS X.K W ξ G)
abbrev DSs (X : Cx) (W : WX) (ξ : Str → Value) (st : List Stmt) (G : En → Out) : Prop := PSs X st (tS X.K W ξ G)
section
variable {X : Cx} {W : WX} {ξ : Str → Value} {e a b : Expr} {es : List Expr} {c c1 c2 c3 : Bool} {pos : Pos} {fa fb : En → R D} {st : Stmt} {body rest sa sb : List Stmt} {G G1 G2 B : En → Out}
variable {K : PySem.W.Frag} {M : Fm ξ} {σ : L2.St} {env : En} {H0 H H0' H' : Hp} {Q : VK} {Dn : Ends}
theorem PostS.weak {o : Out} (s : Same H0 H0') (p : PostS K W ξ M H0 Dn o) : PostS K W ξ M H0' Dn o := by
  cases o with
  | nx e => exact fun σ' H0'' H'' s' E => p σ' H0'' H'' (s.trans s') E
  | rt d e => exact fun v H0'' H'' s' E => p v H0'' H'' (s.trans s') E
  | bk e => exact fun σ' H0'' H'' s' E => p σ' H0'' H'' (s.trans s') E
  | ct e => exact fun σ' H0'' H'' s' E => p σ' H0'' H'' (s.trans s') E
  | exc x e => exact fun σ' H0'' H'' s' E => p σ' H0'' H'' (s.trans s') E
  | bad => exact p
def liftO {α : Type} (r : R α) (env : En) (k : α → Out) : Out := match r with
  | .ok a => k a
  | .exc x => .exc x env
  | .bad => .bad
@[simp] theorem liftO_ok {α : Type} (a : α) (env : En) (k : α → Out) : liftO (.ok a) env k = k a := (rfl)
@[simp] theorem liftO_exc {α : Type} (x : Str) (env : En) (k : α → Out) : liftO (.exc x : R α) env k = .exc x env := (rfl)
@[simp] theorem liftO_bad {α : Type} (env : En) (k : α → Out) : liftO (.bad : R α) env k = .bad := (rfl)
theorem liftE {x : R D} {k : D → Out} {Q : VK} (p : PostS K W ξ M H0 Dn (liftO x env k)) (h : ∀ d v H0' H', Gr K M σ env H0 H H0' H' → RepX c K H0' H' v d → PostS K W ξ M H0' Dn (k d) → Q v H') : PostE K W ξ M σ env c H0 H Q x := by
  cases x with
  | ok d => exact fun v H0' H' g r => h d v H0' H' g r (p.weak g.s0)
  | exc x => exact fun H0' H' g => p σ H0' H' g.s0 g.e
  | bad => exact p
theorem liftF {x : R (List D)} {k : List D → Out} {Q : VK} (p : PostS K W ξ M H0 Dn (liftO x env k)) (h : ∀ d q vs H0' H', Gr K M σ env H0 H H0' H' → H q = none → NewAt M σ env H0' H' q (.lst vs) → d.length ≤ sizeLine ∧ RepAll K H0' vs d → PostS K W ξ M H0' Dn (k d) → Q (.ref q) H') : PostF K W ξ M σ env H0 H Q x := by
  cases x with
  | ok d => exact fun v vs H0' H' g hq n r => h d v vs H0' H' g hq n r (p.weak g.s0)
  | exc x => exact fun H0' H' g => p σ H0' H' g.s0 g.e
  | bad => exact p
theorem liftT {x : R Bool} {k : Bool → Out} {Q : Bool → Hp → Prop} (p : PostS K W ξ M H0 Dn (liftO x env k)) (h : ∀ d H0' H', Gr K M σ env H0 H H0' H' → PostS K W ξ M H0' Dn (k d) → Q d H') : PostT K W ξ M σ env H0 H Q x := by
  cases x with
  | ok d => exact fun H0' H' g => h d H0' H' g (p.weak g.s0)
  | exc x => exact fun H0' H' g => p σ H0' H' g.s0 g.e
  | bad => exact p

def seqO (o : Out) (k : En → Out) : Out := match o with
  | .nx e => k e
  | o => o
@[simp] theorem seqO_nx (e : En) (k : En → Out) : seqO (.nx e) k = k e := (rfl)
@[simp] theorem seqO_rt (d : D) (e : En) (k : En → Out) : seqO (.rt d e) k = .rt d e := (rfl)
@[simp] theorem seqO_bk (e : En) (k : En → Out) : seqO (.bk e) k = .bk e := (rfl)
@[simp] theorem seqO_ct (e : En) (k : En → Out) : seqO (.ct e) k = .ct e := (rfl)
@[simp] theorem seqO_exc (x : Str) (e : En) (k : En → Out) : seqO (.exc x e) k = .exc x e := (rfl)
@[simp] theorem seqO_bad (k : En → Out) : seqO .bad k = .bad := (rfl)

def sNil : En → Out := fun env => .nx env
def sSeq (G1 G2 : En → Out) : En → Out := fun env => seqO (G1 env) G2
def sSet (i : Nat) (A : En → R D) : En → Out := fun env => liftO (A env) env fun d => .nx (env.set i (.d d))
def sSetF (i : Nat) (A : En → R (List D)) : En → Out := fun env => liftO (A env) env fun d => .nx (env.set i (.ol d))
def sSetFD (i : Nat) (A : En → R (List D)) : En → Out := fun env => liftO (A env) env fun d => .nx (env.set i (.d (.lst d)))
def sSetK (i : Nat) (A : En → R (List (Key × D))) : En → Out := fun env => liftO (A env) env fun d => .nx (env.set i (.od d))
def sRet (A : En → R D) : En → Out := fun env => liftO (A env) env fun d => .rt d env
def sRetN : En → Out := fun env => .rt .non env
def sBrk : En → Out := fun env => .bk env
def sCnt : En → Out := fun env => .ct env
def sIf (t : En → R Bool) (G1 G2 : En → Out) : En → Out := fun env => liftO (t env) env fun k => if k = true then G1 env else G2 env
def sRaise (x : Str) : En → Out := fun env => .exc x env
def sExpr (A : En → R D) : En → Out := fun env => liftO (A env) env fun _ => .nx env
def sAsg (T : D → En → R En) (A : En → R D) : En → Out := fun env => liftO (A env) env fun d => match T d env with | .ok env' => .nx env' | _ => .bad
def sFrz (i : Nat) (G : En → Out) : En → Out := fun env => G (frz i env)
theorem dss_nil : DSs X W ξ [] sNil := pssImp pss_nil fun Dn σ H ⟨M, H0, env, E, p⟩ => p σ H0 H (Same.refl _) E
theorem seqPost {o : Out} {k : En → Out} (p : PostS K W ξ M H0 Dn (seqO o k)) : PostS K W ξ M H0 { Dn with nx := tS K W ξ k Dn } o := by
  cases o with
  | nx e => exact fun σ' H0' H' s E => ⟨M, H0', e, E, p.weak s⟩
  | _ => exact p
theorem dss_cons (h1 : DS X W ξ st G1) (h2 : DSs X W ξ rest G2) : DSs X W ξ (st :: rest) (sSeq G1 G2) :=
  pssImp (pss_cons h1 h2) fun Dn σ H ⟨M, H0, env, E, p⟩ => ⟨M, H0, env, E, seqPost p⟩
theorem dss_one (h1 : DS X W ξ st G1) : DSs X W ξ [st] G1 := pss_one h1
def killS (is : List Nat) (env : En) : En := is.foldl (fun e i => e.set i .u) env
theorem EnvAt.kills (E : EnvAt K M H0 H σ env) (is : List Nat) : EnvAt K M H0 H σ (killS is env) := by
  induction is generalizing env with
  | nil => exact E
  | cons i is ih => exact ih (E.kill i)
def endK (is : List Nat) (o : Out) : Out := match o with
  | .nx e => .nx (killS is e)
  | .ct e => .ct (killS is e)
  | .bk e => .bk (killS is e)
  | o => o
def sEnd (is : List Nat) (G : En → Out) : En → Out := fun env => endK is (G env)
theorem dss_end (is : List Nat) (h : DSs X W ξ body G) : DSs X W ξ body (sEnd is G) :=
  pssImp h fun Dn σ H ⟨M, H0, env, E, p⟩ => ⟨M, H0, env, E, by
    have p : PostS X.K W ξ M H0 Dn (endK is (G env)) := p
    revert p
    cases G env with
    | nx e => exact fun p σ' H0' H' s E' => p σ' H0' H' s (E'.kills is)
    | bk e => exact fun p σ' H0' H' s E' => p σ' H0' H' s (E'.kills is)
    | ct e => exact fun p σ' H0' H' s E' => p σ' H0' H' s (E'.kills is)
    | rt d e => exact fun p => p
    | exc x e => exact fun p => p
    | bad => exact fun p => p⟩
theorem ds_frz (i : Nat) (h : DS X W ξ st G) : DS X W ξ st (sFrz i G) :=
  psImp h fun Dn σ H ⟨M, H0, env, E, p⟩ => by
    obtain ⟨H0', s, E'⟩ := E.freeze i
    exact ⟨M, H0', _, E', p.weak s⟩

theorem ds_ret (h : DE X W ξ true e fa) : DS X W ξ (.Return (some e) pos) (sRet fa) :=
  psImp (ps_ret h) fun Dn σ H ⟨M, H0, env, E, p⟩ => ⟨M, H0, env, E, liftE p fun d v H0' H' g r p => p v H0' H' (Same.refl _) ⟨g.e.same, g.e.fr, fun a h => (g.e.nogo a h).1, r⟩⟩
theorem ds_if {tc : En → R Bool} (hc : DT X W ξ e tc) (ha : DSs X W ξ sa G1) (hb : DSs X W ξ sb G2) : DS X W ξ (.If e sa sb pos) (sIf tc G1 G2) :=
  psImp (ps_if hc ha hb) fun Dn σ H ⟨M, H0, env, E, p⟩ => ⟨M, H0, env, E, liftT p fun k H0' H' g p => by
    cases k with
    | true => rw [if_pos rfl] at p ⊢; exact ⟨M, H0', env, g.e, p⟩
    | false => rw [if_neg Bool.false_ne_true] at p ⊢; exact ⟨M, H0', env, g.e, p⟩⟩
theorem ds_setG {i : Nat} (h : PS X st (tAsg (tD X.K W ξ true fa) (gName i))) : DS X W ξ st (sSet i fa) :=
  psImp h fun Dn σ H ⟨M, H0, env, E, p⟩ => ⟨M, H0, env, E, liftE p fun d v H0' H' g r p => p _ H0' H' (Same.refl _) (g.e.set i r)⟩
theorem ds_setFG {i : Nat} {fs : En → R (List D)} (h : PS X st (tAsg (tDF X.K W ξ fs) (gName i))) : DS X W ξ st (sSetF i fs) :=
  psImp h fun Dn σ H ⟨M, H0, env, E, p⟩ => ⟨M, H0, env, E, liftF p fun d q vs H0' H' g hq n r p => p _ H0' H' (Same.refl _) (g.e.setOwn i rfl n.w n.n ⟨q, vs, rfl, n.h0, n.g, n.at_, r.1, r.2⟩)⟩
theorem ds_set {i : Nat} {x : Str} {pos' : Pos} (hN : X.N.Nodup) (he : DE X W ξ true e fa) (hi : X.N[i]? = some x := by rfl) (hx : Loc X.env.scope x := by first | exact Or.inl rfl | exact Or.inr rfl) (hs : swapsWith e (some (.Name x pos')) pos.line X.env = pure false := by rfl)
    (hf : X.fn x = true ∨ X.env.scope.names.lookup x = some .local := by first | exact .inl rfl | exact .inr rfl) : DS X W ξ (.Assign [.Name x pos'] e pos) (sSet i fa) :=
  ds_setG (ps_set hN hi hx he hs hf)
theorem ds_setF {i : Nat} {x : Str} {pos' : Pos} {fs : En → R (List D)} (hN : X.N.Nodup) (he : DF X W ξ e fs) (hi : X.N[i]? = some x := by rfl) (hx : Loc X.env.scope x := by first | exact Or.inl rfl | exact Or.inr rfl) (hs : swapsWith e (some (.Name x pos')) pos.line X.env = pure false := by rfl)
    (hf : X.fn x = true ∨ X.env.scope.names.lookup x = some .local := by first | exact .inl rfl | exact .inr rfl) : DS X W ξ (.Assign [.Name x pos'] e pos) (sSetF i fs) :=
  ds_setFG (ps_set hN hi hx he hs hf)
def tDG (K : PySem.W.Frag) (ξ : Str → Value) (ts : List Nat) (T : D → En → R En) : TG := fun v σ H Q => ∃ (M : Fm ξ), ∃ H0 env d env', EnvAt K M H0 H σ env ∧ Rep K H0 v d ∧ T d env = .ok env' ∧ ∀ σ', wipe σ' ts = wipe σ ts → EnvAt K M H0 H σ' env' → Q σ' H
abbrev DGt (X : Cx) (ξ : Str → Value) (tg : Expr) (ts : List Nat) (T : D → En → R En) : Prop := PG X tg (tDG X.K ξ ts T)
theorem pgImp {tg : Expr} {t t' : TG} (h : PG X tg t) (hi : ∀ v σ H Q, t' v σ H Q → t v σ H Q) : PG X tg t' := ⟨fun pins s σ H v u Q I r w => h.run pins s σ H v u Q I r (hi _ _ _ _ w)⟩
def nameT (i : Nat) (d : D) (env : En) : R En := .ok (env.set i (.d d))
theorem wipe_set1 (σ : L2.St) (i : Nat) (x : Option V) : ∀ ts : List Nat, (wipe (σ.set i x) ts).set i none = (wipe σ ts).set i none
  | [] => by show (σ.set i x).set i none = σ.set i none; rw [List.set_set]
  | t :: ts => by
    show ((wipe (σ.set i x) ts).set t none).set i none = ((wipe σ ts).set t none).set i none
    by_cases h : t = i
    · subst h; rw [List.set_set, List.set_set]; exact wipe_set1 σ t x ts
    · rw [List.set_comm _ _ h, List.set_comm _ _ h, wipe_set1 σ i x ts]
theorem dg_name {i : Nat} {x : Str} (hN : X.N.Nodup) (hi : X.N[i]? = some x := by rfl) (hx : Loc X.env.scope x := by first | exact Or.inl rfl | exact Or.inr rfl) (hf : X.fn x = true ∨ X.env.scope.names.lookup x = some .local := by first | exact .inl rfl | exact .inr rfl) :
    DGt X ξ (.Name x pos) [i] (nameT i) :=
  pgImp (pg_name hN hi hx hf) fun v σ H Q ⟨M, H0, env, d, env', E, r, ht, q⟩ => by
    unfold nameT at ht
    cases ht
    exact q _ (wipe_set1 σ i (some v) []) (E.set i r)
def tDGs (K : PySem.W.Frag) (ξ : Str → Value) (ts : List Nat) : TGs := fun vs σ H Q => ∃ (M : Fm ξ), ∃ H0 env ds, EnvAt K M H0 H σ env ∧ RepAll K H0 vs ds ∧ ds.length = ts.length ∧ ∀ σ', wipe σ' ts = wipe σ ts → EnvAt K M H0 H σ' ((ts.zip ds).foldl (fun e p => e.set p.1 (.d p.2)) env) → Q σ' H
theorem dgs_nil : PGs X [] (tDGs X.K ξ []) := ⟨fun pins s σ H vs us Q I r h => pgs_nil.run pins s σ H vs us Q I r (by
  obtain ⟨M, H0, env, ds, E, rr, hl, q⟩ := h
  cases ds with
  | nil => cases rr; exact ⟨rfl, q σ rfl E⟩
  | cons d ds => simp at hl)⟩
theorem dgs_cons {i : Nat} {x : Str} {ts : List Nat} (hN : X.N.Nodup) (h2 : PGs X es (tDGs X.K ξ ts)) (hi : X.N[i]? = some x := by rfl) (hx : Loc X.env.scope x := by first | exact Or.inl rfl | exact Or.inr rfl) (hf : X.fn x = true ∨ X.env.scope.names.lookup x = some .local := by first | exact .inl rfl | exact .inr rfl)
    (hs : (assignEach (.Name x pos :: es) X.env).map (·.2) = assign (.Name x pos) X.env :: (assignEach es X.env).map (·.2) := by rfl) : PGs X (.Name x pos :: es) (tDGs X.K ξ (i :: ts)) := ⟨fun pins s σ H vs us Q I r h =>
  (pgs_cons (pg_name hN hi hx hf) h2 hs).run pins s σ H vs us Q I r (by
    obtain ⟨M, H0, env, ds, E, rr, hl, q⟩ := h
    cases ds with
    | nil => simp at hl
    | cons d ds =>
      cases rr with
      | @cons v vs' _ _ rv rvs =>
        refine ⟨v, vs', rfl, M, H0, _, ds, E.set i rv, rvs, by simpa using hl, fun σ' hw E' => q σ' ?_ E'⟩
        show (wipe σ' ts).set i none = (wipe σ ts).set i none
        rw [hw, wipe_set1])⟩
def tupT (ts : List Nat) (d : D) (env : En) : R En := match d with
  | .tup ds => if ds.length = ts.length then .ok ((ts.zip ds).foldl (fun e p => e.set p.1 (.d p.2)) env) else .bad
  | _ => .bad
theorem dg_tup {ts : List Nat} {k : Nat} {n : Nat} (hc : X.calm = true) (h : PGs X es (tDGs X.K ξ ts)) (hl : ts.length = n := by rfl) (hn : (assignEach es X.env).length = n := by rfl) (hst : (assignEach es X.env).findIdx? (·.1) = none := by rfl) : DGt X ξ (.Tuple es k pos) ts (tupT ts) :=
  pgImp (pg_tup hc h hn hst) fun v σ H Q ⟨M, H0, env, d, env', E, r, ht, q⟩ => by
    unfold tupT at ht
    split at ht
    · split at ht
      · rename_i hz
        cases ht
        cases r with
        | @tup a vs _ h1 _ h2 => exact ⟨a, vs, rfl, SqT.of (E.same _ _ h1), by rw [h2.length, hz, hl], M, H0, env, _, E, h2, hz, q⟩
      · cases ht
    · cases ht
def Yd (K : PySem.W.Frag) (H0 H1 : Hp) (x : V) (H2 : Hp) (d : D) : Prop :=
  (H2 = H1 ∧ Rep K H0 x d) ∨ ∃ T vs ds, H1 T = none ∧ H2 = upd H1 T (.tup vs) ∧ x = .ref T ∧ d = .tup ds ∧ ds.length ≤ sizeLine ∧ RepAll K H0 vs ds
def Feeds (K : PySem.W.Frag) (H0 Hs : Hp) (J : It) (ds : List D) : Prop :=
  ds.length ≤ sizeLine ∧ ∃ (Gd : Hp → Prop) (Y : Nat → Hp → V → Hp → Prop), Walk J ds.length Gd Y ∧ (∀ H1, Same Hs H1 → Gd H1) ∧ ∀ i H1 x H2 d, Gd H1 → ds[i]? = some d → Y i H1 x H2 → Yd K H0 H1 x H2 d
def PostI (K : PySem.W.Frag) (W : WX) (ξ : Str → Value) (M : Fm ξ) (σ : L2.St) (env : En) (c : Bool) (H0 H : Hp) (R' : It → Hp → Prop) : R (List D) → Prop
  | .ok ds => ∀ J H0' H', Gr K M σ env H0 H H0' H' → Feeds K H0' (if c = true then H0' else H') J ds → R' J H'
  | .exc x => ∀ H0' H', Gr K M σ env H0 H H0' H' → W (ξ x) none σ H'
  | .bad => False
def tDI (K : PySem.W.Frag) (W : WX) (ξ : Str → Value) (c : Bool) (F : En → R (List D)) : TI := fun σ H R' => ∃ M H0 env, EnvAt K M H0 H σ env ∧ PostI K W ξ M σ env c H0 H R' (F env)
abbrev DI (X : Cx) (W : WX) (ξ : Str → Value) (c : Bool) (tg iter : Expr) (F : En → R (List D)) : Prop := PI X tg iter (tDI X.K W ξ c F)
theorem piImp {tg iter : Expr} {t t' : TI} (h : PI X tg iter t) (hi : ∀ σ H R', t' σ H R' → t σ H R') : PI X tg iter t' := ⟨fun pins s σ H R' I w => h.run pins s σ H R' I (hi _ _ _ w)⟩
theorem liftI {x : R (List D)} {k : List D → Out} {R' : It → Hp → Prop} (p : PostS K W ξ M H0 Dn (liftO x env k)) (h : ∀ ds J H0' H', Gr K M σ env H0 H H0' H' → Feeds K H0' (if c = true then H0' else H') J ds → PostS K W ξ M H0' Dn (k ds) → R' J H') : PostI K W ξ M σ env c H0 H R' x := by
  cases x with
  | ok ds => exact fun J H0' H' g f => h ds J H0' H' g f (p.weak g.s0)
  | exc x => exact fun H0' H' g => p σ H0' H' g.s0 g.e
  | bad => exact p

def forO (T : D → En → R En) (B : En → Out) : List D → En → Out
  | [], env => .nx env
  | d :: ds, env => match T d env with
    | .ok e1 => (match B e1 with
      | .nx e => forO T B ds e
      | .ct e => forO T B ds e
      | .bk e => .nx e
      | o => o)
    | _ => .bad
def sFor (I : En → R (List D)) (T : D → En → R En) (B : En → Out) : En → Out := fun env => liftO (I env) env fun ds => forO T B ds env
theorem ds_for {tg iter : Expr} {F : En → R (List D)} {ts : List Nat} {T : D → En → R En} (hp : PassesOwn (model X.prog X.w) X.A X.env X.xe) (hi : DI X W ξ true tg iter F) (hg : DGt X ξ tg ts T) (hb : DSs X W ξ body B) (hc : X.calm = true := by rfl)
    (hs : ∀ x, foldedSetIterable iter X.env x = pure x := by intro _; rfl) : DS X W ξ (.For tg iter body [] pos) (sFor F T B) :=
  psImp (ps_for hp hc hi hg hb hs) fun Dn σ H ⟨M, H0, env, E, p⟩ => ⟨M, H0, env, E, liftI p fun ds J H1 H2 g ⟨_, Gd, Y, wk, hGd, hY⟩ p1 => by
    rw [if_pos rfl] at hGd
    refine for_it wk (fun i σ' H' => ∃ H0' env', Same H1 H0' ∧ EnvAt X.K M H0' H' σ' env' ∧ PostS X.K W ξ M H0' Dn (forO T B (ds.drop i) env')) ⟨H1, env, Same.refl _, g.e, p1⟩
      (fun i σ' H' _ ⟨H0', env', s, E', _⟩ => hGd H' (s.trans E'.same)) (fun i x σ' H' H'' hi ⟨H0', env', s, E', p'⟩ y => ?_) fun σ' H' ⟨H0', env', s, E', p'⟩ => ?_
    · obtain ⟨d, hd⟩ : ∃ d, ds[i]? = some d := ⟨ds[i], by simp [hi]⟩
      have hdrop : ds.drop i = d :: ds.drop (i + 1) := by
        rw [List.drop_eq_getElem_cons hi]
        rw [List.getElem?_eq_getElem hi] at hd
        cases hd; rfl
      rw [hdrop] at p'
      unfold forO at p'
      have fin : ∀ {H02 : Hp}, Same H0' H02 → EnvAt X.K M H02 H'' σ' env' → Rep X.K H02 x d → tDG X.K ξ ts T x σ' H'' fun σ2 H2 => tS X.K W ξ B { Dn with
          nx := fun σ' H' => ∃ H0' env', Same H1 H0' ∧ EnvAt X.K M H0' H' σ' env' ∧ PostS X.K W ξ M H0' Dn (forO T B (ds.drop (i + 1)) env'),
          ct := fun σ' H' => ∃ H0' env', Same H1 H0' ∧ EnvAt X.K M H0' H' σ' env' ∧ PostS X.K W ξ M H0' Dn (forO T B (ds.drop (i + 1)) env'), bk := Dn.nx } σ2 H2 := by
        intro H02 s2 E2 r
        split at p'
        · rename_i e1 he1
          refine ⟨M, H02, env', d, e1, E2, r, he1, fun σ2 _ E3 => ⟨M, H02, e1, E3, ?_⟩⟩
          split at p'
          · rename_i e ho
            rw [ho]
            exact fun σ3 H03 H3 s3 E4 => ⟨H03, e, (s.trans s2).trans s3, E4, p'.weak (s2.trans s3)⟩
          · rename_i e ho
            rw [ho]
            exact fun σ3 H03 H3 s3 E4 => ⟨H03, e, (s.trans s2).trans s3, E4, p'.weak (s2.trans s3)⟩
          · rename_i e ho
            rw [ho]
            exact fun σ3 H03 H3 s3 E4 => p' σ3 H03 H3 (s2.trans s3) E4
          · rename_i o h1 h2 h3
            have p2 := p'.weak s2
            revert p2
            cases ho : B e1 with
            | nx e => exact absurd ho (h1 e)
            | ct e => exact absurd ho (h2 e)
            | bk e => exact absurd ho (h3 e)
            | rt d e => exact fun p2 => p2
            | exc x e => exact fun p2 => p2
            | bad => exact fun p2 => p2
        · exact p'.elim
      rcases hY i H' x H'' d (hGd H' (s.trans E'.same)) hd y with ⟨e1, r⟩ | ⟨T', vs, ds', hT, e1, e2, e3, hz, r⟩
      · subst e1
        exact fin (Same.refl _) E' (r.mono s)
      · subst e1 e2 e3
        have n := E'.new (o := .tup vs) hT
        exact fin n.s0 n.e (.tup upd_same hz (r.mono (s.trans n.s0)))
    · rw [List.drop_length] at p'
      exact p' σ' H0' H' (Same.refl _) E'⟩

def whileO (C : En → R Bool) (B : En → Out) : Nat → En → Out
  | 0, _ => .bad
  | n + 1, env => liftO (C env) env fun k => if k = true then (match B env with
      | .nx e => whileO C B n e
      | .ct e => whileO C B n e
      | .bk e => .nx e
      | o => o) else .nx env
def sWhile (C : En → R Bool) (B : En → Out) (n : Nat) : En → Out := fun env => whileO C B n env
theorem ds_raise {x : Str} {C : Addr} (tk : Takes X W) (he : PMk X e (fun _ H Q => Q (.ref C) none H)) (hx : ξ x = .ref C) (hc : X.calm = true := by rfl) : DS X W ξ (.Raise (some e) none pos) (sRaise x) :=
  psImp (ps_raise hc tk he) fun Dn σ H ⟨M, H0, env, E, p⟩ => by
    have := p σ H0 H (Same.refl _) E
    rw [hx] at this
    exact this
end

def runB (m : Nat) (G : En → Out) (ds : List D) : R D := match G (ds.map Slot.d ++ List.replicate m .u) with
  | .rt d _ => .ok d
  | .nx _ => .ok .non
  | .exc x _ => .exc x
  | _ => .bad
section
variable {P : Program} {w : World} {K : PySem.W.Frag} {mg : Str → Option Value} {base : Heap} {ξ : Str → Value}
theorem fn_d {x qual : Str} {st : Stmt} {f : Addr} {fd : FuncData} {N ps : List Str} {k : Nat} {F : List D → R D} {G : En → Out} (Fn : Fun K x qual st f fd) (S : FnScope N ps (defScope st))
    (hl : ∀ ds, ds.length ≠ ps.length → F ds = .bad) (hF : ∀ ds, ds.length = ps.length → F ds = runB (N.length - ps.length) G ds)
    (hbody : ∀ (cdv : Value) (A : Around) (outer : List Env) (s : Shared) (H : Hp) (E : XK), Room k (A.deeper (envOfC qual (defScope st) s.heap.objs.size f cdv)) →
      DSs (cxOf (L2.CX P w) P w K mg base N qual (defScope st) f cdv A outer s H E) (fun cls d _ H => E cls d H) ξ (defBody st) G) : FnOk P w K mg base (L2.CX P w) (k + 1) f fd ps (spD K ξ F) := by
  have len : ∀ vs H Q E, spD K ξ F vs H Q E → vs.length = ps.length := fun vs H Q E ⟨ds, H0, _, r, p⟩ => by
    rw [r.length]
    apply Decidable.byContradiction
    intro h
    rw [hl ds h] at p
    exact p
  refine Fn.okX S len fun cdv A outer s H vs Q E hr ⟨ds, H0, s0, r, p⟩ => ?_
  refine ⟨_, hbody cdv A outer s H E hr, ?_⟩
  have hlen : ds.length = ps.length := by rw [← r.length]; exact len vs H Q E ⟨ds, H0, s0, r, p⟩
  rw [hF ds hlen] at p
  have hpl : ps.length ≤ N.length := by have := congrArg List.length S.pre; rw [List.length_take] at this; omega
  let M : Fm ξ := ⟨H, fun a => H a ≠ none ∧ H0 a = none, fun _ => 0, fun _ => none⟩
  have gets : ∀ (i : Nat) (x : Slot), (ds.map Slot.d ++ List.replicate (N.length - ps.length) Slot.u)[i]? = some x → (∃ d, ds[i]? = some d ∧ x = Slot.d d) ∨ x = Slot.u := fun (i : Nat) (x : Slot) h => by
    by_cases hi : i < ds.length
    · rw [List.getElem?_append_left (by simpa using hi), List.getElem?_map] at h
      cases e : ds[i]? with
      | none => rw [e] at h; cases h
      | some d => rw [e] at h; cases h; exact .inl ⟨d, rfl, rfl⟩
    · rw [List.getElem?_append_right (by simpa using hi), List.getElem?_replicate] at h
      split at h
      · cases h; exact .inr rfl
      · cases h
  have noOwn : ∀ i a, ¬ Owns (L2.start N vs) (ds.map Slot.d ++ List.replicate (N.length - ps.length) Slot.u) i a := fun i a ⟨_, sl, h1, h2⟩ => by
    rcases gets i sl h1 with ⟨d, _, e⟩ | e
    · subst e; cases h2
    · subst e; cases h2
  have E0 : EnvAt K M H0 H (L2.start N vs) (ds.map Slot.d ++ List.replicate (N.length - ps.length) .u) := by
    refine ⟨s0, Same.refl _, fun a h => ⟨h.2, h.1⟩, ?_, fun i sl h => ?_, fun i j a h => absurd h (noOwn i a), fun a i _ => noOwn i a, fun i n k t h => ?_⟩
    · unfold L2.start
      rw [List.length_append, List.length_append, List.length_map, List.length_map, List.length_replicate, List.length_replicate, r.length, hlen]
    · rcases gets i sl h with ⟨d, hd, e⟩ | e
      · subst e
        obtain ⟨v, hv, rv⟩ := r.get hd
        refine ⟨v, ?_, rv⟩
        have hi : i < vs.length := (List.getElem?_eq_some_iff.mp hv).1
        unfold L2.start
        rw [List.getElem?_append_left (by simpa using hi), List.getElem?_map, hv]; rfl
      · subst e; trivial
    · rcases gets i _ h with ⟨d, _, e⟩ | e <;> cases e
  refine ⟨M, H0, _, E0, ?_⟩
  have nog : ∀ {H0' : Hp}, (∀ a, M.N a → H0' a = none) → ∀ a, H a ≠ none → H0 a = none → H0' a = none := fun h a h1 h2 => h a ⟨h1, h2⟩
  unfold runB at p
  revert p
  cases G (ds.map Slot.d ++ List.replicate (N.length - ps.length) .u) with
  | nx e => exact fun p σ' H0' H' s E' => p .non H0' H' s E'.fr E'.same (nog fun a h => (E'.nogo a h).1) .non
  | rt d e => exact fun p v H0' H' s R' => p v H0' H' s R'.fr R'.same (nog R'.nogo) R'.rep
  | exc x e => exact fun p σ' H0' H' s E' => p H0' H' s E'.fr E'.same (nog fun a h => (E'.nogo a h).1)
  | bk e => exact fun p => p.elim
  | ct e => exact fun p => p.elim
  | bad => exact fun p => p.elim
end
end Dx

namespace Dx
open PySem PySem.Spec PyProof.Rows L2

set_option maxHeartbeats 1000000 in
theorem meets_enumB {v : Value} {o : Obj} {H : Heap → Prop} (B : Begins v o H) :
    Meets (Builtin.«enumerate.__new__» ⟨[.type "enumerate", v], []⟩) (fun _ R s => H s.heap ∧
      R (.ok (.ret (.ref (s.heap.push o).objs.size))) { s with heap := (s.heap.push o).push { cls := .type "enumerate", data := .fields #[.none, .bool false, .ref s.heap.objs.size, rawInt 0, .none, .none] } }) :=
  .of_wp fun prog w A R s h => by
    obtain ⟨hp, g, d, tk, os⟩ := s; obtain ⟨h1, h⟩ := h
    have hsub := sub_enumerate
    have q1 : ∀ {A' : Around} {E : Value → Shared → Prop} {Q : Value → Shared → Prop}, Q (.ref hp.objs.size) ⟨hp.push o, g, d, tk, os⟩ → wpAny (model prog w) A' (pyIter v) Q E ⟨hp, g, d, tk, os⟩ :=
      fun q => B.iter prog w _ _ ⟨hp, g, d, tk, os⟩ _ h1 q
    wp_walk using q1
    refine wpAny_stack_any fun st => wpAny_pure ?_
    split
    · rename_i c _ _ _ _ _
      cases (c == Value.type "enumerate")
      · wp_walk using q1
        exact ⟨_, rfl, h⟩
      · wp_walk using q1
        exact ⟨_, rfl, h⟩
    · wp_walk using q1
      exact ⟨_, rfl, h⟩
theorem call_enumB {prog : Program} {w : World} {A : Around} {E : Value → Shared → Prop} {s : Shared} {v : Value} {o : Obj} {H : Heap → Prop} {Q : Value → Shared → Prop} (B : Begins v o H) (h1 : H s.heap)
    (h : ∀ h', IsEnum h' (s.heap.objs.size + 1) s.heap.objs.size 0 .none → h'.get? s.heap.objs.size = some o → h'.objs.size = s.heap.objs.size + 2 →
      (∀ b o, s.heap.get? b = some o → h'.get? b = some o) → Q (.ref (s.heap.objs.size + 1)) { s with heap := h' }) :
    wpAny (model prog w) A (call (.type "enumerate") [v]) Q E s := by
  refine callType_new F.called_enumerate (by decide) (F.typeCall_enumerate_1 _) (F.newCall_enumerate_1 _) (fun obj => F.args_object_init_2 obj _) F.entry_enumerate_new
    (meets_enumB B) ⟨h1, ?_⟩
  have hz : (s.heap.push o).objs.size = s.heap.objs.size + 1 := Heap.size_push ..
  show _ ∧ _
  rw [hz]
  have he : IsEnum ((s.heap.push o).push { cls := .type "enumerate", data := .fields #[.none, .bool false, .ref s.heap.objs.size, rawInt 0, .none, .none] }) (s.heap.objs.size + 1) s.heap.objs.size 0 .none := by
    have := Heap.get?_push_size (s.heap.push o) (o := { cls := .type "enumerate", data := .fields #[.none, .bool false, .ref s.heap.objs.size, rawInt 0, .none, .none] }) rfl
    rw [hz] at this; exact this
  refine ⟨⟨_, he, rfl⟩, h _ he (Heap.get?_push_of_some _ (Heap.get?_push_size _ B.free)) (by rw [Heap.size_push, hz]) fun b o x => Heap.get?_push_of_some _ (Heap.get?_push_of_some _ x)⟩

def ItE (n : Nat) (src : Hp → Prop) (P : Nat → V → Prop) : It :=
  ⟨fun i H => i < n ∧ src H, fun i H v H' => ∃ T x, v = .ref T ∧ H T = none ∧ H' = upd H T (.tup [.int (i : Nat), x]) ∧ P i x, fun i H => n ≤ i ∧ src H⟩
section
variable {P : Program} {w : World} {K : PySem.W.Frag} {elts : List Expr} {kk : Nat} {tpos : Pos}
theorem turn_enumG {n : Nat} {src : Hp → Prop} {Pv : Nat → V → Prop} {e it : Addr} {iterAt : Nat → Heap → Prop}
    (objI : ∀ i h, iterAt i h → ∃ o, h.get? it = some o ∧ ∀ v, o.data ≠ .cell v)
    (keepI : ∀ i h h', iterAt i h → (∀ o, h.get? it = some o → h'.get? it = some o) → iterAt i h')
    (draw : ∀ (X : Cx) (pins : List (Addr × Obj)) (s : Shared) (σ : L2.St) (H : Hp), X.prog = P → X.w = w → X.K = K → X.calm = true → Inv X pins σ H s → src H → H it = none → H e = none → ∀ i, iterAt i s.heap → (∃ o, s.heap.get? e = some o) → ∃ (fp : List Addr) (Pu : Nat → Value → Prop) (St : Nat → Heap → Prop),
      Draws P w X.A.in1 it fp n Pu St ∧ e ∉ fp ∧ St i s.heap ∧ (∀ j h, St j h → iterAt j h) ∧ ∀ u, Pu i u → ∃ v, RelV v u ∧ Pv i v)
    (hne : e ≠ it) : Turn P w K (.Tuple elts kk tpos) (ItE n src Pv) [e, it] e (fun i h => i ≤ n ∧ (∃ old, IsEnum h e it ((i : Nat) : Int) old) ∧ iterAt i h) where
  mem := by simp
  obj := fun i h st b hb => by
    obtain ⟨_, ⟨old, he⟩, hi⟩ := st
    have e' : b = e ∨ b = it := by simpa using hb
    rcases e' with z | z
    · rw [z]; exact ⟨_, he, fun v q => nomatch q⟩
    · rw [z]; exact objI i h hi
  keep := fun i h h' st k => let ⟨hn, ⟨old, he⟩, hi⟩ := st; ⟨hn, ⟨old, k e (by simp) _ he⟩, keepI i h h' hi fun o q => k it (by simp) o q⟩
  item := by
    intro X hP hw hK hc i pins s σ H E I hf st hg
    obtain ⟨hn, ⟨old, he⟩, hit⟩ := st
    obtain ⟨hlt, hsrc⟩ := hg
    obtain ⟨fp, Pu, St, D, hef, hst, hof, hrel⟩ := draw X pins s σ H hP hw hK hc I hsrc (hf it (by simp)).1 (hf e (by simp)).1 i hit ⟨_, he⟩
    subst hP hw hK
    have hel : e < s.heap.objs.size := Heap.lt_size he
    obtain ⟨oi, hoi, _⟩ := objI i _ hit
    have hil : it < s.heap.objs.size := Heap.lt_size hoi
    refine wpAny_pyNext_enum_itemC D he hst hlt hne hef fun x h' tk hPx ho hst' hT hsz hk => ?_
    obtain ⟨v, rv, pv⟩ := hrel x hPx
    refine ⟨_, rfl, wpAny_letOwnedTupleGo_enum (s := { s with heap := h', toks := tk + 1 }) ho fun h'' he' sb => ?_⟩
    have hT2 : h''.get? s.heap.objs.size = some { cls := .type "tuple", data := .seq #[.int i tk, x] } := (sb.2 _ (Nat.ne_of_gt hel)).trans hT
    have new : ObjOk X.prog X.w (upd H s.heap.objs.size (.tup [.int (i : Nat), v])) h'' s.heap.objs.size (.tup [.int (i : Nat), v]) :=
      ⟨by show 2 ≤ sizeLine; decide, [.int i tk, x], .cons ⟨_, rfl⟩ (.cons rv .nil), ⟨_, hT2, rfl, _, rfl⟩⟩
    have I1 : Inv X pins σ (upd H s.heap.objs.size (.tup [.int (i : Nat), v])) { s with heap := h'', toks := tk + 1 } :=
      I.turnedNew (ch := [e, it]) (fun b ob hb q => (sb.2 b (fun z => hb (by simp [z]))).trans (hk b ob (fun z => hb (by simp [z])) (fun z => hb (by simp [z])) q)) hf (Nat.le_refl _) new
    refine ⟨.ref s.heap.objs.size, _, I1, rfl, ⟨_, v, rfl, I.hok.fresh (Nat.le_refl _), rfl, pv⟩, ⟨hlt, ⟨x, ?_⟩, keepI _ _ _ (hof _ _ hst') fun o q => (sb.2 it (Ne.symm hne)).trans q⟩, fun b hb => ?_⟩
    · have e1 : ((i + 1 : Nat) : Int) = (i : Int) + 1 := by omega
      rw [e1]; exact he'
    · have hb' : b < s.heap.objs.size := by
        have e' : b = e ∨ b = it := by simpa using hb
        rcases e' with z | z
        · rw [z]; exact hel
        · rw [z]; exact hil
      rw [upd_ne (Nat.ne_of_lt hb')]
      exact (hf b hb).1
  done := by
    intro X hP hw hK hc i pins s σ H E I hf st hg
    obtain ⟨hn, ⟨old, he⟩, hit⟩ := st
    obtain ⟨hge, hsrc⟩ := hg
    have hin : i = n := Nat.le_antisymm hn hge
    obtain ⟨fp, Pu, St, D, hef, hst, hof, hrel⟩ := draw X pins s σ H hP hw hK hc I hsrc (hf it (by simp)).1 (hf e (by simp)).1 i hit ⟨_, he⟩
    subst hP hw hK hin
    obtain ⟨f0, f1, f2, f3, f4, f5⟩ := hf it (by simp)
    exact wpAny_pyNext_enum_endD D he hst fun h' eb => ⟨rfl, I.turned (t' := s.toks) (fun b o hb q => eb b o hb q) f0 f1 f3 f4 f5⟩
  self := fun A i s Q E st h => let ⟨_, ⟨_, he⟩, _⟩ := st; wpAny_pyIter_enum he h
end
section
variable {X : Cx} {W : WX} {ξ : Str → Value} {e e2 tg : Expr} {c : Bool} {pos p tpos : Pos} {elts : List Expr} {kk : Nat} {f g : En → R D}
variable {K : PySem.W.Frag} {M : Fm ξ} {σ : L2.St} {env : En} {H0 H : Hp}
def iEnumT (te : TE) : TI := fun σ H R' => te σ H fun v H1 => (∃ a vs, v = .ref a ∧ H1 a = some (.tup vs) ∧ R' (ItE vs.length (fun H => H a = some (.tup vs)) (fun i x => vs[i]? = some x)) H1) ∨
  (∃ z, v = .str z ∧ R' (ItE z.cps.size (fun _ => True) (fun i x => ∃ c, z.cps[i]? = some c ∧ x = .str ⟨#[c]⟩)) H1)
theorem pi_enumT {te : TE} (hg : Gl X "enumerate") (hm : X.mg "enumerate" = none) (he : PE X e te) (hs : starEach [e] X.env = (false, eval e X.env) :: starEach [] X.env := by rfl) :
    PI X (.Tuple elts kk tpos) (.Call (.Name "enumerate" p) [e] [] pos) (iEnumT te) := by
  refine ⟨fun pins s σ H R' I h => ?_⟩
  refine Call_ (ld_blt I hg hm boot_enumerate (PyProof.Rows.callWith_type1 (args_cons (thn (he.run pins s σ H _ I h) fun u s1 ⟨v, H1, I1, r1, q1⟩ => args_nil ?_) hs) hs rfl))
  have fin : ∀ {o : Obj} {Hb : Heap → Prop} {n : Nat} {src : Hp → Prop} {Pv : Nat → V → Prop} {iterAt : Addr → Nat → Heap → Prop}, Begins u o Hb → Hb s1.heap →
      (∀ e it, e ≠ it → Turn X.prog X.w X.K (.Tuple elts kk tpos) (ItE n src Pv) [e, it] e (fun i h => i ≤ n ∧ (∃ old, IsEnum h e it ((i : Nat) : Int) old) ∧ iterAt it i h)) →
      (∀ it h, h.get? it = some o → iterAt it 0 h) → R' (ItE n src Pv) H1 →
      wpAny (model X.prog X.w) X.A (call (.type "enumerate") [u]) (fun v s1 => wpAny (model X.prog X.w) X.A (pyIter v) (PIE X pins σ (.Tuple elts kk tpos) R') X.xe s1) X.xe s1 := by
    intro o Hb n src Pv iterAt B hb T hat q
    refine call_enumB B hb fun h' he hit hsz hk => wpAny_pyIter_enum he ?_
    have I2 : Inv X pins σ H1 { s1 with heap := h' } := I1.kept (t' := s1.toks) hk
    refine ⟨s1.heap.objs.size + 1, [s1.heap.objs.size + 1, s1.heap.objs.size], _, _, H1, rfl, I2, T (s1.heap.objs.size + 1) s1.heap.objs.size (Nat.succ_ne_self _), ⟨Nat.zero_le _, ⟨.none, he⟩, hat _ _ hit⟩, fun b hb => ?_, q⟩
    have e' : b = s1.heap.objs.size + 1 ∨ b = s1.heap.objs.size := by simpa using hb
    have hle : s1.heap.objs.size ≤ b := by
      rcases e' with z | z
      · rw [z]; exact Nat.le_add_right _ _
      · rw [z]; exact Nat.le_refl _
    exact I1.fpOk hle (I1.hok.fresh hle)
  rcases q1 with ⟨a, vs, rfl, ha, q⟩ | ⟨z, rfl, q⟩
  · obtain rfl : u = Value.ref a := r1
    obtain ⟨its, rv, pt, _⟩ := I1.tuple (SqT.of ha)
    refine fin (iterAt := fun it i h => h.IsTupleIter it a i) (begins_tuple a its.toArray) (show s1.heap.IsTuple a its.toArray from pt) (fun e it hne => ?_) (fun it h hit => ⟨_, hit, rfl, rfl⟩) q
    refine turn_enumG (fun i h ⟨o, h1, h2, h3⟩ => ⟨o, h1, fun v z => by rw [h3] at z; cases z⟩) (fun i h h' st k => st.at k) (fun X' pins' s' σ' H' hP hw hK hc I' hsrc hit0 he0 i hit he' => ?_) hne
    obtain ⟨its', rv', pt', _⟩ := I'.tuple (SqT.of hsrc)
    have hta : a ≠ it := fun z => by rw [z, hit0] at hsrc; cases hsrc
    have hea : e ≠ a := fun z => by rw [← z, he0] at hsrc; cases hsrc
    have hl : its'.toArray.size = vs.length := by rw [List.size_toArray, rv'.length]
    refine ⟨[it, a], fun i v => its'.toArray[i]? = some v, fun i h => h.IsTupleIter it a i ∧ h.IsTuple a its'.toArray, ?_, ?_, ⟨hit, show s'.heap.IsTuple a its'.toArray from pt'⟩, fun j h st => st.1, fun u hu => ?_⟩
    · rw [← hl]
      exact Draws.tuple (show X'.A.in1.handled = none from I'.ok.hd hc) it a hta its'.toArray
    · intro hm
      have : e = it ∨ e = a := by simpa using hm
      rcases this with z | z
      · exact hne z
      · exact hea z
    · have hi : i < its'.toArray.size := (Array.getElem?_eq_some_iff.mp hu).1
      obtain ⟨v, hv⟩ : ∃ v, vs[i]? = some v := ⟨vs[i]'(by omega), by simp [hl ▸ hi]⟩
      obtain ⟨u', hu', ru⟩ := rv'.get hv
      have : u' = u := by
        have h2 : its'[i]? = some u := by simpa using hu
        rw [hu'] at h2; cases h2; rfl
      exact ⟨v, this ▸ ru, hv⟩
  · obtain ⟨t, rfl⟩ := r1
    refine fin (iterAt := fun it i h => h.IsStrIter it (strIterType z) z t i) (begins_text z t) trivial (fun e it hne => ?_) (fun it h hit => ⟨_, hit, rfl, rfl⟩) q
    refine turn_enumG (fun i h ⟨o, h1, h2, h3⟩ => ⟨o, h1, fun v z => by rw [h3] at z; cases z⟩) (fun i h h' ⟨o, h1, h2⟩ k => ⟨o, k o h1, h2⟩) (fun X' pins' s' σ' H' hP hw hK hc I' hsrc hit0 he0 i hit he' => ?_) hne
    refine ⟨[it], _, _, Draws.text (show X'.A.in1.handled = none from I'.ok.hd hc) it z t, by simpa using hne, hit, fun j h st => st, fun u ⟨c, u', hc', hu'⟩ => ?_⟩
    exact ⟨.str ⟨#[c]⟩, ⟨u', hu'⟩, c, hc', rfl⟩
theorem walk_E {n : Nat} {src : Hp → Prop} {P : Nat → V → Prop} : Walk (ItE n src P) n src (fun i H v H' => ∃ T x, v = .ref T ∧ H T = none ∧ H' = upd H T (.tup [.int (i : Nat), x]) ∧ P i x) :=
  ⟨fun _ _ hi q => ⟨hi, q⟩, fun _ q => ⟨Nat.le_refl _, q⟩, fun _ _ _ _ _ _ y => y⟩

theorem PostI.weak {x : R (List D)} {R' : It → Hp → Prop} {H0' H' : Hp} (g : Gr K M σ env H0 H H0' H') (p : PostI K W ξ M σ env c H0 H R' x) : PostI K W ξ M σ env c H0' H' R' x := by
  cases x with
  | ok ds => exact fun J H02 H2 g2 f => p J H02 H2 (g.trans g2) f
  | exc x => exact fun H02 H2 g2 => p H02 H2 (g.trans g2)
  | bad => exact p
theorem wishI {R' : It → Hp → Prop} : Wish K W ξ M σ env (fun H0 H => PostI K W ξ M σ env c H0 H R') := ⟨PostI.weak, fun p => p, fun p => p⟩
def charsD (z : Str) : List D := z.cps.toList.map fun c => D.str ⟨#[c]⟩
theorem charsD_get {z : Str} {i : Nat} {d : D} (h : (charsD z)[i]? = some d) : ∃ c, z.cps[i]? = some c ∧ d = .str ⟨#[c]⟩ := by
  unfold charsD at h
  rw [List.getElem?_map] at h
  cases e : z.cps.toList[i]? with
  | none => rw [e] at h; cases h
  | some c => rw [e] at h; cases h; exact ⟨c, by simpa using e, rfl⟩
theorem charsD_len (z : Str) : (charsD z).length = z.cps.size := by unfold charsD; simp
theorem charsD_rep {z : Str} (hz : sOk z = true) {c : Nat} {i : Nat} (h : z.cps[i]? = some c) : Rep K H0 (.str ⟨#[c]⟩) (.str ⟨#[c]⟩) :=
  .str _ (strOk_get hz (by rw [← Array.getElem?_toList] at h; exact List.mem_of_getElem? h))
def itemsR : D → R (List D)
  | .lst xs => .ok xs
  | .tup xs => .ok xs
  | .str z => .ok (charsD z)
  | .frz ns => if ns.length ≤ sizeLine then .ok (ns.map D.int) else .bad
  | _ => .bad
theorem RepX.lstAt {v : V} {xs : List D} (r : RepX c K H0 H v (.lst xs)) (s : Same H0 H) : ∃ a vs, v = .ref a ∧ (if c = true then H0 else H) a = some (.lst vs) ∧ H a = some (.lst vs) ∧ RepAll K H0 vs xs := by
  cases c with
  | true =>
    cases r with | lst h _ r => exact ⟨_, _, rfl, h, s _ _ h, r⟩
  | false =>
    obtain ⟨a, vs, e, h, r⟩ := RepX.lst r s
    exact ⟨a, vs, e, h, h, r⟩
def iSeq (K : PySem.W.Frag) (te : TE) : TI := fun σ H R' => te σ H fun v H1 => (∃ a vs, v = .ref a ∧ SqL K H1 a vs ∧ R' (Itl K a) H1) ∨ (∃ a vs, v = .ref a ∧ SqT K H1 a vs ∧ R' (Itt K a) H1) ∨ (∃ z, v = .str z ∧ R' (Its z) H1)
theorem pi_seq {te : TE} (he : PE X e te) : PI X tg e (iSeq X.K te) := by
  refine ⟨fun pins s σ H R' I h => ?_⟩
  refine thn (he.run pins s σ H _ I h) fun v s1 ⟨x, H1, I1, r1, q1⟩ => ?_
  rcases q1 with ⟨a, vs, e, hq, q⟩ | ⟨a, vs, e, hq, q⟩ | ⟨z, ex, q⟩
  · subst e
    cases r1
    obtain ⟨its, rv, p, hz⟩ := I1.list hq
    refine wpAny_pyIter_list p.isList ?_
    refine ⟨s1.heap.objs.size, [s1.heap.objs.size], _, _, H1, rfl, I1.kept (t' := s1.toks) fun b o e => Heap.get?_push_of_some _ e, turn_list a _, ⟨_, Heap.get?_push_size _ rfl, rfl, rfl⟩, fun b hb => ?_, q⟩
    have e : b = s1.heap.objs.size := by simpa using hb
    subst e
    exact I1.fpOk (Nat.le_refl _) (I1.hok.fresh (Nat.le_refl _))
  · subst e
    cases r1
    obtain ⟨its, rv, p, hz⟩ := I1.tuple hq
    refine wpAny_pyIter_tuple (show s1.heap.IsTuple a its.toArray from p) ?_
    refine ⟨s1.heap.objs.size, [s1.heap.objs.size], _, _, H1, rfl, I1.kept (t' := s1.toks) fun b o e => Heap.get?_push_of_some _ e, turn_tuple a _, ⟨_, Heap.get?_push_size _ rfl, rfl, rfl⟩, fun b hb => ?_, q⟩
    have e : b = s1.heap.objs.size := by simpa using hb
    subst e
    exact I1.fpOk (Nat.le_refl _) (I1.hok.fresh (Nat.le_refl _))
  · subst ex
    obtain ⟨t, rfl⟩ := r1
    cases ha : z.cps.all (· < 128)
    · exact wpAny_pyIter_wide ha (pi_one (tk := s1.toks) I1 _ (turn_str _ z t "str_iterator" (.inr rfl)) ⟨_, Heap.get?_push_size _ rfl, rfl, rfl⟩ q)
    · exact wpAny_pyIter_ascii ha (pi_one (tk := s1.toks) I1 _ (turn_str _ z t "str_ascii_iterator" (.inl rfl)) ⟨_, Heap.get?_push_size _ rfl, rfl, rfl⟩ q)
theorem feeds_list {a : Addr} {vs : List V} {xs : List D} {Hs : Hp} (h : Hs a = some (.lst vs)) (z : xs.length ≤ sizeLine) (r : RepAll K H0 vs xs) : Feeds K H0 Hs (Itl K a) xs :=
  ⟨z, _, _, by rw [← r.length]; exact walk_list (xs := vs), fun H1 s => SqL.of (s _ _ h), fun i H1 x H2 d _ hd y => by
    obtain ⟨v, hv, rv⟩ := r.get hd
    have := y.2
    rw [hv] at this
    cases this
    exact .inl ⟨y.1, rv⟩⟩
theorem feeds_tup {a : Addr} {vs : List V} {xs : List D} {Hs : Hp} (h : Hs a = some (.tup vs)) (z : xs.length ≤ sizeLine) (r : RepAll K H0 vs xs) : Feeds K H0 Hs (Itt K a) xs :=
  ⟨z, _, _, by rw [← r.length]; exact walk_tup (xs := vs), fun H1 s => SqT.of (s _ _ h), fun i H1 x H2 d _ hd y => by
    obtain ⟨v, hv, rv⟩ := r.get hd
    have := y.2
    rw [hv] at this
    cases this
    exact .inl ⟨y.1, rv⟩⟩
theorem feeds_str {z : Str} {Hs : Hp} (hz : sOk z = true) : Feeds K H0 Hs (Its z) (charsD z) :=
  ⟨by rw [charsD_len, sizeLine_eq]; exact of_decide_eq_true (Bool.and_eq_true_iff.mp hz).2, _, _, by rw [charsD_len]; exact walk_str (z := z), fun _ _ => trivial, fun i H1 x H2 d _ hd y => by
    obtain ⟨c, hc, e⟩ := charsD_get hd
    obtain ⟨y1, c', hc', e'⟩ := y
    rw [hc] at hc'; cases hc'
    subst e e'
    exact .inl ⟨y1, charsD_rep hz hc⟩⟩
theorem ifSame {H1 : Hp} (s : Same H0 H) (h : Same (if c = true then H0 else H) H1) : Same H0 H1 := by
  cases c with
  | true => exact h
  | false => exact s.trans h
theorem di_seq (he : DE X W ξ c e f) : DI X W ξ c tg e (eUn itemsR f) :=
  piImp (pi_seq he) fun σ H R' ⟨M, H0, env, E, p⟩ => ⟨M, H0, env, E, bindE wishI p fun d v H1 H2 g r p1 => by
    unfold itemsR at p1
    split at p1
    · have z := r.lstLen
      obtain ⟨a, vs, rfl, h1, h2, r2⟩ := r.lstAt g.e.same
      exact .inl ⟨a, vs, rfl, SqL.of h2, p1 _ H1 H2 (.refl g.e) (feeds_list h1 z r2)⟩
    · have z := r.tupLen
      obtain ⟨a, vs, rfl, h1, r2⟩ := r.tup
      refine .inr (.inl ⟨a, vs, rfl, SqT.of (g.e.same _ _ h1), p1 _ H1 H2 (.refl g.e) (feeds_tup ?_ z r2)⟩)
      cases c with
      | true => exact h1
      | false => exact g.e.same _ _ h1
    · exact .inr (.inr ⟨_, r.str, p1 _ H1 H2 (.refl g.e) (feeds_str r.sok)⟩)
    · split at p1
      · rename_i ns hz
        obtain ⟨a, e1, hq⟩ := RepX.frz r g.e.same
        subst e1
        refine .inl ⟨a, _, rfl, hq, p1 _ H1 H2 (.refl g.e) ⟨by rw [List.length_map]; exact hz, _, _, by rw [List.length_map]; exact (List.length_map V.int (as := ns)) ▸ walk_list (xs := ns.map V.int), fun H3 s => ?_, fun i H3 x H4 d _ hd y => ?_⟩⟩
        · cases c with
          | true =>
            cases r with | frz hq' => exact s.seq hq'
          | false => exact s.seq hq
        · have r2 : RepAll X.K H1 (ns.map V.int) (ns.map D.int) := repAll_ints ns
          obtain ⟨v, hv, rv⟩ := r2.get hd
          have := y.2
          rw [hv] at this
          cases this
          exact .inl ⟨y.1, rv⟩
      · exact p1.elim
    · exact p1.elim⟩
def pairs0 (xs : List D) : List D := xs.zipIdx.map fun p => .tup [.int (p.2 : Nat), p.1]
theorem pairs0_get {xs : List D} {i : Nat} {d : D} (h : (pairs0 xs)[i]? = some d) : ∃ x, xs[i]? = some x ∧ d = .tup [.int (i : Nat), x] := by
  unfold pairs0 at h
  rw [List.getElem?_map, List.getElem?_zipIdx] at h
  cases e : xs[i]? with
  | none => rw [e] at h; cases h
  | some x => rw [e] at h; cases h; exact ⟨x, rfl, by simp⟩
def fEn (A : En → R D) : En → R (List D) := fun env => A env >>= fun d => (match d with | .lst xs => R.ok xs | _ => R.bad) >>= fun xs => .ok (pairs0 xs)
def fEnT (A : En → R D) : En → R (List D) := fun env => A env >>= fun d => (match d with | .tup xs => R.ok xs | .str z => R.ok (charsD z) | _ => R.bad) >>= fun xs => .ok (pairs0 xs)
theorem di_enumT (hm : X.mg "enumerate" = none) (he : DE X W ξ c e f) (hg : Gl X "enumerate" := by rfl) (hs : starEach [e] X.env = (false, eval e X.env) :: starEach [] X.env := by rfl) : DI X W ξ c (.Tuple elts kk tpos) (.Call (.Name "enumerate" p) [e] [] pos) (fEnT f) :=
  piImp (pi_enumT hg hm he hs) fun σ H R' ⟨M, H0, env, E, p⟩ => ⟨M, H0, env, E, bindE wishI p fun d v H1 H2 g r p1 => by
    split at p1
    · have z := r.tupLen
      obtain ⟨a, vs, rfl, h1, r2⟩ := r.tup
      refine .inl ⟨a, vs, rfl, g.e.same _ _ h1, p1 _ H1 H2 (.refl g.e) ⟨by unfold pairs0; rw [List.length_map, List.length_zipIdx]; exact z, _, _, by unfold pairs0; rw [List.length_map, List.length_zipIdx, ← r2.length]; exact walk_E, fun H3 s => ifSame g.e.same s _ _ h1, fun i H3 x H4 d _ hd y => ?_⟩⟩
      obtain ⟨T, x1, e1, e2, e3, e5⟩ := y
      obtain ⟨y, hy, e6⟩ := pairs0_get hd
      obtain ⟨v, hv, rv⟩ := r2.get hy
      rw [hv] at e5
      cases e5
      exact .inr ⟨T, _, _, e2, e3, e1, e6, (by show 2 ≤ sizeLine; decide), .cons (.int _) (.cons rv .nil)⟩
    · refine .inr ⟨_, r.str, p1 _ H1 H2 (.refl g.e) ⟨by unfold pairs0; rw [List.length_map, List.length_zipIdx, charsD_len]; exact r.slen, _, _, by unfold pairs0; rw [List.length_map, List.length_zipIdx, charsD_len]; exact walk_E, fun _ _ => trivial, fun i H3 x H4 d _ hd y => ?_⟩⟩
      obtain ⟨T, x1, e1, e2, e3, c, hc, e5⟩ := y
      obtain ⟨y, hy, e6⟩ := pairs0_get hd
      obtain ⟨c', hc', e7⟩ := charsD_get hy
      rw [hc] at hc'; cases hc'
      subst e5 e7
      exact .inr ⟨T, _, _, e2, e3, e1, e6, (by show 2 ≤ sizeLine; decide), .cons (.int _) (.cons (charsD_rep r.sok hc) .nil)⟩
    · exact p1.elim⟩
def rngD (lo : Int) (n : Nat) : List D := (List.range n).map fun i => .int (lo + (i : Nat))
theorem rngD_get {lo : Int} {n i : Nat} {d : D} (h : (rngD lo n)[i]? = some d) : d = .int (lo + (i : Nat)) := by
  unfold rngD at h
  rw [List.getElem?_map] at h
  cases e : (List.range n)[i]? with
  | none => rw [e] at h; cases h
  | some j =>
    rw [e] at h
    cases h
    rw [List.getElem?_range (by
      have := (List.getElem?_eq_some_iff.mp e).1
      simpa using this)] at e
    cases e; rfl
theorem feeds_rng {lo : Int} {n : Nat} {Hs : Hp} (hz : n ≤ 16777216) : Feeds K H0 Hs (Itr lo n) (rngD lo n) :=
  ⟨by unfold rngD; rw [List.length_map, List.length_range, sizeLine_eq]; exact hz, _, _, by unfold rngD; rw [List.length_map, List.length_range]; exact walk_range, fun _ _ => trivial, fun i H1 x H2 d _ hd y => by
    rw [rngD_get hd, y.2]
    exact .inl ⟨y.1, .int _⟩⟩
def range1R (d : D) : R (List D) := match d with
  | .int j => if -16777216 ≤ j ∧ j ≤ 16777216 then .ok (rngD 0 j.toNat) else .bad
  | _ => .bad
def range2R (d d2 : D) : R (List D) := match d, d2 with
  | .int i, .int j => if -8388608 ≤ i ∧ i ≤ 8388608 ∧ -8388608 ≤ j ∧ j ≤ 8388608 then .ok (rngD i (j - i).toNat) else .bad
  | _, _ => .bad
theorem di_range1 {c1 : Bool} (hm : X.mg "range" = none) (ha : DE X W ξ c1 e f) (hg : Gl X "range" := by rfl) (hs : starEach [e] X.env = [(false, eval e X.env)] := by rfl) : DI X W ξ c tg (.Call (.Name "range" p) [e] [] pos) (eUn range1R f) :=
  piImp (pi_range1 hg hm (pa_cons ha pa_nil hs) hs) fun σ H R' ⟨M, H0, env, E, p⟩ => ⟨M, H0, env, E, bindE wishI p fun d v H1 H2 g r p1 => by
    unfold range1R at p1
    split at p1
    · split at p1
      · rename_i h
        exact ⟨_, by rw [RepX.int r], by omega, by omega, p1 _ H1 H2 (.refl g.e) (feeds_rng (by omega))⟩
      · exact p1.elim
    · exact p1.elim⟩
def fRng2 (A B : En → R D) : En → R (List D) := fun env => A env >>= fun x => B env >>= fun y => range2R x y
end
end Dx

namespace Dx
open PySem PySem.Spec PyProof.Rows L2

def compO (T : D → En → R En) (C : En → R Bool) (F : En → R D) (env : En) : List D → R (List D)
  | [] => .ok []
  | d :: ds => match T d env with
    | .ok e1 => (match C e1 with
      | .ok true => (match F e1 with
        | .ok x => compO T C F env ds >>= fun xs => .ok (x :: xs)
        | _ => .bad)
      | .ok false => compO T C F env ds
      | _ => .bad)
    | _ => .bad
def wipeE (env : En) (vs : List Nat) : En := vs.foldr (fun i e => e.set i .u) env
abbrev W0 : WX := fun _ _ _ _ => False

section
variable {K : PySem.W.Frag} {ξ : Str → Value} {M : Fm ξ} {σ : L2.St} {env : En} {H0 H H0' H' : Hp}
theorem EnvAt.wipe (E : EnvAt K M H0 H σ env) : ∀ vs : List Nat, EnvAt K M H0 H (L2.wipe σ vs) (wipeE env vs)
  | [] => E
  | v :: vs => (E.wipe vs).unset v
def Fm.plus (M : Fm ξ) (D : Addr) : Fm ξ := ⟨M.G, fun a => M.N a ∨ a = D, M.T, M.R⟩
theorem EnvAt.plus (E : EnvAt K M H0 H σ env) {Da : Addr} {o : HO} (n : NewAt M σ env H0 H Da o) : EnvAt K (M.plus Da) H0 H σ env := by
  refine ⟨E.same, E.fr, fun a h => ?_, E.len, fun i s h => ?_, E.sep, fun a j h => ?_, E.tg⟩
  · rcases h with h | h
    · exact E.nogo a h
    · subst h; exact ⟨n.h0, fun z => by have q := n.at_; rw [z] at q; cases q⟩
  · have q := E.slot i s h
    cases s with
    | u => trivial
    | d x => exact q
    | ol xs => exact q
    | od xs => exact q
    | ex => exact q
    | tr n k t => exact q
  · rcases h with h | h
    · exact E.ng a j h
    · subst h; exact n.w j
theorem EnvAt.minus {Da : Addr} (E : EnvAt K (M.plus Da) H0 H σ env) : EnvAt K M H0 H σ env :=
  ⟨E.same, E.fr, fun a h => E.nogo a (.inl h), E.len, fun i s h => by
    have q := E.slot i s h
    cases s with
    | u => trivial
    | d x => exact q
    | ol xs => exact q
    | od xs => exact q
    | ex => exact q
    | tr n k t => exact q, E.sep, fun a j h => E.ng a j (.inl h), E.tg⟩
theorem EnvAt.app {Da : Addr} (E : EnvAt K (M.plus Da) H0 H σ env) (hg : M.G Da = none) (o : HO) : EnvAt K (M.plus Da) H0 (upd H Da o) σ env := by
  have h0 := (E.nogo Da (.inr rfl)).1
  refine ⟨fun b u e => ?_, fun b u e => ?_, fun a h => ⟨(E.nogo a h).1, ?_⟩, E.len, fun i s h => ?_, E.sep, E.ng, E.tg⟩
  · rw [upd_ne (ne_of_none e h0)]; exact E.same _ _ e
  · rw [upd_ne (ne_of_none e hg)]; exact E.fr _ _ e
  · by_cases hb : a = Da
    · subst hb; rw [upd_same]; intro z; cases z
    · rw [upd_ne hb]; exact (E.nogo a h).2
  · have q := E.slot i s h
    have ne : ∀ {a}, σ[i]? = some (some (.ref a)) → s.own = true → a ≠ Da := fun {a} e o z => by
      subst z; exact E.ng a i (.inr rfl) ⟨e, s, h, o⟩
    cases s with
    | u => trivial
    | d x => exact q
    | ol xs => obtain ⟨a, vs, e, z0, zg, ha, r⟩ := q; exact ⟨a, vs, e, z0, zg, by rw [upd_ne (ne e rfl)]; exact ha, r⟩
    | od xs => obtain ⟨a, vs, e, z0, zg, ha, r⟩ := q; exact ⟨a, vs, e, z0, zg, by rw [upd_ne (ne e rfl)]; exact ha, r⟩
    | ex => exact q
    | tr n k t => exact q
theorem wipe_idem (σ : L2.St) : ∀ vs : List Nat, ∀ i ∈ vs, (L2.wipe σ vs).set i none = L2.wipe σ vs
  | [], i, h => by cases h
  | v :: vs, i, h => by
    show ((L2.wipe σ vs).set v none).set i none = (L2.wipe σ vs).set v none
    by_cases e : i = v
    · subst e; rw [List.set_set]
    · have : i ∈ vs := by
        rcases List.mem_cons.mp h with z | z
        · exact absurd z e
        · exact z
      rw [List.set_comm _ _ (Ne.symm e), wipe_idem σ vs i this]
theorem wipe_sub (σ σ' : L2.St) (ts vs : List Nat) (hs : ∀ i ∈ ts, i ∈ vs) (h : L2.wipe σ' ts = L2.wipe σ ts) : L2.wipe σ' vs = L2.wipe σ vs := by
  have key : ∀ (τ : L2.St) (us : List Nat), (∀ i ∈ us, i ∈ vs) → L2.wipe (L2.wipe τ us) vs = L2.wipe τ vs := by
    intro τ us hus
    have sw : ∀ (τ : L2.St) (i : Nat), i ∈ vs → L2.wipe (τ.set i none) vs = L2.wipe τ vs := by
      intro τ i hi
      have h1 : ∀ (ws : List Nat) (τ : L2.St), L2.wipe (τ.set i none) ws = (L2.wipe τ ws).set i none := by
        intro ws
        induction ws with
        | nil => intro τ; rfl
        | cons u ws ih =>
          intro τ
          show (L2.wipe (τ.set i none) ws).set u none = ((L2.wipe τ ws).set u none).set i none
          rw [ih]
          by_cases e : i = u
          · subst e; rfl
          · rw [List.set_comm _ _ e]
      rw [h1, wipe_idem τ vs i hi]
    induction us generalizing τ with
    | nil => rfl
    | cons u us ih =>
      show L2.wipe ((L2.wipe τ us).set u none) vs = _
      rw [sw _ u (hus u (by simp)), ih τ fun i hi => hus i (by simp [hi])]
  rw [← key σ' ts hs, h, key σ ts hs]
theorem wipe_wipe (σ : L2.St) (vs : List Nat) : L2.wipe (L2.wipe σ vs) vs = L2.wipe σ vs := by
  have : ∀ us : List Nat, (∀ i ∈ us, i ∈ vs) → L2.wipe (L2.wipe σ vs) us = L2.wipe σ vs := by
    intro us
    induction us with
    | nil => intro _; rfl
    | cons u us ih =>
      intro h
      show (L2.wipe (L2.wipe σ vs) us).set u none = _
      rw [ih fun i hi => h i (by simp [hi]), wipe_idem σ vs u (h u (by simp))]
  exact this vs fun _ h => h
end

section
variable {X : Cx} {W : WX} {ξ : Str → Value} {elt tg iter : Expr} {ifs : List Expr} {scope : Scope} {own : List (Str × Nat)} {pos pos' : Pos} {c : Bool}
variable {Fi : En → R (List D)} {T : D → En → R En} {C : En → R Bool} {F : En → R D} {ts : List Nat}
abbrev DTs (X : Cx) (W : WX) (ξ : Str → Value) (ifs : List Expr) (C : En → R Bool) : Prop := PTs X ifs (tDT X.K W ξ C)
def tTrue : En → R Bool := fun _ => .ok true
theorem dts_nil : DTs X W ξ [] tTrue := ⟨fun pins s σ H Q I ⟨M, H0, env, E, p⟩ => pts_nil.run pins s σ H Q I (p H0 H (.refl E))⟩
theorem dts_one {e : Expr} (h : DT X W ξ e C) : DTs X W ξ [e] C := pts_one h
theorem lc_loop {K : PySem.W.Frag} {Wo : WX} {M : Fm ξ} {σ : L2.St} {env : En} {H0 H : Hp} {Q : VK} (vs : List Nat) (hts : ∀ i ∈ ts, i ∈ vs) {J : It} {ds : List D} (E : EnvAt K M H0 H σ env) (fd : Feeds K H0 (if c = true then H0 else H) J ds)
    (p : PostF K Wo ξ M σ env H0 H Q (compO T C F (wipeE env vs) ds)) :
    ∀ Da, H Da = none → ∃ W : Nat → Nat → Hp → Prop, (∃ m, W 0 m (upd H Da (.lst []))) ∧ ∀ i m H, W i m H →
      (J.stop i H ∧ Q (.ref Da) H) ∨ (J.go i H ∧ ∃ Nx : Hp → Prop, (∀ H', Nx H' → ∃ m', m' < m ∧ W (i + 1) m' H') ∧ ∀ x H', J.yld i H x H' → tDG K ξ ts T x (wipe σ vs) H' fun σ2 H2 => wipe σ2 vs = wipe σ vs ∧ tDT K W0 ξ C σ2 H2 fun b H3 =>
        if b = true then tD K W0 ξ true F σ2 H3 fun y H4 => ∃ acc, H4 Da = some (.lst acc) ∧ acc.length < sizeLine ∧ Nx (upd H4 Da (.lst (acc ++ [y]))) else Nx H3) := by
  intro Da hDa
  obtain ⟨hlen, Gd, Y, wk, hGd, hY⟩ := fd
  obtain ⟨g0, n0⟩ := E.newAt (o := .lst []) hDa
  have hg : M.G Da = none := n0.g
  have ifS : ∀ {H1 H01 : Hp}, Same H0 H01 → Same H01 H1 → Same H H1 → Gd H1 := fun a b cc => hGd _ (by
    cases c with
    | true => exact a.trans b
    | false => exact cc)
  refine lc_it (g := tDG K ξ ts T) (tt := tDT K W0 ξ C) (te := tD K W0 ξ true F) wk (fun i H1 => ∃ H01 acc done, Same H0 H01 ∧ Same H H1 ∧ EnvAt K (M.plus Da) H01 H1 σ env ∧ H1 Da = some (.lst acc) ∧ RepAll K H01 acc done ∧ acc.length ≤ i ∧ (∀ a, H a ≠ none → H0 a = none → H01 a = none) ∧
      (∃ rest, compO T C F (wipeE env vs) (ds.drop i) = .ok rest ∧ compO T C F (wipeE env vs) ds = .ok (done ++ rest)))
    ?_ (fun i H1 _ ⟨H01, acc, done, s0, s, E1, _⟩ => ifS s0 E1.same s) (fun i x H1 H2 hi ⟨H01, acc, done, s0, s, E1, hacc, racc, hal, hnew, rest, hrest, hall⟩ y => ?_) fun H1 ⟨H01, acc, done, s0, s, E1, hacc, racc, hal, hnew, rest, hrest, hall⟩ => ?_
  · cases h : compO T C F (wipeE env vs) ds with
    | ok xs => exact ⟨H0, [], [], Same.refl _, same_upd hDa, g0.e.plus n0, upd_same, .nil, Nat.le_refl _, fun _ _ z => z, xs, by rw [List.drop_zero]; exact h, rfl⟩
    | exc x =>
      exfalso
      have : ∀ l, compO T C F (wipeE env vs) l ≠ .exc x := by
        intro l
        induction l with
        | nil => intro z; cases z
        | cons d l ih =>
          intro z
          unfold compO at z
          split at z
          · split at z
            · split at z
              · cases hl : compO T C F (wipeE env vs) l with
                | ok xs => rw [hl] at z; cases z
                | exc y => rw [hl] at z; cases z; exact ih hl
                | bad => rw [hl] at z; cases z
              · cases z
            · exact ih z
            · cases z
          · cases z
      exact this ds h
    | bad => rw [h] at p; exact p.elim
  · obtain ⟨d, hd⟩ : ∃ d, ds[i]? = some d := ⟨ds[i], by simp [hi]⟩
    have hdrop : ds.drop i = d :: ds.drop (i + 1) := by
      rw [List.drop_eq_getElem_cons hi]
      rw [List.getElem?_eq_getElem hi] at hd
      cases hd; rfl
    rw [hdrop] at hrest
    unfold compO at hrest
    have fin : ∀ {H02 : Hp}, Gr K (M.plus Da) σ env H01 H1 H02 H2 → Rep K H02 x d → tDG K ξ ts T x (wipe σ vs) H2 fun σ2 H2 => wipe σ2 vs = wipe σ vs ∧ tDT K W0 ξ C σ2 H2 fun b H3 =>
        if b = true then tD K W0 ξ true F σ2 H3 fun y H4 => ∃ acc, H4 Da = some (.lst acc) ∧ acc.length < sizeLine ∧ (∃ H01 acc' done, Same H0 H01 ∧ Same H (upd H4 Da (.lst (acc ++ [y]))) ∧ EnvAt K (M.plus Da) H01 (upd H4 Da (.lst (acc ++ [y]))) σ env ∧ (upd H4 Da (.lst (acc ++ [y]))) Da = some (.lst acc') ∧ RepAll K H01 acc' done ∧ acc'.length ≤ i + 1 ∧ (∀ a, H a ≠ none → H0 a = none → H01 a = none) ∧
          (∃ rest, compO T C F (wipeE env vs) (ds.drop (i + 1)) = .ok rest ∧ compO T C F (wipeE env vs) ds = .ok (done ++ rest)))
        else (∃ H01 acc done, Same H0 H01 ∧ Same H H3 ∧ EnvAt K (M.plus Da) H01 H3 σ env ∧ H3 Da = some (.lst acc) ∧ RepAll K H01 acc done ∧ acc.length ≤ i + 1 ∧ (∀ a, H a ≠ none → H0 a = none → H01 a = none) ∧
          (∃ rest, compO T C F (wipeE env vs) (ds.drop (i + 1)) = .ok rest ∧ compO T C F (wipeE env vs) ds = .ok (done ++ rest))) := by
      intro H02 g2 r
      split at hrest
      · rename_i e1 he1
        refine ⟨M.plus Da, H02, wipeE env vs, d, e1, g2.e.wipe vs, r, he1, fun σ2 hw E3 => ⟨?_, ?_⟩⟩
        · rw [wipe_sub _ _ ts vs hts hw, wipe_wipe]
        · refine ⟨M.plus Da, H02, e1, E3, ?_⟩
          have back : ∀ {H03 H3 : Hp}, Gr K (M.plus Da) σ2 e1 H02 H2 H03 H3 → Gr K (M.plus Da) σ env H01 H1 H03 H3 := fun {H03 H3} g3 =>
            g2.trans ⟨g3.s0, g3.s, g2.e.grow g3.s0 g3.s g3.e.same g3.n, g3.n⟩
          split at hrest
          · rename_i hC
            rw [hC]
            intro H03 H3 g3
            rw [if_pos rfl]
            split at hrest
            · rename_i x' hF
              refine ⟨M.plus Da, H03, e1, g3.e, ?_⟩
              rw [hF]
              intro v H04 H4 g4 rv
              have gg : Gr K (M.plus Da) σ env H01 H1 H04 H4 := (back g3).trans ⟨g4.s0, g4.s, (back g3).e.grow g4.s0 g4.s g4.e.same g4.n, g4.n⟩
              have rv : Rep K H04 v x' := rv
              refine ⟨acc, gg.s _ _ hacc, by have := hlen; omega, ?_⟩
              cases hl : compO T C F (wipeE env vs) (ds.drop (i + 1)) with
              | ok xs =>
                rw [hl] at hrest
                cases hrest
                have s4 : Same H (upd H4 Da (.lst (acc ++ [v]))) := fun b o e => by
                  rw [upd_ne (ne_of_none e hDa)]; exact gg.s _ _ (s _ _ e)
                refine ⟨H04, acc ++ [v], done ++ [x'], s0.trans gg.s0, s4, gg.e.app hg _, upd_same, (racc.mono gg.s0).snoc rv, by simp; omega, fun a h1 h2 => gg.n a (fun z => h1 (s.free z)) (hnew a h1 h2), xs, rfl, ?_⟩
                rw [hall]; simp
              | exc x => rw [hl] at hrest; cases hrest
              | bad => rw [hl] at hrest; cases hrest
            · cases hrest
          · rename_i hC
            rw [hC]
            intro H03 H3 g3
            rw [if_neg Bool.false_ne_true]
            have gg := back g3
            exact ⟨H03, acc, done, s0.trans gg.s0, s.trans gg.s, gg.e, gg.s _ _ hacc, racc.mono gg.s0, by omega, fun a h1 h2 => gg.n a (fun z => h1 (s.free z)) (hnew a h1 h2), rest, hrest, hall⟩
          · cases hrest
      · cases hrest
    rcases hY i H1 x H2 d (ifS s0 E1.same s) hd y with ⟨e1, r⟩ | ⟨T', ws, ds', hT, e1, e2, e3, hz, r⟩
    · subst e1
      exact fin (Gr.refl E1) (r.mono s0)
    · subst e1 e2 e3
      have n := E1.new (o := .tup ws) hT
      exact fin n (.tup upd_same hz (r.mono (s0.trans n.s0)))
  · rw [List.drop_length] at hrest
    cases hrest
    rw [List.append_nil] at hall
    rw [hall] at p
    have hd0 : H01 Da = none := (E1.nogo Da (.inr rfl)).1
    refine p Da acc H01 H1 ⟨s0, s, E1.minus, hnew⟩ hDa ⟨hacc, hd0, hg, n0.n, n0.w⟩ ⟨?_, racc⟩
    rw [← racc.length]
    exact Nat.le_trans hal hlen
theorem compI {K : PySem.W.Frag} {M : Fm ξ} {σ : L2.St} {env : En} {H0 H : Hp} {Q : VK} {R' : It → Hp → Prop} {x : R (List D)} {k : List D → R (List D)} (p : PostF K W ξ M σ env H0 H Q (x >>= k))
    (h : ∀ ds J H0' H', Gr K M σ env H0 H H0' H' → Feeds K H0' (if c = true then H0' else H') J ds → PostF K W ξ M σ env H0' H' Q (k ds) → R' J H') : PostI K W ξ M σ env c H0 H R' x := by
  cases x with
  | ok ds => exact fun J H0' H' g f => h ds J H0' H' g f (PostF.weak g p)
  | exc x => exact fun H0' H' g => p H0' H' g
  | bad => exact p
theorem lc_imp {K : PySem.W.Frag} (hts : ∀ i ∈ ts, i ∈ own.map (·.2)) : ∀ σ H Q, tDF K W ξ (fun env => Fi env >>= fun ds => compO T C F (wipeE env (own.map (·.2))) ds) σ H Q → tLc (tDI K W ξ c Fi) (tDG K ξ ts T) (tDT K W0 ξ C) (tD K W0 ξ true F) (own.map (·.2)) σ H Q :=
  fun σ H Q ⟨M, H0, env, E, p⟩ => ⟨M, H0, env, E, compI p fun ds J H1 H2 g f p1 => lc_loop (own.map (·.2)) hts g.e f p1⟩
def eComp (I : En → R (List D)) (T : D → En → R En) (C : En → R Bool) (F : En → R D) (own : List Nat) : En → R (List D) := fun env => I env >>= fun ds => compO T C F (wipeE env own) ds
theorem df_lc (hN : X.N.Nodup) (hi : DI X W ξ c tg iter Fi) (ok : blkC X.N X.env.scope scope own = true) (hg : ∀ (s : Shared) (H : Hp) (C : Addr) (cl : List (Str × Addr)) (fp : List Addr), DGt (X.blk s H scope (compEnvC scope cl C X.env) fp) ξ tg ts T)
    (ht : ∀ (s : Shared) (H : Hp) (Ca : Addr) (cl : List (Str × Addr)) (fp : List Addr), DTs (X.blk s H scope (compEnvC scope cl Ca X.env) fp) W0 ξ ifs C)
    (he : ∀ (s : Shared) (H : Hp) (C : Addr) (cl : List (Str × Addr)) (fp : List Addr), DE (X.blk s H scope (compEnvC scope cl C X.env) fp) W0 ξ true elt F)
    (hts : ∀ i ∈ ts, i ∈ own.map (·.2) := by decide) (hc : X.calm = true := by rfl) (hs : ∀ x, foldedSetIterable iter X.env x = pure x := by intro _; rfl) :
    DF X W ξ (.ListComp elt [⟨tg, iter, ifs, 0⟩] scope pos) (eComp Fi T C F (own.map (·.2))) :=
  peImp (pe_lc hc hN hi (blkOk_by ok) hg ht he hs) (lc_imp hts)
theorem ds_lcG {i : Nat} {y : Str} {py : Pos} {spos : Pos} (hN : X.N.Nodup) (hi : DI X W ξ c tg iter Fi) (ok : blkC X.N X.env.scope scope own = true) (hg : ∀ (s : Shared) (H : Hp) (C : Addr) (cl : List (Str × Addr)) (fp : List Addr), DGt (X.blk s H scope (compEnvC scope cl C X.env) fp) ξ tg ts T)
    (ht : ∀ (s : Shared) (H : Hp) (Ca : Addr) (cl : List (Str × Addr)) (fp : List Addr), DTs (X.blk s H scope (compEnvC scope cl Ca X.env) fp) W0 ξ ifs C)
    (he : ∀ (s : Shared) (H : Hp) (C : Addr) (cl : List (Str × Addr)) (fp : List Addr), DE (X.blk s H scope (compEnvC scope cl C X.env) fp) W0 ξ true elt F)
    (hts : ∀ i ∈ ts, i ∈ own.map (·.2) := by decide) (hc : X.calm = true := by rfl) (hs : ∀ x, foldedSetIterable iter X.env x = pure x := by intro _; rfl) (hy : X.N[i]? = some y := by rfl) (hyl : X.env.scope.names.lookup y = some .local := by rfl)
    (hsw : swapsWith (.ListComp elt [⟨tg, iter, ifs, 0⟩] scope pos) (some (.Name y py)) spos.line X.env = pure true := by exact sw_true rfl rfl rfl (by decide +kernel)) :
    PS X (.Assign [.Name y py] (.ListComp elt [⟨tg, iter, ifs, 0⟩] scope pos) spos) (tAsg (tDF X.K W ξ (eComp Fi T C F (own.map (·.2)))) (gName i)) :=
  psImp (ps_setLc hc hN hy hyl hsw hi (blkOk_by ok) hg ht he hs) fun Dn σ H h => lc_imp hts σ H _ h
end
end Dx

namespace Dx
open PySem PySem.Spec PyProof.Rows L2
section
variable {X : Cx} {W : WX} {ξ : Str → Value} {e a b : Expr} {es : List Expr} {c c1 c2 c3 : Bool} {pos p : Pos} {fa fb : En → R D} {Fs : En → R (List D)} {x : Str}
variable {K : PySem.W.Frag} {M : Fm ξ} {σ : L2.St} {env : En} {H0 H : Hp} {Q : VK}
def CbD (X : Cx) (W : WX) (ξ : Str → Value) (f : Value) (g : List D → R D) : Prop := ∃ r : List V → Hp → VK → Prop, CallR X f r ∧
  ∀ {c : Bool} {M : Fm ξ} {σ : L2.St} {env : En} {H0 H : Hp} {Q : VK} {vs : List V} {ds : List D}, EnvAt X.K M H0 H σ env → RepXs X.K c H0 H vs ds → PostE X.K W ξ M σ env true H0 H Q (g ds) → r vs H Q
theorem de_callB {id : String} {g : List D → R D} (h : CbD X W ξ (.builtin id) g) (hm : X.mg x = none) (hv : bootBuiltins x = some (.builtin id)) (ha : DA X W ξ c (e :: es) Fs) (hg : Gl X x := by rfl) (hn : x ≠ "__name__" := by decide) (hdb : (x == ("__debug__" : Str)) = false := by decide)
    (he : starEach (e :: es) X.env = (false, eval e X.env) :: starEach es X.env := by rfl) (hpl : (backTo pos (starEach es X.env)).any (·.1) = false := by rfl) : DE X W ξ true (.Call (.Name x p) (e :: es) [] pos) (eUn g Fs) := by
  obtain ⟨r, hc, hr⟩ := h
  exact peImp (pe_callB hc hg hm hv ha hn hdb he hpl) fun σ H Q ⟨M, H0, env, E, p⟩ => ⟨M, H0, env, E, bindA wishE p fun ds vs H1 H2 g r p1 => hr g.e r p1⟩
theorem de_callTy {T : String} {g : List D → R D} (h : CbD X W ξ (.type T) g) (hm : X.mg x = none) (hv : bootBuiltins x = some (.type T)) (ha : DA X W ξ c (e :: es) Fs) (hg : Gl X x := by rfl) (hn : x ≠ "__name__" := by decide) (hdb : (x == ("__debug__" : Str)) = false := by decide)
    (he : starEach (e :: es) X.env = (false, eval e X.env) :: starEach es X.env := by rfl) (hpl : (backTo pos (starEach es X.env)).any (·.1) = false := by rfl) : DE X W ξ true (.Call (.Name x p) (e :: es) [] pos) (eUn g Fs) := by
  obtain ⟨r, hc, hr⟩ := h
  exact peImp (pe_callTy hc hg hm hv ha hn hdb he hpl) fun σ H Q ⟨M, H0, env, E, p⟩ => ⟨M, H0, env, E, bindA wishE p fun ds vs H1 H2 g r p1 => hr g.e r p1⟩
theorem x1 {vs : List V} {d : D} (r : RepXs K c H0 H vs [d]) : ∃ v, vs = [v] ∧ RepX c K H0 H v d := by
  cases r with
  | cons r t => cases t; exact ⟨_, rfl, r⟩
def lenR : List D → R D
  | [.lst xs] => .ok (.int xs.length)
  | [.tup xs] => .ok (.int xs.length)
  | [.str z] => .ok (.int z.length)
  | [.frz ns] => .ok (.int ns.length)
  | [.dic kvs] => .ok (.int kvs.length)
  | _ => .bad
theorem RepKv.length {vs : List (Key × V)} {xs : List (Key × D)} (r : RepKv K H vs xs) : vs.length = xs.length := by
  induction vs generalizing xs with
  | nil => cases r; rfl
  | cons v vs ih => cases r with | cons _ _ t => simp [ih t]
theorem call_lenDR : CallR X (.builtin "len") (fun xs H Q => ∃ a kvs, xs = [V.ref a] ∧ Rd H a (.dK kvs) ∧ Q (.int kvs.length) H) := by
  intro pins s σ H xs us Q I r h
  obtain ⟨a, kvs, rfl, ha, q⟩ := h
  obtain ⟨u, rfl, ru⟩ := vals1 r
  cases ru
  exact d_len I ha fun t s' I' => ⟨.int kvs.length, H, I', ⟨t, rfl⟩, q⟩
theorem cb_len : CbD X W ξ (.builtin "len") lenR := ⟨_, CallR.or call_len_seq (CallR.or call_len_str call_lenDR), fun {c M σ env H0 H Q vs ds} E r p => by
  unfold lenR at p
  split at p
  · obtain ⟨v, rfl, r0⟩ := x1 r
    obtain ⟨a, ws, rfl, h, q⟩ := RepX.lst r0 E.same
    exact .inl ⟨a, ws, rfl, .inl (SqL.of h), by rw [q.length]; exact post_ok E p (.int _)⟩
  · obtain ⟨v, rfl, r0⟩ := x1 r
    obtain ⟨a, ws, rfl, h, q⟩ := RepX.tup r0
    exact .inl ⟨a, ws, rfl, .inr (SqT.of (E.same _ _ h)), by rw [q.length]; exact post_ok E p (.int _)⟩
  · obtain ⟨v, rfl, r0⟩ := x1 r
    exact .inr (.inl ⟨_, by rw [RepX.str r0], RepX.slen r0, post_ok E p (.int _)⟩)
  · obtain ⟨v, rfl, r0⟩ := x1 r
    obtain ⟨a, rfl, h⟩ := RepX.frz r0 E.same
    exact .inl ⟨a, _, rfl, .inl h, by rw [List.length_map]; exact post_ok E p (.int _)⟩
  · obtain ⟨v, rfl, r0⟩ := x1 r
    obtain ⟨a, ws, rfl, h, q⟩ := RepX.dic r0 E.same
    exact .inr (.inr ⟨a, ws, rfl, h, by rw [q.length]; exact post_ok E p (.int _)⟩)
  · exact p.elim⟩
def int1R : List D → R D
  | [.int i] => .ok (.int i)
  | [.bl k] => .ok (.int (if k then 1 else 0))
  | _ => .bad
theorem cb_int1 : CbD X W ξ (.type "int") int1R := ⟨_, call_int1, fun {c M σ env H0 H Q vs ds} E r p => by
  unfold int1R at p
  split at p
  · obtain ⟨v, rfl, r0⟩ := x1 r
    exact .inl ⟨_, by rw [RepX.int r0], post_ok E p (.int _)⟩
  · obtain ⟨v, rfl, r0⟩ := x1 r
    exact .inr ⟨_, by rw [RepX.bl r0], post_ok E p (.int _)⟩
  · exact p.elim⟩
def tupleR : List D → R D
  | [.lst xs] => .ok (.tup xs)
  | [.tup xs] => .ok (.tup xs)
  | _ => .bad
theorem cb_tuple : CbD X W ξ (.type "tuple") tupleR := ⟨_, call_tuple_of, fun {c M σ env H0 H Q vs ds} E r p => by
  unfold tupleR at p
  split at p
  · obtain ⟨v, rfl, r0⟩ := x1 r
    have z := RepX.lstLen r0
    obtain ⟨a, ws, rfl, h, q⟩ := RepX.lst r0 E.same
    exact ⟨a, ws, rfl, .inl ⟨SqL.of h, new_tup E p z q⟩⟩
  · obtain ⟨v, rfl, r0⟩ := x1 r
    have z := RepX.tupLen r0
    obtain ⟨a, ws, rfl, h, q⟩ := RepX.tup r0
    exact ⟨a, ws, rfl, .inr ⟨SqT.of (E.same _ _ h), post_ok E p (.tup h z q)⟩⟩
  · exact p.elim⟩
def intsOf : List D → Option (List Int)
  | [] => some []
  | .int i :: xs => (intsOf xs).map (i :: ·)
  | _ :: _ => none
def strsOf : List D → Option (List Str)
  | [] => some []
  | .str i :: xs => (strsOf xs).map (i :: ·)
  | _ :: _ => none
theorem intsOf_eq : ∀ {xs : List D} {ns : List Int}, intsOf xs = some ns → xs = ns.map D.int
  | [], _, h => by cases h; rfl
  | .int i :: xs, ns, h => by
    unfold intsOf at h
    cases e : intsOf xs with
    | none => rw [e] at h; cases h
    | some ms => rw [e] at h; cases h; rw [intsOf_eq e]; rfl
  | .non :: _, _, h => by cases h
  | .bl _ :: _, _, h => by cases h
  | .str _ :: _, _, h => by cases h
  | .tup _ :: _, _, h => by cases h
  | .lst _ :: _, _, h => by cases h
  | .dic _ :: _, _, h => by cases h
  | .frz _ :: _, _, h => by cases h
  | .opq :: _, _, h => by cases h
theorem strsOf_eq : ∀ {xs : List D} {ns : List Str}, strsOf xs = some ns → xs = ns.map D.str
  | [], _, h => by cases h; rfl
  | .str i :: xs, ns, h => by
    unfold strsOf at h
    cases e : strsOf xs with
    | none => rw [e] at h; cases h
    | some ms => rw [e] at h; cases h; rw [strsOf_eq e]; rfl
  | .non :: _, _, h => by cases h
  | .bl _ :: _, _, h => by cases h
  | .int _ :: _, _, h => by cases h
  | .tup _ :: _, _, h => by cases h
  | .lst _ :: _, _, h => by cases h
  | .dic _ :: _, _, h => by cases h
  | .frz _ :: _, _, h => by cases h
  | .opq :: _, _, h => by cases h
theorem strsOf_map (ns : List Str) : strsOf (ns.map D.str) = some ns := by
  induction ns with
  | nil => rfl
  | cons n ns ih => simp [strsOf, ih]
end
end Dx

namespace Dx
open PySem PySem.Spec PyProof.Rows L2
section
variable {X : Cx} {W : WX} {ξ : Str → Value} {e a b o : Expr} {es : List Expr} {c c1 c2 c3 : Bool} {pos p apos : Pos} {fa fb fo : En → R D} {Fs : En → R (List D)} {x : Str}
variable {K : PySem.W.Frag} {M : Fm ξ} {σ : L2.St} {env : En} {H0 H : Hp} {Q : VK}
theorem R.assoc {α β γ : Type} (x : R α) (f : α → R β) (g : β → R γ) : ((x >>= f) >>= g) = (x >>= fun a => f a >>= g) := by cases x <;> rfl
def blsOf : List D → Option (List Bool)
  | [] => some []
  | .bl i :: xs => (blsOf xs).map (i :: ·)
  | _ :: _ => none
theorem blsOf_eq : ∀ {xs : List D} {ns : List Bool}, blsOf xs = some ns → xs = ns.map D.bl
  | [], _, h => by cases h; rfl
  | .bl i :: xs, ns, h => by
    unfold blsOf at h
    cases e : blsOf xs with
    | none => rw [e] at h; cases h
    | some ms => rw [e] at h; cases h; rw [blsOf_eq e]; rfl
  | .non :: _, _, h => by cases h
  | .str _ :: _, _, h => by cases h
  | .int _ :: _, _, h => by cases h
  | .tup _ :: _, _, h => by cases h
  | .lst _ :: _, _, h => by cases h
  | .dic _ :: _, _, h => by cases h
  | .frz _ :: _, _, h => by cases h
theorem blsOf_map (ns : List Bool) : blsOf (ns.map D.bl) = some ns := by
  induction ns with
  | nil => rfl
  | cons n ns ih => simp [blsOf, ih]
def allR : List D → R D
  | [.lst xs] => (match blsOf xs with
    | some ns => .ok (.bl (ns.all id))
    | none => .bad)
  | _ => .bad
def anyR : List D → R D
  | [.lst xs] => (match blsOf xs with
    | some ns => .ok (.bl (ns.any id))
    | none => .bad)
  | _ => .bad
theorem cb_all (hc : X.calm = true := by rfl) : CbD X W ξ (.builtin "all") allR := ⟨_, cr_all hc, fun {c M σ env H0 H Q vs ds} E r p => by
  unfold allR at p
  split at p
  · split at p
    · rename_i ns hn
      obtain ⟨v, rfl, r0⟩ := x1 r
      obtain ⟨a, ws, rfl, h, q⟩ := RepX.lst r0 E.same
      rw [blsOf_eq hn] at q
      rw [q.bls] at h
      exact ⟨a, ns, rfl, SqL.of h, post_ok E p (.bl _)⟩
    · exact p.elim
  · exact p.elim⟩
theorem repAll_strs {ss : List Str} (h : ∀ x ∈ ss, sOk x = true) : RepAll K H (ss.map V.str) (ss.map D.str) := by
  induction ss with
  | nil => exact .nil
  | cons s ss ih => exact .cons (.str s (h s (by simp))) (ih fun x hx => h x (by simp [hx]))
theorem RepAll.sok {vs : List V} {ss : List Str} (r : RepAll K H vs (ss.map D.str)) : ∀ x ∈ ss, sOk x = true := by
  induction ss generalizing vs with
  | nil => intro x h; cases h
  | cons s ss ih =>
    cases r with
    | cons r t =>
      intro x h
      rcases List.mem_cons.mp h with e | h
      · subst e; cases r with | str _ q => exact q
      · exact ih t x h
def lstyR : D → R D
  | .lst xs => .ok (.lst xs)
  | _ => .bad
def idxOf : List D → D → Option Nat
  | [], _ => none
  | x :: xs, d => if eqD x d = true then some 0 else (idxOf xs d).map (· + 1)
def indexR : D → List D → R D
  | .lst xs, [d] => if dle 64 d && dle 64 (.lst xs) then (match idxOf xs d with
    | some j => .ok (.int j)
    | none => .bad) else .bad
  | _, _ => .bad
def eMeth (ty : D → R D) (A : En → R D) (As : En → R (List D)) (g : D → List D → R D) : En → R D := fun env => A env >>= ty >>= fun d => As env >>= g d
def appO (i : Nat) (env : En) (d : D) : Out := match env[i]? with
  | some (.ol xs) => if xs.length < sizeLine then .nx (env.set i (.ol (xs ++ [d]))) else .bad
  | _ => .bad
def extO (i : Nat) (env : En) (d : D) : Out := match env[i]?, d with
  | some (.ol xs), .lst ys => if xs.length + ys.length ≤ sizeLine then .nx (env.set i (.ol (xs ++ ys))) else .bad
  | _, _ => .bad
def popO (i : Nat) (env : En) (k : D → En → Out) : Out := match env[i]? with
  | some (.ol xs) => (match xs.getLast? with
    | some d => k d (env.set i (.ol xs.dropLast))
    | none => .bad)
  | _ => .bad
def tgO (T : D → En → R En) (d : D) (e : En) : Out := match T d e with
  | .ok e => .nx e
  | _ => .bad
def sMeth (i : Nat) (A : En → R D) (g : Nat → En → D → Out) : En → Out := fun env => match env[i]? with | some (.ol _) => liftO (A env) env (g i env) | _ => .bad
def sPop (i : Nat) (T : D → En → R En) : En → Out := fun env => popO i env (tgO T)
theorem ownL (E : EnvAt K M H0 H σ env) {i : Nat} {xs : List D} (h : env[i]? = some (.ol xs)) : ∃ a vs, σ[i]? = some (some (.ref a)) ∧ H0 a = none ∧ M.G a = none ∧ H a = some (.lst vs) ∧ xs.length ≤ sizeLine ∧ RepAll K H0 vs xs ∧ Owns σ env i a := by
  obtain ⟨a, vs, e, h0, hg, ha, z, r⟩ := E.slot i _ h
  exact ⟨a, vs, e, h0, hg, ha, z, r, e, _, h, rfl⟩
theorem EnvAt.mutL (E : EnvAt K M H0 H σ env) {i : Nat} {a : Addr} {xs ys : List D} {ws : List V} (h : env[i]? = some (.ol xs)) (e : σ[i]? = some (some (.ref a))) (hz : ys.length ≤ sizeLine) (r : RepAll K H0 ws ys) : EnvAt K M H0 (upd H a (.lst ws)) σ (env.set i (.ol ys)) := by
  obtain ⟨a', vs, e', h0, hg, ha, z, r0, ow⟩ := ownL E h
  rw [e] at e'
  cases e'
  exact E.mutate ow rfl ⟨a, ws, rfl, h0, hg, upd_same, hz, r⟩
section
variable {i : Nat} {l : Str} {lpos : Pos}
theorem ds_append (hl : PE X (.Name l lpos) (tVar i)) (he : DE X W ξ true e fa)
    (hbase : attributeBase (.Name l lpos) "append" X.env (eval (.Name l lpos) X.env) = eval (.Name l lpos) X.env := by rfl)
    (hfew : ((backTo p (starEach [e] X.env)).all (fun x => !x.1) && (backToKw p (keywordEach [] X.env)).all (fun x => x.1.isSome)
      && decide ([e].length + ([] : List Keyword).length + (if ([] : List Keyword).isEmpty then 0 else 1) < 30)) = true := by rfl)
    (hline : (apos.endLine == p.line) = true := by rfl) (hs : starEach (e :: []) X.env = (false, eval e X.env) :: starEach [] X.env := by rfl) (hplain : (backTo p (starEach [] X.env)).any (·.1) = false := by rfl)
    (hsw : swapsWith (.Call (.Attribute (.Name l lpos) "append" apos) [e] [] p) none pos.line X.env = pure false := by rfl) :
    DS X W ξ (.Expr (.Call (.Attribute (.Name l lpos) "append" apos) [e] [] p) pos) (sMeth i fa appO) :=
  psImp (ps_expr (pe_bm F.plainAttrs_list F.slot_list_append F.type_list_append mt_append hl (pa_cons he pa_nil hs) hbase hfew hline hs hplain) hsw) fun Dn σ H ⟨M, H0, env, E, p⟩ => by
    have p : PostS X.K W ξ M H0 Dn (match env[i]? with | some (.ol _) => liftO (fa env) env (appO i env) | _ => .bad) := p
    split at p
    · rename_i xs hi
      obtain ⟨a, vs, e1, h0, hg, ha, z, r, ow⟩ := ownL E hi
      refine ⟨_, e1, .inl ⟨rfl, vs, SqL.of ha⟩, M, H0, env, E, liftE p fun d v H1 H2 g rv p1 => ?_⟩
      unfold appO at p1
      rw [hi] at p1
      simp only at p1
      split at p1
      · rename_i hz
        have r' := r.mono g.s0
        refine ⟨a, vs, v, rfl, rfl, g.s _ _ ha, by rw [r.length]; exact hz, ?_⟩
        exact p1 σ H1 _ (Same.refl _) (g.e.mutL hi e1 (by simp; omega) (r'.snoc rv))
      · exact p1.elim
    · exact p.elim
end
end
end Dx

namespace Dx
open PySem PySem.Spec PyProof.Rows L2

def defR (n m : Nat) (G : En → Out) (ds : List D) : R D := if ds.length = n then runB m G ds else .bad

theorem roomU1 {A : Around} {k : Nat} (r : Room k A) : A.units + 1 < cLine := by have := r.un; omega
theorem roomU64 {A : Around} {k : Nat} (r : Room k A) : A.units + 64 < cLine := by have := r.un; omega
theorem roomU65 {A : Around} {k : Nat} (r : Room k A) : A.units + 65 < cLine := by have := r.un; omega

section
variable {X : Cx} {W : WX} {ξ : Str → Value} {e a b o : Expr} {es : List Expr} {c c1 c2 c3 : Bool} {pos p apos : Pos} {fa fb fo : En → R D} {Fs : En → R (List D)} {x : Str} {st : Stmt}
variable {K : PySem.W.Frag} {M : Fm ξ} {σ : L2.St} {env : En} {H0 H : Hp} {Q : VK}
theorem newF {vs : List V} {xs : List D} (E : EnvAt K M H0 H σ env) (p : PostF K W ξ M σ env H0 H Q (.ok xs)) (z : xs.length ≤ sizeLine) (r : RepAll K H0 vs xs) : ∀ q, H q = none → Q (.ref q) (upd H q (.lst vs)) := fun q hq => by
  obtain ⟨g2, n⟩ := E.newAt (o := .lst vs) hq
  exact p q vs _ _ g2 hq n ⟨z, r⟩
def revF : D → R (List D)
  | .lst xs => .ok xs.reverse
  | _ => .bad
theorem df_rev {k : Nat} {p1 p2 p3 : Pos} (ha : DE X W ξ c1 a fa) : DF X W ξ (.Subscript a (.Slice none none (some (.UnaryOp .USub (.Constant (.int 1) k p1) p2)) p3) pos) (eUn revF fa) :=
  peImp (pe_revL ha) fun σ H Q ⟨M, H0, env, E, p⟩ => ⟨M, H0, env, E, bindE wishF p fun d1 x H1 H2 g1 r1 p1 => by
    unfold revF at p1
    split at p1
    · have z1 := r1.lstLen
      obtain ⟨q1, vs, rfl, h1, r3⟩ := r1.lst g1.e.same
      exact ⟨_, _, rfl, SqL.of h1, newF g1.e p1 (by rw [List.length_reverse]; exact z1) r3.reverse⟩
    · exact p1.elim⟩
theorem ds_setFDG {i : Nat} {fs : En → R (List D)} (h : PS X st (tAsg (tDF X.K W ξ fs) (gName i))) : DS X W ξ st (sSetFD i fs) :=
  psImp h fun Dn σ H ⟨M, H0, env, E, p⟩ => ⟨M, H0, env, E, liftF p fun d q vs H0' H' g hq n r p => by
    obtain ⟨s0, E'⟩ := n.frz0 g.e
    exact p _ _ H' s0 (E'.set i (.lst upd_same r.1 (r.2.mono s0)))⟩
end

structure FnF (K : PySem.W.Frag) (mg : Str → Option Value) (x : Str) (st : Stmt) (ps : List Str) where
  f : Addr
  fd : FuncData
  Fn : Fun K x x st f fd
  m : mg x = some (.ref f)
  b : Binds K fd ps []
structure ExF (K : PySem.W.Frag) (mg : Str → Option Value) (x : Str) where
  C : Addr
  q : PySem.W.excIn K C [.type "ValueError", .type "Exception", .type "BaseException", .type "object"] "ValueError.__new__" = true
  m : mg x = some (.ref C)
  k : PySem.W.keepIn K (.ref C) = true
  s : PySem.W.subIn K (.ref C) (.type "BaseException") = some true
  t : PySem.W.typeIn K (.ref C) = some (.type "type")
section
variable {P : Program} {w : World} {K : PySem.W.Frag} {mg : Str → Option Value} {base : Heap} {ξ : Str → Value}
end
end Dx
namespace Dx
open PySem PySem.Spec PyProof.Rows L2
def spLaw (K : PySem.W.Frag) : Sp := fun vs H Q _ => ∃ (a : Addr) (ns : List Int), vs = [.ref a] ∧ SqL K H a (ns.map V.int) ∧ ns.length ≤ 63 ∧ ∀ H', Q (.bl true) H'
theorem law_imp {K : PySem.W.Frag} {ξ : Str → Value} {F : List D → R D} (h : ∀ ns : List Int, ns.length ≤ 63 → F [.frz ns] = .ok (.bl true)) : ∀ vs H Q E, spLaw K vs H Q E → spD K ξ F vs H Q E := fun vs H Q E ⟨a, ns, e, hs, hl, q⟩ => by
  subst e
  refine ⟨[.frz ns], H, Same.refl _, .cons (.frz hs) .nil, ?_⟩
  rw [h ns hl]
  intro v H0' H' _ _ _ _ r
  cases r
  exact q H'
end Dx

namespace Dx
open PySem PySem.Spec PyProof.Rows L2
section
variable {X : Cx} {W : WX} {ξ : Str → Value} {e f a b o : Expr} {es : List Expr} {c c1 c2 c3 : Bool} {pos p apos cpos : Pos} {fa fb fo : En → R D} {Fs : En → R (List D)} {x : Str}
variable {K : PySem.W.Frag} {M : Fm ξ} {σ : L2.St} {env : En} {H0 H : Hp} {Q : VK}

def dictyR : D → R D
  | .dic kvs => .ok (.dic kvs)
  | _ => .bad
def getR (d y : D) : R D := match d with
  | .dic kvs => (match keyOf y with
    | some k => .ok ((valD kvs k).getD .non)
    | none => .bad)
  | _ => .bad
def get2R (d y z : D) : R D := match d with
  | .dic kvs => (match keyOf y with
    | some k => .ok ((valD kvs k).getD z)
    | none => .bad)
  | _ => .bad
def eGet (A B : En → R D) : En → R D := fun env => A env >>= dictyR >>= fun d => B env >>= fun y => getR d y
def eGet2 (A B C : En → R D) : En → R D := fun env => A env >>= dictyR >>= fun d => B env >>= fun y => C env >>= fun z => get2R d y z
def putD (kvs : List (Key × D)) (k : Key) (v : D) : List (Key × D) :=
  if (kvs.any fun kv => decide (kv.1 = k)) = true then kvs.map (fun kv => if kv.1 = k then (kv.1, v) else kv) else kvs ++ [(k, v)]
theorem RepKv.any {vs : List (Key × V)} {xs : List (Key × D)} (r : RepKv K H vs xs) (k : Key) : (vs.any fun kv => decide (kv.1 = k)) = (xs.any fun kv => decide (kv.1 = k)) := by
  induction vs generalizing xs with
  | nil => cases r; rfl
  | cons v vs ih => cases r with | cons h r t => rw [List.any_cons, List.any_cons, ih t]
theorem RepKv.append {vs ws : List (Key × V)} {xs ys : List (Key × D)} (r : RepKv K H vs xs) (q : RepKv K H ws ys) : RepKv K H (vs ++ ws) (xs ++ ys) := by
  induction vs generalizing xs with
  | nil => cases r; exact q
  | cons v vs ih => cases r with | cons h a t => exact .cons h a (ih t)
theorem RepKv.put {vs : List (Key × V)} {xs : List (Key × D)} {k : Key} {v : V} {d : D} (r : RepKv K H vs xs) (hk : keyOk k = true) (q : Rep K H v d) : RepKv K H (putK vs k v) (putD xs k d) := by
  have e := r.any k
  unfold putK putD
  rw [e]
  split
  · clear e
    rename_i h
    clear h
    induction vs generalizing xs with
    | nil => cases r; exact .nil
    | cons w vs ih =>
      cases r with
      | @cons k' w' _ y' ys h a t =>
        rw [List.map_cons, List.map_cons]
        by_cases z : k' = k
        · rw [if_pos z, if_pos z]; exact .cons h q (ih t)
        · rw [if_neg z, if_neg z]; exact .cons h a (ih t)
  · exact r.append (.cons hk q .nil)
def putO (i : Nat) (y v : D) (env : En) : Out := match env[i]?, keyOf y with
  | some (.od kvs), some k => if kvs.length < sizeLine then .nx (env.set i (.od (putD kvs k v))) else .bad
  | _, _ => .bad
def sPut (i : Nat) (B V : En → R D) : En → Out := fun env => match env[i]? with
  | some (.od _) => liftO (V env) env fun v => liftO (B env) env fun y => putO i y v env
  | _ => .bad
def tyD : D → String
  | .non => "NoneType"
  | .bl _ => "bool"
  | .int _ => "int"
  | .str _ => "str"
  | .tup _ => "tuple"
  | .lst _ => "list"
  | .dic _ => "dict"
  | .frz _ => "list"
  | .opq => "list"
def isTy (T : String) (d : D) : Bool := tyD d == T || (T == "int" && tyD d == "bool")
def isFrz : D → Bool
  | .frz _ => true
  | .opq => true
  | _ => false
def isiR (T : String) (d : D) : R D := if (T = "int" ∨ T = "bool" ∨ T = "str" ∨ T = "tuple") ∧ isFrz d = false then .ok (.bl (isTy T d)) else .bad
theorem kit_b (K : PySem.W.Frag) (T : String) (d : D) (h : T = "int" ∨ T = "bool" ∨ T = "str" ∨ T = "tuple") : PySem.W.kitOne K (.type (tyD d)) (.type T) = some (isTy T d) := by
  rcases h with rfl | rfl | rfl | rfl <;> cases d <;> (show _ = _) <;> first | rfl | kernel_rfl | with_unfolding_all rfl
theorem tyx {v : V} {d : D} (E : EnvAt K M H0 H σ env) (hf : isFrz d = false) (r : RepX c K H0 H v d) : TyX K H v (.type (tyD d)) := by
  have r := r.rep E.same
  cases r with
  | non => exact .base .non
  | bl b => exact .base (.bl b)
  | int i => exact .base (.int i)
  | str s _ => exact .base (.str s)
  | tup h _ _ => exact .base (.tup h)
  | lst h _ _ => exact .base (.lst h)
  | dic h _ =>
    rcases h with h | ⟨o, h⟩
    · exact .base (.dK h)
    · exact .fDict h
  | frz h => cases hf
  | opq a => cases hf
theorem de_isi {T : String} {t : Str} {p2 : Pos} (hm : X.mg "isinstance" = none) (ht : X.mg t = none) (hv : bootBuiltins t = some (.type T)) (he : DE X W ξ c e fa) (hg : Gl X "isinstance" := by rfl) (hgt : Gl X t := by rfl)
    (hnt : t ≠ "__name__" := by decide) (hdt : (t == ("__debug__" : Str)) = false := by decide)
    (hs1 : starEach [.Name t p2] X.env = (false, eval (.Name t p2) X.env) :: starEach [] X.env := by rfl)
    (hs : starEach (e :: [.Name t p2]) X.env = (false, eval e X.env) :: starEach [.Name t p2] X.env := by rfl) (hpl : (backTo pos (starEach [.Name t p2] X.env)).any (·.1) = false := by rfl) :
    DE X W ξ true (.Call (.Name "isinstance" p) [e, .Name t p2] [] pos) (eUn (isiR T) fa) := by
  have hT : PE X (.Name t p2) (tC (.ty T)) := pe_bltn hgt ht hv rfl hnt hdt
  exact peImp (pe_callB call_isi hg hm (by decide +kernel) (pa_cons he (pa_cons hT pa_nil hs1) hs) (by decide) (by decide) hs hpl) fun σ H Q ⟨M, H0, env, E, p⟩ => ⟨M, H0, env, E, bindE wishE p fun d v H1 H2 g r p1 => by
    unfold isiR at p1
    split at p1
    · rename_i hT
      exact ⟨v, .ty T, .type (tyD d), .type T, isTy T d, rfl, .ty T, tyx g.e hT.2 r, kit_b _ T d hT.1, post_ok g.e p1 (.bl _)⟩
    · exact p1.elim⟩
end
end Dx
namespace Dx
open PySem PySem.Spec PyProof.Rows L2
section
variable {X : Cx} {W : WX} {ξ : Str → Value} {pos : Pos} {x : Str}
theorem de_gint {i : Int} (h : ∃ t, X.mg x = some (.int i t)) (hg : Gl X x := by rfl) (hd : (x == ("__debug__" : Str)) = false := by decide) : DE X W ξ true (.Name x pos) (eC (.int i)) := by
  obtain ⟨t, hm⟩ := h
  exact de_c (pe_glob (v := .int i) hg hm ⟨t, rfl⟩ hd) fun _ => .int i
theorem de_gstr {z : Str} (h : ∃ t, X.mg x = some (.str z t)) (hz : sOk z = true := by decide +kernel) (hg : Gl X x := by rfl) (hd : (x == ("__debug__" : Str)) = false := by decide) : DE X W ξ true (.Name x pos) (eC (.str z)) := by
  obtain ⟨t, hm⟩ := h
  exact de_c (pe_glob (v := .str z) hg hm ⟨t, rfl⟩ hd) fun _ => .str z hz
end
end Dx

namespace Dx
open PySem PySem.Spec PyProof.Rows L2
section
variable {X : Cx} {W : WX} {ξ : Str → Value} {e a b o tg : Expr} {es : List Expr} {c c1 c2 c3 : Bool} {pos p : Pos} {fa fb fo : En → R D} {Fs : En → R (List D)} {x : Str}
variable {K : PySem.W.Frag} {M : Fm ξ} {σ : L2.St} {env : En} {H0 H : Hp} {Q : VK}

end
end Dx

namespace Dx
open PySem PySem.Spec PyProof.Rows L2
end Dx

namespace Dx
open PySem PySem.Spec PyProof.Rows L2
section
variable {X : Cx} {W : WX} {ξ : Str → Value} {e a b o tg k v : Expr} {es vs : List Expr} {ks : List (Option Expr)} {c c1 c2 c3 : Bool} {pos p apos : Pos} {fa fb fo : En → R D} {Fs : En → R (List D)} {Fp : En → R (List (Key × D))} {x : Str}
variable {K : PySem.W.Frag} {M : Fm ξ} {σ : L2.St} {env : En} {H0 H : Hp} {Q : VK}

def PostP (K : PySem.W.Frag) (W : WX) (ξ : Str → Value) (M : Fm ξ) (σ : L2.St) (env : En) (H0 H : Hp) (Q : List (V × V) → Hp → Prop) : R (List (Key × D)) → Prop
  | .ok ds => ∀ kvs H0' H', Gr K M σ env H0 H H0' H' → RepKv K H0' kvs ds → Q (kvs.map fun kv => (kV kv.1, kv.2)) H'
  | .exc x => ∀ H0' H', Gr K M σ env H0 H H0' H' → W (ξ x) none σ H'
  | .bad => False
theorem PostP.weak {x : R (List (Key × D))} {Q : List (V × V) → Hp → Prop} {H0' H' : Hp} (g : Gr K M σ env H0 H H0' H') (p : PostP K W ξ M σ env H0 H Q x) : PostP K W ξ M σ env H0' H' Q x := by
  cases x with
  | ok d => exact fun v H02 H2 g2 r => p v H02 H2 (g.trans g2) r
  | exc x => exact fun H02 H2 g2 => p H02 H2 (g.trans g2)
  | bad => exact p
structure DPs (X : Cx) (W : WX) (ξ : Str → Value) (pos : Pos) (keys : List (Option Expr)) (values : List Expr) (F : En → R (List (Key × D))) : Prop where
  ex : ∃ trs, PPs X pos keys values trs ∧ ∀ (σ : L2.St) (H : Hp) (Q : List (V × V) → Hp → Prop) (M : Fm ξ) (H0 : Hp) (env : En), EnvAt X.K M H0 H σ env → PostP X.K W ξ M σ env H0 H Q (F env) → tPairs trs σ H Q
def keyD : Key → D
  | .inl i => .int i
  | .inr s => .str s
end
end Dx
namespace Dx
open PySem PySem.Spec PyProof.Rows L2
section
variable {X : Cx} {W : WX} {ξ : Str → Value} {e : Expr} {c : Bool} {pos p apos : Pos} {fa : En → R D}
variable {K : PySem.W.Frag} {M : Fm ξ} {σ : L2.St} {env : En} {H0 H : Hp}
def dropD (kvs : List (Key × D)) (k : Key) : List (Key × D) := kvs.filter fun kv => decide (kv.1 ≠ k)
theorem RepKv.drop {vs : List (Key × V)} {xs : List (Key × D)} {k : Key} (r : RepKv K H vs xs) : RepKv K H (dropK vs k) (dropD xs k) := by
  unfold dropD dropK
  induction vs generalizing xs with
  | nil => cases r; exact .nil
  | cons v vs ih =>
    cases r with
    | @cons k' v' _ y ys h a t =>
      rw [List.filter_cons, List.filter_cons]
      by_cases z : k' = k
      · rw [if_neg (by simp [z]), if_neg (by simp [z])]; exact ih t
      · rw [if_pos (by simp [z]), if_pos (by simp [z])]; exact .cons h a (ih t)
end
end Dx
namespace Dx
open PySem PySem.Spec PyProof.Rows L2
section
variable {X : Cx} {W : WX} {ξ : Str → Value} {pos p : Pos} {k : Nat} {f : Addr} {fd : FuncData} {ps : List Str} {F : List D → R D} {x : Str}
end
end Dx

namespace Dx
open PySem PySem.Spec PyProof.Rows L2
section
variable {K : PySem.W.Frag} {H0 H : Hp}
end
section
variable {X : Cx} {W : WX} {ξ : Str → Value}
end
end Dx

set_option maxHeartbeats 8000000
namespace Sx
open PySem PySem.Spec PyProof.Rows L2
section
variable {P : Program} {w : World} {A : Around} {E : Value → Shared → Prop} {s : Shared} {κ : Type} [DecidableEq κ] {knd : PySem.KeyKind P w κ} {rd : Value → κ} {a : Addr} {S : κ → Bool} {n : Nat}
structure Mem (knd : PySem.KeyKind P w κ) (rd : Value → κ) (S : κ → Bool) (n : Nat) (vs : List Value) : Prop where
  nd : (vs.map rd).Nodup
  mem : ∀ k, k ∈ vs.map rd ↔ S k = true
  len : vs.length = n
  is : ∀ v ∈ vs, knd.is (rd v) v = true
end
section
variable {P : Program} {w : World} {A : Around} {E : Value → Shared → Prop} {s : Shared} {a : Addr} {n : Nat}
end
def nub {κ : Type} [DecidableEq κ] : List κ → List κ
  | [] => []
  | k :: ks => if k ∈ ks then nub ks else k :: nub ks
theorem nub_mem {κ : Type} [DecidableEq κ] (k : κ) : ∀ ks : List κ, k ∈ nub ks ↔ k ∈ ks
  | [] => Iff.rfl
  | x :: ks => by
    unfold nub
    split
    · rename_i h
      rw [nub_mem k ks, List.mem_cons]
      exact ⟨.inr, fun z => z.elim (fun e => e ▸ h) id⟩
    · rw [List.mem_cons, List.mem_cons, nub_mem k ks]
theorem nub_nd {κ : Type} [DecidableEq κ] : ∀ ks : List κ, (nub ks).Nodup
  | [] => List.nodup_nil
  | x :: ks => by
    unfold nub
    split
    · exact nub_nd ks
    · rename_i h
      exact List.nodup_cons.mpr ⟨fun z => h ((nub_mem x ks).mp z), nub_nd ks⟩
theorem nub_len {κ : Type} [DecidableEq κ] : ∀ ks : List κ, (nub ks).length = metN ks
  | [] => rfl
  | x :: ks => by unfold nub metN; split <;> simp [nub_len ks]
theorem nd_perm {κ : Type} [DecidableEq κ] {l m : List κ} (h1 : l.Nodup) (h2 : m.Nodup) (h : ∀ k, k ∈ l ↔ k ∈ m) : l.Perm m := (List.perm_ext_iff_of_nodup h1 h2).mpr h
theorem metN_rev {κ : Type} [DecidableEq κ] (ks : List κ) : metN ks.reverse = (nub ks).length := by
  rw [← nub_len]
  exact (nd_perm (nub_nd _) (nub_nd _) fun k => by rw [nub_mem, nub_mem, List.mem_reverse]).length_eq
def SetH {P : Program} {w : World} {κ : Type} [DecidableEq κ] (knd : PySem.KeyKind P w κ) (rd : Value → κ) (a : Addr) (ks : List κ) : HO := .ext fun h => SetG knd rd h a (metS ks.reverse) (metN ks.reverse)
section
variable {X : Cx} {κ : Type} [DecidableEq κ] {knd : PySem.KeyKind X.prog X.w κ} {rd : Value → κ}
theorem setH_ok {H : Hp} {h : Heap} {a : Addr} {ks : List κ} (g : SetG knd rd h a (metS ks.reverse) (metN ks.reverse)) : ObjOk X.prog X.w H h a (SetH knd rd a ks) := by
  have ⟨o, _, _, _, ho, _⟩ := g
  exact ⟨g, ⟨o, ho⟩, fun h1 h2 p k => SetG.at p k⟩
theorem setH_get {pins : List (Addr × Obj)} {σ : L2.St} {H : Hp} {s : Shared} {a : Addr} {ks : List κ} (I : Inv X pins σ H s) (ha : H a = some (SetH knd rd a ks)) : SetG knd rd s.heap a (metS ks.reverse) (metN ks.reverse) := (I.hok a _ ha).1
theorem laid_set {pins : List (Addr × Obj)} {σ : L2.St} {H : Hp} {s s' : Shared} {ks : List κ} {Q : VK} (I : Inv X pins σ H s) (f : Filled knd rd s ks s') (q : ∀ p, H p = none → Q (.ref p) (upd H p (SetH knd rd p ks))) :
    EP X pins σ Q (.ref s.heap.objs.size) s' := by
  obtain ⟨hp, tk, rfl, g, k⟩ := f
  exact ⟨.ref _, upd H s.heap.objs.size (SetH knd rd s.heap.objs.size ks), I.laid (t' := tk) (fun b u e => k b u (Heap.lt_size e) e) (Nat.le_refl _) (setH_ok g), rfl, q _ (I.hok.fresh (Nat.le_refl _))⟩
theorem cr_setLI (hc : X.calm = true) : CallR X (.type "set") (fun xs H Q => ∃ (l : Addr) (ns : List Int), xs = [.ref l] ∧ SqL X.K H l (ns.map V.int) ∧ ns.length < 4000 ∧ ∀ p, H p = none → Q (.ref p) (upd H p (SetH (intKind X.prog X.w) rdI p ns))) := by
  intro pins s σ H xs us Q I r h
  obtain ⟨l, ns, rfl, hq, hb, q⟩ := h
  rw [Vals.ref1 r]
  obtain ⟨its, rv, pl, _⟩ := I.list hq
  have hi := rv.ints
  have hl : ns.length = its.toArray.size := by rw [List.size_toArray]; exact (IntsAre.length hi).symm
  refine call_setL (knd := intKind X.prog X.w) (rd := rdI) (I.ok.hd hc) pl.isList hl (fun i v k h1 h2 => ?_) (by rw [← hl]; unfold scanBound; omega) fun s' f => laid_set I f q
  obtain ⟨t, e⟩ := IntsAre.int_at hi i v (by simpa using h1)
  rw [e, List.getD_eq_getElem?_getD, h2]
  exact gdI k t
theorem cr_setLS (hc : X.calm = true) : CallR X (.type "set") (fun xs H Q => ∃ (l : Addr) (ns : List Str), xs = [.ref l] ∧ SqL X.K H l (ns.map V.str) ∧ ns.length < 4000 ∧ ∀ p, H p = none → Q (.ref p) (upd H p (SetH (PySem.strKind X.prog X.w) rdS p ns))) := by
  intro pins s σ H xs us Q I r h
  obtain ⟨l, ns, rfl, hq, hb, q⟩ := h
  rw [Vals.ref1 r]
  obtain ⟨its, rv, pl, _⟩ := I.list hq
  have hi : StrsAre its ns := strsAre_of rv
  have hl : ns.length = its.toArray.size := by rw [List.size_toArray]; exact (StrsAre.length hi).symm
  refine call_setL (knd := PySem.strKind X.prog X.w) (rd := rdS) (I.ok.hd hc) pl.isList hl (fun i v k h1 h2 => ?_) (by rw [← hl]; unfold scanBound; omega) fun s' f => laid_set I f q
  obtain ⟨t, e⟩ := SS.strs_at hi i v (by simpa using h1)
  rw [e, List.getD_eq_getElem?_getD, h2]
  exact gdS k t
theorem cr_setT (hc : X.calm = true) : CallR X (.type "set") (fun xs H Q => ∃ x : Str, xs = [.str x] ∧ x.cps.size < 4000 ∧ ∀ p, H p = none → Q (.ref p) (upd H p (SetH (PySem.strKind X.prog X.w) rdS p (x.cps.toList.map fun c => (⟨#[c]⟩ : Str))))) := by
  intro pins s σ H xs us Q I r h
  obtain ⟨x, rfl, hb, q⟩ := h
  cases r with
  | cons r1 r2 =>
    cases r2
    obtain ⟨t, rfl⟩ := r1
    exact call_setT (I.ok.hd hc) (by unfold scanBound; omega) fun s' f => laid_set I f q
theorem cr_lenSet : CallR X (.builtin "len") (fun xs H Q => ∃ (a : Addr) (ks : List κ), xs = [.ref a] ∧ H a = some (SetH knd rd a ks) ∧ Q (.int ((nub ks).length : Nat)) H) := by
  intro pins s σ H xs us Q I r h
  obtain ⟨a, ks, rfl, ha, q⟩ := h
  rw [Vals.ref1 r]
  obtain ⟨ob, el, epo, tb, h1, h2, h3, g0, nd, mm, b0, f0, e0, r0, l0⟩ := setH_get I ha
  have e1 : el.size = (nub ks).length := e0.trans (metN_rev ks)
  refine call_len_set h1 h2 h3 f0 (by have : scanBound < 2 ^ 62 := by decide
                                      omega) ⟨.int (nub ks).length, H, (I.tok _).tok _, ⟨_, by rw [e1]⟩, q⟩
end
end Sx

namespace Dx
open PySem PySem.Spec PyProof.Rows L2 Sx
def chrs (z : Str) : List Str := z.cps.toList.map fun c => ⟨#[c]⟩
def lenSetR (d : D) : R D := match d with
  | .lst xs => if xs.length < 4000 then (match intsOf xs with
    | some ns => .ok (.int ((nub ns).length : Nat))
    | none => (match strsOf xs with
      | some ss => .ok (.int ((nub ss).length : Nat))
      | none => .bad)) else .bad
  | .str z => if z.cps.size < 4000 then .ok (.int ((nub (chrs z)).length : Nat)) else .bad
  | _ => .bad
section
variable {X : Cx} {W : WX} {ξ : Str → Value} {a : Expr} {c : Bool} {fa : En → R D} {p p2 q pos : Pos} {K : PySem.W.Frag} {M : Fm ξ} {σ : L2.St} {env : En} {H0 H : Hp}
theorem grow_set (E : EnvAt K M H0 H σ env) {p : Addr} {o : HO} (h : H p = none) : EnvAt K M H0 (upd H p o) σ env := by
  have s : Same H (upd H p o) := same_upd h
  exact E.grow (Same.refl _) s (E.same.trans s) fun _ _ z => z
theorem gr_set (E : EnvAt K M H0 H σ env) {p : Addr} {o : HO} (h : H p = none) : Gr K M σ env H0 H H0 (upd H p o) := ⟨Same.refl _, same_upd h, grow_set E h, fun _ _ z => z⟩
theorem de_lenSet (hm : X.mg "len" = none) (hm2 : X.mg "set" = none) (ha : DE X W ξ c a fa) (hc : X.calm = true := by rfl) (hg : Gl X "len" := by rfl) (hg2 : Gl X "set" := by rfl)
    (na : starEach [a] X.env = (false, eval a X.env) :: starEach [] X.env := by rfl) (nb : starEach [.Call (.Name "set" p2) [a] [] q] X.env = (false, eval (.Call (.Name "set" p2) [a] [] q) X.env) :: starEach [] X.env := by rfl)
    (pl : (backTo q (starEach [] X.env)).any (·.1) = false := by rfl) (pl2 : (backTo pos (starEach [] X.env)).any (·.1) = false := by rfl) :
    DE X W ξ true (.Call (.Name "len" p) [.Call (.Name "set" p2) [a] [] q] [] pos) (eUn lenSetR fa) :=
  peImp (pe_callB (CallR.or (cr_lenSet (knd := intKind X.prog X.w) (rd := rdI)) (cr_lenSet (knd := PySem.strKind X.prog X.w) (rd := rdS))) hg hm (by decide +kernel)
    (pa_cons (pe_callTy (CallR.or (cr_setLI hc) (CallR.or (cr_setLS hc) (cr_setT hc))) hg2 hm2 (by decide +kernel) (pa_cons ha pa_nil na) (by decide) (by decide) na pl) pa_nil nb) (by decide) (by decide) nb pl2)
    fun σ H Q ⟨M, H0, env, E, p⟩ => ⟨M, H0, env, E, bindE wishE p fun d v H1 H2 g r p1 => by
      unfold lenSetR at p1
      split at p1
      · split at p1
        · rename_i xs hz
          obtain ⟨l, vs, rfl, h, rr⟩ := r.lst g.e.same
          split at p1
          · rename_i ns hn
            rw [intsOf_eq hn] at rr hz
            rw [rr.ints] at h
            exact .inl ⟨l, ns, rfl, SqL.of h, by simpa using hz, fun p hp => .inl ⟨p, ns, rfl, upd_same, p1 _ _ _ (gr_set g.e hp) (.of (.int _))⟩⟩
          · split at p1
            · rename_i ss hn
              rw [strsOf_eq hn] at rr hz
              rw [rr.strs] at h
              exact .inr (.inl ⟨l, ss, rfl, SqL.of h, by simpa using hz, fun p hp => .inr ⟨p, ss, rfl, upd_same, p1 _ _ _ (gr_set g.e hp) (.of (.int _))⟩⟩)
            · exact p1.elim
        · exact p1.elim
      · split at p1
        · rename_i z hz
          exact .inr (.inr ⟨z, by rw [r.str], hz, fun p hp => .inr ⟨p, chrs z, rfl, upd_same, p1 _ _ _ (gr_set g.e hp) (.of (.int _))⟩⟩)
        · exact p1.elim
      · exact p1.elim⟩
end
end Dx

namespace Dx
open PySem PySem.Spec PyProof.Rows L2

structure ZSrc (P : Program) (w : World) (K : PySem.W.Frag) (n : Nat) (src : Hp → Prop) (Pv : Nat → V → Prop) (iterAt : Addr → Nat → Heap → Prop) : Prop where
  obj : ∀ it i h, iterAt it i h → ∃ o, h.get? it = some o ∧ ∀ v, o.data ≠ .cell v
  keep : ∀ it i h h', iterAt it i h → (∀ o, h.get? it = some o → h'.get? it = some o) → iterAt it i h'
  draw : ∀ (X : Cx) (pins : List (Addr × Obj)) (s : Shared) (σ : L2.St) (H : Hp), X.prog = P → X.w = w → X.K = K → X.calm = true → Inv X pins σ H s → src H → ∀ it, H it = none → ∀ i, iterAt it i s.heap →
    ∃ (m : List Addr) (Pu : Nat → Value → Prop) (St : Nat → Heap → Prop), Draws P w X.A.in1 it (it :: m) n Pu St ∧ (∀ b ∈ m, H b ≠ none) ∧ St i s.heap ∧ (∀ j h, St j h → iterAt it j h) ∧ ∀ j u, Pu j u → ∃ v, RelV v u ∧ Pv j v
def ItZ (n1 n2 : Nat) (s1 s2 : Hp → Prop) (P1 P2 : Nat → V → Prop) : It :=
  ⟨fun i H => i < min n1 n2 ∧ s1 H ∧ s2 H, fun i H v H' => ∃ T x y, v = .ref T ∧ H T = none ∧ H' = upd H T (.tup [x, y]) ∧ P1 i x ∧ P2 i y, fun i H => min n1 n2 ≤ i ∧ s1 H ∧ s2 H⟩
theorem walk_Z {n1 n2 : Nat} {s1 s2 : Hp → Prop} {P1 P2 : Nat → V → Prop} : Walk (ItZ n1 n2 s1 s2 P1 P2) (min n1 n2) (fun H => s1 H ∧ s2 H) (fun i H v H' => ∃ T x y, v = .ref T ∧ H T = none ∧ H' = upd H T (.tup [x, y]) ∧ P1 i x ∧ P2 i y) :=
  ⟨fun _ _ hi q => ⟨hi, q⟩, fun _ q => ⟨Nat.le_refl _, q⟩, fun _ _ _ _ _ _ y => y⟩
section
variable {P : Program} {w : World} {K : PySem.W.Frag} {elts : List Expr} {kk : Nat} {tpos : Pos} {n1 n2 : Nat} {s1 s2 : Hp → Prop} {P1 P2 : Nat → V → Prop} {at1 at2 : Addr → Nat → Heap → Prop}
theorem turn_zipG (Z1 : ZSrc P w K n1 s1 P1 at1) (Z2 : ZSrc P w K n2 s2 P2 at2) {z TI TO i1 i2 : Addr} (hd : [z, TI, TO, i1, i2].Nodup) :
    Turn P w K (.Tuple elts kk tpos) (ItZ n1 n2 s1 s2 P1 P2) [z, TI, TO, i1, i2] z (fun i h => i ≤ min n1 n2 ∧ IsZip h z TI TO .none ∧ IsTupOf2 h TI (.ref i1) (.ref i2) ∧ (∃ x y, IsTupOf2 h TO x y) ∧ at1 i1 i h ∧ at2 i2 i h) := by
  have sepL : ∀ {X : Cx} {pins : List (Addr × Obj)} {H : Hp} {m1 m2 : List Addr}, (∀ b ∈ [z, TI, TO, i1, i2], FpOk X pins H b) → (∀ b ∈ m1, H b ≠ none) → (∀ b ∈ m2, H b ≠ none) → ZipSep2 z TI TO i1 i2 (i1 :: m1) (i2 :: m2) := by
    intro X pins H m1 m2 hf h1 h2
    have hz : ∀ b ∈ [z, TI, TO, i1, i2], b ∉ m1 ∧ b ∉ m2 := fun b hb => ⟨fun q => h1 b q (hf b hb).1, fun q => h2 b q (hf b hb).1⟩
    have nz : ∀ {b : Addr} {m : List Addr} {i : Addr}, b ≠ i → b ∉ m → b ∉ (i :: m) := fun {b m i} a c q => by
      rcases List.mem_cons.mp q with q | q
      · exact a q
      · exact c q
    simp only [List.nodup_cons, List.mem_cons, List.not_mem_nil, or_false, not_or, List.nodup_nil, and_true, not_false_eq_true] at hd
    obtain ⟨⟨a1, a2, a3, a4⟩, ⟨a5, a6, a7⟩, ⟨a8, a9⟩, a10⟩ := hd
    exact ⟨Ne.symm a1, Ne.symm a2, a5, a6, List.mem_cons_self .., nz a3 (hz z (by simp)).1, nz a8 (hz TO (by simp)).1, a7, List.mem_cons_self .., nz a4 (hz z (by simp)).2, nz a9 (hz TO (by simp)).2, nz a10 (hz i1 (by simp)).2, nz (Ne.symm a10) (hz i2 (by simp)).1⟩
  refine ⟨by simp, fun i h st b hb => ?_, fun i h h' st k => ?_, ?_, ?_, fun A i s Q E st h => wpAny_pyIter_zip st.2.1 h⟩
  · obtain ⟨_, hz, hTI, ⟨x, y, hTO⟩, h1, h2⟩ := st
    have e' : b = z ∨ b = TI ∨ b = TO ∨ b = i1 ∨ b = i2 := by simpa using hb
    rcases e' with q | q | q | q | q
    · rw [q]; exact ⟨_, hz, fun v q => nomatch q⟩
    · rw [q]; exact ⟨_, hTI, fun v q => nomatch q⟩
    · rw [q]; exact ⟨_, hTO, fun v q => nomatch q⟩
    · rw [q]; exact Z1.obj _ _ _ h1
    · rw [q]; exact Z2.obj _ _ _ h2
  · obtain ⟨hn, hz, hTI, ⟨x, y, hTO⟩, h1, h2⟩ := st
    exact ⟨hn, k z (by simp) _ hz, k TI (by simp) _ hTI, ⟨x, y, k TO (by simp) _ hTO⟩, Z1.keep _ _ _ _ h1 fun o q => k i1 (by simp) o q, Z2.keep _ _ _ _ h2 fun o q => k i2 (by simp) o q⟩
  · intro X hP hw hK hc i pins s σ H E I hf st hg
    obtain ⟨hn, hz, hTI, ⟨x, y, hTO⟩, h1, h2⟩ := st
    obtain ⟨hi, q1, q2⟩ := hg
    obtain ⟨m1, Pu1, St1, D1, hm1, hst1, back1, rel1⟩ := Z1.draw X pins s σ H hP hw hK hc I q1 i1 (hf i1 (by simp)).1 i h1
    obtain ⟨m2, Pu2, St2, D2, hm2, hst2, back2, rel2⟩ := Z2.draw X pins s σ H hP hw hK hc I q2 i2 (hf i2 (by simp)).1 i h2
    subst hP hw hK
    have S := sepL hf hm1 hm2
    have W := WalksT.zipD2 S D1 D2
    have lt : ∀ b ∈ [z, TI, TO, i1, i2], b < s.heap.objs.size := by
      intro b hb
      have e' : b = z ∨ b = TI ∨ b = TO ∨ b = i1 ∨ b = i2 := by simpa using hb
      rcases e' with q | q | q | q | q
      · rw [q]; exact Heap.lt_size hz
      · rw [q]; exact Heap.lt_size hTI
      · rw [q]; exact Heap.lt_size hTO
      · rw [q]; obtain ⟨_, e, _⟩ := Z1.obj _ _ _ h1; exact Heap.lt_size e
      · rw [q]; obtain ⟨_, e, _⟩ := Z2.obj _ _ _ h2; exact Heap.lt_size e
    have wr : ∀ b, b ∉ [z, TI, TO, i1, i2] → b ∉ [z, TO, i1, i2] := fun b hb q => hb (by
      have e' : b = z ∨ b = TO ∨ b = i1 ∨ b = i2 := by simpa using q
      rcases e' with q | q | q | q <;> simp [q])
    refine W.item i s _ _ hi ⟨hz, hTI, ⟨x, y, hTO⟩, hst1, hst2⟩ fun T vals h' tk hPt hTle hT hMid hk => ⟨_, rfl, ?_⟩
    refine W.go elts kk tpos i T { s with heap := h', toks := tk } _ _ hMid fun h'' hst' hk' => ?_
    obtain ⟨u1, u2, hu1, hu2, ev⟩ := hPt
    obtain ⟨v1, rv1, pv1⟩ := rel1 i u1 hu1
    obtain ⟨v2, rv2, pv2⟩ := rel2 i u2 hu2
    obtain ⟨o, ho, hcls, nn, hdat⟩ := hT
    have hT2 : h''.get? T = some o := hk' _ _ (W.apart i T h' hMid) ho
    have new : ObjOk X.prog X.w (upd H T (.tup [v1, v2])) h'' T (.tup [v1, v2]) :=
      ⟨by show 2 ≤ sizeLine; decide, [u1, u2], .cons rv1 (.cons rv2 .nil), ⟨o, hT2, hcls, nn, by rw [hdat, ev]⟩⟩
    have I1 : Inv X pins σ (upd H T (.tup [v1, v2])) { s with heap := h'', toks := tk } :=
      I.turnedNew (ch := [z, TI, TO, i1, i2]) (fun b ob hb q => hk' b ob (wr b hb) (hk b ob (wr b hb) q)) hf hTle new
    obtain ⟨z', TI', TO', st1', st2'⟩ := hst'
    refine ⟨.ref T, _, I1, rfl, ⟨T, v1, v2, rfl, I.hok.fresh hTle, rfl, pv1, pv2⟩, ⟨hi, z', TI', TO', back1 _ _ st1', back2 _ _ st2'⟩, fun b hb => ?_⟩
    have := lt b hb
    rw [upd_ne (show b ≠ T from fun e => by rw [e] at this; exact absurd hTle (Nat.not_le_of_lt this))]
    exact (hf b hb).1
  · intro X hP hw hK hc i pins s σ H E I hf st hg
    obtain ⟨hn, hz, hTI, ⟨x, y, hTO⟩, h1, h2⟩ := st
    obtain ⟨hi, q1, q2⟩ := hg
    have hin : i = min n1 n2 := Nat.le_antisymm hn hi
    obtain ⟨m1, Pu1, St1, D1, hm1, hst1, back1, rel1⟩ := Z1.draw X pins s σ H hP hw hK hc I q1 i1 (hf i1 (by simp)).1 i h1
    obtain ⟨m2, Pu2, St2, D2, hm2, hst2, back2, rel2⟩ := Z2.draw X pins s σ H hP hw hK hc I q2 i2 (hf i2 (by simp)).1 i h2
    subst hP hw hK hin
    have S := sepL hf hm1 hm2
    have W := WalksT.zipD2 S D1 D2
    have wr : ∀ b, b ∉ [z, TI, TO, i1, i2] → b ∉ [z, TO, i1, i2] := fun b hb q => hb (by
      have e' : b = z ∨ b = TO ∨ b = i1 ∨ b = i2 := by simpa using q
      rcases e' with q | q | q | q <;> simp [q])
    exact W.done s _ _ ⟨hz, hTI, ⟨x, y, hTO⟩, hst1, hst2⟩ fun h' tk hk => ⟨rfl, I.turnedL (t' := tk) (ch := [z, TI, TO, i1, i2]) (fun c o hb q => hk c o (wr c hb) q) hf⟩

theorem zsrc_list (a : Addr) (vs : List V) : ZSrc P w K vs.length (fun H => H a = some (.lst vs)) (fun i x => vs[i]? = some x) (fun it i h => h.IsListIter it a i) :=
  ⟨fun it i h st => by
    have st : h.IsListIter it a i := st
    obtain ⟨o, h1, h2, h3⟩ := st
    exact ⟨o, h1, fun v z => by rw [h3] at z; cases z⟩, fun it i h h' st k => by
    have st : h.IsListIter it a i := st
    exact Heap.IsListIter.at st k, fun X pins s σ H hP hw hK hc I hsrc it hit0 i hit => by
    subst hP hw hK
    obtain ⟨its, rv, pt, _⟩ := I.list (SqL.of hsrc)
    have hta : a ≠ it := fun z => by rw [z, hit0] at hsrc; cases hsrc
    have hl : its.toArray.size = vs.length := by rw [List.size_toArray, rv.length]
    refine ⟨[a], fun i v => its.toArray[i]? = some v, fun i h => h.IsListIter it a i ∧ h.IsList a its.toArray, ?_, fun b hb => ?_, ⟨hit, pt.isList⟩, fun j h st => st.1, fun j u hu => ?_⟩
    · rw [← hl]
      exact Draws.list (show X.A.in1.handled = none from I.ok.hd hc) it a hta its.toArray
    · have : b = a := by simpa using hb
      rw [this, hsrc]; intro z; cases z
    · have hj : j < its.toArray.size := (Array.getElem?_eq_some_iff.mp hu).1
      obtain ⟨v, hv⟩ : ∃ v, vs[j]? = some v := ⟨vs[j]'(by omega), by simp [hl ▸ hj]⟩
      obtain ⟨u', hu', ru⟩ := rv.get hv
      have : u' = u := by
        have h2 : its[j]? = some u := by simpa using hu
        rw [hu'] at h2; cases h2; rfl
      exact ⟨v, this ▸ ru, hv⟩⟩
theorem zsrc_tup (a : Addr) (vs : List V) : ZSrc P w K vs.length (fun H => H a = some (.tup vs)) (fun i x => vs[i]? = some x) (fun it i h => h.IsTupleIter it a i) :=
  ⟨fun it i h st => by
    have st : h.IsTupleIter it a i := st
    obtain ⟨o, h1, h2, h3⟩ := st
    exact ⟨o, h1, fun v z => by rw [h3] at z; cases z⟩, fun it i h h' st k => by
    have st : h.IsTupleIter it a i := st
    exact Heap.IsTupleIter.at st k, fun X pins s σ H hP hw hK hc I hsrc it hit0 i hit => by
    subst hP hw hK
    obtain ⟨its, rv, pt, _⟩ := I.tuple (SqT.of hsrc)
    have hta : a ≠ it := fun z => by rw [z, hit0] at hsrc; cases hsrc
    have hl : its.toArray.size = vs.length := by rw [List.size_toArray, rv.length]
    refine ⟨[a], fun i v => its.toArray[i]? = some v, fun i h => h.IsTupleIter it a i ∧ h.IsTuple a its.toArray, ?_, fun b hb => ?_, ⟨hit, pt⟩, fun j h st => st.1, fun j u hu => ?_⟩
    · rw [← hl]
      exact Draws.tuple (show X.A.in1.handled = none from I.ok.hd hc) it a hta its.toArray
    · have : b = a := by simpa using hb
      rw [this, hsrc]; intro z; cases z
    · have hj : j < its.toArray.size := (Array.getElem?_eq_some_iff.mp hu).1
      obtain ⟨v, hv⟩ : ∃ v, vs[j]? = some v := ⟨vs[j]'(by omega), by simp [hl ▸ hj]⟩
      obtain ⟨u', hu', ru⟩ := rv.get hv
      have : u' = u := by
        have h2 : its[j]? = some u := by simpa using hu
        rw [hu'] at h2; cases h2; rfl
      exact ⟨v, this ▸ ru, hv⟩⟩
theorem zsrc_str (z : Str) (t : Tok) : ZSrc P w K z.cps.size (fun _ => True) (fun i x => ∃ c, z.cps[i]? = some c ∧ x = .str ⟨#[c]⟩) (fun it i h => h.IsStrIter it (strIterType z) z t i) where
  obj := by
    intro it i h st
    obtain ⟨o, h1, h2, h3⟩ := st
    exact ⟨o, h1, fun v z => by rw [h3] at z; cases z⟩
  keep := by
    intro it i h h' st k
    obtain ⟨o, h1, h2⟩ := st
    exact ⟨o, k o h1, h2⟩
  draw := by
    intro X pins s σ H hP hw hK hc I hsrc it hit0 i hit
    subst hP hw hK
    refine ⟨[], fun i v => ∃ c u, z.cps[i]? = some c ∧ v = .str ⟨#[c]⟩ u, fun i h => h.IsStrIter it (strIterType z) z t i, Draws.text (show X.A.in1.handled = none from I.ok.hd hc) it z t, (by intro b hb; simp at hb), hit, fun j h st => st, ?_⟩
    rintro j u ⟨c, u', hc', hu'⟩
    exact ⟨.str ⟨#[c]⟩, ⟨u', hu'⟩, c, hc', rfl⟩
end

def ZV (H : Hp) (v : V) (n : Nat) (src : Hp → Prop) (Pv : Nat → V → Prop) : Prop :=
  (∃ a vs, v = .ref a ∧ H a = some (.lst vs) ∧ n = vs.length ∧ (src = fun H => H a = some (.lst vs)) ∧ Pv = fun i x => vs[i]? = some x) ∨
  (∃ a vs, v = .ref a ∧ H a = some (.tup vs) ∧ n = vs.length ∧ (src = fun H => H a = some (.tup vs)) ∧ Pv = fun i x => vs[i]? = some x) ∨
  (∃ z, v = .str z ∧ n = z.cps.size ∧ (src = fun _ => True) ∧ Pv = fun i x => ∃ c, z.cps[i]? = some c ∧ x = .str ⟨#[c]⟩)
section
variable {X : Cx} {W : WX} {ξ : Str → Value} {e e2 tg : Expr} {c c1 c2 : Bool} {pos p tpos : Pos} {elts : List Expr} {kk : Nat} {f g : En → R D}
variable {K : PySem.W.Frag} {M : Fm ξ} {σ : L2.St} {env : En} {H0 H : Hp}
theorem ZV.begins {pins : List (Addr × Obj)} {s : Shared} {v : V} {u : Value} {n : Nat} {src : Hp → Prop} {Pv : Nat → V → Prop} (I : Inv X pins σ H s) (r : RelV v u) (z : ZV H v n src Pv) :
    ∃ (o : Obj) (Hb : Heap → Prop) (iterAt : Addr → Nat → Heap → Prop), Begins u o Hb ∧ Hb s.heap ∧ ZSrc X.prog X.w X.K n src Pv iterAt ∧ ∀ it h, h.get? it = some o → iterAt it 0 h := by
  rcases z with ⟨a, vs, rfl, ha, rfl, rfl, rfl⟩ | ⟨a, vs, rfl, ha, rfl, rfl, rfl⟩ | ⟨z, rfl, rfl, rfl, rfl⟩
  · obtain rfl : u = Value.ref a := r
    obtain ⟨its, rv, pt, _⟩ := I.list (SqL.of ha)
    exact ⟨_, _, _, begins_list a its.toArray, pt.isList, zsrc_list a vs, fun it h hit => ⟨_, hit, rfl, rfl⟩⟩
  · obtain rfl : u = Value.ref a := r
    obtain ⟨its, rv, pt, _⟩ := I.tuple (SqT.of ha)
    exact ⟨_, _, _, begins_tuple a its.toArray, pt, zsrc_tup a vs, fun it h hit => ⟨_, hit, rfl, rfl⟩⟩
  · obtain ⟨t, rfl⟩ := r
    exact ⟨_, _, _, begins_text z t, trivial, zsrc_str z t, fun it h hit => ⟨_, hit, rfl, rfl⟩⟩
def iZipG (ta : TA) : TI := fun σ H R => ta σ H fun vs H1 => ∃ v1 v2 n1 n2 s1 s2 P1 P2, vs = [v1, v2] ∧ ZV H1 v1 n1 s1 P1 ∧ ZV H1 v2 n2 s2 P2 ∧ R (ItZ n1 n2 s1 s2 P1 P2) H1
theorem pi_zipG {ta : TA} (hg : Gl X "zip") (hm : X.mg "zip" = none) (ha : PA X [e, e2] ta)
    (hs : starEach [e, e2] X.env = (false, eval e X.env) :: starEach [e2] X.env := by rfl) (hpl : (backTo pos (starEach [e2] X.env)).any (·.1) = false := by rfl) :
    PI X (.Tuple elts kk tpos) (.Call (.Name "zip" p) [e, e2] [] pos) (iZipG ta) := by
  refine ⟨fun pins s σ H R I h => ?_⟩
  refine Call_ (ld_blt I hg hm PyProof.Rows.boot_zip (PyProof.Rows.callWith_type1 (thn (ha.run pos pins s σ H _ I h) fun us s1 ⟨vs, H1, I1, r1, q1⟩ => ?_) hs hpl))
  obtain ⟨v1, v2, n1, n2, q1', q2', P1, P2, ex, z1, z2, q⟩ := q1
  subst ex
  cases r1 with
  | cons r rr =>
    cases rr with
    | cons r' rr =>
      cases rr
      obtain ⟨o1, Hb1, at1, B1, hb1, S1, a1⟩ := z1.begins I1 r
      obtain ⟨o2, Hb2, at2, B2, hb2, S2, a2⟩ := z2.begins I1 r'
      refine zip_begins2 B1 B2 hb1 hb2 fun h' hz hTI hTO h1 h2 hsz hk => wpAny_pyIter_zip hz ?_
      have I2 : Inv X pins σ H1 { s1 with heap := h' } := I1.kept (t' := s1.toks) hk
      refine ⟨s1.heap.objs.size + 4, [s1.heap.objs.size + 4, s1.heap.objs.size + 2, s1.heap.objs.size + 3, s1.heap.objs.size, s1.heap.objs.size + 1], _, _, H1, rfl, I2, turn_zipG S1 S2 ?_, ⟨Nat.zero_le _, hz, hTI, ⟨_, _, hTO⟩, a1 _ _ h1, a2 _ _ h2⟩, fun b hb => ?_, q⟩
      · simp only [List.nodup_cons, List.mem_cons, List.not_mem_nil, or_false, not_or, List.nodup_nil, and_true, not_false_eq_true]
        refine ⟨⟨?_, ?_, ?_, ?_⟩, ⟨?_, ?_, ?_⟩, ⟨?_, ?_⟩, ?_⟩ <;> (show (_ : Nat) ≠ _) <;> omega
      · have hle : s1.heap.objs.size ≤ b := by
          have e' : b = s1.heap.objs.size + 4 ∨ b = s1.heap.objs.size + 2 ∨ b = s1.heap.objs.size + 3 ∨ b = s1.heap.objs.size ∨ b = s1.heap.objs.size + 1 := by simpa using hb
          rcases e' with z | z | z | z | z
          · rw [z]; exact Nat.le_add_right _ _
          · rw [z]; exact Nat.le_add_right _ _
          · rw [z]; exact Nat.le_add_right _ _
          · rw [z]; exact Nat.le_refl _
          · rw [z]; exact Nat.le_add_right _ _
        exact I1.fpOk hle (I1.hok.fresh hle)

def itsD : D → R (List D)
  | .lst xs => .ok xs
  | .tup xs => .ok xs
  | .str z => .ok (charsD z)
  | _ => .bad
def pairs2 (xs ys : List D) : List D := (xs.zip ys).map fun p => .tup [p.1, p.2]
def fZip (A B : En → R D) : En → R (List D) := fun env => A env >>= fun x => B env >>= fun y => itsD x >>= fun xs => itsD y >>= fun ys => .ok (pairs2 xs ys)
theorem zv_of {v : V} {d : D} {xs : List D} (E : EnvAt K M H0 H σ env) (r : RepX c K H0 H v d) (h : itsD d = .ok xs) :
    ∃ n src Pv, ZV H v n src Pv ∧ n = xs.length ∧ n ≤ sizeLine ∧ (∀ H1, Same (if c = true then H0 else H) H1 → src H1) ∧ ∀ i x dd, Pv i x → xs[i]? = some dd → Rep K H0 x dd := by
  unfold itsD at h
  split at h
  · cases h
    have z := r.lstLen
    obtain ⟨a, vs, rfl, h1, h2, r2⟩ := r.lstAt E.same
    refine ⟨_, _, _, .inl ⟨a, vs, rfl, h2, rfl, rfl, rfl⟩, r2.length, r2.length ▸ z, fun H1 s => s _ _ h1, fun i x dd hx hd => ?_⟩
    obtain ⟨v, hv, rv⟩ := r2.get hd
    replace hx : vs[i]? = some x := hx
    rw [hv] at hx; cases hx; exact rv
  · cases h
    have z := r.tupLen
    obtain ⟨a, vs, rfl, h1, r2⟩ := r.tup
    refine ⟨_, _, _, .inr (.inl ⟨a, vs, rfl, E.same _ _ h1, rfl, rfl, rfl⟩), r2.length, r2.length ▸ z, fun H1 s => ?_, fun i x dd hx hd => ?_⟩
    · exact ifSame E.same s _ _ h1
    · obtain ⟨v, hv, rv⟩ := r2.get hd
      replace hx : vs[i]? = some x := hx
      rw [hv] at hx; cases hx; exact rv
  · rename_i z
    cases h
    have zz : z.cps.size ≤ sizeLine := by rw [sizeLine_eq]; exact of_decide_eq_true (Bool.and_eq_true_iff.mp r.sok).2
    refine ⟨_, _, _, .inr (.inr ⟨z, r.str, rfl, rfl, rfl⟩), (charsD_len z).symm, zz, fun _ _ => trivial, fun i x dd hx hd => ?_⟩
    obtain ⟨c', hc, e⟩ := charsD_get hd
    obtain ⟨c2, hc2, e2⟩ := hx
    rw [hc] at hc2; cases hc2
    subst e e2
    exact charsD_rep r.sok hc
  · cases h
theorem pairs2_get {xs ys : List D} {i : Nat} {d : D} (h : (pairs2 xs ys)[i]? = some d) : ∃ x y, xs[i]? = some x ∧ ys[i]? = some y ∧ d = .tup [x, y] := by
  unfold pairs2 at h
  rw [List.getElem?_map] at h
  cases e : (xs.zip ys)[i]? with
  | none => rw [e] at h; cases h
  | some q =>
    rw [e] at h; cases h
    have := List.getElem?_zip_eq_some.mp e
    exact ⟨q.1, q.2, this.1, this.2, rfl⟩
theorem di_zip (hm : X.mg "zip" = none) (ha : DE X W ξ c1 e f) (hb : DE X W ξ c2 e2 g) (hg : Gl X "zip" := by rfl)
    (hs : starEach [e, e2] X.env = (false, eval e X.env) :: starEach [e2] X.env := by rfl) (hs2 : starEach [e2] X.env = (false, eval e2 X.env) :: starEach [] X.env := by rfl) (hpl : (backTo pos (starEach [e2] X.env)).any (·.1) = false := by rfl) :
    DI X W ξ (c1 && c2) (.Tuple elts kk tpos) (.Call (.Name "zip" p) [e, e2] [] pos) (fZip f g) :=
  piImp (pi_zipG hg hm (pa_cons ha (pa_cons hb pa_nil hs2) hs) hs hpl) fun σ H R' ⟨M, H0, env, E, p⟩ => ⟨M, H0, env, E, bindE wishI p fun d1 x H1 H2 g1 r1 p1 => ⟨M, H1, env, g1.e, bindE wishI p1 fun d2 y H3 H4 g2 r2 p2 => by
    replace r1 := r1.mono g2.s0 g2.s
    replace E := g2.e
    cases e1 : itsD d1 with
    | exc q => exfalso; revert e1; unfold itsD; split <;> simp
    | bad => rw [e1] at p2; exact p2.elim
    | ok xs =>
      rw [e1] at p2
      cases e2 : itsD d2 with
      | exc q => exfalso; revert e2; unfold itsD; split <;> simp
      | bad => rw [e2] at p2; exact p2.elim
      | ok ys =>
        rw [e2] at p2
        obtain ⟨n1, s1, P1, z1, l1, k1, f1, q1⟩ := zv_of E r1 e1
        obtain ⟨n2, s2, P2, z2, l2, k2, f2, q2⟩ := zv_of E r2 e2
        have hl : (pairs2 xs ys).length = min n1 n2 := by unfold pairs2; rw [List.length_map, List.length_zip, l1, l2]
        have fd : Feeds X.K H3 (if (c1 && c2) = true then H3 else H4) (ItZ n1 n2 s1 s2 P1 P2) (pairs2 xs ys) := by
          refine ⟨by rw [hl]; omega, fun H => s1 H ∧ s2 H, fun i H v H' => ∃ T x y, v = .ref T ∧ H T = none ∧ H' = upd H T (.tup [x, y]) ∧ P1 i x ∧ P2 i y, by rw [hl]; exact walk_Z, fun H5 s => ⟨f1 H5 ?_, f2 H5 ?_⟩, fun i H5 v H6 d _ hd yy => ?_⟩
          · revert s; cases c1 <;> cases c2 <;> simp only [Bool.true_and, Bool.false_and, if_true, if_false, Bool.false_eq_true] <;> first | exact fun s => s | exact fun s => E.same.trans s
          · revert s; cases c1 <;> cases c2 <;> simp only [Bool.true_and, Bool.false_and, if_true, if_false, Bool.false_eq_true] <;> first | exact fun s => s | exact fun s => E.same.trans s
          · obtain ⟨T, a, b, ea, hT, eH, pa, pb⟩ := yy
            obtain ⟨da, db, ha', hb', ed⟩ := pairs2_get hd
            exact .inr ⟨T, _, _, hT, eH, ea, ed, (by show 2 ≤ sizeLine; decide), .cons (q1 i a da pa ha') (.cons (q2 i b db pb hb') .nil)⟩
        exact ⟨x, y, n1, n2, s1, s2, P1, P2, rfl, z1, z2, p2 _ H3 H4 (.refl E) fd⟩⟩⟩
end
end Dx

namespace Dx
open PySem PySem.Spec PyProof.Rows L2
section
variable {X : Cx} {W : WX} {ξ : Str → Value} {e f a b o : Expr} {es : List Expr} {c c1 c2 c3 : Bool} {pos p apos cpos : Pos} {fa fb fo : En → R D} {Fs : En → R (List D)} {x : Str}
variable {K : PySem.W.Frag} {M : Fm ξ} {σ : L2.St} {env : En} {H0 H : Hp} {Q : VK}

def itsLT : D → Option (List D)
  | .lst xs => some xs
  | .tup xs => some xs
  | _ => none
def joinR (s l : D) : R D := match s, (itsLT l).bind strsOf with
  | .str a, some ys => if (ys.map (·.length)).sum + ys.length * a.length ≤ 16777216 ∧ sOk (Txt.join a ys) = true then .ok (.str (Txt.join a ys)) else .bad
  | _, _ => .bad
def strR : D → R D
  | .str a => .ok (.str a)
  | _ => .bad
def eJoin (A B : En → R D) : En → R D := fun env => A env >>= strR >>= fun x => B env >>= fun y => joinR x y
theorem de_join (ho : DE X W ξ c o fo) (he : DE X W ξ c1 e fa) (hs : starEach [e] X.env = [(false, eval e X.env)] := by rfl) (hbase : attributeBase o "join" X.env (eval o X.env) = eval o X.env := by rfl) (hline : (apos.endLine == pos.line) = true := by rfl) :
    DE X W ξ true (.Call (.Attribute o "join" apos) [e] [] pos) (eJoin fo fa) :=
  peImp (pe_join ho he hs hbase hline) fun σ H Q ⟨M, H0, env, E, p⟩ => ⟨M, H0, env, E, by
    have p : PostE X.K W ξ M σ env true H0 H Q ((fo env >>= strR) >>= fun d => fa env >>= fun y => joinR d y) := p
    rw [R.assoc] at p
    refine bindE wishE p fun d1 x H1 H2 g1 r1 p1 => ?_
    unfold strR at p1
    split at p1
    · rename_i a
      have p1 : PostE X.K W ξ M σ env true H1 H2 Q (fa env >>= fun y => joinR (.str a) y) := p1
      refine ⟨⟨_, r1.str⟩, M, H1, env, g1.e, bindE wishE p1 fun d2 y H3 H4 g2 r2 p2 => ?_⟩
      unfold joinR at p2
      split at p2
      · rename_i a' ys ha hys
        cases ha
        split at p2
        · rename_i hz
          have key : ∃ q, y = .ref q ∧ (SqL X.K H4 q (ys.map V.str) ∨ SqT X.K H4 q (ys.map V.str)) := by
            cases d2 with
            | lst xs =>
              obtain ⟨q, vs, rfl, h1, r3⟩ := r2.lst g2.e.same
              have e := strsOf_eq (show strsOf xs = some ys from hys)
              subst e
              rw [RepAll.strs r3] at h1
              exact ⟨q, rfl, .inl (SqL.of h1)⟩
            | tup xs =>
              obtain ⟨q, vs, rfl, h1, r3⟩ := r2.tup
              have e := strsOf_eq (show strsOf xs = some ys from hys)
              subst e
              rw [RepAll.strs r3] at h1
              exact ⟨q, rfl, .inr (SqT.of (g2.e.same _ _ h1))⟩
            | _ => cases hys
          obtain ⟨q, rfl, hq⟩ := key
          exact ⟨a, q, ys, r1.str, rfl, hq, hz.1, post_ok g2.e p2 (.str _ hz.2)⟩
        · exact p2.elim
      · exact p2.elim
    · exact p1.elim⟩

def splitR (s t : D) : R (List D) := match s, t with
  | .str a, .str b => if (b.length == 0) = false ∧ a.length + 2 ≤ sizeLine ∧ (Txt.split a b).length ≤ sizeLine ∧ (Txt.split a b).all sOk = true then .ok ((Txt.split a b).map D.str) else .bad
  | _, _ => .bad
def eSplit (A B : En → R D) : En → R (List D) := fun env => A env >>= strR >>= fun x => B env >>= fun y => splitR x y
theorem df_split (ho : DE X W ξ c o fo) (he : DE X W ξ c1 e fa) (hs : starEach [e] X.env = [(false, eval e X.env)] := by rfl) (hbase : attributeBase o "split" X.env (eval o X.env) = eval o X.env := by rfl) (hline : (apos.endLine == pos.line) = true := by rfl) :
    DF X W ξ (.Call (.Attribute o "split" apos) [e] [] pos) (eSplit fo fa) :=
  peImp (pe_split ho he hs hbase hline) fun σ H Q ⟨M, H0, env, E, p⟩ => ⟨M, H0, env, E, by
    have p : PostF X.K W ξ M σ env H0 H Q ((fo env >>= strR) >>= fun d => fa env >>= fun y => splitR d y) := p
    rw [R.assoc] at p
    refine bindE wishF p fun d1 x H1 H2 g1 r1 p1 => ?_
    unfold strR at p1
    split at p1
    · rename_i a
      have p1 : PostF X.K W ξ M σ env H1 H2 Q (fa env >>= fun y => splitR (.str a) y) := p1
      refine ⟨⟨_, r1.str⟩, M, H1, env, g1.e, bindE wishF p1 fun d2 y H3 H4 g2 r2 p2 => ?_⟩
      unfold splitR at p2
      split at p2
      · rename_i a' b ha
        cases ha
        split at p2
        · rename_i hz
          refine ⟨_, b, r1.str, by rw [r2.str], hz.1, hz.2.1, fun q hq => ?_⟩
          obtain ⟨g3, n⟩ := g2.e.newAt (o := .lst ((Txt.split _ b).map V.str)) hq
          exact p2 q _ _ _ g3 hq n ⟨by rw [List.length_map]; exact hz.2.2.1, repAll_strs fun z hzm => List.all_eq_true.mp hz.2.2.2 z hzm⟩
        · exact p2.elim
      · exact p2.elim
    · exact p1.elim⟩

def strOfI (i : Int) : Str := Str.ofString (toString i)
def str1R : List D → R D
  | [.int i] => if i.natAbs.log2 < 1920 ∧ sOk (strOfI i) = true then .ok (.str (strOfI i)) else .bad
  | [.str a] => .ok (.str a)
  | _ => .bad
theorem cb_str1 : CbD X W ξ (.type "str") str1R := ⟨_, CallR.or call_str_int SkE.call_str_str, fun {c M σ env H0 H Q vs ds} E r p => by
  unfold str1R at p
  split at p
  · obtain ⟨v, rfl, r0⟩ := x1 r
    split at p
    · rename_i hz
      exact .inl ⟨_, by rw [RepX.int r0], hz.1, post_ok E p (.str _ hz.2)⟩
    · exact p.elim
  · obtain ⟨v, rfl, r0⟩ := x1 r
    exact .inr ⟨_, by rw [RepX.str r0], post_ok E p (.str _ (RepX.sok r0))⟩
  · exact p.elim⟩
def intTR : List D → R D
  | [.str a] => (match PySem.intText? a with
    | some n => if a.length ≤ 640 then .ok (.int n) else .bad
    | none => .bad)
  | _ => .bad
theorem cb_intT : CbD X W ξ (.type "int") intTR := ⟨_, call_int_str, fun {c M σ env H0 H Q vs ds} E r p => by
  unfold intTR at p
  split at p
  · obtain ⟨v, rfl, r0⟩ := x1 r
    split at p
    · rename_i n hn
      split at p
      · rename_i hz
        exact ⟨_, n, by rw [RepX.str r0], hn, hz, post_ok E p (.int _)⟩
      · exact p.elim
    · exact p.elim
  · exact p.elim⟩

end
end Dx
namespace Dx
open PySem PySem.Spec PyProof.Rows L2
section
variable {K : PySem.W.Frag} {ξ : Str → Value} {M : Fm ξ} {σ : L2.St} {env : En} {H0 H : Hp}
mutual
theorem Rep.lock {a : Addr} {u o : HO} (h : H a = some u) (hk : ∃ kvs od, (u = .dK kvs ∧ o = .frz od (.dK kvs)) ∨ (u = .frz od (.dK kvs) ∧ o = .dK kvs)) : ∀ {v : V} {d : D}, Rep K H v d → Rep K (upd H a o) v d
  | _, _, .non => .non
  | _, _, .bl b => .bl b
  | _, _, .int i => .int i
  | _, _, .str x h => .str x h
  | _, _, .tup (a := b) q z r => .tup (by
      have hne : b ≠ a := fun e => by
        subst e; rw [h] at q; cases q
        obtain ⟨_, _, ⟨e, _⟩ | ⟨e, _⟩⟩ := hk <;> cases e
      rw [upd_ne hne]; exact q) z (RepAll.lock h hk r)
  | _, _, .lst (a := b) q z r => .lst (by
      have hne : b ≠ a := fun e => by
        subst e; rw [h] at q; cases q
        obtain ⟨_, _, ⟨e, _⟩ | ⟨e, _⟩⟩ := hk <;> cases e
      rw [upd_ne hne]; exact q) z (RepAll.lock h hk r)
  | _, _, .dic (a := b) q r => .dic (by
      by_cases e : b = a
      · subst e
        unfold Rd at q ⊢
        rw [h] at q
        rw [upd_same]
        obtain ⟨kvs, od, ⟨e1, e2⟩ | ⟨e1, e2⟩⟩ := hk
        · subst e1 e2
          rcases q with q | ⟨_, q⟩
          · cases q; exact .inr ⟨_, rfl⟩
          · cases q
        · subst e1 e2
          rcases q with q | ⟨_, q⟩
          · cases q
          · cases q; exact .inl rfl
      · unfold Rd at q ⊢
        rw [upd_ne e]; exact q) (RepKv.lock h hk r)
  | _, _, .opq b => .opq b
  | _, _, .frz (a := b) q => .frz (by
      rcases q with q | q
      · refine .inl ?_
        by_cases e : b = a
        · subst e
          exfalso
          unfold Rd at q
          rw [h] at q
          obtain ⟨kvs, od, ⟨e1, e2⟩ | ⟨e1, e2⟩⟩ := hk
          · subst e1; rcases q with q | ⟨_, q⟩ <;> cases q
          · subst e1; rcases q with q | ⟨_, q⟩ <;> cases q
        · unfold Rd at q ⊢
          rw [upd_ne e]; exact q
      · exact .inr q)
theorem RepAll.lock {a : Addr} {u o : HO} (h : H a = some u) (hk : ∃ kvs od, (u = .dK kvs ∧ o = .frz od (.dK kvs)) ∨ (u = .frz od (.dK kvs) ∧ o = .dK kvs)) : ∀ {vs : List V} {xs : List D}, RepAll K H vs xs → RepAll K (upd H a o) vs xs
  | _, _, .nil => .nil
  | _, _, .cons r t => .cons (Rep.lock h hk r) (RepAll.lock h hk t)
theorem RepKv.lock {a : Addr} {u o : HO} (h : H a = some u) (hk : ∃ kvs od, (u = .dK kvs ∧ o = .frz od (.dK kvs)) ∨ (u = .frz od (.dK kvs) ∧ o = .dK kvs)) : ∀ {vs : List (Key × V)} {xs : List (Key × D)}, RepKv K H vs xs → RepKv K (upd H a o) vs xs
  | _, _, .nil => .nil
  | _, _, .cons e r t => .cons e (Rep.lock h hk r) (RepKv.lock h hk t)
end
end
end Dx

namespace Dx
open PySem PySem.Spec PyProof.Rows L2
section
variable {K : PySem.W.Frag} {ξ : Str → Value} {M : Fm ξ} {σ : L2.St} {env : En} {H0 H H0' H' : Hp}
theorem EnvAt.lock {a : Addr} {od : Obj} {i : Nat} {kvs : List (Key × D)} {vs : List (Key × V)} (E : EnvAt K M H0 H σ env) (hi : env[i]? = some (.od kvs)) (hs : σ[i]? = some (some (.ref a))) (h0 : H0 a = none) (hg : M.G a = none) (r : RepKv K H0 vs kvs) :
    EnvAt K M (upd H0 a (.frz od (.dK vs))) (upd H a (.frz od (.dK vs))) σ (env.set i (.d (.dic kvs))) := by
  have hw : Owns σ env i a := ⟨hs, _, hi, rfl⟩
  have hlt : i < env.length := (List.getElem?_eq_some_iff.mp hi).1
  have s0 : Same H0 (upd H0 a (.frz od (.dK vs))) := same_upd h0
  have key : ∀ b j, Owns σ (env.set i (.d (.dic kvs))) j b → j ≠ i ∧ Owns σ env j b := fun b j ⟨k1, s3, k2, k3⟩ => by
    by_cases hij : i = j
    · subst hij
      rw [List.getElem?_set_self hlt] at k2; cases k2; cases k3
    · rw [List.getElem?_set_ne hij] at k2
      exact ⟨Ne.symm hij, k1, s3, k2, k3⟩
  refine ⟨fun b u e => ?_, fun b u e => ?_, fun b hb => ?_, by rw [List.length_set]; exact E.len, fun j s2 h2 => ?_, fun j l b hj hl => E.sep j l b (key b j hj).2 (key b l hl).2, fun b j hb ho => E.ng b j hb (key b j ho).2, tg_set E.tg (by intro _ _ _ z; cases z)⟩
  · by_cases hb : b = a
    · subst hb; rw [upd_same] at e ⊢; exact e
    · rw [upd_ne hb] at e ⊢; exact E.same _ _ e
  · rw [upd_ne (ne_of_none e hg)]; exact E.fr _ _ e
  · obtain ⟨z1, z2⟩ := E.nogo b hb
    have : b ≠ a := fun z => by subst z; exact E.ng b i hb hw
    rw [upd_ne this, upd_ne this]; exact ⟨z1, z2⟩
  · by_cases hij : i = j
    · subst hij
      rw [List.getElem?_set_self hlt] at h2; cases h2
      exact ⟨.ref a, hs, .dic (.inr ⟨od, upd_same⟩) (r.mono s0)⟩
    · rw [List.getElem?_set_ne hij] at h2
      have q := E.slot j s2 h2
      have ne : ∀ {b}, σ[j]? = some (some (.ref b)) → s2.own = true → b ≠ a := fun {b} e o' z => by
        subst z; exact hij (E.sep i j b hw ⟨e, s2, h2, o'⟩)
      cases s2 with
      | u => trivial
      | d x => obtain ⟨v, e, r⟩ := q; exact ⟨v, e, r.mono s0⟩
      | ol xs => obtain ⟨b, vs, e, k0, kg, kb, z, r⟩ := q; exact ⟨b, vs, e, by rw [upd_ne (ne e rfl)]; exact k0, kg, by rw [upd_ne (ne e rfl)]; exact kb, z, r.mono s0⟩
      | od xs => obtain ⟨b, vs, e, k0, kg, kb, r⟩ := q; exact ⟨b, vs, e, by rw [upd_ne (ne e rfl)]; exact k0, kg, by rw [upd_ne (ne e rfl)]; exact kb, r.mono s0⟩
      | ex => exact q
      | tr n k t => exact ⟨q.1, q.2.1, q.2.2.mono s0⟩
end
section
variable {X : Cx} {W : WX} {ξ : Str → Value} {body : List Stmt} {B : En → Out} {pos npos : Pos}
end
end Dx
namespace Dx
open PySem PySem.Spec PyProof.Rows L2
section
variable {X : Cx} {W : WX} {ξ : Str → Value} {body : List Stmt} {B : En → Out} {pos npos : Pos}
end
end Dx

namespace Dx
open PySem PySem.Spec PyProof.Rows L2
section
variable {X : Cx} {W : WX} {ξ : Str → Value} {a b : Expr} {c1 c2 : Bool} {pos : Pos} {fa fb : En → R D}
end
end Dx

namespace Dx
open PySem PySem.Spec PyProof.Rows L2
section
variable {X : Cx} {W : WX} {ξ : Str → Value} {K : PySem.W.Frag} {H0 H : Hp}
end
end Dx

namespace Dn
open PySem PySem.Spec PyProof.Rows L2 Dx
def g_is_within : En → Out := (sRet (eAnd (eUn (isiR "int") (getD' 0)) (eAnd (eUn notR (eUn (isiR "bool") (getD' 0))) (eChain leR leR (getD' 1) (getD' 0) (getD' 2)))))
def den_is_within : List D → R D := defR 3 0 g_is_within
def g_is_name : En → Out := (sRet (eAnd (eUn (isiR "str") (getD' 0)) (eAnd (eChain leR leR (eC (.int 1)) (eUn lenR (aCons (getD' 0) aNil)) (eC (.int 3))) (eUn allR (aCons (eOfF (eComp (eUn itemsR (getD' 0)) (nameT 1) tTrue (eBin inR (getD' 1) (eC (.str "abcdefghijklmnopqrstuvwxyz"))) [1])) aNil)))))
def den_is_name : List D → R D := defR 1 1 g_is_name
def g_are_marks : En → Out := (sSeq (sIf (tOr (tNot (tVal (eUn (isiR "str") (getD' 0)))) (tNot (tVal (eUn allR (aCons (eOfF (eComp (eUn itemsR (getD' 0)) (nameT 1) tTrue (eBin inR (getD' 1) (eC (.str "cfhl"))) [1])) aNil)))))
  (sRet (eC (.bl false)))
  sNil)
  (sRet (eUn allR (aCons (eOfF (eComp (fZip (getD' 0) (eSlice (getD' 0) (eUn optR (eC (.int 1))) oNone)) (tupT [2, 3]) tTrue (eBin ltR (getD' 2) (getD' 3)) [2, 3])) aNil))))
def den_are_marks : List D → R D := defR 1 3 g_are_marks
def g_is_box : En → Out := (sSeq (sIf (tOr (tNot (tVal (eUn (isiR "tuple") (getD' 0)))) (tOr (tBin neR (eUn lenR (aCons (getD' 0) aNil)) (eC (.int 7))) (tOr (tNot (tVal (eUn den_is_name (aCons (eBin ixR (getD' 0) (eC (.int 0))) aNil)))) (tNot (tVal (eUn den_are_marks (aCons (eBin ixR (getD' 0) (eC (.int 6))) aNil)))))))
  (sRet (eC (.bl false)))
  sNil)
  (sSeq (sIf (tOr (tNot (tVal (eUn (isiR "str") (eBin ixR (getD' 0) (eC (.int 1)))))) (tNot (tVal (eUn allR (aCons (eOfF (eComp (eUn itemsR (eSlice (getD' 0) (eUn optR (eC (.int 2))) (eUn optR (eC (.int 4))))) (nameT 1) tTrue (eUn den_is_within (aCons (getD' 1) (aCons (eBin subR (eC (.int 0)) (eC (.int 20))) (aCons (eC (.int 20)) aNil)))) [1])) aNil)))))
  (sRet (eC (.bl false)))
  sNil)
  (sRet (eUn allR (aCons (eOfF (eComp (eUn itemsR (eSlice (getD' 0) (eUn optR (eC (.int 4))) (eUn optR (eC (.int 6))))) (nameT 2) tTrue (eUn den_is_within (aCons (getD' 2) (aCons (eC (.int 0)) (aCons (eC (.int 20)) aNil)))) [2])) aNil)))))
def den_is_box : List D → R D := defR 1 2 g_is_box
def g_is_scene : En → Out := (sSeq (sIf (tOr (tNot (tVal (eUn (isiR "tuple") (getD' 0)))) (tOr (tBin gtR (eUn lenR (aCons (getD' 0) aNil)) (eC (.int 12))) (tNot (tVal (eUn allR (aCons (eOfF (eComp (eUn itemsR (getD' 0)) (nameT 2) tTrue (eUn den_is_box (aCons (getD' 2) aNil)) [2])) aNil))))))
  (sRet (eC (.bl false)))
  sNil)
  (sSeq (sSet 1 (eOfF (eComp (eUn itemsR (getD' 0)) (nameT 2) tTrue (eBin ixR (getD' 2) (eC (.int 0))) [2])))
  (sSeq (sIf (tBin ltR (eUn lenSetR (getD' 1)) (eUn lenR (aCons (getD' 1) aNil)))
  (sRet (eC (.bl false)))
  sNil)
  (sRet (eUn allR (aCons (eOfF (eComp (fEnT (getD' 0)) (tupT [3, 2]) tTrue (eOr (eBin eqR (eBin ixR (getD' 2) (eC (.int 1))) (eC (.str ""))) (eBin inR (eBin ixR (getD' 2) (eC (.int 1))) (eSlice (getD' 1) oNone (eUn optR (getD' 3))))) [3, 2])) aNil))))))
def den_is_scene : List D → R D := defR 1 3 g_is_scene
def g__law_cell : En → Out := (sSeq (sIf (tBin eqR (getD' 0) (eOfF (eUn lstR aNil)))
  (sRet (eBin mulR (eC (.int 7)) (getD' 1)))
  sNil)
  (sRet (eBin addR (eBin ixR (getD' 0) (eBin modR (getD' 1) (eUn lenR (aCons (getD' 0) aNil)))) (eBin mulR (eC (.int 6553)) (eBin divR (getD' 1) (eUn lenR (aCons (getD' 0) aNil)))))))
def den__law_cell : List D → R D := defR 2 0 g__law_cell
def g__law_drawn : En → Out := (sSeq (sSet 3 (eBin modR (eBin addR (eBin mulR (eBin modR (eUn den__law_cell (aCons (getD' 0) (aCons (getD' 1) aNil))) (eC (.int 2147483563))) (eC (.int 69069))) (eBin mulR (eC (.int 104723)) (eBin addR (getD' 1) (eC (.int 1))))) (eC (.int 2147483563))))
  (sSeq (sSet 3 (eBin modR (eBin addR (eBin mulR (getD' 3) (getD' 3)) (eBin divR (getD' 3) (eC (.int 3)))) (eC (.int 2147483399))))
  (sRet (eBin modR (eBin divR (eBin modR (eBin addR (eBin mulR (getD' 3) (getD' 3)) (eBin divR (getD' 3) (eC (.int 7)))) (eC (.int 2147483647))) (eC (.int 11))) (getD' 2)))))
def den__law_drawn : List D → R D := defR 3 1 g__law_drawn
def g__law_scene : En → Out := (sSeq (sSet 2 (eUn tupR aNil))
  (sSeq (sSet 3 (eUn den__law_drawn (aCons (getD' 0) (aCons (eBin addR (getD' 1) (eC (.int 1))) (aCons (eC (.int 8)) aNil)))))
  (sSeq (sFor (eUn range1R (eUn den__law_drawn (aCons (getD' 0) (aCons (getD' 1) (aCons (eC (.int 8)) aNil))))) (nameT 4)
  (sEnd [4, 5, 6, 7, 8, 9, 10, 11, 12] (sSeq (sSet 5 (eBin addR (eBin addR (getD' 1) (eC (.int 3))) (eBin mulR (eC (.int 9)) (getD' 4))))
  (sSeq (sSet 6 (eBin ixR (eBin addR (eOfF (eUn lstR (aCons (eC (.str "")) aNil))) (eOfF (eComp (eUn itemsR (getD' 2)) (nameT 13) tTrue (eBin ixR (getD' 13) (eC (.int 0))) [13]))) (eUn den__law_drawn (aCons (getD' 0) (aCons (getD' 5) (aCons (eBin addR (getD' 4) (eC (.int 1))) aNil))))))
  (sSeq (sSetFD 7 (eComp (eUn range1R (eC (.int 2))) (nameT 10) tTrue (eBin subR (eUn den__law_drawn (aCons (getD' 0) (aCons (eBin addR (eBin addR (getD' 5) (eC (.int 1))) (getD' 10)) (aCons (eC (.int 9)) aNil)))) (eC (.int 3))) [10]))
  (sSeq (sSetFD 8 (eComp (eUn range1R (eC (.int 2))) (nameT 10) tTrue (eUn den__law_drawn (aCons (getD' 0) (aCons (eBin addR (eBin addR (getD' 5) (eC (.int 3))) (getD' 10)) (aCons (eC (.int 9)) aNil)))) [10]))
  (sSeq (sSet 9 (eC (.str "")))
  (sSeq (sFor (fEnT (eC (.str "cfhl"))) (tupT [10, 11])
  (sEnd [10, 11] (sIf (tBin eqR (eUn den__law_drawn (aCons (getD' 0) (aCons (eBin addR (eBin addR (getD' 5) (eC (.int 5))) (getD' 10)) (aCons (eBin ixR (eOfF (eUn lstR (aCons (eC (.int 4)) (aCons (eC (.int 2)) (aCons (eC (.int 9)) (aCons (eC (.int 6)) aNil)))))) (getD' 10)) aNil)))) (eC (.int 0)))
  (sSet 9 (eBin addR (getD' 9) (getD' 11)))
  sNil)))
  (sSeq (sSet 12 (eBin ixR (eC (.str "dbgahcfe")) (eBin modR (eBin addR (getD' 4) (getD' 3)) (eC (.int 8)))))
  (sSet 2 (eBin addR (getD' 2) (eUn tupR (aCons (eBin addR (eBin addR (eUn tupR (aCons (getD' 12) (aCons (getD' 6) aNil))) (eUn tupleR (aCons (eBin addR (getD' 7) (getD' 8)) aNil))) (eUn tupR (aCons (getD' 9) aNil))) aNil)))))))))))))
  (sRet (getD' 2)))))
def den__law_scene : List D → R D := defR 2 12 g__law_scene
def g_box_of : En → Out := (sSeq (sFor (eUn itemsR (getD' 0)) (nameT 2)
  (sEnd [2] (sIf (tBin eqR (eBin ixR (getD' 2) (eC (.int 0))) (getD' 1))
  (sRet (getD' 2))
  sNil)))
  (sRaise "NoBox"))
def den_box_of : List D → R D := defR 2 1 g_box_of
def g_path_of : En → Out := (sSeq (sSet 2 (eOfF (eUn lstR (aCons (eBin ixR (eUn den_box_of (aCons (getD' 0) (aCons (getD' 1) aNil))) (eC (.int 0))) aNil))))
  (sSeq (sWhile (tBin neR (eBin ixR (eUn den_box_of (aCons (getD' 0) (aCons (eBin ixR (getD' 2) (eC (.int 0))) aNil))) (eC (.int 1))) (eC (.str "")))
  (sSet 2 (eBin addR (eOfF (eUn lstR (aCons (eBin ixR (eUn den_box_of (aCons (getD' 0) (aCons (eBin ixR (getD' 2) (eC (.int 0))) aNil))) (eC (.int 1))) aNil))) (getD' 2))) 4096)
  (sRet (getD' 2))))
def den_path_of : List D → R D := defR 2 1 g_path_of
def g_children : En → Out := (sRet (eOfF (eComp (eUn itemsR (getD' 0)) (nameT 2) (tBin eqR (eBin ixR (getD' 2) (eC (.int 1))) (getD' 1)) (eBin ixR (getD' 2) (eC (.int 0))) [2])))
def den_children : List D → R D := defR 2 1 g_children
def g_painted : En → Out := (sSeq (sSetF 1 (eUn revF (eUn den_children (aCons (getD' 0) (aCons (eC (.str "")) aNil)))))
  (sSeq (sSetF 2 (eUn lstR aNil))
  (sSeq (sWhile (tBin neR (getV 1) (eOfF (eUn lstR aNil)))
  (sEnd [3] (sSeq (sPop 1 (nameT 3))
  (sSeq (sMeth 2 (getD' 3) appO)
  (sMeth 1 (eOfF (eUn revF (eUn den_children (aCons (getD' 0) (aCons (getD' 3) aNil))))) extO)))) 4096)
  (sFrz 2 (sRet (getD' 2))))))
def den_painted : List D → R D := defR 1 3 g_painted
def g_below : En → Out := (sSeq (sExpr (eUn den_box_of (aCons (getD' 0) (aCons (getD' 1) aNil))))
  (sRet (eOfF (eComp (eUn itemsR (eUn den_painted (aCons (getD' 0) aNil))) (nameT 2) (tBin inR (getD' 1) (eUn den_path_of (aCons (getD' 0) (aCons (getD' 2) aNil)))) (getD' 2) [2]))))
def den_below : List D → R D := defR 2 1 g_below
def g_area_of : En → Out := (sSeq (sSet 2 (eC (.int 0)))
  (sSeq (sSet 3 (eC (.int 0)))
  (sSeq (sFor (eUn itemsR (eUn den_path_of (aCons (getD' 0) (aCons (getD' 1) aNil)))) (nameT 4)
  (sEnd [4, 5] (sSeq (sSet 5 (eUn den_box_of (aCons (getD' 0) (aCons (getD' 4) aNil))))
  (sSeq (sSet 2 (eBin addR (getD' 2) (eBin ixR (getD' 5) (eC (.int 2)))))
  (sSet 3 (eBin addR (getD' 3) (eBin ixR (getD' 5) (eC (.int 3)))))))))
  (sSeq (sSet 5 (eUn den_box_of (aCons (getD' 0) (aCons (getD' 1) aNil))))
  (sRet (eUn tupR (aCons (getD' 2) (aCons (getD' 3) (aCons (eBin addR (getD' 2) (eBin ixR (getD' 5) (eC (.int 4)))) (aCons (eBin addR (getD' 3) (eBin ixR (getD' 5) (eC (.int 5)))) aNil))))))))))
def g_cut : En → Out := (sSeq (sSet 2 (eUn den_below (aCons (getD' 0) (aCons (getD' 1) aNil))))
  (sRet (eUn tupleR (aCons (eOfF (eComp (eUn itemsR (getD' 0)) (nameT 3) (tBin notInR (eBin ixR (getD' 3) (eC (.int 0))) (getD' 2)) (getD' 3) [3])) aNil))))
def den_cut : List D → R D := defR 2 2 g_cut
def g_raised : En → Out := (sSeq (sSet 2 (eUn den_below (aCons (getD' 0) (aCons (getD' 1) aNil))))
  (sRet (eBin addR (eUn den_cut (aCons (getD' 0) (aCons (getD' 1) aNil))) (eUn tupleR (aCons (eOfF (eComp (eUn itemsR (getD' 0)) (nameT 3) (tBin inR (eBin ixR (getD' 3) (eC (.int 0))) (getD' 2)) (getD' 3) [3])) aNil)))))
def g_laid : En → Out := (sSeq (sSetK 1 kNil)
  (sSeq (sFor (eUn itemsR (getD' 0)) (nameT 2)
  (sEnd [2, 3, 4, 5, 6] (sSeq (sSet 3 (eIf (tBin eqR (eBin ixR (getD' 2) (eC (.int 1))) (eC (.str ""))) (eUn tupR (aCons (eUn tupR (aCons (eC (.int 0)) (aCons (eC (.int 0)) (aCons (eC (.int 0)) (aCons (eC (.int 0)) aNil))))) (aCons (eUn tupR aNil) aNil))) (eGet (getV 1) (eBin ixR (getD' 2) (eC (.int 1))))))
  (sEnd [4, 5, 6] (sIf (tAnd (tBin isNotR (getD' 3) (eC .non)) (tBin notInR (eC (.str "h")) (eBin ixR (getD' 2) (eC (.int 6)))))
  (sSeq (sSet 4 (eBin addR (eBin ixR (eBin ixR (getD' 3) (eC (.int 0))) (eC (.int 0))) (eBin ixR (getD' 2) (eC (.int 2)))))
  (sSeq (sSet 5 (eBin addR (eBin ixR (eBin ixR (getD' 3) (eC (.int 0))) (eC (.int 1))) (eBin ixR (getD' 2) (eC (.int 3)))))
  (sSeq (sSet 6 (eUn tupR (aCons (getD' 4) (aCons (getD' 5) (aCons (eBin addR (getD' 4) (eBin ixR (getD' 2) (eC (.int 4)))) (aCons (eBin addR (getD' 5) (eBin ixR (getD' 2) (eC (.int 5)))) aNil))))))
  (sPut 1 (eBin ixR (getD' 2) (eC (.int 0))) (eUn tupR (aCons (getD' 6) (aCons (eBin addR (eBin ixR (getD' 3) (eC (.int 1))) (eIf (tBin inR (eC (.str "c")) (eBin ixR (getD' 2) (eC (.int 6)))) (eUn tupR (aCons (getD' 6) aNil)) (eUn tupR aNil))) aNil)))))))
  sNil)))))
  (sFrz 1 (sRet (getD' 1)))))
def den_laid : List D → R D := defR 1 6 g_laid
def g_is_shown : En → Out := (sSeq (sExpr (eUn den_box_of (aCons (getD' 0) (aCons (getD' 1) aNil))))
  (sRet (eBin inR (getD' 1) (eUn den_laid (aCons (getD' 0) aNil)))))
def den_is_shown : List D → R D := defR 2 0 g_is_shown
def g_has_point : En → Out := (sRet (eAnd (eChain leR ltR (eBin ixR (getD' 0) (eC (.int 0))) (getD' 1) (eBin ixR (getD' 0) (eC (.int 2)))) (eChain leR ltR (eBin ixR (getD' 0) (eC (.int 1))) (getD' 2) (eBin ixR (getD' 0) (eC (.int 3))))))
def den_has_point : List D → R D := defR 3 0 g_has_point
def g_has_all : En → Out := (sRet (eAnd (eUn den_has_point (aCons (eBin ixR (getD' 0) (eC (.int 0))) (aCons (getD' 1) (aCons (getD' 2) aNil)))) (eUn allR (aCons (eOfF (eComp (eUn itemsR (eBin ixR (getD' 0) (eC (.int 1)))) (nameT 3) tTrue (eUn den_has_point (aCons (getD' 3) (aCons (getD' 1) (aCons (getD' 2) aNil)))) [3])) aNil))))
def den_has_all : List D → R D := defR 3 1 g_has_all
def g_is_touched : En → Out := (sRet (eAnd (eUn den_is_shown (aCons (getD' 0) (aCons (getD' 1) aNil))) (eUn den_has_all (aCons (eBin ixR (eUn den_laid (aCons (getD' 0) aNil)) (getD' 1)) (aCons (getD' 2) (aCons (getD' 3) aNil))))))
def g_from_top : En → Out := (sRet (eOfF (eUn revF (eOfF (eComp (eUn itemsR (eUn den_painted (aCons (getD' 0) aNil))) (nameT 2) (tAnd (tBin inR (getD' 2) (getD' 1)) (tBin notInR (eC (.str "l")) (eBin ixR (eUn den_box_of (aCons (getD' 0) (aCons (getD' 2) aNil))) (eC (.int 6))))) (getD' 2) [2])))))
def den_from_top : List D → R D := defR 2 1 g_from_top
def g_all_hits : En → Out := (sSeq (sSet 3 (eUn den_laid (aCons (getD' 0) aNil)))
  (sRet (eOfF (eComp (eUn itemsR (eUn den_from_top (aCons (getD' 0) (aCons (getD' 3) aNil)))) (nameT 4) (tVal (eUn den_has_all (aCons (eBin ixR (getD' 3) (getD' 4)) (aCons (getD' 1) (aCons (getD' 2) aNil))))) (getD' 4) [4]))))
def den_all_hits : List D → R D := defR 3 2 g_all_hits
def g_hit : En → Out := (sSeq (sSet 3 (eUn den_all_hits (aCons (getD' 0) (aCons (getD' 1) (aCons (getD' 2) aNil)))))
  (sRet (eIf (tBin neR (getD' 3) (eOfF (eUn lstR aNil))) (eBin ixR (getD' 3) (eC (.int 0))) (eC .non))))
def den_hit : List D → R D := defR 3 1 g_hit
def g_hit_path : En → Out := (sSeq (sSet 3 (eUn den_hit (aCons (getD' 0) (aCons (getD' 1) (aCons (getD' 2) aNil)))))
  (sRet (eIf (tBin isR (getD' 3) (eC .non)) (eOfF (eUn lstR aNil)) (eUn den_path_of (aCons (getD' 0) (aCons (getD' 3) aNil))))))
def g_points_of : En → Out := (sSeq (sExpr (eUn den_box_of (aCons (getD' 0) (aCons (getD' 1) aNil))))
  (sSeq (sSet 2 (eUn den_laid (aCons (getD' 0) aNil)))
  (sSeq (sSet 3 (eUn den_from_top (aCons (getD' 0) (aCons (getD' 2) aNil))))
  (sSeq (sIf (tBin notInR (getD' 1) (getD' 3))
  (sRet (eC (.int 0)))
  sNil)
  (sSeq (sAsg (tupT [4, 5, 6, 7]) (eBin ixR (eBin ixR (getD' 2) (getD' 1)) (eC (.int 0))))
  (sSeq (sSet 8 (eSlice (getD' 3) oNone (eUn optR (eMeth lstyR (getD' 3) (aCons (getD' 1) aNil) indexR))))
  (sSeq (sSet 9 (eC (.int 0)))
  (sSeq (sFor (fRng2 (getD' 4) (getD' 6)) (nameT 10)
  (sEnd [10, 11] (sFor (fRng2 (getD' 5) (getD' 7)) (nameT 11)
  (sEnd [11] (sIf (tAnd (tVal (eUn den_has_all (aCons (eBin ixR (getD' 2) (getD' 1)) (aCons (getD' 10) (aCons (getD' 11) aNil))))) (tNot (tVal (eUn anyR (aCons (eOfF (eComp (eUn itemsR (getD' 8)) (nameT 12) tTrue (eUn den_has_all (aCons (eBin ixR (getD' 2) (getD' 12)) (aCons (getD' 10) (aCons (getD' 11) aNil)))) [12])) aNil)))))
  (sSet 9 (eBin addR (getD' 9) (eC (.int 1))))
  sNil)))))
  (sRet (getD' 9))))))))))
def g_or_bar : En → Out := (sRet (eIf (tBin neR (getD' 0) (eC (.str ""))) (getD' 0) (eC (.str "-"))))
def den_or_bar : List D → R D := defR 1 0 g_or_bar
def g_box_text : En → Out := (sRet (eJoin (eC (.str " ")) (eBin addR (eBin addR (eOfF (eUn lstR (aCons (eBin ixR (getD' 0) (eC (.int 0))) (aCons (eUn den_or_bar (aCons (eBin ixR (getD' 0) (eC (.int 1))) aNil)) aNil)))) (eOfF (eComp (eUn itemsR (eSlice (getD' 0) (eUn optR (eC (.int 2))) (eUn optR (eC (.int 6))))) (nameT 1) tTrue (eUn str1R (aCons (getD' 1) aNil)) [1]))) (eOfF (eUn lstR (aCons (eUn den_or_bar (aCons (eBin ixR (getD' 0) (eC (.int 6))) aNil)) aNil))))))
def den_box_text : List D → R D := defR 1 1 g_box_text
def g_written : En → Out := (sRet (eJoin (eC (.str "")) (eOfF (eComp (eUn itemsR (getD' 0)) (nameT 1) tTrue (eBin addR (eUn den_box_text (aCons (getD' 1) aNil)) (eC (.str "\n"))) [1]))))
def den_written : List D → R D := defR 1 1 g_written
def g_number_in : En → Out := (sSeq (sSet 1 (eIf (tBin eqR (eSlice (getD' 0) oNone (eUn optR (eC (.int 1)))) (eC (.str "-"))) (eSlice (getD' 0) (eUn optR (eC (.int 1))) oNone) (getD' 0)))
  (sSeq (sIf (tOr (tNot (tChain leR leR (eC (.int 1)) (eUn lenR (aCons (getD' 1) aNil)) (eC (.int 3)))) (tNot (tVal (eUn allR (aCons (eOfF (eComp (eUn itemsR (getD' 1)) (nameT 2) tTrue (eBin inR (getD' 2) (eC (.str "0123456789"))) [2])) aNil)))))
  (sRaise "NoText")
  sNil)
  (sRet (eUn intTR (aCons (getD' 0) aNil)))))
def den_number_in : List D → R D := defR 1 2 g_number_in
def g_text_in : En → Out := (sRet (eIf (tBin eqR (getD' 0) (eC (.str "-"))) (eC (.str "")) (getD' 0)))
def den_text_in : List D → R D := defR 1 0 g_text_in
end Dn

namespace Fo
open PySem
structure Box where
  nm : Str
  ar : Str
  l : Int
  t : Int
  w : Int
  h : Int
  ms : Str
deriving DecidableEq

def names (S : List Box) : List Str := S.map (·.nm)
def wf : List Str → List Box → Prop
  | _, [] => True
  | K, b :: T => b.nm ≠ "" ∧ b.nm ∉ K ∧ (b.ar = "" ∨ b.ar ∈ K) ∧ wf (b.nm :: K) T
def kids : List Box → Str → List Str
  | [], _ => []
  | b :: T, n => if b.ar = n then b.nm :: kids T b.nm ++ kids T n else kids T n
def children (S : List Box) (n : Str) : List Str := (S.filter fun b => decide (b.ar = n)).map (·.nm)
def pathR : List Box → Str → List Str
  | [], _ => []
  | b :: R, n => if n = b.nm then pathR R b.ar ++ [n] else pathR R n
def path (S : List Box) (n : Str) : List Str := pathR S.reverse n
def findB (S : List Box) (n : Str) : Option Box := S.find? fun b => decide (b.nm = n)

theorem names_nil : names [] = [] := rfl
theorem names_cons (b : Box) (T : List Box) : names (b :: T) = b.nm :: names T := rfl
theorem names_append (S T : List Box) : names (S ++ T) = names S ++ names T := List.map_append
theorem mem_names {S : List Box} {n : Str} : n ∈ names S ↔ ∃ b ∈ S, b.nm = n := List.mem_map
theorem names_length (S : List Box) : (names S).length = S.length := List.length_map ..

theorem wf_mono : ∀ {S : List Box} {K K' : List Str}, (∀ n, n ∈ K ↔ n ∈ K') → wf K S → wf K' S
  | [], _, _, _, _ => trivial
  | b :: T, K, K', e, ⟨h0, h1, h2, h3⟩ => ⟨h0, fun z => h1 ((e _).mpr z), h2.imp id fun z => (e _).mp z, wf_mono (fun n => by simp [e n]) h3⟩
theorem wf_append : ∀ {S T : List Box} {K : List Str}, wf K (S ++ T) ↔ wf K S ∧ wf (names S ++ K) T
  | [], T, K => by simp [wf, names_nil]
  | b :: S, T, K => by
    show (_ ∧ _ ∧ _ ∧ wf (b.nm :: K) (S ++ T)) ↔ (_ ∧ _ ∧ _ ∧ wf (b.nm :: K) S) ∧ _
    rw [wf_append]
    have : wf (names S ++ b.nm :: K) T ↔ wf (names (b :: S) ++ K) T := ⟨wf_mono fun n => by simp [names_cons, or_left_comm], wf_mono fun n => by simp [names_cons, or_left_comm]⟩
    rw [this]
    constructor
    · rintro ⟨a, b, c, d, e⟩; exact ⟨⟨a, b, c, d⟩, e⟩
    · rintro ⟨⟨a, b, c, d⟩, e⟩; exact ⟨a, b, c, d, e⟩
theorem wf_snoc {S : List Box} {b : Box} : wf [] (S ++ [b]) ↔ wf [] S ∧ b.nm ≠ "" ∧ b.nm ∉ names S ∧ (b.ar = "" ∨ b.ar ∈ names S) := by
  rw [wf_append]
  simp [wf]
theorem wf_split {S1 S2 : List Box} {b : Box} (h : wf [] (S1 ++ b :: S2)) : wf [] S1 ∧ b.nm ≠ "" ∧ b.nm ∉ names S1 ∧ (b.ar = "" ∨ b.ar ∈ names S1) := by
  have : wf [] ((S1 ++ [b]) ++ S2) := by simpa using h
  exact wf_snoc.mp (wf_append.mp this).1

def blk (S : List Box) (n : Str) : List Str := n :: kids S n
end Fo

namespace Dx
open PySem PySem.Spec PyProof.Rows L2
section
variable {env : En} {A B C : En → R D} {As : En → R (List D)} {t u : En → R Bool} {G G1 G2 : En → Out} {x y : D} {s : Slot} {e : En} {n : Nat}
@[simp] theorem getD_0 : getD' 0 (.d x :: e) = .ok x := (rfl)
@[simp] theorem getD_s : getD' (n + 1) (s :: e) = getD' n e := (rfl)
@[simp] theorem getV_0 : getV 0 (.d x :: e) = .ok x := (rfl)
@[simp] theorem getV_1 {xs : List D} : getV 0 (.ol xs :: e) = .ok (.lst xs) := (rfl)
@[simp] theorem getV_2 {xs : List (L2.Key × D)} : getV 0 (.od xs :: e) = .ok (.dic xs) := (rfl)
@[simp] theorem getV_s : getV (n + 1) (s :: e) = getV n e := (rfl)
@[simp] theorem eC_ap : eC x env = .ok x := (rfl)
@[simp] theorem eBin_ap {f : D → D → R D} : eBin f A B env = (A env >>= fun x => B env >>= fun y => f x y) := (rfl)
@[simp] theorem eUn_ap {α β : Type} {f : α → R β} {A : En → R α} : eUn f A env = (A env >>= f) := (rfl)
@[simp] theorem eOfF_ap : eOfF As env = (As env >>= fun xs => .ok (.lst xs)) := (rfl)
@[simp] theorem tBin_ap {f : D → D → R D} : tBin f A B env = (A env >>= fun x => B env >>= fun y => f x y >>= boolR) := (rfl)
@[simp] theorem oNone_ap : oNone env = .ok none := (rfl)
@[simp] theorem eSlice_ap {l h : En → R (Option Int)} : eSlice A l h env = (A env >>= fun x => l env >>= fun l => h env >>= fun h => sliceR x l h) := (rfl)
@[simp] theorem eChain_ap {f g : D → D → R D} : eChain f g A B C env = (A env >>= fun x => B env >>= fun y => chainR f g x y (C env)) := (rfl)
@[simp] theorem tChain_ap {f g : D → D → R D} : tChain f g A B C env = (A env >>= fun x => B env >>= fun y => chainR f g x y (C env) >>= boolR) := (rfl)
@[simp] theorem tVal_ap : tVal A env = (A env >>= boolR) := (rfl)
@[simp] theorem tNot_ap : tNot t env = (t env >>= fun k => .ok (!k)) := (rfl)
@[simp] theorem tAnd_ap : tAnd t u env = (t env >>= fun k => if k = true then u env else .ok false) := (rfl)
@[simp] theorem tOr_ap : tOr t u env = (t env >>= fun k => if k = true then .ok true else u env) := (rfl)
@[simp] theorem tTrue_ap : tTrue env = .ok true := (rfl)
@[simp] theorem eAnd_ap : eAnd A B env = (A env >>= fun x => boolR x >>= fun k => if k = true then B env else .ok (.bl false)) := (rfl)
@[simp] theorem eOr_ap : eOr A B env = (A env >>= fun x => boolR x >>= fun k => if k = true then .ok (.bl true) else B env) := (rfl)
@[simp] theorem eIf_ap : eIf t A B env = (t env >>= fun k => if k = true then A env else B env) := (rfl)
@[simp] theorem aNil_ap : aNil env = .ok [] := (rfl)
@[simp] theorem aCons_ap : aCons A As env = (A env >>= fun x => As env >>= fun xs => .ok (x :: xs)) := (rfl)
@[simp] theorem eMeth_ap {ty : D → R D} {g : D → List D → R D} : eMeth ty A As g env = (A env >>= ty >>= fun d => As env >>= g d) := (rfl)
@[simp] theorem eComp_ap {I : En → R (List D)} {T : D → En → R En} {C : En → R Bool} {F : En → R D} {own : List Nat} : eComp I T C F own env = (I env >>= fun ds => compO T C F (wipeE env own) ds) := (rfl)
@[simp] theorem eCallS_ap {F : List D → R D} : eCallS As F env = (As env >>= fun ds => F ds >>= scR) := (rfl)
@[simp] theorem fEn_ap : fEn A env = (A env >>= fun d => (match d with | .lst xs => R.ok xs | _ => R.bad) >>= fun xs => .ok (pairs0 xs)) := (rfl)
@[simp] theorem fEnT_ap : fEnT A env = (A env >>= fun d => (match d with | .tup xs => R.ok xs | .str z => R.ok (charsD z) | _ => R.bad) >>= fun xs => .ok (pairs0 xs)) := (rfl)
@[simp] theorem fRng2_ap : fRng2 A B env = (A env >>= fun x => B env >>= fun y => range2R x y) := (rfl)
@[simp] theorem sNil_ap : sNil env = .nx env := (rfl)
@[simp] theorem sSeq_ap : sSeq G1 G2 env = seqO (G1 env) G2 := (rfl)
@[simp] theorem sSet_ap : sSet n A env = liftO (A env) env fun d => .nx (env.set n (.d d)) := (rfl)
@[simp] theorem sSetF_ap : sSetF n As env = liftO (As env) env fun d => .nx (env.set n (.ol d)) := (rfl)
@[simp] theorem sSetFD_ap : sSetFD n As env = liftO (As env) env fun d => .nx (env.set n (.d (.lst d))) := (rfl)
@[simp] theorem sRet_ap : sRet A env = liftO (A env) env fun d => .rt d env := (rfl)
@[simp] theorem sRetN_ap : sRetN env = .rt .non env := (rfl)
@[simp] theorem sBrk_ap : sBrk env = .bk env := (rfl)
@[simp] theorem sCnt_ap : sCnt env = .ct env := (rfl)
@[simp] theorem sIf_ap : sIf t G1 G2 env = liftO (t env) env fun k => if k = true then G1 env else G2 env := (rfl)
@[simp] theorem sRaise_ap {z : Str} : sRaise z env = .exc z env := (rfl)
@[simp] theorem sExpr_ap : sExpr A env = liftO (A env) env fun _ => .nx env := (rfl)
@[simp] theorem sAsg_ap {T : D → En → R En} : sAsg T A env = liftO (A env) env fun d => match T d env with | .ok env' => .nx env' | _ => .bad := (rfl)
@[simp] theorem sFrz_ap : sFrz n G env = G (frz n env) := (rfl)
@[simp] theorem sEnd_ap {is : List Nat} : sEnd is G env = endK is (G env) := (rfl)
@[simp] theorem sFor_ap {I : En → R (List D)} {T : D → En → R En} : sFor I T G env = liftO (I env) env fun ds => forO T G ds env := (rfl)
@[simp] theorem sWhile_ap : sWhile t G n env = whileO t G n env := (rfl)
@[simp] theorem sMeth_ap {g : Nat → En → D → Out} : sMeth n A g env = (match env[n]? with | some (.ol _) => liftO (A env) env (g n env) | _ => .bad) := (rfl)
@[simp] theorem sPop_ap {T : D → En → R En} : sPop n T env = popO n env (tgO T) := (rfl)
@[simp] theorem endK_nx {is : List Nat} : endK is (.nx e) = .nx (killS is e) := (rfl)
@[simp] theorem endK_ct {is : List Nat} : endK is (.ct e) = .ct (killS is e) := (rfl)
@[simp] theorem endK_bk {is : List Nat} : endK is (.bk e) = .bk (killS is e) := (rfl)
@[simp] theorem endK_rt {is : List Nat} {d : D} : endK is (.rt d e) = .rt d e := (rfl)
@[simp] theorem endK_exc {is : List Nat} {z : Str} : endK is (.exc z e) = .exc z e := (rfl)
@[simp] theorem endK_bad {is : List Nat} : endK is .bad = .bad := (rfl)
@[simp] theorem killS_nil : killS [] e = e := (rfl)
@[simp] theorem killS_cons {i : Nat} {is : List Nat} : killS (i :: is) e = killS is (e.set i .u) := (rfl)
@[simp] theorem wipeE_nil : wipeE e [] = e := (rfl)
@[simp] theorem wipeE_cons {i : Nat} {is : List Nat} : wipeE e (i :: is) = (wipeE e is).set i .u := (rfl)
@[simp] theorem nameT_ap : nameT n x e = .ok (e.set n (.d x)) := (rfl)
@[simp] theorem boolR_bl {b : Bool} : boolR (.bl b) = .ok b := (rfl)
@[simp] theorem optR_int {i : Int} : optR (.int i) = .ok (some i) := (rfl)
@[simp] theorem itemsR_tup {xs : List D} : itemsR (.tup xs) = .ok xs := (rfl)
@[simp] theorem itemsR_lst {xs : List D} : itemsR (.lst xs) = .ok xs := (rfl)
@[simp] theorem forO_nil {T : D → En → R En} : forO T G [] e = .nx e := (rfl)
@[simp] theorem compO_nil {T : D → En → R En} {C : En → R Bool} {F : En → R D} : compO T C F e [] = .ok [] := (rfl)
@[simp] theorem lstyR_lst {xs : List D} : lstyR (.lst xs) = .ok (.lst xs) := (rfl)
@[simp] theorem revF_lst {xs : List D} : revF (.lst xs) = .ok xs.reverse := (rfl)
@[simp] theorem negR_int {i : Int} : negR (.int i) = .ok (.int (-i)) := (rfl)
@[simp] theorem subR_int {i j : Int} : subR (.int i) (.int j) = .ok (.int (i - j)) := (rfl)
@[simp] theorem addR_int {i j : Int} : addR (.int i) (.int j) = .ok (.int (i + j)) := (rfl)
theorem defR_ok {n m : Nat} {G : En → Out} {ds : List D} (h : ds.length = n) : defR n m G ds = runB m G ds := if_pos h
theorem forO_fold {α : Type} {T : D → En → R En} {f : α → D} {inv : List α → En} (xs : List α) (done : List α) (h : ∀ a pre rest, xs = pre ++ a :: rest → ∃ e1, T (f a) (inv (done ++ pre)) = .ok e1 ∧ (G e1 = .nx (inv (done ++ pre ++ [a])) ∨ G e1 = .ct (inv (done ++ pre ++ [a])))) :
    forO T G (xs.map f) (inv done) = .nx (inv (done ++ xs)) := by
  induction xs generalizing done with
  | nil => simp
  | cons a xs ih =>
    obtain ⟨e1, h1, h2⟩ := h a [] xs rfl
    rw [List.append_nil] at h1 h2
    have := ih (done ++ [a]) fun b pre rest e => by
      obtain ⟨e2, h3, h4⟩ := h b (a :: pre) rest (by rw [e]; rfl)
      refine ⟨e2, ?_, ?_⟩
      · simpa using h3
      · simpa using h4
    rw [List.map_cons]
    unfold forO
    rcases h2 with h2 | h2
    · simp only [h1, h2, this]; simp
    · simp only [h1, h2, this]; simp
end

theorem dle_all {n : Nat} {α : Type} {f : α → D} (h : ∀ a, dle n (f a) = true) (xs : List α) : (xs.map f).all (dle n) = true := by
  rw [List.all_map, List.all_eq_true]
  exact fun a _ => h a
end Dx
namespace Dx
open PySem
section
variable {env : En} {A B C : En → R D} {x y : D} {n : Nat} {As : En → R (List (L2.Key × D))}
@[simp] theorem kNil_ap : kNil env = .ok [] := (rfl)
@[simp] theorem sSetK_ap : sSetK n As env = liftO (As env) env fun d => .nx (env.set n (.od d)) := (rfl)
@[simp] theorem eOfK_ap : eOfK As env = (As env >>= fun xs => .ok (.dic xs)) := (rfl)
@[simp] theorem eGet_ap : eGet A B env = (A env >>= dictyR >>= fun d => B env >>= fun y => getR d y) := (rfl)
@[simp] theorem eGet2_ap : eGet2 A B C env = (A env >>= dictyR >>= fun d => B env >>= fun y => C env >>= fun z => get2R d y z) := (rfl)
@[simp] theorem sPut_ap : sPut n A B env = (match env[n]? with | some (.od _) => liftO (B env) env fun v => liftO (A env) env fun y => putO n y v env | _ => .bad) := (rfl)
@[simp] theorem dictyR_dic {kvs : List (L2.Key × D)} : dictyR (.dic kvs) = .ok (.dic kvs) := (rfl)
@[simp] theorem getR_str {kvs : List (L2.Key × D)} {z : Str} : getR (.dic kvs) (.str z) = .ok ((valD kvs (.inr z)).getD .non) := (rfl)
@[simp] theorem isNotR_non : isNotR x .non = .ok (.bl (!isN x)) := (rfl)
@[simp] theorem isR_non : isR x .non = .ok (.bl (isN x)) := (rfl)
end
end Dx

namespace Fo
open PySem Dx Dn
def Box.D (b : Box) : D := .tup [.str b.nm, .str b.ar, .int b.l, .int b.t, .int b.w, .int b.h, .str b.ms]
def scD (S : List Box) : D := .tup (S.map Box.D)
def sL (xs : List Str) : D := .lst (xs.map D.str)
theorem eq_str (a b : Str) : eqR (.str a) (.str b) = .ok (.bl (decide (a = b))) := by
  have : (a == b) = decide (a = b) := by by_cases e : a = b <;> simp [e]
  unfold eqR; simp [dle, eqD, this]
theorem eqD_str (a b : Str) : eqD (.str a) (.str b) = decide (a = b) := by
  have : (a == b) = decide (a = b) := by by_cases e : a = b <;> simp [e]
  simp [eqD, this]
theorem dle_strs (xs : List Str) : dle 64 (sL xs) = true := by
  unfold sL dle
  exact dle_all (fun _ => rfl) xs
theorem in_strs (n : Str) (xs : List Str) : inR (.str n) (sL xs) = .ok (.bl (decide (n ∈ xs))) := by
  have e : inR (.str n) (sL xs) = if dle 64 (.str n) && dle 64 (sL xs) then .ok (.bl ((xs.map D.str).any fun z => eqD z (.str n))) else .bad := by
    unfold inR inB sL; simp only; split <;> rfl
  rw [e, dle_strs]
  have : ((xs.map D.str).any fun z => eqD z (.str n)) = decide (n ∈ xs) := by
    clear e
    rw [List.any_map]
    induction xs with
    | nil => simp
    | cons x xs ih =>
      rw [List.any_cons, ih]
      simp only [Function.comp, eqD_str, List.mem_cons]
      by_cases e : x = n
      · simp [e]
      · have e' : ¬ n = x := fun z => e z.symm
        simp [e, e']
  rw [this]; rfl
section
variable {b : Box}
@[simp] theorem ix_0 : ixR b.D (.int 0) = .ok (.str b.nm) := (rfl)
@[simp] theorem ix_1 : ixR b.D (.int 1) = .ok (.str b.ar) := (rfl)
@[simp] theorem ix_2 : ixR b.D (.int 2) = .ok (.int b.l) := (rfl)
@[simp] theorem ix_3 : ixR b.D (.int 3) = .ok (.int b.t) := (rfl)
@[simp] theorem ix_4 : ixR b.D (.int 4) = .ok (.int b.w) := (rfl)
@[simp] theorem ix_5 : ixR b.D (.int 5) = .ok (.int b.h) := (rfl)
@[simp] theorem ix_6 : ixR b.D (.int 6) = .ok (.str b.ms) := (rfl)
end
end Fo

namespace Ty
open PySem Dx Fo
class Enc (α : Type) where
  enc : α → D
open Enc (enc)
structure T1 (α : Type) where
  a : α
deriving DecidableEq
structure T3 (α β γ : Type) where
  a : α
  b : β
  c : γ
deriving DecidableEq
structure T4 (α β γ δ : Type) where
  a : α
  b : β
  c : γ
  d : δ
deriving DecidableEq
structure T5 (α β γ δ ε : Type) where
  a : α
  b : β
  c : γ
  d : δ
  e : ε
deriving DecidableEq
structure T6 (α β γ δ ε ζ : Type) where
  a : α
  b : β
  c : γ
  d : δ
  e : ε
  f : ζ
deriving DecidableEq
structure Tu (α : Type) where
  l : List α
deriving DecidableEq
structure Dc (κ α : Type) where
  l : List (κ × α)
deriving DecidableEq
structure Fz where
  l : List Int
class KeyT (κ : Type) where
  key : κ → L2.Key
  inj : ∀ a b, key a = key b → a = b
instance : KeyT Int := ⟨.inl, fun _ _ h => by cases h; rfl⟩
instance : KeyT Str := ⟨.inr, fun _ _ h => by cases h; rfl⟩
section
variable {α β γ δ ε ζ κ : Type}
instance : Enc Int := ⟨.int⟩
instance : Enc Bool := ⟨.bl⟩
instance : Enc Str := ⟨.str⟩
instance : Enc Unit := ⟨fun _ => .non⟩
instance : Enc D := ⟨id⟩
instance : Enc Box := ⟨Box.D⟩
instance : Enc Fz := ⟨fun x => .frz x.l⟩
instance [Enc α] : Enc (List α) := ⟨fun xs => .lst (xs.map enc)⟩
instance [Enc α] : Enc (Tu α) := ⟨fun x => .tup (x.l.map enc)⟩
instance [Enc α] : Enc (Option α) := ⟨fun x => match x with | some a => enc a | none => .non⟩
instance [Enc α] : Enc (T1 α) := ⟨fun x => .tup [enc x.a]⟩
instance [Enc α] [Enc β] : Enc (α × β) := ⟨fun x => .tup [enc x.1, enc x.2]⟩
instance [Enc α] [Enc β] [Enc γ] : Enc (T3 α β γ) := ⟨fun x => .tup [enc x.a, enc x.b, enc x.c]⟩
instance [Enc α] [Enc β] [Enc γ] [Enc δ] : Enc (T4 α β γ δ) := ⟨fun x => .tup [enc x.a, enc x.b, enc x.c, enc x.d]⟩
instance [Enc α] [Enc β] [Enc γ] [Enc δ] [Enc ε] : Enc (T5 α β γ δ ε) := ⟨fun x => .tup [enc x.a, enc x.b, enc x.c, enc x.d, enc x.e]⟩
instance [Enc α] [Enc β] [Enc γ] [Enc δ] [Enc ε] [Enc ζ] : Enc (T6 α β γ δ ε ζ) := ⟨fun x => .tup [enc x.a, enc x.b, enc x.c, enc x.d, enc x.e, enc x.f]⟩
instance [KeyT κ] [Enc α] : Enc (Dc κ α) := ⟨fun x => .dic (x.l.map fun kv => (KeyT.key kv.1, enc kv.2))⟩
end
class EncE (α : Type) [Enc α] where
  dep : Nat
  hdle : ∀ a : α, dle dep (enc a) = true
  heq : ∀ a b : α, eqD (enc a) (enc b) = true ↔ a = b
class EncN (α : Type) [Enc α] : Prop where
  nn : ∀ a : α, isN (enc a) = false
class EncS (α : Type) [Enc α] : Prop where
  sc : ∀ a : α, scal0 (enc a) = true
theorem dle_succ : ∀ (n : Nat) (d : D), dle n d = true → dle (n + 1) d = true
  | 0, .non, _ => rfl
  | 0, .bl _, _ => rfl
  | 0, .int _, _ => rfl
  | 0, .str _, _ => rfl
  | 0, .tup _, h => by simp [dle] at h
  | 0, .lst _, h => by simp [dle] at h
  | 0, .dic _, h => by simp [dle] at h
  | 0, .frz _, h => by simp [dle] at h
  | n + 1, .non, _ => rfl
  | n + 1, .bl _, _ => rfl
  | n + 1, .int _, _ => rfl
  | n + 1, .str _, _ => rfl
  | n + 1, .dic _, h => by simp [dle] at h
  | n + 1, .frz _, h => by simp [dle] at h
  | n + 1, .tup xs, h => by
    simp only [dle, List.all_eq_true] at h ⊢
    exact fun x hx => dle_succ n x (h x hx)
  | n + 1, .lst xs, h => by
    simp only [dle, List.all_eq_true] at h ⊢
    exact fun x hx => dle_succ n x (h x hx)
theorem dle_le {m n : Nat} {d : D} (hm : m ≤ n) (h : dle m d = true) : dle n d = true := by
  induction hm with
  | refl => exact h
  | step _ ih => exact dle_succ _ _ ih
theorem eqDs_iff {α : Type} [Enc α] [EncE α] : ∀ xs ys : List α, eqDs (xs.map enc) (ys.map enc) = true ↔ xs = ys
  | [], [] => by simp [eqDs]
  | [], y :: ys => by simp [eqDs]
  | x :: xs, [] => by simp [eqDs]
  | x :: xs, y :: ys => by
    rw [List.map_cons, List.map_cons, eqDs, Bool.and_eq_true, EncE.heq, eqDs_iff xs ys]
    simp
section
variable {α β γ δ ε ζ κ : Type} [Enc α] [Enc β] [Enc γ] [Enc δ] [Enc ε] [Enc ζ]
instance : EncE Int := ⟨0, fun _ => rfl, fun a b => by show (a == b) = true ↔ _; simp⟩
instance : EncE Bool := ⟨0, fun _ => rfl, fun a b => by show (a == b) = true ↔ _; simp⟩
instance : EncE Str := ⟨0, fun _ => rfl, fun a b => by show (a == b) = true ↔ _; simp⟩
instance : EncE Unit := ⟨0, fun _ => rfl, fun a b => by simp [enc, eqD]⟩
instance : EncE Box := ⟨1, fun _ => rfl, fun a b => by
  cases a; cases b
  show eqD (.tup _) (.tup _) = true ↔ _
  simp [eqD, eqDs]⟩
theorem all_dle [EncE α] {n : Nat} (h : EncE.dep α ≤ n) (xs : List α) : (xs.map enc).all (dle n) = true := by
  rw [List.all_map, List.all_eq_true]
  exact fun a _ => dle_le h (EncE.hdle a)
instance [EncE α] : EncE (List α) := ⟨EncE.dep α + 1, fun xs => by
    show (xs.map enc).all (dle (EncE.dep α)) = true
    exact all_dle (Nat.le_refl _) xs, fun a b => by show eqDs _ _ = true ↔ _; exact eqDs_iff a b⟩
instance [EncE α] : EncE (Tu α) := ⟨EncE.dep α + 1, fun xs => by
    show (xs.l.map enc).all (dle (EncE.dep α)) = true
    exact all_dle (Nat.le_refl _) xs.l, fun a b => by
    show eqDs _ _ = true ↔ _
    rw [eqDs_iff]
    cases a; cases b; simp⟩
instance [EncE α] : EncE (T1 α) := ⟨EncE.dep α + 1, fun x => by
    show [enc x.a].all (dle _) = true
    simp [EncE.hdle], fun a b => by
    show eqDs [_] [_] = true ↔ _
    cases a; cases b; simp [eqDs, EncE.heq]⟩
instance [EncE α] [EncE β] : EncE (α × β) := ⟨max (EncE.dep α) (EncE.dep β) + 1, fun x => by
    show [enc x.1, enc x.2].all (dle _) = true
    simp only [List.all_cons, List.all_nil, Bool.and_true, Bool.and_eq_true]
    exact ⟨dle_le (by omega) (EncE.hdle x.1), dle_le (by omega) (EncE.hdle x.2)⟩, fun a b => by
    show eqDs [_, _] [_, _] = true ↔ _
    cases a; cases b; simp [eqDs, EncE.heq]⟩
instance [EncE α] [EncE β] [EncE γ] : EncE (T3 α β γ) := ⟨max (max (EncE.dep α) (EncE.dep β)) (EncE.dep γ) + 1, fun x => by
    show [enc x.a, enc x.b, enc x.c].all (dle _) = true
    simp only [List.all_cons, List.all_nil, Bool.and_true, Bool.and_eq_true]
    exact ⟨dle_le (by omega) (EncE.hdle x.a), dle_le (by omega) (EncE.hdle x.b), dle_le (by omega) (EncE.hdle x.c)⟩, fun a b => by
    show eqDs [_, _, _] [_, _, _] = true ↔ _
    cases a; cases b; simp [eqDs, EncE.heq]⟩
instance [EncE α] [EncE β] [EncE γ] [EncE δ] : EncE (T4 α β γ δ) := ⟨max (max (EncE.dep α) (EncE.dep β)) (max (EncE.dep γ) (EncE.dep δ)) + 1, fun x => by
    show [enc x.a, enc x.b, enc x.c, enc x.d].all (dle _) = true
    simp only [List.all_cons, List.all_nil, Bool.and_true, Bool.and_eq_true]
    exact ⟨dle_le (by omega) (EncE.hdle x.a), dle_le (by omega) (EncE.hdle x.b), dle_le (by omega) (EncE.hdle x.c), dle_le (by omega) (EncE.hdle x.d)⟩, fun a b => by
    show eqDs [_, _, _, _] [_, _, _, _] = true ↔ _
    cases a; cases b; simp [eqDs, EncE.heq]⟩
instance [EncE α] [EncE β] [EncE γ] [EncE δ] [EncE ε] : EncE (T5 α β γ δ ε) := ⟨max (max (max (EncE.dep α) (EncE.dep β)) (max (EncE.dep γ) (EncE.dep δ))) (EncE.dep ε) + 1, fun x => by
    show [enc x.a, enc x.b, enc x.c, enc x.d, enc x.e].all (dle _) = true
    simp only [List.all_cons, List.all_nil, Bool.and_true, Bool.and_eq_true]
    exact ⟨dle_le (by omega) (EncE.hdle x.a), dle_le (by omega) (EncE.hdle x.b), dle_le (by omega) (EncE.hdle x.c), dle_le (by omega) (EncE.hdle x.d), dle_le (by omega) (EncE.hdle x.e)⟩, fun a b => by
    show eqDs [_, _, _, _, _] [_, _, _, _, _] = true ↔ _
    cases a; cases b; simp [eqDs, EncE.heq]⟩
instance [EncE α] [EncN α] : EncE (Option α) := ⟨EncE.dep α, fun x => by
    cases x with
    | none => exact dle_le (Nat.zero_le _) (show dle 0 D.non = true from rfl)
    | some a => exact EncE.hdle a, fun a b => by
    have non_l : ∀ d : D, isN d = false → eqD .non d = false := fun d h => by cases d <;> simp_all [isN, eqD]
    have non_r : ∀ d : D, isN d = false → eqD d .non = false := fun d h => by cases d <;> simp_all [isN, eqD]
    cases a with
    | none => cases b with
      | none => exact ⟨fun _ => rfl, fun _ => rfl⟩
      | some b => exact ⟨fun h => Bool.noConfusion ((non_l _ (EncN.nn b)).symm.trans h), fun h => nomatch h⟩
    | some a => cases b with
      | none => exact ⟨fun h => Bool.noConfusion ((non_r _ (EncN.nn a)).symm.trans h), fun h => nomatch h⟩
      | some b => exact (EncE.heq a b).trans ⟨fun h => by rw [h], fun h => by cases h; rfl⟩⟩
instance : EncN Int := ⟨fun _ => rfl⟩
instance : EncN Bool := ⟨fun _ => rfl⟩
instance : EncN Str := ⟨fun _ => rfl⟩
instance : EncN Box := ⟨fun _ => rfl⟩
instance : EncN (List α) := ⟨fun _ => rfl⟩
instance : EncN (Tu α) := ⟨fun _ => rfl⟩
instance : EncN (T1 α) := ⟨fun _ => rfl⟩
instance : EncN (α × β) := ⟨fun _ => rfl⟩
instance : EncN (T3 α β γ) := ⟨fun _ => rfl⟩
instance : EncN (T4 α β γ δ) := ⟨fun _ => rfl⟩
instance : EncN (T5 α β γ δ ε) := ⟨fun _ => rfl⟩
instance : EncN (T6 α β γ δ ε ζ) := ⟨fun _ => rfl⟩
instance [KeyT κ] : EncN (Dc κ α) := ⟨fun _ => rfl⟩
instance : EncS Int := ⟨fun _ => rfl⟩
instance : EncS Bool := ⟨fun _ => rfl⟩
instance : EncS Str := ⟨fun _ => rfl⟩
class Co (α β : Type) [Enc α] [Enc β] where
  f : α → β
  h : ∀ a, enc (f a) = enc a
instance (priority := 2000) : Co α α := ⟨id, fun _ => rfl⟩
instance (priority := 1500) : Co α D := ⟨enc, fun _ => rfl⟩
instance [Co α β] : Co (Option α) (Option β) := ⟨fun x => x.map (Co.f (β := β)), fun x => by cases x with | none => rfl | some a => exact Co.h a⟩
instance (priority := 900) [Co α β] : Co α (Option β) := ⟨fun x => some (Co.f x), fun x => Co.h x⟩
instance (priority := 1200) : Co Unit (Option β) := ⟨fun _ => none, fun _ => rfl⟩
theorem co_map [Co α β] (xs : List α) : (xs.map (Co.f (β := β))).map enc = xs.map enc := by
  rw [List.map_map]
  exact List.map_congr_left fun a _ => Co.h a
instance [Co α β] : Co (List α) (List β) := ⟨fun xs => xs.map Co.f, fun xs => by show D.lst _ = D.lst _; rw [co_map]⟩
instance [Co α β] : Co (Tu α) (Tu β) := ⟨fun xs => ⟨xs.l.map Co.f⟩, fun xs => by show D.tup _ = D.tup _; rw [co_map]⟩
instance [Co α γ] [Co β δ] : Co (α × β) (γ × δ) := ⟨fun x => (Co.f x.1, Co.f x.2), fun x => by show D.tup [enc (Co.f x.1), enc (Co.f x.2)] = _; rw [Co.h, Co.h]; rfl⟩
instance {α' β' γ' : Type} [Enc α'] [Enc β'] [Enc γ'] [Co α α'] [Co β β'] [Co γ γ'] : Co (T3 α β γ) (T3 α' β' γ') := ⟨fun x => ⟨Co.f x.a, Co.f x.b, Co.f x.c⟩, fun x => by show D.tup [enc (Co.f x.a), enc (Co.f x.b), enc (Co.f x.c)] = _; rw [Co.h, Co.h, Co.h]; rfl⟩
instance [Co α γ] : Co (T1 α) (Tu γ) := ⟨fun x => ⟨[Co.f x.a]⟩, fun x => by show D.tup [enc (Co.f x.a)] = _; rw [Co.h]; rfl⟩
instance [Co α γ] [Co β γ] : Co (α × β) (Tu γ) := ⟨fun x => ⟨[Co.f x.1, Co.f x.2]⟩, fun x => by show D.tup [enc (Co.f x.1), enc (Co.f x.2)] = _; rw [Co.h, Co.h]; rfl⟩
instance [Co α δ] [Co β δ] [Co γ δ] : Co (T3 α β γ) (Tu δ) := ⟨fun x => ⟨[Co.f x.a, Co.f x.b, Co.f x.c]⟩, fun x => by show D.tup [enc (Co.f x.a), enc (Co.f x.b), enc (Co.f x.c)] = _; rw [Co.h, Co.h, Co.h]; rfl⟩
end
end Ty

namespace Ty
open PySem Dx Fo
open Enc (enc)
def Rr {α β : Type} (r : R β) (t : R α) (f : α → β) : Prop := match t with
  | .ok a => r = .ok (f a)
  | .exc c => r = .exc c
  | .bad => True
section
variable {α β γ δ : Type}
theorem rr_p {r : R β} {a : α} {f : α → β} (h : r = .ok (f a)) : Rr r (.ok a) f := h
theorem rr_D {r : R D} : Rr r r enc := by cases r <;> first | rfl | trivial
theorem rr_bind {r : R β} {t : R α} {f : α → β} {k : β → R δ} {kt : α → R γ} {g : γ → δ} (h : Rr r t f) (hk : ∀ a, Rr (k (f a)) (kt a) g) : Rr (r >>= k) (t >>= kt) g := by
  cases t with
  | ok a => rw [show r = .ok (f a) from h]; exact hk a
  | exc c => rw [show r = .exc c from h]; rfl
  | bad => trivial
theorem ce_p {r : R β} {b : β} {k : β → R δ} {t : R γ} {g : γ → δ} (h : r = .ok b) (hk : Rr (k b) t g) : Rr (r >>= k) t g := by rw [h]; exact hk
theorem rr_ok {r : R β} {t : R α} {f : α → β} {a : α} (h : Rr r t f) (e : t = .ok a) : r = .ok (f a) := by subst e; exact h
theorem rr_map {r : R β} {t : R α} {f : α → β} {f' : γ → β} {g : α → γ} (h : Rr r t f) (e : ∀ a, f' (g a) = f a) : Rr r (t >>= fun a => .ok (g a)) f' := by
  cases t with
  | ok a => exact (show r = .ok (f a) from h).trans (congrArg R.ok (e a).symm)
  | exc c => exact h
  | bad => trivial
theorem rr_co [Enc α] [Enc γ] [Co α γ] {r : R D} {t : R α} (h : Rr r t enc) : Rr r (t >>= fun a => .ok (Co.f (β := γ) a)) enc := rr_map h Co.h
theorem tp_co [Enc α] [Enc γ] [Co α γ] {r : R D} {a : α} (h : r = .ok (enc a)) : r = .ok (enc (Co.f (β := γ) a)) := by rw [Co.h]; exact h
end
abbrev Pat := List (Option Slot)
def EnvIs (p : Pat) (e : En) : Prop := e.length = p.length ∧ ∀ (i : Nat) (s : Slot), p[i]? = some (some s) → e[i]? = some s
abbrev sv {α : Type} [Enc α] (a : α) : Option Slot := some (.d (enc a))
abbrev so {α : Type} [Enc α] (xs : List α) : Option Slot := some (.ol (xs.map enc))
section
variable {α β γ δ κ : Type} [Enc α] [Enc β] [Enc γ] [Enc δ] [KeyT κ] {p p' : Pat} {e : En} {i : Nat}
theorem EnvIs.set (H : EnvIs p e) {s : Slot} (i : Nat) : EnvIs (p.set i (some s)) (e.set i s) := by
  refine ⟨by rw [List.length_set, List.length_set]; exact H.1, fun j t h => ?_⟩
  by_cases hi : i = j
  · subst hi
    by_cases hl : i < p.length
    · rw [List.getElem?_set_self hl] at h; cases h
      exact List.getElem?_set_self (by rw [H.1]; exact hl)
    · rw [List.getElem?_eq_none (by rw [List.length_set]; omega)] at h; cases h
  · rw [List.getElem?_set_ne hi] at h ⊢
    exact H.2 j t h
theorem EnvIs.kill (H : EnvIs p e) {s : Slot} (i : Nat) : EnvIs (p.set i none) (e.set i s) := by
  refine ⟨by rw [List.length_set, List.length_set]; exact H.1, fun j t h => ?_⟩
  by_cases hi : i = j
  · subst hi
    by_cases hl : i < p.length
    · rw [List.getElem?_set_self hl] at h; cases h
    · rw [List.getElem?_eq_none (by rw [List.length_set]; omega)] at h; cases h
  · rw [List.getElem?_set_ne hi] at h ⊢
    exact H.2 j t h
def killP (is : List Nat) (p : Pat) : Pat := is.foldl (fun q i => q.set i none) p
theorem EnvIs.kills (H : EnvIs p e) (is : List Nat) : EnvIs (killP is p) (killS is e) := by
  induction is generalizing p e with
  | nil => exact H
  | cons i is ih => exact ih (H.kill i)
def wipeP (p : Pat) (is : List Nat) : Pat := is.foldr (fun i q => q.set i none) p
theorem EnvIs.wipe (H : EnvIs p e) (is : List Nat) : EnvIs (wipeP p is) (wipeE e is) := by
  induction is with
  | nil => exact H
  | cons i is ih => exact ih.kill i
def maskP : List Bool → Pat → Pat
  | b :: bs, s :: p => (if b then s else none) :: maskP bs p
  | [], p => p
  | _, [] => []
theorem EnvIs.mask : ∀ (bs : List Bool) {p : Pat} {e : En}, EnvIs p e → EnvIs (maskP bs p) e := by
  intro bs p e H
  have hl : ∀ (bs : List Bool) (p : Pat), (maskP bs p).length = p.length := by
    intro bs
    induction bs with
    | nil => intro p; rfl
    | cons b bs ih => intro p; cases p with
      | nil => rfl
      | cons s p => simp [maskP, ih]
  have hg : ∀ (bs : List Bool) (p : Pat) (i : Nat) (s : Slot), (maskP bs p)[i]? = some (some s) → p[i]? = some (some s) := by
    intro bs
    induction bs with
    | nil => intro p i s h; exact h
    | cons b bs ih => intro p i s h; cases p with
      | nil => simp [maskP] at h
      | cons t p =>
        cases i with
        | zero => cases b with
          | true => simpa [maskP] using h
          | false => simp [maskP] at h
        | succ i => simp [maskP] at h ⊢; exact ih p i s h
  exact ⟨by rw [hl]; exact H.1, fun i s h => H.2 i s (hg bs p i s h)⟩
theorem EnvIs.as (H : EnvIs p e) (h : p = p') : EnvIs p' e := h ▸ H
theorem EnvIs.of (ds : List D) (m : Nat) (h : (ds.map fun d => some (Slot.d d)) ++ List.replicate m none = p) : EnvIs p (ds.map Slot.d ++ List.replicate m .u) := by
  subst h
  refine ⟨by simp, fun i s h => ?_⟩
  rw [List.getElem?_append] at h ⊢
  rw [List.length_map] at h ⊢
  split at h
  · rename_i hl
    rw [if_pos hl]
    rw [List.getElem?_map] at h ⊢
    cases q : ds[i]? with
    | none => rw [q] at h; cases h
    | some d => rw [q] at h; cases h; rfl
  · rw [List.getElem?_replicate] at h
    split at h <;> cases h
theorem tp_var {a : α} (H : EnvIs p e) (h : p[i]? = some (sv a)) : getD' i e = .ok (enc a) := by
  unfold getD'; rw [H.2 i _ h]
theorem tp_varO {xs : List α} (H : EnvIs p e) (h : p[i]? = some (so xs)) : getV i e = .ok (enc xs) := by
  unfold getV; rw [H.2 i _ h]; rfl
theorem tp_c {a : α} {d : D} (h : d = enc a) : eC d e = .ok (enc a) := by rw [h]; rfl
end

section
variable {α β γ δ κ : Type} {e : En} {A B C : En → R D} {As : En → R (List D)} {t u : En → R Bool} {f : D → D → R D} {g : γ → D} {T : R γ}
theorem w_bin (h : Rr (A e >>= fun x => B e >>= fun y => f x y) T g) : Rr (eBin f A B e) T g := h
theorem w_un {β δ : Type} {A : En → R β} {f : β → R δ} {g : γ → δ} (h : Rr (A e >>= f) T g) : Rr (eUn f A e) T g := h
theorem w_slice {l h' : En → R (Option Int)} (h : Rr (A e >>= fun x => l e >>= fun l => h' e >>= fun h => sliceR x l h) T g) : Rr (eSlice A l h' e) T g := h
theorem w_tbin {g : γ → Bool} (h : Rr (A e >>= fun x => B e >>= fun y => f x y >>= boolR) T g) : Rr (tBin f A B e) T g := h
theorem rr_bool {r : R D} {t : R Bool} (h : Rr r t enc) : Rr (r >>= boolR) t id := by
  cases t with
  | ok a => rw [show r = .ok (.bl a) from h]; rfl
  | exc c => rw [show r = .exc c from h]; rfl
  | bad => trivial
-- arguments
theorem a_nil : aNil e = .ok [] := rfl
theorem a_cons [Enc α] {a : α} {ds : List D} (h : A e = .ok (enc a)) (hs : As e = .ok ds) : aCons A As e = .ok (enc a :: ds) := by show (A e >>= fun x => As e >>= fun xs => R.ok (x :: xs)) = _; rw [h, hs]; rfl
theorem am_nil {K : List D → R δ} {T : R γ} {g : γ → δ} (h : Rr (K []) T g) : Rr (aNil e >>= K) T g := h
theorem am_p [Enc α] {a : α} {K : List D → R δ} {T : R γ} {g : γ → δ} (h : A e = .ok (enc a)) (hs : Rr (As e >>= fun ds => K (enc a :: ds)) T g) : Rr (aCons A As e >>= K) T g := by
  have e1 : (aCons A As e >>= K) = (As e >>= fun ds => K (enc a :: ds)) := by
    show ((A e >>= fun x => As e >>= fun xs => R.ok (x :: xs)) >>= K) = _
    rw [h]; show ((As e >>= fun xs => R.ok (enc a :: xs)) >>= K) = _
    cases As e <;> rfl
  rw [e1]; exact hs
theorem am_m [Enc α] {ta : R α} {K : List D → R δ} {T : α → R γ} {g : γ → δ} (h : Rr (A e) ta enc) (hs : ∀ a, Rr (As e >>= fun ds => K (enc a :: ds)) (T a) g) : Rr (aCons A As e >>= K) (ta >>= T) g := by
  have e1 : (aCons A As e >>= K) = (A e >>= fun x => As e >>= fun ds => K (x :: ds)) := by
    show ((A e >>= fun x => As e >>= fun xs => R.ok (x :: xs)) >>= K) = _
    cases A e with
    | ok a => show ((As e >>= fun xs => R.ok (a :: xs)) >>= K) = _; cases As e <;> rfl
    | exc c => rfl
    | bad => rfl
  rw [e1]
  exact rr_bind h hs
theorem ce_m [Enc α] {r : R D} {k : D → R δ} {ta : R α} {kt : α → R γ} {g : γ → δ} (h : Rr r ta enc) (hk : ∀ a, Rr (k (enc a)) (kt a) g) : Rr (r >>= k) (ta >>= kt) g := rr_bind h hk
-- pure ones
theorem tp_bin [Enc α] [Enc β] {a : α} {b : β} {d : D} (ha : A e = .ok (enc a)) (hb : B e = .ok (enc b)) (h : f (enc a) (enc b) = .ok d) : eBin f A B e = .ok d := by
  show (A e >>= fun x => B e >>= fun y => f x y) = _; rw [ha, hb]; exact h
theorem tp_un {β δ : Type} {A : En → R β} {f : β → R δ} {b : β} {d : δ} (ha : A e = .ok b) (h : f b = .ok d) : eUn f A e = .ok d := by
  show (A e >>= f) = _; rw [ha]; exact h
theorem tp_ofF [Enc α] {As : En → R (List D)} {xs : List α} (h : As e = .ok (xs.map enc)) : eOfF As e = .ok (enc xs) := by
  show (As e >>= fun xs => R.ok (D.lst xs)) = _; rw [h]; rfl
theorem tm_ofF [Enc α] {As : En → R (List D)} {t : R (List α)} (h : Rr (As e) t (List.map enc)) : Rr (eOfF As e) t enc := by
  cases t with
  | ok a => exact tp_ofF h
  | exc c => show (As e >>= fun xs => R.ok (D.lst xs)) = _; rw [show As e = .exc c from h]; rfl
  | bad => trivial
theorem tp_slice {l h' : En → R (Option Int)} {x d : D} {i j : Option Int} (ha : A e = .ok x) (hl : l e = .ok i) (hh : h' e = .ok j) (h : sliceR x i j = .ok d) : eSlice A l h' e = .ok d := by
  show (A e >>= fun x => l e >>= fun l => h' e >>= fun h => sliceR x l h) = _; rw [ha, hl, hh]; exact h
theorem o_none : oNone e = .ok none := rfl
theorem o_some {i : Int} (h : A e = .ok (enc i)) : eUn optR A e = .ok (some i) := by show (A e >>= optR) = _; rw [h]; rfl
theorem tt_bin [Enc α] [Enc β] {a : α} {b : β} {c : Bool} (ha : A e = .ok (enc a)) (hb : B e = .ok (enc b)) (h : f (enc a) (enc b) = .ok (enc c)) : tBin f A B e = .ok c := by
  show (A e >>= fun x => B e >>= fun y => f x y >>= boolR) = _; rw [ha, hb]; show (f (enc a) (enc b) >>= boolR) = _; rw [h]; rfl
theorem tm_val {t : R Bool} (ha : Rr (A e) t enc) : Rr (tVal A e) t id := rr_bool ha
theorem tt_not {c : Bool} (h : t e = .ok c) : tNot t e = .ok (!c) := by show (t e >>= fun k => R.ok (!k)) = _; rw [h]; rfl
theorem tm_not {c : R Bool} (h : Rr (t e) c id) : Rr (tNot t e) (c >>= fun k => .ok (!k)) id := rr_bind h fun a => rfl
theorem tm_orP {a : Bool} {b : R Bool} (h : t e = .ok a) (h' : Rr (u e) b id) : Rr (tOr t u e) (if a = true then .ok true else b) id := by
  show Rr (t e >>= fun k => if k = true then R.ok true else u e) _ _; rw [h]; cases a; exact h'; rfl
theorem tm_orM {a b : R Bool} (h : Rr (t e) a id) (h' : Rr (u e) b id) : Rr (tOr t u e) (a >>= fun a => if a = true then .ok true else b) id := rr_bind h fun a => by cases a; exact h'; rfl
theorem te_if [Enc α] {c : Bool} {a b : α} (h : t e = .ok c) (ha : A e = .ok (enc a)) (hb : B e = .ok (enc b)) : eIf t A B e = .ok (enc (if c = true then a else b)) := by
  show (t e >>= fun k => if k = true then A e else B e) = _; rw [h]; cases c; exact hb; exact ha
end
end Ty

namespace Ty
open PySem Dx Fo
open Enc (enc)
section
variable {α β γ δ ε ζ κ : Type} [Enc α] [Enc β] [Enc γ] [Enc δ] [Enc ε] [Enc ζ] [KeyT κ]
-- numbers
theorem op_add (a b : Int) : addR (enc a) (enc b) = .ok (enc (a + b)) := (rfl)
theorem op_sub (a b : Int) : subR (enc a) (enc b) = .ok (enc (a - b)) := (rfl)
theorem op_neg (a : Int) : negR (enc a) = .ok (enc (-a)) := (rfl)
theorem op_lt (a b : Int) : ltR (enc a) (enc b) = .ok (enc (decide (a < b))) := (rfl)
theorem op_le (a b : Int) : leR (enc a) (enc b) = .ok (enc (decide (a ≤ b))) := (rfl)
theorem op_gt (a b : Int) : gtR (enc a) (enc b) = .ok (enc (decide (b < a))) := (rfl)
def ltS (a b : Str) : Bool := decide (a.cps.toList < b.cps.toList)
theorem op_mod (a k : Int) (h : 0 < k) : modR (enc a) (enc k) = .ok (enc (a % k)) := if_pos h
def b2i (b : Bool) : Int := if b then 1 else 0
theorem op_intB (a : Bool) : int1R [enc a] = .ok (enc (b2i a)) := (rfl)
-- truths
theorem eqR_of {x y : D} (hx : dle 64 x = true) (hy : dle 64 y = true) (b : Bool) (h : eqD x y = true ↔ b = true) : eqR x y = .ok (.bl b) := by
  unfold eqR
  have e : eqD x y = b := by
    cases b with
    | true => exact h.mpr rfl
    | false => cases q : eqD x y with
      | false => rfl
      | true => exact absurd (h.mp q) (by simp)
  split
  · rename_i ns; simp [dle] at hx
  · rw [hx, hy, e]; rfl
theorem neR_of {x y : D} (hx : dle 64 x = true) (hy : dle 64 y = true) (b : Bool) (h : eqD x y = true ↔ b = true) : neR x y = .ok (.bl (!b)) := by
  unfold neR
  have e : eqD x y = b := by
    cases b with
    | true => exact h.mpr rfl
    | false => cases q : eqD x y with
      | false => rfl
      | true => exact absurd (h.mp q) (by simp)
  split
  · rename_i ns; simp [dle] at hx
  · rw [hx, hy, e]; rfl
theorem op_eq [EncE α] [DecidableEq α] (h : EncE.dep α ≤ 64) (a b : α) : eqR (enc a) (enc b) = .ok (enc (decide (a = b))) := eqR_of (dle_le h (EncE.hdle a)) (dle_le h (EncE.hdle b)) _ ((EncE.heq a b).trans decide_eq_true_iff.symm)
theorem op_ne [EncE α] [DecidableEq α] (h : EncE.dep α ≤ 64) (a b : α) : neR (enc a) (enc b) = .ok (enc (!decide (a = b))) := neR_of (dle_le h (EncE.hdle a)) (dle_le h (EncE.hdle b)) _ ((EncE.heq a b).trans decide_eq_true_iff.symm)
def hasC (c : Nat) (z : Str) : Bool := decide (c ∈ z.cps.toList)
def signIn (s z : Str) : R Bool := match s.cps.toList with
  | [c] => .ok (hasC c z)
  | _ => .bad
theorem ro_signIn (s z : Str) : Rr (inB (enc s) (enc z)) (signIn s z) id := by
  show Rr (inB (.str s) (.str z)) _ _
  unfold inB signIn; simp only
  generalize s.cps.toList = l
  match l with
  | [] => trivial
  | [c] => rfl
  | _ :: _ :: _ => trivial
def hasK [DecidableEq κ] (d : Dc κ α) (k : κ) : Bool := d.l.any fun kv => decide (kv.1 = k)
class KeyE (κ : Type) [KeyT κ] [Enc κ] : Prop where
  h : ∀ k : κ, keyOf (enc k) = some (KeyT.key k)
instance : KeyE Int := ⟨fun _ => rfl⟩
instance : KeyE Str := ⟨fun _ => rfl⟩
variable [Enc κ] [KeyE κ] [DecidableEq κ]
theorem ro_in {x y : D} {t : R Bool} (h : Rr (inB x y) t id) : Rr (inR x y) t enc := by
  unfold inR
  cases t with
  | ok a => rw [show inB x y = .ok a from h]; rfl
  | exc c => rw [show inB x y = .exc c from h]; rfl
  | bad => trivial
theorem ro_notIn {x y : D} {t : R Bool} (h : Rr (inB x y) t id) : Rr (notInR x y) (t >>= fun k => .ok (!k)) enc := by
  unfold notInR
  cases t with
  | ok a => rw [show inB x y = .ok a from h]; rfl
  | exc c => rw [show inB x y = .exc c from h]; rfl
  | bad => trivial
-- lists, texts
def catL (xs ys : List α) : R (List α) := if xs.length + ys.length ≤ sizeLine then .ok (xs ++ ys) else .bad
theorem ro_catL (xs ys : List α) : Rr (addR (enc xs) (enc ys)) (catL xs ys) enc := by
  unfold catL; split
  · rename_i h
    show addR (.lst _) (.lst _) = _
    unfold addR; simp only [List.length_map]; rw [if_pos h]
    show _ = R.ok (D.lst ((xs ++ ys).map enc)); rw [List.map_append]
  · trivial
def catS (x y : Str) : R Str := if x.length + y.length ≤ sizeLine then .ok (x ++ y) else .bad
theorem ro_catS (x y : Str) : Rr (addR (enc x) (enc y)) (catS x y) enc := by
  unfold catS; split
  · rename_i h; exact if_pos h
  · trivial
theorem op_lst {ds : List D} (xs : List α) (h : ds = xs.map enc) (hl : xs.length ≤ sizeLine) : lstR ds = .ok (xs.map enc) := by
  subst h; exact if_pos (by rw [List.length_map]; exact hl)
theorem op_tup {ds : List D} (h : ds.length ≤ sizeLine) : tupR ds = .ok (.tup ds) := if_pos h
theorem sml {n : Nat} (h : n ≤ 1000) : n ≤ sizeLine := by rw [sizeLine_eq]; omega
theorem op_len (xs : List α) : lenR [enc xs] = .ok (enc (xs.length : Int)) := by show R.ok (D.int ((xs.map enc).length : Nat)) = _; rw [List.length_map]; rfl
theorem op_lenS (z : Str) : lenR [enc z] = .ok (enc (z.length : Int)) := (rfl)
theorem op_rev (xs : List α) : revF (enc xs) = .ok (xs.reverse.map enc) := by show R.ok (xs.map enc).reverse = _; rw [List.map_reverse]
theorem cutL_map (xs : List α) (i j : Option Int) : cutL (xs.map enc) i j = (cutL xs i j).map enc := by
  unfold cutL; rw [List.length_map, List.map_take, List.map_drop]
theorem op_cut (xs : List α) (i j : Option Int) : sliceR (enc xs) i j = .ok (enc (cutL xs i j)) := by
  show R.ok (D.lst (cutL (xs.map enc) i j)) = _; rw [cutL_map]; rfl
theorem op_cutS (z : Str) (i j : Option Int) : sliceR (enc z) i j = .ok (enc (L2.cutS z i j)) := (rfl)
theorem atI_map {α β : Type} (f : α → β) (xs : List α) (i : Int) : L2.atI (xs.map f) i = (L2.atI xs i).map f := by
  unfold L2.atI
  rw [List.length_map]
  cases L2.ixN xs.length i with
  | none => rfl
  | some j => simp
def ixL (xs : List α) (i : Int) : R α := match L2.atI xs i with | some a => .ok a | none => .bad
theorem ro_ixL (xs : List α) (i : Int) : Rr (ixR (enc xs) (enc i)) (ixL xs i) enc := by
  show Rr (match L2.atI (xs.map enc) i with | some x => R.ok x | none => .bad) _ _
  rw [atI_map]
  unfold ixL
  cases L2.atI xs i <;> first | rfl | trivial
theorem strsOf_enc (xs : List Str) : strsOf (xs.map enc) = some xs := by
  induction xs with
  | nil => rfl
  | cons x xs ih => show (strsOf (xs.map enc)).map (x :: ·) = _; rw [ih]; rfl
theorem blsOf_enc (xs : List Bool) : blsOf (xs.map enc) = some xs := by
  induction xs with
  | nil => rfl
  | cons x xs ih => show (blsOf (xs.map enc)).map (x :: ·) = _; rw [ih]; rfl
theorem op_all (xs : List Bool) : allR [enc xs] = .ok (enc (xs.all id)) := by show (match blsOf (xs.map enc) with | some ns => R.ok (D.bl (ns.all id)) | none => .bad) = _; rw [blsOf_enc]; rfl
class KeyD (κ : Type) [KeyT κ] [Enc κ] : Prop where
  h : ∀ k : κ, keyD (KeyT.key k) = enc k
instance : KeyD Int := ⟨fun _ => rfl⟩
instance : KeyD Str := ⟨fun _ => rfl⟩
theorem op_tuple (xs : List α) : tupleR [enc xs] = .ok (enc (Tu.mk xs)) := (rfl)
theorem it_list (xs : List α) : itemsR (enc xs) = .ok (xs.map enc) := (rfl)
theorem it_tu (xs : Tu α) : itemsR (enc xs) = .ok (xs.l.map enc) := (rfl)
def chars (z : Str) : List Str := z.cps.toList.map fun c => ⟨#[c]⟩
theorem charsD_enc (z : Str) : charsD z = (chars z).map enc := by unfold charsD chars; rw [List.map_map]; rfl
theorem it_str (z : Str) : itemsR (enc z) = .ok ((chars z).map enc) := by show R.ok (charsD z) = _; rw [charsD_enc]
variable {e : En} {A : En → R D}
end
end Ty

namespace Ty
open PySem Dx Fo
open Enc (enc)
def letT {α β : Type} (a : α) (k : α → β) : β := k a
inductive OT (σ α : Type) where
  | nx (s : σ)
  | rt (a : α)
  | bk (s : σ)
  | ct (s : σ)
  | exc (c : Str)
  | bad
section
variable {σ σ' α β γ : Type}
def OT.bd (r : R β) (k : β → OT σ α) : OT σ α := match r with
  | .ok b => k b
  | .exc c => .exc c
  | .bad => .bad
def OT.sq (t : OT σ' α) (k : σ' → OT σ α) : OT σ α := match t with
  | .nx s => k s
  | .rt a => .rt a
  | .exc c => .exc c
  | _ => .bad
def OT.thn (t : OT σ α) (k : σ → R α) : R α := match t with
  | .nx s => k s
  | .rt a => .ok a
  | .exc c => .exc c
  | _ => .bad
def forT (f : σ → β → OT σ α) : List β → σ → OT σ α
  | [], s => .nx s
  | x :: xs, s => match f s x with
    | .nx s => forT f xs s
    | .ct s => forT f xs s
    | .bk s => .nx s
    | .rt a => .rt a
    | .exc c => .exc c
    | .bad => .bad
def compR (p : β → R Bool) (g : β → R γ) : List β → R (List γ)
  | [] => .ok []
  | x :: xs => match p x with
    | .ok true => (match g x with
      | .ok y => compR p g xs >>= fun ys => .ok (y :: ys)
      | _ => .bad)
    | .ok false => compR p g xs
    | _ => .bad
end
section
variable {σ σ' α β γ δ ε ζ κ : Type} [Enc α] [Enc β] [Enc γ] [Enc δ] [Enc ε] [Enc ζ] [KeyT κ] {p p' : Pat} {e : En} {i : Nat}
def TR (o : Out) (t : R α) : Prop := match t with
  | .ok a => ∃ e, o = .rt (enc a) e
  | .exc c => ∃ e, o = .exc c e
  | .bad => True
def TO (P : σ → Pat) (o : Out) (t : OT σ α) : Prop := match t with
  | .nx s => ∃ e, o = .nx e ∧ EnvIs (P s) e
  | .rt a => ∃ e, o = .rt (enc a) e
  | .bk s => ∃ e, o = .bk e ∧ EnvIs (P s) e
  | .ct s => ∃ e, o = .ct e ∧ EnvIs (P s) e
  | .exc c => ∃ e, o = .exc c e
  | .bad => True
variable {P : σ → Pat} {P' : σ' → Pat} {A B : En → R D} {As : En → R (List D)} {Ak : En → R (List (L2.Key × D))} {G G1 G2 : En → Out} {t : En → R Bool} {o : Out}
-- a def
theorem fn_of {n m : Nat} {ds : List D} {T : R α} {p0 : Pat} (hl : ds.length = n) (hp : (ds.map fun d => some (Slot.d d)) ++ List.replicate m none = p0) (h : ∀ e, EnvIs p0 e → TR (G e) T) : Rr (defR n m G ds) T enc := by
  have h := h _ (EnvIs.of ds m hp)
  unfold defR
  rw [if_pos hl]
  unfold runB
  cases T with
  | ok a => obtain ⟨e, h⟩ := h; rw [h]; rfl
  | exc c => obtain ⟨e, h⟩ := h; rw [h]; rfl
  | bad => trivial
theorem tr_ret {T : R α} (h : Rr (A e) T enc) : TR (sRet A e) T := by
  cases T with
  | ok a => exact ⟨e, by show liftO (A e) e _ = _; rw [show A e = .ok (enc a) from h]; rfl⟩
  | exc c => exact ⟨e, by show liftO (A e) e _ = _; rw [show A e = .exc c from h]; rfl⟩
  | bad => trivial
theorem to_ret {a : α} (h : A e = .ok (enc a)) : TO P (sRet A e) (.rt a) := ⟨e, by show liftO (A e) e _ = _; rw [h]; rfl⟩
theorem tr_raise {c : Str} : TR (α := α) (sRaise c e) (.exc c) := ⟨e, rfl⟩
theorem to_nil {s : σ} (H : EnvIs (P s) e) : TO (α := α) P (sNil e) (.nx s) := ⟨e, rfl, H⟩
theorem seq_nil : sSeq G sNil e = G e := by show seqO (G e) sNil = _; cases G e <;> rfl
theorem to_one {T : OT σ α} (h : TO P (sSeq G sNil e) T) : TO P (G e) T := by rw [seq_nil] at h; exact h
theorem to_end {is : List Nat} {T : OT σ α} {Q : σ → Pat} (h : TO Q (G e) T) (hp : ∀ s, killP is (Q s) = P s) : TO P (sEnd is G e) T := by
  unfold sEnd
  cases T with
  | nx s => obtain ⟨e', h1, h2⟩ := h; rw [h1]; exact ⟨killS is e', rfl, hp s ▸ h2.kills is⟩
  | bk s => obtain ⟨e', h1, h2⟩ := h; rw [h1]; exact ⟨killS is e', rfl, hp s ▸ h2.kills is⟩
  | ct s => obtain ⟨e', h1, h2⟩ := h; rw [h1]; exact ⟨killS is e', rfl, hp s ▸ h2.kills is⟩
  | rt a => obtain ⟨e', h1⟩ := h; rw [h1]; exact ⟨e', rfl⟩
  | exc c => obtain ⟨e', h1⟩ := h; rw [h1]; exact ⟨e', rfl⟩
  | bad => trivial
structure Jd {τ : Type} (J : Out → τ → Prop) (bd : ∀ {β : Type}, R β → (β → τ) → τ) : Prop where
  exc : ∀ {c : Str} {β : Type} {k : β → τ} {e : En}, J (.exc c e) (bd (.exc c) k)
  bad : ∀ {o : Out} {β : Type} {k : β → τ}, J o (bd .bad k)
  ok : ∀ {o : Out} {β : Type} {b : β} {k : β → τ}, J o (k b) → J o (bd (.ok b) k)
theorem jTR : Jd (TR (α := α)) (fun r k => r >>= k) := ⟨⟨_, rfl⟩, trivial, fun h => h⟩
theorem jTO : Jd (TO (α := α) P) (fun r k => OT.bd r k) := ⟨⟨_, rfl⟩, trivial, fun h => h⟩
section
variable {τ : Type} {J : Out → τ → Prop} {bd : ∀ {β : Type}, R β → (β → τ) → τ} {T : τ}
theorem j_set {a : α} {k : α → τ} {q : α → Pat} (H : EnvIs p e) (h : A e = .ok (enc a)) (hq : ∀ a : α, p.set i (sv a) = q a) (hk : ∀ a e, EnvIs (q a) e → J (G e) (k a)) : J (sSeq (sSet i A) G e) (letT a k) := by
  have e1 : sSeq (sSet i A) G e = G (e.set i (.d (enc a))) := by show seqO (liftO (A e) e _) G = _; rw [h]; rfl
  rw [e1]
  exact hk a _ (hq a ▸ H.set i)
theorem j_setM (hJ : Jd J bd) {r : R α} {k : α → τ} {q : α → Pat} (H : EnvIs p e) (h : Rr (A e) r enc) (hq : ∀ a : α, p.set i (sv a) = q a) (hk : ∀ a e, EnvIs (q a) e → J (G e) (k a)) : J (sSeq (sSet i A) G e) (bd r k) := by
  cases r with
  | ok a =>
    have e1 : sSeq (sSet i A) G e = G (e.set i (.d (enc a))) := by show seqO (liftO (A e) e _) G = _; rw [show A e = .ok (enc a) from h]; rfl
    rw [e1]; exact hJ.ok (hk a _ (hq a ▸ H.set i))
  | exc c => rw [show sSeq (sSet i A) G e = .exc c e by show seqO (liftO (A e) e _) G = _; rw [show A e = .exc c from h]; rfl]; exact hJ.exc
  | bad => exact hJ.bad
theorem j_setF {xs : List α} {k : List α → τ} {q : List α → Pat} (H : EnvIs p e) (h : As e = .ok (xs.map enc)) (hq : ∀ xs : List α, p.set i (so xs) = q xs) (hk : ∀ xs e, EnvIs (q xs) e → J (G e) (k xs)) : J (sSeq (sSetF i As) G e) (letT xs k) := by
  have e1 : sSeq (sSetF i As) G e = G (e.set i (.ol (xs.map enc))) := by show seqO (liftO (As e) e _) G = _; rw [h]; rfl
  rw [e1]
  exact hk xs _ (hq xs ▸ H.set i)
theorem j_setFM (hJ : Jd J bd) {r : R (List α)} {k : List α → τ} {q : List α → Pat} (H : EnvIs p e) (h : Rr (As e) r (List.map enc)) (hq : ∀ xs : List α, p.set i (so xs) = q xs) (hk : ∀ xs e, EnvIs (q xs) e → J (G e) (k xs)) : J (sSeq (sSetF i As) G e) (bd r k) := by
  cases r with
  | ok xs =>
    have e1 : sSeq (sSetF i As) G e = G (e.set i (.ol (xs.map enc))) := by show seqO (liftO (As e) e _) G = _; rw [show As e = .ok (xs.map enc) from h]; rfl
    rw [e1]; exact hJ.ok (hk xs _ (hq xs ▸ H.set i))
  | exc c => rw [show sSeq (sSetF i As) G e = .exc c e by show seqO (liftO (As e) e _) G = _; rw [show As e = .exc c from h]; rfl]; exact hJ.exc
  | bad => exact hJ.bad
theorem j_setDM (hJ : Jd J bd) {r : R (List α)} {k : List α → τ} {q : List α → Pat} (H : EnvIs p e) (h : Rr (As e) r (List.map enc)) (hq : ∀ xs : List α, p.set i (sv xs) = q xs) (hk : ∀ xs e, EnvIs (q xs) e → J (G e) (k xs)) : J (sSeq (sSetFD i As) G e) (bd r k) := by
  cases r with
  | ok xs =>
    have e1 : sSeq (sSetFD i As) G e = G (e.set i (.d (enc xs))) := by show seqO (liftO (As e) e _) G = _; rw [show As e = .ok (xs.map enc) from h]; rfl
    rw [e1]; exact hJ.ok (hk xs _ (hq xs ▸ H.set i))
  | exc c => rw [show sSeq (sSetFD i As) G e = .exc c e by show seqO (liftO (As e) e _) G = _; rw [show As e = .exc c from h]; rfl]; exact hJ.exc
  | bad => exact hJ.bad
theorem frz_of {s : Slot} (H : EnvIs p e) (h : p[i]? = some (some s)) : EnvIs (p.set i (some s.fz)) (frz i e) := by
  unfold frz; rw [H.2 i s h]; exact H.set i
theorem j_ifM (hJ : Jd J bd) {r : R Bool} {T1 T2 : τ} (h : Rr (t e) r id) (h1 : J (G1 e) T1) (h2 : J (G2 e) T2) : J (sIf t G1 G2 e) (bd r fun c => if c = true then T1 else T2) := by
  show J (liftO (t e) e _) _
  cases r with
  | ok c => rw [show t e = .ok c from h]; cases c; exact hJ.ok h2; exact hJ.ok h1
  | exc c => rw [show t e = .exc c from h]; exact hJ.exc
  | bad => exact hJ.bad
theorem j_ifX {c : Bool} {T1 T2 : τ} (h : t e = .ok c) (h1 : J (seqO (G1 e) G) T1) (h2 : J (seqO (G2 e) G) T2) : J (sSeq (sIf t G1 G2) G e) (if c = true then T1 else T2) := by
  show J (seqO (liftO (t e) e _) G) _; rw [h]; cases c; exact h2; exact h1
theorem j_ifXM (hJ : Jd J bd) {r : R Bool} {T1 T2 : τ} (h : Rr (t e) r id) (h1 : J (seqO (G1 e) G) T1) (h2 : J (seqO (G2 e) G) T2) : J (sSeq (sIf t G1 G2) G e) (bd r fun c => if c = true then T1 else T2) := by
  show J (seqO (liftO (t e) e _) G) _
  cases r with
  | ok c => rw [show t e = .ok c from h]; cases c; exact hJ.ok h2; exact hJ.ok h1
  | exc c => rw [show t e = .exc c from h]; exact hJ.exc
  | bad => exact hJ.bad
theorem j_seqnil (h : J (G e) T) : J (seqO (sNil e) G) T := h
end
theorem tr_x {T : R α} (h : TR o T) : TR (seqO o G) T := by
  cases T with
  | ok a => obtain ⟨e, h⟩ := h; rw [h]; exact ⟨e, rfl⟩
  | exc c => obtain ⟨e, h⟩ := h; rw [h]; exact ⟨e, rfl⟩
  | bad => trivial
theorem tr_sqO {T : OT σ' α} {k : σ' → R α} (h : TO P' (G1 e) T) (hk : ∀ s e, EnvIs (P' s) e → TR (G e) (k s)) : TR (sSeq G1 G e) (OT.thn T k) := by
  show TR (seqO (G1 e) G) _
  cases T with
  | nx s => obtain ⟨e', h1, h2⟩ := h; rw [h1]; exact hk s e' h2
  | rt a => obtain ⟨e', h1⟩ := h; rw [h1]; exact ⟨e', rfl⟩
  | exc c => obtain ⟨e', h1⟩ := h; rw [h1]; exact ⟨e', rfl⟩
  | bk s => trivial
  | ct s => trivial
  | bad => trivial
theorem to_sqO {T : OT σ' α} {k : σ' → OT σ α} (h : TO P' (G1 e) T) (hk : ∀ s e, EnvIs (P' s) e → TO P (G e) (k s)) : TO P (sSeq G1 G e) (OT.sq T k) := by
  show TO P (seqO (G1 e) G) _
  cases T with
  | nx s => obtain ⟨e', h1, h2⟩ := h; rw [h1]; exact hk s e' h2
  | rt a => obtain ⟨e', h1⟩ := h; rw [h1]; exact ⟨e', rfl⟩
  | exc c => obtain ⟨e', h1⟩ := h; rw [h1]; exact ⟨e', rfl⟩
  | bk s => trivial
  | ct s => trivial
  | bad => trivial
-- targets
theorem tg_name (H : EnvIs p e) {a : α} {q : Pat} (hq : p.set i (sv a) = q) : ∃ e', nameT i (enc a) e = .ok e' ∧ EnvIs q e' := ⟨_, rfl, hq ▸ H.set i⟩
theorem to_for {Tg : D → En → R En} {B : En → Out} {f : σ → β → OT σ α} {q : σ → β → Pat} (xs : List β) (s0 : σ) (H : EnvIs (P s0) e)
    (ht : ∀ x s e, EnvIs (P s) e → ∃ e', Tg (enc x) e = .ok e' ∧ EnvIs (q s x) e')
    (hb : ∀ x s e, EnvIs (q s x) e → TO P (B e) (f s x)) : TO P (forO Tg B (xs.map enc) e) (forT f xs s0) := by
  induction xs generalizing s0 e with
  | nil => exact ⟨e, rfl, H⟩
  | cons x xs ih =>
    obtain ⟨e', h1, h2⟩ := ht x s0 e H
    have h3 := hb x s0 e' h2
    rw [List.map_cons]
    unfold forO forT
    rw [h1]
    simp only
    cases hf : f s0 x with
    | nx s => rw [hf] at h3; obtain ⟨e2, h4, h5⟩ := h3; rw [h4]; exact ih s h5
    | ct s => rw [hf] at h3; obtain ⟨e2, h4, h5⟩ := h3; rw [h4]; exact ih s h5
    | bk s => rw [hf] at h3; obtain ⟨e2, h4, h5⟩ := h3; rw [h4]; exact ⟨e2, rfl, h5⟩
    | rt a => rw [hf] at h3; obtain ⟨e2, h4⟩ := h3; rw [h4]; exact ⟨e2, rfl⟩
    | exc c => rw [hf] at h3; obtain ⟨e2, h4⟩ := h3; rw [h4]; exact ⟨e2, rfl⟩
    | bad => trivial
variable {I : En → R (List D)} {Tg : D → En → R En} {Bo : En → Out}
theorem to_forP {f : σ → β → OT σ α} {q : σ → β → Pat} {xs : List β} {s0 : σ} (hi : I e = .ok (xs.map enc)) (H : EnvIs (P s0) e)
    (ht : ∀ x s e, EnvIs (P s) e → ∃ e', Tg (enc x) e = .ok e' ∧ EnvIs (q s x) e') (hb : ∀ x s e, EnvIs (q s x) e → TO P (Bo e) (f s x)) : TO P (sFor I Tg Bo e) (forT f xs s0) := by
  show TO P (liftO (I e) e _) _; rw [hi]; exact to_for xs s0 H ht hb
theorem to_forM {f : σ → β → OT σ α} {q : σ → β → Pat} {r : R (List β)} {s0 : σ} (hi : Rr (I e) r (List.map enc)) (H : EnvIs (P s0) e)
    (ht : ∀ x s e, EnvIs (P s) e → ∃ e', Tg (enc x) e = .ok e' ∧ EnvIs (q s x) e') (hb : ∀ x s e, EnvIs (q s x) e → TO P (Bo e) (f s x)) : TO P (sFor I Tg Bo e) (OT.bd r fun xs => forT f xs s0) := by
  show TO P (liftO (I e) e _) _
  cases r with
  | ok xs => rw [show I e = .ok (xs.map enc) from hi]; exact to_for xs s0 H ht hb
  | exc c => rw [show I e = .exc c from hi]; exact ⟨e, rfl⟩
  | bad => trivial
theorem comp_go {T : D → En → R En} {C : En → R Bool} {F : En → R D} {g : β → R γ} {pr : β → R Bool} : ∀ (xs : List β), (∀ x : β, ∃ e1, T (enc x) e = .ok e1 ∧ Rr (C e1) (pr x) id ∧ Rr (F e1) (g x) enc) → Rr (compO T C F e (xs.map enc)) (compR pr g xs) (List.map enc)
  | [], _ => rfl
  | x :: xs, h => by
    obtain ⟨e1, h1, h2, h3⟩ := h x
    have ih := comp_go xs h
    rw [List.map_cons]
    unfold compO compR
    rw [h1]
    simp only
    cases q : pr x with
    | ok b =>
      rw [q] at h2; rw [show C e1 = .ok b from h2]
      cases b with
      | false => exact ih
      | true =>
        simp only
        cases z : g x with
        | ok y =>
          rw [z] at h3; rw [show F e1 = .ok (enc y) from h3]
          exact rr_bind ih fun ys => rfl
        | exc c => trivial
        | bad => trivial
    | exc c => trivial
    | bad => trivial
variable {T : D → En → R En} {C : En → R Bool} {F : En → R D} {own : List Nat}
theorem lc_m {r : R (List β)} {pr : β → R Bool} {g : β → R γ} {p1 : Pat} {q : β → Pat} (H : EnvIs p e) (hp : wipeP p own = p1) (hi : Rr (I e) r (List.map enc)) (ht : ∀ x e, EnvIs p1 e → ∃ e1, T (enc x) e = .ok e1 ∧ EnvIs (q x) e1)
    (hc : ∀ x e, EnvIs (q x) e → Rr (C e) (pr x) id) (hf : ∀ x e, EnvIs (q x) e → Rr (F e) (g x) enc) : Rr (eComp I T C F own e) (r >>= fun xs => compR pr g xs) (List.map enc) := by
  show Rr (I e >>= fun ds => compO T C F (wipeE e own) ds) _ _
  exact rr_bind hi fun xs => comp_go (e := wipeE e own) xs fun x => by
    obtain ⟨e1, h1, h2⟩ := ht x (wipeE e own) (hp ▸ H.wipe own)
    exact ⟨e1, h1, hc x e1 h2, hf x e1 h2⟩
theorem lc_xm {xs : List β} {pr : β → R Bool} {g : β → R γ} {p1 : Pat} {q : β → Pat} (H : EnvIs p e) (hp : wipeP p own = p1) (hi : I e = .ok (xs.map enc)) (ht : ∀ x e, EnvIs p1 e → ∃ e1, T (enc x) e = .ok e1 ∧ EnvIs (q x) e1)
    (hc : ∀ x e, EnvIs (q x) e → Rr (C e) (pr x) id) (hf : ∀ x e, EnvIs (q x) e → Rr (F e) (g x) enc) : Rr (eComp I T C F own e) (compR pr g xs) (List.map enc) := lc_m (r := .ok xs) H hp hi ht hc hf
theorem c_true : Rr (tTrue e) (.ok true) id := rfl
-- owned lists and dicts
section
variable {τ : Type} {J : Out → τ → Prop} {bd : ∀ {β : Type}, R β → (β → τ) → τ}
def pushL {α : Type} (xs : List α) (a : α) : R (List α) := if xs.length < sizeLine then .ok (xs ++ [a]) else .bad
theorem j_push (hJ : Jd J bd) {xs : List α} {a : α} {k : List α → τ} {q : List α → Pat} (H : EnvIs p e) (hx : p[i]? = some (so xs)) (h : A e = .ok (enc a)) (hq : ∀ xs : List α, p.set i (so xs) = q xs) (hk : ∀ xs e, EnvIs (q xs) e → J (G e) (k xs)) :
    J (sSeq (sMeth i A appO) G e) (bd (pushL xs a) k) := by
  have hx' := H.2 i _ hx
  unfold pushL
  split
  · rename_i hl
    have e1 : sSeq (sMeth i A appO) G e = G (e.set i (.ol ((xs ++ [a]).map enc))) := by
      show seqO (match e[i]? with | some (.ol _) => liftO (A e) e (appO i e) | _ => .bad) G = _
      rw [hx']; simp only; rw [h]
      show seqO (appO i e (enc a)) G = _
      unfold appO; rw [hx']; simp only [List.length_map]; rw [if_pos hl]
      rw [List.map_append]; rfl
    rw [e1]; exact hJ.ok (hk _ _ (hq _ ▸ H.set i))
  · exact hJ.bad
theorem j_pushM (hJ : Jd J bd) {xs : List α} {r : R α} {k : List α → τ} {q : List α → Pat} (H : EnvIs p e) (hx : p[i]? = some (so xs)) (h : Rr (A e) r enc) (hq : ∀ xs : List α, p.set i (so xs) = q xs) (hk : ∀ xs e, EnvIs (q xs) e → J (G e) (k xs)) :
    J (sSeq (sMeth i A appO) G e) (bd (r >>= fun a => pushL xs a) k) := by
  cases r with
  | ok a => exact j_push hJ H hx h hq hk
  | exc c =>
    have e1 : sSeq (sMeth i A appO) G e = .exc c e := by
      show seqO (match e[i]? with | some (.ol _) => liftO (A e) e (appO i e) | _ => .bad) G = _
      rw [H.2 i _ hx]; simp only; rw [show A e = .exc c from h]; rfl
    rw [e1]; exact hJ.exc
  | bad => exact hJ.bad
def putK [DecidableEq κ] (d : Dc κ α) (k : κ) (a : α) : Dc κ α := if hasK d k = true then ⟨d.l.map fun kv => if kv.1 = k then (kv.1, a) else kv⟩ else ⟨d.l ++ [(k, a)]⟩
def dropK [DecidableEq κ] (d : Dc κ α) (k : κ) : R (Dc κ α) := if hasK d k = true then .ok ⟨d.l.filter fun kv => decide (kv.1 ≠ k)⟩ else .bad
end
end
end Ty
namespace Ty
open PySem Dx Fo
open Enc (enc)
section
variable {σ σ' α β γ δ ε ζ κ τ : Type} [Enc α] [Enc β] [Enc γ] [Enc δ] [Enc ε] [Enc ζ] [KeyT κ] {p p' : Pat} {e : En} {i : Nat} {A B C : En → R D} {As : En → R (List D)} {G G1 G2 : En → Out} {t : En → R Bool} {o : Out} {P : σ → Pat}
def TX (P : σ → Pat) (o : Out) (T : OT σ α) : Prop := ∀ G, TO P (seqO o G) T
theorem to_tx {T : OT σ α} (h : TX P o T) : TO P (seqO o G) T := h G
theorem tx_ret {a : α} (h : A e = .ok (enc a)) : TX P (sRet A e) (.rt a) := fun G => ⟨e, by show seqO (liftO (A e) e _) G = _; rw [h]; rfl⟩
theorem tpa {r : R D} (a : α) (h : r = .ok (enc a)) : r = .ok (enc a) := h
theorem tpl {r : R (List D)} (xs : List α) (h : r = .ok (xs.map enc)) : r = .ok (xs.map enc) := h
theorem tma {r : R D} (t : R α) (h : Rr r t enc) : Rr r t enc := h
theorem tml {r : R (List D)} (t : R (List α)) (h : Rr r t (List.map enc)) : Rr r t (List.map enc) := h
theorem ttb {r : R Bool} (b : Bool) (h : r = .ok b) : r = .ok b := h
theorem ttm {r : R Bool} (t : R Bool) (h : Rr r t id) : Rr r t id := h
def eqDG (x y : D) : R Bool := if (dle 64 x && dle 64 y) = true then .ok (eqD x y) else .bad
theorem ro_neD (x y : D) : Rr (neR x y) (eqDG x y >>= fun k => .ok (!k)) enc := by
  unfold eqDG; split
  · rename_i h
    rw [Bool.and_eq_true] at h
    exact neR_of h.1 h.2 _ Iff.rfl
  · trivial
def isiG (T : String) (x : D) : R Bool := if (T = "int" ∨ T = "bool" ∨ T = "str" ∨ T = "tuple") ∧ isFrz x = false then .ok (isTy T x) else .bad
theorem tt_chain {f f' : D → D → R D} {x y z : D} {b c : Bool} (ha : A e = .ok x) (hb : B e = .ok y) (hc : C e = .ok z) (h1 : f x y = .ok (enc b)) (h2 : f' y z = .ok (enc c)) : tChain f f' A B C e = .ok (b && c) := by
  show (A e >>= fun x => B e >>= fun y => chainR f f' x y (C e) >>= boolR) = _
  rw [ha, hb, hc]; show (chainR f f' x y (.ok z) >>= boolR) = _
  unfold chainR; rw [h1]
  cases b
  · rfl
  · show (f' y z >>= boolR) = _; rw [h2]; rfl
section
variable {J : Out → τ → Prop} {bd : ∀ {β : Type}, R β → (β → τ) → τ} {T : τ}
theorem j_frzS {s : Slot} {q : Pat} (H : EnvIs p e) (h : p[i]? = some (some s)) (hq : p.set i (some s.fz) = q) (hk : ∀ e, EnvIs q e → J (sSeq G1 G e) T) : J (sSeq (sFrz i G1) G e) T := hk _ (hq ▸ frz_of H h)
end
def DP (F : En → R (List (L2.Key × D))) (e : En) (l : List (κ × α)) : Prop := F e = .ok (l.map fun kv => (KeyT.key kv.1, enc kv.2))
theorem op_tn (n : Nat) (hn : n ≤ 1000) {ds : List D} (h : ds.length = n) : tupR ds = .ok (.tup ds) := op_tup (sml (h ▸ hn))
theorem smn (n : Nat) (hn : n ≤ 1000) {m : Nat} (h : m = n) : m ≤ sizeLine := sml (h ▸ hn)
def TRp (o : Out) (a : α) : Prop := TR o (.ok a)
theorem trp_ret {a : α} (h : A e = .ok (enc a)) : TRp (sRet A e) a := tr_ret (T := .ok a) h
theorem fn_ofP {n m : Nat} {ds : List D} {a : α} {p0 : Pat} (hl : ds.length = n) (hp : (ds.map fun d => some (Slot.d d)) ++ List.replicate m none = p0) (h : ∀ e, EnvIs p0 e → TRp (G e) a) : defR n m G ds = .ok (enc a) := fn_of (T := .ok a) hl hp h
def lenSetG {κ : Type} [DecidableEq κ] (xs : List κ) : R Int := if xs.length < 4000 then .ok ((Sx.nub xs).length : Nat) else .bad
theorem ro_lenSetS (xs : List Str) : Rr (lenSetR (enc xs)) (lenSetG xs) enc := by
  unfold lenSetG; split
  · rename_i h
    show lenSetR (.lst (xs.map enc)) = _
    unfold lenSetR
    simp only [List.length_map]
    rw [if_pos h]
    cases xs with
    | nil => rfl
    | cons x xs =>
      have : intsOf ((x :: xs).map enc) = none := rfl
      simp only [this, strsOf_enc]; rfl
  · trivial
end
end Ty

namespace Fo
open PySem Dx Dn
theorem sz (n : Nat) (h : n ≤ 16777216) : n ≤ sizeLine := by rw [sizeLine_eq]; exact h
theorem sL_cons (x : Str) (xs : List Str) : sL (x :: xs) = .lst (.str x :: xs.map D.str) := rfl
theorem ar_names {S : List Box} {b : Box} (w : wf [] S) (hb : b ∈ S) (h0 : b.ar ≠ "") : b.ar ∈ names S := by
  obtain ⟨S1, S2, rfl⟩ := List.append_of_mem hb
  rcases (wf_split w).2.2.2 with z | z
  · exact absurd z h0
  · rw [names_append]; exact List.mem_append_left _ z
def offs (S : List Box) : List Str → Int × Int
  | [] => (0, 0)
  | n :: ns => match findB S n with
    | some b => (b.l + (offs S ns).1, b.t + (offs S ns).2)
    | none => offs S ns
end Fo

namespace Fo
open PySem Dx Dn
theorem atI_nat {α : Type} (xs : List α) (i : Nat) : L2.atI xs (i : Int) = xs[i]? := by
  unfold L2.atI L2.ixN
  rw [if_pos (by omega)]
  by_cases h : i < xs.length
  · rw [if_pos (by omega)]; simp
  · rw [if_neg (by omega)]
    simp
    omega
theorem m_cell (ns : List Int) (k : Int) (h : ns.length ≤ 63) : ∃ v, den__law_cell [.frz ns, .int k] = .ok (.int v) := by
  show ∃ v, runB 0 g__law_cell [.frz ns, .int k] = _
  unfold runB g__law_cell
  cases ns with
  | nil =>
    refine ⟨7 * k, ?_⟩
    have e : eqR (.frz []) (.lst []) = .ok (.bl true) := rfl
    simp [lstR, e, mulR]
  | cons n ns =>
    have e : eqR (.frz (n :: ns)) (.lst []) = .ok (.bl false) := rfl
    have l : lenR [.frz (n :: ns)] = .ok (.int ((ns.length : Int) + 1)) := by simp [lenR]
    have z : (0 : Int) < (ns.length : Int) + 1 := by omega
    have z2 : (ns.length : Int) + 1 < 1073741824 := by simp at h; omega
    have hm0 : 0 ≤ k % ((ns.length : Int) + 1) := Int.emod_nonneg _ (by omega)
    have hm1 : k % ((ns.length : Int) + 1) < (ns.length : Int) + 1 := Int.emod_lt_of_pos _ z
    obtain ⟨j, hj⟩ := Int.eq_ofNat_of_zero_le hm0
    have hj1 : j < (n :: ns).length := by simp; omega
    have ix : ixR (.frz (n :: ns)) (.int (k % ((ns.length : Int) + 1))) = .ok (.int (n :: ns)[j]) := by
      unfold ixR
      rw [hj]
      show (match L2.atI (n :: ns) (j : Int) with | some n => R.ok (D.int n) | none => R.bad) = _
      rw [atI_nat, List.getElem?_eq_getElem hj1]
    refine ⟨(n :: ns)[j] + 6553 * (k / ((ns.length : Int) + 1)), ?_⟩
    simp [lstR, e, l, modR, z, ix, divR, z2, mulR]
theorem m_drawn (ns : List Int) (k : Int) (many : Int) (h : ns.length ≤ 63) (hm : 0 < many) : ∃ v, den__law_drawn [.frz ns, .int k, .int many] = .ok (.int v) ∧ 0 ≤ v ∧ v < many := by
  obtain ⟨c, hc⟩ := m_cell ns k h
  show ∃ v, runB 1 g__law_drawn [.frz ns, .int k, .int many] = _ ∧ _
  unfold runB g__law_drawn
  have b1 : ∀ x : Int, 0 ≤ x % 2147483563 ∧ x % 2147483563 < 2147483563 := fun x => ⟨Int.emod_nonneg _ (by omega), Int.emod_lt_of_pos _ (by omega)⟩
  have b2 : ∀ x : Int, 0 ≤ x % 2147483399 ∧ x % 2147483399 < 2147483399 := fun x => ⟨Int.emod_nonneg _ (by omega), Int.emod_lt_of_pos _ (by omega)⟩
  generalize hx : (c % 2147483563 * 69069 + 104723 * (k + 1)) % 2147483563 = x
  have hx1 : 0 ≤ x ∧ x < 2147483563 := hx ▸ b1 _
  generalize hy : (x * x + x / 3) % 2147483399 = y
  have hy1 : 0 ≤ y ∧ y < 2147483399 := hy ▸ b2 _
  refine ⟨(y * y + y / 7) % 2147483647 / 11 % many, ?_, Int.emod_nonneg _ (by omega), Int.emod_lt_of_pos _ hm⟩
  have m1 : (-18446744073709551616 < x ∧ x < 18446744073709551616) := by omega
  have m2 : (-18446744073709551616 < y ∧ y < 18446744073709551616) := by omega
  simp [hc, modR, mulR, hx, divR, m1, hy, m2, hm]
def drawn (ns : List Int) (k many : Int) : Int := match den__law_drawn [.frz ns, .int k, .int many] with
  | .ok (.int v) => v
  | _ => 0
theorem drawn_ok {ns : List Int} (h : ns.length ≤ 63) (k : Int) {many : Int} (hm : 0 < many) : den__law_drawn [.frz ns, .int k, .int many] = .ok (.int (drawn ns k many)) := by
  obtain ⟨v, e, _⟩ := m_drawn ns k many h hm
  unfold drawn
  rw [e]
theorem drawn_in {ns : List Int} (h : ns.length ≤ 63) (k : Int) {many : Int} (hm : 0 < many) : 0 ≤ drawn ns k many ∧ drawn ns k many < many := by
  obtain ⟨v, e, q⟩ := m_drawn ns k many h hm
  unfold drawn
  rw [e]
  exact q

def let8 : List Nat := [100, 98, 103, 97, 104, 99, 102, 101]
def letter (i : Nat) : Str := ⟨#[let8.getD (i % 8) 0]⟩
def marks4 : List (Nat × Nat) := [(0, 99), (1, 102), (2, 104), (3, 108)]
def odd4 : Nat → Int
  | 0 => 4
  | 1 => 2
  | 2 => 9
  | 3 => 6
  | _ => 1
def markOn (ns : List Int) (here : Int) (p : Nat × Nat) : Bool := decide (drawn ns (here + 5 + (p.1 : Int)) (odd4 p.1) = 0)
def mkBox (ns : List Int) (at_ : Int) (k : Nat) (S : List Box) : Box :=
  let here := at_ + 3 + 9 * (k : Int)
  { nm := letter (k + (drawn ns (at_ + 1) 8).toNat), ar := (("" : Str) :: names S).getD (drawn ns here ((k : Int) + 1)).toNat "",
    l := drawn ns (here + 1) 9 - 3, t := drawn ns (here + 1 + 1) 9 - 3, w := drawn ns (here + 3) 9, h := drawn ns (here + 3 + 1) 9,
    ms := ⟨((marks4.filter (markOn ns here)).map (·.2)).toArray⟩ }
def mkSc (ns : List Int) (at_ : Int) : Nat → List Box
  | 0 => []
  | k + 1 => mkSc ns at_ k ++ [mkBox ns at_ k (mkSc ns at_ k)]
def scene (ns : List Int) (at_ : Int) : List Box := mkSc ns at_ (drawn ns at_ 8).toNat
theorem mkSc_len (ns : List Int) (at_ : Int) : ∀ k, (mkSc ns at_ k).length = k
  | 0 => rfl
  | k + 1 => by simp [mkSc, mkSc_len ns at_ k]
theorem mkSc_names (ns : List Int) (at_ : Int) : ∀ k, names (mkSc ns at_ k) = (List.range k).map fun i => letter (i + (drawn ns (at_ + 1) 8).toNat)
  | 0 => rfl
  | k + 1 => by rw [mkSc, names_append, mkSc_names ns at_ k, List.range_succ, List.map_append]; rfl
theorem let8_inj : ∀ i < 8, ∀ j < 8, let8.getD i 0 = let8.getD j 0 → i = j := by decide
theorem letter_inj {i j t : Nat} (hi : i < 8) (hj : j < 8) (e : letter (i + t) = letter (j + t)) : i = j := by
  unfold letter at e
  have e : let8.getD ((i + t) % 8) 0 = let8.getD ((j + t) % 8) 0 := by
    have := congrArg (fun s : Str => s.cps.toList) e
    simpa using this
  have := let8_inj _ (Nat.mod_lt _ (by omega)) _ (Nat.mod_lt _ (by omega)) e
  omega
theorem letter_ne (i : Nat) : letter i ≠ "" := by
  intro e
  have := congrArg (fun s : Str => s.cps.toList.length) e
  simp [letter] at this
  revert this
  decide
theorem mkSc_wf {ns : List Int} (h : ns.length ≤ 63) (at_ : Int) : ∀ k, k ≤ 8 → wf [] (mkSc ns at_ k)
  | 0, _ => trivial
  | k + 1, hk => by
    rw [mkSc, wf_snoc]
    refine ⟨mkSc_wf h at_ k (by omega), letter_ne _, fun z => ?_, ?_⟩
    · rw [mkSc_names, List.mem_map] at z
      obtain ⟨i, hi, e⟩ := z
      rw [List.mem_range] at hi
      have := letter_inj (by omega) (by omega) (show letter (i + _) = letter (k + _) from e)
      omega
    · have d := drawn_in h (at_ + 3 + 9 * (k : Int)) (many := (k : Int) + 1) (by omega)
      have hl : (drawn ns (at_ + 3 + 9 * (k : Int)) ((k : Int) + 1)).toNat < (("" : Str) :: names (mkSc ns at_ k)).length := by
        rw [List.length_cons, names_length, mkSc_len]; omega
      have : (mkBox ns at_ k (mkSc ns at_ k)).ar ∈ (("" : Str) :: names (mkSc ns at_ k)) := by
        show List.getD _ _ _ ∈ _
        rw [List.getD_eq_getElem?_getD, List.getElem?_eq_getElem hl]
        exact List.getElem_mem _
      exact List.mem_cons.mp this
theorem scene_wf {ns : List Int} (h : ns.length ≤ 63) (at_ : Int) : wf [] (scene ns at_) := mkSc_wf h at_ _ (by have := drawn_in h at_ (many := 8) (by omega); omega)
theorem scene_len {ns : List Int} (h : ns.length ≤ 63) (at_ : Int) : (scene ns at_).length ≤ 7 := by
  unfold scene
  rw [mkSc_len]
  have := drawn_in h at_ (many := 8) (by omega)
  omega
theorem ix_sL {xs : List Str} {i : Int} (h0 : 0 ≤ i) (h1 : i < xs.length) (x : Str) : ixR (sL xs) (.int i) = .ok (.str (xs.getD i.toNat x)) := by
  obtain ⟨j, rfl⟩ := Int.eq_ofNat_of_zero_le h0
  unfold ixR sL
  simp only
  rw [atI_nat]
  have hj : j < xs.length := by omega
  rw [List.getElem?_map, List.getElem?_eq_getElem hj]
  simp [hj]
theorem lstR_s {xs : List D} (h : xs.length ≤ 1000) : lstR xs = .ok xs := if_pos (sz _ (by omega))
theorem tupR_s {xs : List D} (h : xs.length ≤ 1000) : tupR xs = .ok (.tup xs) := if_pos (sz _ (by omega))
theorem addR_t {xs ys : List D} (h : xs.length + ys.length ≤ 1000) : addR (.tup xs) (.tup ys) = .ok (.tup (xs ++ ys)) := if_pos (sz _ (by omega))
theorem addR_l {xs ys : List D} (h : xs.length + ys.length ≤ 1000) : addR (.lst xs) (.lst ys) = .ok (.lst (xs ++ ys)) := if_pos (sz _ (by omega))
theorem compO_all {α : Type} {T : D → En → R En} {C : En → R Bool} {F : En → R D} {f : α → D} {g : α → D} {e : En} : ∀ (xs : List α), (∀ a ∈ xs, ∃ e1, T (f a) e = .ok e1 ∧ C e1 = .ok true ∧ F e1 = .ok (g a)) →
    compO T C F e (xs.map f) = .ok (xs.map g)
  | [], _ => rfl
  | a :: xs, h => by
    obtain ⟨e1, h1, h2, h3⟩ := h a List.mem_cons_self
    have ih := compO_all xs fun a ha => h a (List.mem_cons_of_mem _ ha)
    rw [List.map_cons]
    unfold compO
    simp only [h1, h2, h3, ih, R.ok_bind, List.map_cons]
theorem ix_let (k t : Int) (hk : 0 ≤ k) (ht : 0 ≤ t) : ixR (.str "dbgahcfe") (.int ((k + t) % 8)) = .ok (.str (letter (k.toNat + t.toNat))) := by
  obtain ⟨k, rfl⟩ := Int.eq_ofNat_of_zero_le hk
  obtain ⟨t, rfl⟩ := Int.eq_ofNat_of_zero_le ht
  have e : (Str.ofString "dbgahcfe").cps.toList = let8 := by decide +kernel
  have e2 : ((k : Int) + (t : Int)) % 8 = (((k + t) % 8 : Nat) : Int) := by omega
  unfold ixR
  simp only
  rw [e, e2, atI_nat]
  have hl : (k + t) % 8 < let8.length := by have := Nat.mod_lt (k + t) (show 0 < 8 by omega); simpa [let8] using this
  rw [List.getElem?_eq_getElem hl]
  unfold letter
  simp [hl]
theorem marks_run {ns : List Int} (h : ns.length ≤ 63) (a1 a2 a3 a4 a6 a7 a8 : Slot) (here : Int) :
    forO (tupT [10, 11]) (sEnd [10, 11] (sIf (tBin eqR (eUn den__law_drawn (aCons (getD' 0) (aCons (eBin addR (eBin addR (getD' 5) (eC (.int 5))) (getD' 10)) (aCons (eBin ixR (eOfF (eUn lstR (aCons (eC (.int 4)) (aCons (eC (.int 2)) (aCons (eC (.int 9)) (aCons (eC (.int 6)) aNil)))))) (getD' 10)) aNil)))) (eC (.int 0)))
  (sSet 9 (eBin addR (getD' 9) (getD' 11)))
  sNil)) (pairs0 (charsD "cfhl")) [.d (.frz ns), a1, a2, a3, a4, .d (.int here), a6, a7, a8, .d (.str ""), .u, .u, .u, .u] =
    .nx [.d (.frz ns), a1, a2, a3, a4, .d (.int here), a6, a7, a8, .d (.str ⟨((marks4.filter (markOn ns here)).map (·.2)).toArray⟩), .u, .u, .u, .u] := by
  have ec : (Str.ofString "cfhl").cps.toList = [99, 102, 104, 108] := by decide +kernel
  have e : pairs0 (charsD "cfhl") = marks4.map fun p => .tup [.int (p.1 : Int), .str ⟨#[p.2]⟩] := by
    unfold charsD
    rw [ec]
    rfl
  have e0 : (Str.ofString "" : Str) = ⟨#[]⟩ := by decide +kernel
  rw [e]
  have k := forO_fold (T := tupT [10, 11]) (G := sEnd [10, 11] (sIf (tBin eqR (eUn den__law_drawn (aCons (getD' 0) (aCons (eBin addR (eBin addR (getD' 5) (eC (.int 5))) (getD' 10)) (aCons (eBin ixR (eOfF (eUn lstR (aCons (eC (.int 4)) (aCons (eC (.int 2)) (aCons (eC (.int 9)) (aCons (eC (.int 6)) aNil)))))) (getD' 10)) aNil)))) (eC (.int 0)))
  (sSet 9 (eBin addR (getD' 9) (getD' 11)))
  sNil)) (f := fun p : Nat × Nat => D.tup [.int (p.1 : Int), .str ⟨#[p.2]⟩]) (inv := fun done => [.d (.frz ns), a1, a2, a3, a4, .d (.int here), a6, a7, a8, .d (.str ⟨((done.filter (markOn ns here)).map (·.2)).toArray⟩), .u, .u, .u, .u]) marks4 [] (fun a pre rest hx => ?_)
  · rw [e0]; simpa using k
  · have ha : a ∈ marks4 := by rw [hx]; simp
    have hl : pre.length ≤ 3 := by have := congrArg List.length hx; simp [marks4] at this; omega
    refine ⟨_, by simp [tupT]; rfl, .inl ?_⟩
    have ix : ixR (.lst [.int 4, .int 2, .int 9, .int 6]) (.int (a.1 : Int)) = .ok (.int (odd4 a.1)) ∧ 0 < odd4 a.1 := by
      revert ha
      have : ∀ a ∈ marks4, ixR (.lst [.int 4, .int 2, .int 9, .int 6]) (.int (a.1 : Int)) = .ok (.int (odd4 a.1)) ∧ 0 < odd4 a.1 := by
        intro a ha
        simp [marks4] at ha
        rcases ha with rfl | rfl | rfl | rfl <;> refine ⟨rfl, by decide⟩
      exact this a
    have dr := drawn_ok h (here + 5 + (a.1 : Int)) ix.2
    have eq0 : ∀ v : Int, eqR (.int v) (.int 0) = .ok (.bl (decide (v = 0))) := by
      intro v
      have : (v == 0) = decide (v = 0) := by by_cases e : v = 0 <;> simp [e]
      unfold eqR; simp [dle, eqD, this]
    have z4 : lstR [.int 4, .int 2, .int 9, .int 6] = .ok [.int 4, .int 2, .int 9, .int 6] := rfl
    have zl : (List.filter (markOn ns here) pre).length ≤ 3 := Nat.le_trans (List.length_filter_le ..) hl
    by_cases hm : drawn ns (here + 5 + (a.1 : Int)) (odd4 a.1) = 0
    · have mo : markOn ns here a = true := decide_eq_true hm
      have zz : (⟨((pre.filter (markOn ns here)).map (·.2)).toArray⟩ : Str).length + (⟨#[a.2]⟩ : Str).length ≤ sizeLine := by
        rw [sizeLine_eq]
        show ((pre.filter (markOn ns here)).map (·.2)).toArray.size + 1 ≤ _
        simp
        omega
      have ap : (⟨((pre.filter (markOn ns here)).map (·.2)).toArray⟩ : Str) ++ ⟨#[a.2]⟩ = ⟨(((pre ++ [a]).filter (markOn ns here)).map (·.2)).toArray⟩ := by
        apply Str.ext'
        show ((pre.filter (markOn ns here)).map (·.2)).toArray ++ #[a.2] = _
        simp [mo]
      simp [z4, ix.1, dr, eq0, hm, addR, zz, ap]
    · have mo : markOn ns here a = false := decide_eq_false hm
      simp [z4, ix.1, dr, eq0, hm, mo]
theorem m_scene {ns : List Int} (h : ns.length ≤ 63) (at_ : Int) : den__law_scene [.frz ns, .int at_] = .ok (scD (scene ns at_)) := by
  show runB 12 g__law_scene [.frz ns, .int at_] = _
  have d0 := drawn_in h at_ (many := 8) (by omega)
  have d1 := drawn_in h (at_ + 1) (many := 8) (by omega)
  have rg : range1R (.int (drawn ns at_ 8)) = .ok ((List.range (drawn ns at_ 8).toNat).map fun i : Nat => D.int (i : Int)) := by
    unfold range1R rngD
    simp only
    rw [if_pos (by omega)]
    simp
  unfold runB g__law_scene
  have tn : tupR [] = .ok (.tup []) := rfl
  simp only [List.map_cons, List.map_nil, List.replicate, List.cons_append, List.nil_append, sSeq_ap, sSet_ap, eUn_ap, aNil_ap, R.ok_bind, tn, liftO_ok, List.set_cons_succ, List.set_cons_zero, seqO_nx, aCons_ap, getD_0, getD_s, eBin_ap, eC_ap, addR_int, drawn_ok h _ (many := 8) (by omega), sFor_ap, rg]
  generalize hB : (sEnd [4, 5, 6, 7, 8, 9, 10, 11, 12] _ : En → Out) = B
  have k := forO_fold (T := nameT 4) (G := B) (f := fun i : Nat => D.int (i : Int)) (inv := fun done => [.d (.frz ns), .d (.int at_), .d (scD (mkSc ns at_ done.length)), .d (.int (drawn ns (at_ + 1) 8)), .u, .u, .u, .u, .u, .u, .u, .u, .u, .u]) (List.range (drawn ns at_ 8).toNat) [] (fun a pre rest hx => ?_)
  · simp at k
    have e0 : scD (mkSc ns at_ 0) = .tup [] := rfl
    rw [e0] at k
    rw [k]
    rfl
  · have hpre : a = pre.length ∧ pre.length < (drawn ns at_ 8).toNat := by
      have l := congrArg List.length hx
      simp at l
      have g := congrArg (fun l => l[pre.length]?) hx
      simp at g
      rw [List.getElem?_range (by omega)] at g
      simp at g
      omega
    obtain ⟨rfl, hk⟩ := hpre
    refine ⟨_, by simp; rfl, .inl ?_⟩
    rw [← hB]
    have kk : (pre.length : Int) < 8 := by omega
    generalize hS : mkSc ns at_ pre.length = S
    have lS : S.length = pre.length := by rw [← hS]; exact mkSc_len ns at_ _
    generalize hk' : pre.length = k at *
    have comp : compO (nameT 13) tTrue (eBin ixR (getD' 13) (eC (.int 0))) [.d (.frz ns), .d (.int at_), .d (scD S), .d (.int (drawn ns (at_ + 1) 8)), .d (.int (k : Int)), .d (.int (at_ + 3 + 9 * (k : Int))), .u, .u, .u, .u, .u, .u, .u, .u] (S.map Box.D) = .ok ((names S).map D.str) := by
      rw [compO_all (g := fun b => D.str b.nm) S fun b _ => ⟨_, rfl, rfl, by simp⟩]; simp [names, List.map_map, Function.comp_def]
    have hd := drawn_in h (at_ + 3 + 9 * (k : Int)) (many := (k : Int) + 1) (by omega)
    have ixa := ix_sL (xs := ("" : Str) :: names S) hd.1 (by rw [List.length_cons, names_length, lS]; omega) ""
    rw [sL_cons] at ixa
    have z1 : 1 + S.length ≤ 1000 := by omega
    have z2 : S.length + 1 ≤ 1000 := by omega
    have r2 : range1R (.int 2) = .ok [.int 0, .int 1] := rfl
    have dn := fun j : Int => drawn_ok h j (many := 9) (by omega)
    have dk := drawn_ok h (at_ + 3 + 9 * (k : Int)) (many := (k : Int) + 1) (by omega)
    have m9 : mulR (.int 9) (.int (k : Int)) = .ok (.int (9 * (k : Int))) := by simp [mulR]
    have il := ix_let (k : Int) (drawn ns (at_ + 1) 8) (by omega) d1.1
    have md : modR (.int ((k : Int) + drawn ns (at_ + 1) 8)) (.int 8) = .ok (.int (((k : Int) + drawn ns (at_ + 1) 8) % 8)) := rfl
    have tl : ∀ xs : List D, tupleR [.lst xs] = .ok (.tup xs) := fun _ => rfl
    have it : itemsR (scD S) = .ok (S.map Box.D) := rfl
    have fin : ∀ b : Box, addR (scD S) (.tup [.tup [.str b.nm, .str b.ar, .int b.l, .int b.t, .int b.w, .int b.h, .str b.ms]]) = .ok (scD (S ++ [b])) := by
      intro b
      unfold scD
      rw [addR_t (by simp; omega)]
      simp [Box.D]
    have nx : mkSc ns at_ (k + 1) = S ++ [mkBox ns at_ k S] := by rw [mkSc, hS]
    have f1 : letter (k + (drawn ns (at_ + 1) 8).toNat) = (mkBox ns at_ k S).nm := rfl
    have f2 : (((("" : Str) :: names S)[(drawn ns (at_ + 3 + 9 * (k : Int)) ((k : Int) + 1)).toNat]?).getD "") = (mkBox ns at_ k S).ar := by simp [mkBox]
    have f3 : drawn ns (at_ + 3 + 9 * (k : Int) + 1) 9 - 3 = (mkBox ns at_ k S).l := rfl
    have f4 : drawn ns (at_ + 3 + 9 * (k : Int) + 1 + 1) 9 - 3 = (mkBox ns at_ k S).t := rfl
    have f5 : drawn ns (at_ + 3 + 9 * (k : Int) + 3) 9 = (mkBox ns at_ k S).w := rfl
    have f6 : drawn ns (at_ + 3 + 9 * (k : Int) + 3 + 1) 9 = (mkBox ns at_ k S).h := rfl
    have f7 : (⟨((marks4.filter (markOn ns (at_ + 3 + 9 * (k : Int)))).map (·.2)).toArray⟩ : Str) = (mkBox ns at_ k S).ms := rfl
    have fin := fin (mkBox ns at_ k S)
    simp only [List.nil_append, List.length_append, List.length_singleton, hk', nx]
    generalize mkBox ns at_ k S = bx at *
    simp [m9, lstR_s, addR_l, addR_t, tupR_s, it, comp, z1, names_length, dk, ixa, r2, compO, dn, marks_run h, md, il, tl, fin, f1, f2, f3, f4, f5, f6, f7]
end Fo

namespace Fo
open PySem Dx Dn
theorem cutL_to {α : Type} (xs : List α) (j : Nat) : cutL xs none (some (j : Int)) = xs.take j := by
  unfold cutL
  rw [HT.sIx_nat, HT.sIx_none, List.drop_zero, Nat.sub_zero]
  by_cases h2 : j ≤ xs.length
  · rw [Nat.min_eq_left h2]
  · rw [Nat.min_eq_right (by omega), List.take_of_length_le (Nat.le_refl _), List.take_of_length_le (by omega)]
theorem cutL_but {α : Type} (xs : List α) (x : α) : cutL (xs ++ [x]) none (some (-1)) = xs := by
  unfold cutL HT.sIx
  simp
  have : (-1 + ((xs.length : Int) + 1)).toNat = xs.length := by omega
  rw [this]
  simp
def plc (xs : List Str) (n : Str) : Nat := xs.findIdx fun x => decide (x = n)
end Fo

namespace Fo
open PySem Dx Dn
structure Area where
  l : Int
  t : Int
  r : Int
  b : Int
deriving DecidableEq
def Area.D (a : Area) : D := .tup [.int a.l, .int a.t, .int a.r, .int a.b]
def areaA (S : List Box) (b : Box) : Area := ⟨(offs S (path S b.nm)).1, (offs S (path S b.nm)).2, (offs S (path S b.nm)).1 + b.w, (offs S (path S b.nm)).2 + b.h⟩
def mark (c : Nat) (b : Box) : Bool := decide (c ∈ b.ms.cps.toList)
def shown (S : List Box) (n : Str) : Bool := (path S n).all fun m => match findB S m with
  | some b => !mark 104 b
  | none => true
def clips (S : List Box) (ns : List Str) : List Area := ns.flatMap fun m => match findB S m with
  | some b => if mark 99 b = true then [areaA S b] else []
  | none => []
end Fo

namespace Fo
open PySem Dx Dn
def has (a : Area) (x y : Int) : Bool := (decide (a.l ≤ x) && decide (x < a.r)) && (decide (a.t ≤ y) && decide (y < a.b))
def lets (S : List Box) (n : Str) : Bool := match findB S n with
  | some b => mark 108 b
  | none => false
def touch (S : List Box) (x y : Int) (n : Str) : Bool := match findB S n with
  | some b => shown S n && (has (areaA S b) x y && (clips S (path S n)).all fun a => has a x y)
  | none => false
def tops (S : List Box) : List Str := ((kids S "").filter fun n => shown S n && !lets S n).reverse
def hits (S : List Box) (x y : Int) : List Str := (tops S).filter (touch S x y)
def hitPath (S : List Box) (x y : Int) : List Str := match hits S x y with
  | [] => []
  | n :: _ => path S n
end Fo

namespace Fo
open PySem Dx Dn
end Fo

namespace Fo
open PySem Dx Dn
end Fo

namespace Fo
open PySem Dx Dn
def rngI (lo : Int) (n : Nat) : List Int := (List.range n).map fun i : Nat => lo + (i : Int)
def grid (a : Area) : List (Int × Int) := (rngI a.l (a.r - a.l).toNat).flatMap fun x => (rngI a.t (a.b - a.t).toNat).map fun y => (x, y)
def small (S : List Box) : Prop := ∀ b ∈ S, -1000 ≤ b.l ∧ b.l ≤ 1000 ∧ -1000 ≤ b.t ∧ b.t ≤ 1000 ∧ 0 ≤ b.w ∧ b.w ≤ 1000 ∧ 0 ≤ b.h ∧ b.h ≤ 1000
def over (S : List Box) (n : Str) : List Str := (tops S).take (plc (tops S) n)
def front (S : List Box) (n : Str) (p : Int × Int) : Bool := touch S p.1 p.2 n && !(over S n).any fun m => touch S p.1 p.2 m
def cnt (S : List Box) (b : Box) : Nat := if shown S b.nm && !mark 108 b then ((grid (areaA S b)).countP (front S b.nm)) else 0
end Fo

namespace Fo
open PySem Dx Dn
end Fo

namespace Fo
open PySem Dx Dn
end Fo

namespace Fo
open PySem Dx Dn
theorem mkSc_small {ns : List Int} (h : ns.length ≤ 63) (at_ : Int) : ∀ k, ∀ b ∈ mkSc ns at_ k, -3 ≤ b.l ∧ b.l ≤ 5 ∧ -3 ≤ b.t ∧ b.t ≤ 5 ∧ 0 ≤ b.w ∧ b.w ≤ 8 ∧ 0 ≤ b.h ∧ b.h ≤ 8
  | 0, b, hb => by cases hb
  | k + 1, b, hb => by
    rw [mkSc] at hb
    rcases List.mem_append.mp hb with hb | hb
    · exact mkSc_small h at_ k b hb
    · rw [List.mem_singleton] at hb
      subst hb
      have d := fun j : Int => drawn_in h j (many := 9) (by omega)
      have d1 := d (at_ + 3 + 9 * (k : Int) + 1)
      have d2 := d (at_ + 3 + 9 * (k : Int) + 1 + 1)
      have d3 := d (at_ + 3 + 9 * (k : Int) + 3)
      have d4 := d (at_ + 3 + 9 * (k : Int) + 3 + 1)
      unfold mkBox
      simp only
      omega
end Fo

namespace Fo
open PySem Dx Dn
def cntN (S : List Box) (m : Str) : Nat := match findB S m with
  | some b => cnt S b
  | none => 0
theorem ne_int (i j : Int) : neR (.int i) (.int j) = .ok (.bl (!decide (i = j))) := by
  have : (i == j) = decide (i = j) := by by_cases e : i = j <;> simp [e]
  unfold neR; simp [dle, eqD, this]
end Fo

namespace Fo
open PySem Dx Dn
def cutS (S : List Box) (n : Str) : List Box := S.filter fun b => !decide (b.nm ∈ blk S n)
def inS (S : List Box) (n : Str) : List Box := S.filter fun b => decide (b.nm ∈ blk S n)
def raisedS (S : List Box) (n : Str) : List Box := cutS S n ++ inS S n
section
variable {S S' : List Box} (w : wf [] S) (w' : wf [] S') (sub : ∀ b ∈ S', b ∈ S)
include w w' sub
end
end Fo

namespace Fo
open PySem Dx Dn
def allP : List (Int × Int) := grid ⟨-1000000, -1000000, 1000000, 1000000⟩
end Fo

namespace Ty
open PySem Dx Dn Fo
open Enc (enc)
noncomputable section
open Classical
def g_drawn (ns : Fz) (k many : Int) : R Int := if ns.l.length ≤ 63 ∧ 0 < many then .ok (drawn ns.l k many) else .bad
theorem kg_drawn (ns : Fz) (k many : Int) : Rr (den__law_drawn [enc ns, enc k, enc many]) (g_drawn ns k many) enc := by
  unfold g_drawn; split
  · rename_i h; exact drawn_ok h.1 k h.2
  · trivial
theorem g_drawn_ok {ns : Fz} (h : ns.l.length ≤ 63) (k : Int) {many : Int} (hm : 0 < many) : g_drawn ns k many = .ok (drawn ns.l k many) := if_pos ⟨h, hm⟩
def g_scene (ns : Fz) (k : Int) : R (Tu Box) := if ns.l.length ≤ 63 then .ok ⟨scene ns.l k⟩ else .bad
theorem kg_scene (ns : Fz) (k : Int) : Rr (den__law_scene [enc ns, enc k]) (g_scene ns k) enc := by
  unfold g_scene; split
  · rename_i h; exact m_scene h k
  · trivial
theorem g_scene_ok {ns : Fz} (h : ns.l.length ≤ 63) (k : Int) : g_scene ns k = .ok ⟨scene ns.l k⟩ := if_pos h
def okS (S : Tu Box) : Prop := wf [] S.l ∧ S.l.length ≤ 100
def g_box_of (S : Tu Box) (n : Str) : R Box := match findB S.l n with | some b => .ok b | none => .exc "NoBox"
def g_path_of (S : Tu Box) (n : Str) : R (List Str) := if okS S then (if n ∈ names S.l then .ok (path S.l n) else .exc "NoBox") else .bad
def g_children (S : Tu Box) (n : Str) : R (List Str) := .ok (children S.l n)
def g_painted (S : Tu Box) : R (List Str) := if okS S then .ok (kids S.l "") else .bad
def g_below (S : Tu Box) (n : Str) : R (List Str) := if okS S then (if n ∈ names S.l then .ok (blk S.l n) else .exc "NoBox") else .bad
abbrev A4 := T4 Int Int Int Int
def ar4 (a : Area) : A4 := ⟨a.l, a.t, a.r, a.b⟩
def g_area_of (S : Tu Box) (n : Str) : R A4 := if okS S then (match findB S.l n with | some b => .ok (ar4 (areaA S.l b)) | none => .exc "NoBox") else .bad
def g_cut (S : Tu Box) (n : Str) : R (Tu Box) := if okS S then (if n ∈ names S.l then .ok ⟨cutS S.l n⟩ else .exc "NoBox") else .bad
def g_raised (S : Tu Box) (n : Str) : R (Tu Box) := if okS S then (if n ∈ names S.l then .ok ⟨raisedS S.l n⟩ else .exc "NoBox") else .bad
def g_is_touched (S : Tu Box) (n : Str) (x y : Int) : R Bool := if okS S ∧ n ∈ names S.l then .ok (touch S.l x y n) else .bad
def g_is_shown (S : Tu Box) (n : Str) : R Bool := if okS S ∧ n ∈ names S.l then .ok (shown S.l n) else .bad
def g_all_hits (S : Tu Box) (x y : Int) : R (List Str) := if okS S then .ok (hits S.l x y) else .bad
def hitO (S : List Box) (x y : Int) : Option Str := (hits S x y).head?
def g_hit (S : Tu Box) (x y : Int) : R (Option Str) := if okS S then .ok (hitO S.l x y) else .bad
def g_hit_path (S : Tu Box) (x y : Int) : R (List Str) := if okS S then .ok (hitPath S.l x y) else .bad
def g_points_of (S : Tu Box) (n : Str) : R Int := if okS S ∧ small S.l ∧ n ∈ names S.l then .ok (cntN S.l n : Nat) else .bad
end
-- known ones, by computing
def isTr : R D → Bool
  | .ok (.bl true) => true
  | _ => false
end Ty

namespace Ty
open PySem Dx Fo
section
variable {σ α β γ κ : Type}
theorem compR_ok (p : β → R Bool) (g : β → R γ) (p' : β → Bool) (g' : β → γ) (xs : List β) (h : ∀ x ∈ xs, p x = .ok (p' x) ∧ (p' x = true → g x = .ok (g' x))) : compR p g xs = .ok ((xs.filter p').map g') := by
  induction xs with
  | nil => rfl
  | cons x xs ih =>
    obtain ⟨h1, h2⟩ := h x List.mem_cons_self
    have ih := ih fun y hy => h y (List.mem_cons_of_mem _ hy)
    unfold compR
    rw [h1, List.filter_cons]
    cases q : p' x with
    | true => simp only [h2 q, ih, if_true]; rfl
    | false => simp only [ih, Bool.false_eq_true, if_false]
theorem compR_map (p : β → R Bool) (g : β → R γ) (g' : β → γ) (xs : List β) (hp : ∀ x ∈ xs, p x = .ok true) (hg : ∀ x ∈ xs, g x = .ok (g' x)) : compR p g xs = .ok (xs.map g') := by
  rw [compR_ok p g (fun _ => true) g' xs fun x hx => ⟨hp x hx, fun _ => hg x hx⟩, List.filter_eq_self.mpr fun _ _ => rfl]
theorem catL_ok {xs ys : List α} (h : xs.length + ys.length ≤ 16777216) : catL xs ys = .ok (xs ++ ys) := if_pos (by rw [sizeLine_eq]; exact h)
theorem pushL_ok {xs : List α} {a : α} (h : xs.length < 16777216) : pushL xs a = .ok (xs ++ [a]) := if_pos (by rw [sizeLine_eq]; exact h)
theorem catS_ok {x y : Str} (h : x.length + y.length ≤ 16777216) : catS x y = .ok (x ++ y) := if_pos (by rw [sizeLine_eq]; exact h)
theorem ixL_nat {xs : List α} {i : Nat} (h : i < xs.length) : ixL xs (i : Int) = .ok xs[i] := by
  unfold ixL; rw [atI_nat, List.getElem?_eq_getElem h]
theorem ixL_ok {xs : List α} {i : Int} (h0 : 0 ≤ i) (h1 : i < xs.length) : ∃ a, ixL xs i = .ok a ∧ a ∈ xs ∧ xs[i.toNat]? = some a := by
  obtain ⟨j, rfl⟩ := Int.eq_ofNat_of_zero_le h0
  have hj : j < xs.length := by omega
  exact ⟨xs[j], ixL_nat hj, List.getElem_mem _, by simp [hj]⟩
variable [KeyT κ] [DecidableEq κ]
def keysD (d : Dc κ α) : List κ := d.l.map (·.1)
theorem hasK_iff (d : Dc κ α) (k : κ) : hasK d k = true ↔ k ∈ keysD d := by
  unfold hasK keysD; rw [List.any_eq_true, List.mem_map]
  constructor
  · rintro ⟨kv, h, e⟩; exact ⟨kv, h, of_decide_eq_true e⟩
  · rintro ⟨kv, h, e⟩; exact ⟨kv, h, decide_eq_true e⟩
theorem putK_new {d : Dc κ α} {k : κ} {a : α} (h : k ∉ keysD d) : putK d k a = ⟨d.l ++ [(k, a)]⟩ := by
  unfold putK
  rw [if_neg fun z => h ((hasK_iff d k).mp z)]
end
end Ty

namespace Ty
open PySem Dx Fo
open Enc (enc)
section
variable {α β γ δ κ τ : Type} [Enc α] [Enc β] {e : En} {A B : En → R D} {p : Pat} {i : Nat}
instance {ε δ : Type} [Enc ε] [Enc γ] [Enc δ] [Co α ε] [Co β ε] [Co γ ε] [Co δ ε] : Co (T4 α β γ δ) (Tu ε) := ⟨fun x => ⟨[Co.f x.a, Co.f x.b, Co.f x.c, Co.f x.d]⟩, fun x => by show D.tup [enc (Co.f x.a), enc (Co.f x.b), enc (Co.f x.c), enc (Co.f x.d)] = _; rw [Co.h, Co.h, Co.h, Co.h]; rfl⟩
def joinG (a : Str) (ys : List Str) : R Str := if (ys.map (·.length)).sum + ys.length * a.length ≤ 16777216 ∧ sOk (Txt.join a ys) = true then .ok (Txt.join a ys) else .bad
theorem ro_join (a : Str) (ys : List Str) : Rr (joinR (enc a) (enc ys)) (joinG a ys) enc := by
  unfold joinG; split
  · rename_i h
    show joinR (.str a) (.lst (ys.map enc)) = _
    unfold joinR
    have : (itsLT (.lst (ys.map enc))).bind strsOf = some ys := strsOf_map ys
    rw [this]
    show (if _ then _ else _) = _
    rw [if_pos h]; rfl
  · trivial
theorem op_str (a : Str) : strR (enc a) = .ok (enc a) := (rfl)
theorem w_join {T : R γ} {g : γ → D} (h : Rr (A e >>= fun x => strR x >>= fun x => B e >>= fun y => joinR x y) T g) : Rr (eJoin A B e) T g := by
  unfold eJoin
  rw [R.assoc]; exact h
def splitG (a b : Str) : R (List Str) := if (b.length == 0) = false ∧ a.length + 2 ≤ sizeLine ∧ (Txt.split a b).length ≤ sizeLine ∧ (Txt.split a b).all sOk = true then .ok (Txt.split a b) else .bad
theorem ro_split (a b : Str) : Rr (splitR (enc a) (enc b)) (splitG a b) (List.map enc) := by
  unfold splitG; split
  · rename_i h
    show (if _ then _ else _) = _
    rw [if_pos h]; rfl
  · trivial
theorem w_split {T : R γ} {g : γ → List D} (h : Rr (A e >>= fun x => strR x >>= fun x => B e >>= fun y => splitR x y) T g) : Rr (eSplit A B e) T g := by
  unfold eSplit
  rw [R.assoc]; exact h
def strG (i : Int) : R Str := if i.natAbs.log2 < 1920 ∧ sOk (strOfI i) = true then .ok (strOfI i) else .bad
theorem ro_strI (i : Int) : Rr (str1R [enc i]) (strG i) enc := by
  unfold strG; split
  · rename_i h; exact if_pos h
  · trivial
def intTG (a : Str) : R Int := match PySem.intText? a with
  | some n => if a.length ≤ 640 then .ok n else .bad
  | none => .bad
theorem ro_intT (a : Str) : Rr (intTR [enc a]) (intTG a) enc := by
  unfold intTG
  split
  · rename_i n h
    split
    · rename_i hz
      show (match PySem.intText? a with | some n => if a.length ≤ 640 then R.ok (D.int n) else .bad | none => .bad) = _
      rw [h]; exact if_pos hz
    · trivial
  · trivial
instance [EncS α] : EncS (Option α) := ⟨fun x => by
  cases x with
  | none => rfl
  | some a => exact EncS.sc a⟩
instance : Co Box (Tu D) := ⟨fun b => ⟨[.str b.nm, .str b.ar, .int b.l, .int b.t, .int b.w, .int b.h, .str b.ms]⟩, fun _ => rfl⟩
end
end Ty

namespace Fo
open PySem Dx Dn
end Fo
namespace Ty
open PySem Dx Dn Fo
open Enc (enc)
noncomputable section
open Classical in
def g_law_painted (S : Tu Box) (n : Str) : R (List Str) := if okS S ∧ (n = "" ∨ n ∈ names S.l) ∧ S.l.length - (path S.l n).length < 14 then .ok (kids S.l n) else .bad
end
end Ty

namespace Dx
open PySem PySem.Spec PyProof.Rows L2

def Tr.fld (fs : List (Str × Tr)) (f : Str) : Option Tr := (fs.find? fun p => decide (p.1 = f)).map (·.2)
def Tr.key (kvs : List (Key × Tr)) (k : Key) : Option Tr := (kvs.find? fun p => decide (p.1 = k)).map (·.2)
def Tr.at1 : St → Tr → Option Tr
  | .fl f, .ob _ fs => Tr.fld fs f
  | .ix i, .ls ts => ts[i]?
  | .ky k, .dc kvs => Tr.key kvs k
  | _, _ => none
def Tr.at_ : List St → Tr → Option Tr
  | [], t => some t
  | s :: p, t => match t.at1 s with
    | some t' => Tr.at_ p t'
    | none => none
def VAt1 (H : Hp) : St → V → V → Prop
  | .fl f, v, u => ∃ a C dx fs, v = .ref a ∧ H a = some (.ins C dx fs) ∧ fs.lookup f = some u
  | .ix i, v, u => ∃ a vs, v = .ref a ∧ H a = some (.lst vs) ∧ vs[i]? = some u
  | .ky k, v, u => ∃ a kvs, v = .ref a ∧ H a = some (.dK kvs) ∧ valV kvs k = some u
def VAt (H : Hp) : List St → V → V → Prop
  | [], v, u => u = v
  | s :: p, v, u => ∃ w, VAt1 H s v w ∧ VAt H p w u
theorem VAt1.one {H : Hp} {s : St} {v u w : V} (h1 : VAt1 H s v u) (h2 : VAt1 H s v w) : u = w := by
  cases s with
  | fl f =>
    obtain ⟨a, C, dx, fs, rfl, h, e⟩ := h1
    obtain ⟨b, C', dx', fs', e1, h', e'⟩ := h2
    cases e1; rw [h] at h'; cases h'; rw [e] at e'; cases e'; rfl
  | ix i =>
    obtain ⟨a, vs, rfl, h, e⟩ := h1
    obtain ⟨b, vs', e1, h', e'⟩ := h2
    cases e1; rw [h] at h'; cases h'; rw [e] at e'; cases e'; rfl
  | ky k =>
    obtain ⟨a, vs, rfl, h, e⟩ := h1
    obtain ⟨b, vs', e1, h', e'⟩ := h2
    cases e1; rw [h] at h'; cases h'; rw [e] at e'; cases e'; rfl
theorem VAt.one {H : Hp} : ∀ {p : List St} {v u w : V}, VAt H p v u → VAt H p v w → u = w
  | [], _, _, _, h1, h2 => h1.trans h2.symm
  | s :: p, v, u, w, ⟨x, h1, k1⟩, ⟨y, h2, k2⟩ => by
    have e := h1.one h2
    subst e
    exact VAt.one k1 k2
theorem VAt.snoc {H : Hp} {s : St} : ∀ {p : List St} {v u w : V}, VAt H p v u → VAt1 H s u w → VAt H (p ++ [s]) v w
  | [], v, u, w, h1, h2 => by cases h1; exact ⟨w, h2, rfl⟩
  | q :: p, v, u, w, ⟨x, h1, k1⟩, h2 => ⟨x, h1, VAt.snoc k1 h2⟩
theorem Tr.at_snoc {s : St} : ∀ {p : List St} {t : Tr}, Tr.at_ (p ++ [s]) t = (Tr.at_ p t).bind fun t' => t'.at1 s
  | [], t => by
    show (match t.at1 s with | some t' => Tr.at_ [] t' | none => none) = t.at1 s
    cases t.at1 s <;> rfl
  | q :: p, t => by
    show (match t.at1 q with | some t' => Tr.at_ (p ++ [s]) t' | none => none) = (match t.at1 q with | some t' => Tr.at_ p t' | none => none).bind _
    cases t.at1 q with
    | none => rfl
    | some t' => exact Tr.at_snoc

section
variable {K : PySem.W.Frag} {ξ : Str → Value} {τ : Nat → Option V} {H0 H : Hp}
theorem lookup_cons_ne {f g : Str} {v : V} {fs : List (Str × V)} (h : ¬ g = f) : ((g, v) :: fs).lookup f = fs.lookup f := by
  rw [List.lookup_cons]
  have : (f == g) = false := by simpa using fun e => h e.symm
  rw [this]
theorem TrFs.get {C : Addr} : ∀ {vs : List (Str × V)} {ts : List (Str × Tr)} {fp : List Addr} {f : Str} {t : Tr}, TrFs K ξ τ H0 H C vs ts fp → Tr.fld ts f = some t → ∃ v fq, vs.lookup f = some v ∧ TrAt K ξ τ H0 H v t fq ∧ NoAttr K C f ∧ ∀ a ∈ fq, a ∈ fp
  | _, _, _, f, t, .nil, h => by cases h
  | _, _, _, f, t, .cons (f := g) (v := v) (vs := vs) (t := t') (ts := ts) (fp := fp) (fq := fq) n r q, h => by
    by_cases e : g = f
    · subst e
      have : Tr.fld ((g, t') :: ts) g = some t' := by simp [Tr.fld]
      rw [this] at h; cases h
      exact ⟨v, fp, by simp, r, n, fun a ha => List.mem_append_left _ ha⟩
    · have h' : Tr.fld ts f = some t := by simpa [Tr.fld, List.find?_cons, e] using h
      obtain ⟨v', fq', h1, h2, h3, h4⟩ := TrFs.get q h'
      exact ⟨v', fq', by rw [lookup_cons_ne e]; exact h1, h2, h3, fun a ha => List.mem_append_right _ (h4 a ha)⟩
theorem TrFs.none {C : Addr} : ∀ {vs : List (Str × V)} {ts : List (Str × Tr)} {fp : List Addr} {f : Str}, TrFs K ξ τ H0 H C vs ts fp → Tr.fld ts f = none → vs.lookup f = none
  | _, _, _, f, .nil, h => rfl
  | _, _, _, f, .cons (f := g) (v := v) (vs := vs) (t := t') (ts := ts) n r q, h => by
    by_cases e : g = f
    · subst e
      have : Tr.fld ((g, t') :: ts) g = some t' := by simp [Tr.fld]
      rw [this] at h; cases h
    · have h' : Tr.fld ts f = Option.none := by simpa [Tr.fld, List.find?_cons, e] using h
      rw [lookup_cons_ne e]; exact TrFs.none q h'
theorem TrFs.length {C : Addr} : ∀ {vs : List (Str × V)} {ts : List (Str × Tr)} {fp : List Addr}, TrFs K ξ τ H0 H C vs ts fp → vs.length = ts.length
  | _, _, _, .nil => rfl
  | _, _, _, .cons _ _ q => by simp [TrFs.length q]
theorem TrAll.length : ∀ {vs : List V} {ts : List Tr} {fp : List Addr}, TrAll K ξ τ H0 H vs ts fp → vs.length = ts.length
  | _, _, _, .nil => rfl
  | _, _, _, .cons _ q => by simp [TrAll.length q]
theorem TrKv.length : ∀ {vs : List (Key × V)} {ts : List (Key × Tr)} {fp : List Addr}, TrKv K ξ τ H0 H vs ts fp → vs.length = ts.length
  | _, _, _, .nil => rfl
  | _, _, _, .cons _ _ q => by simp [TrKv.length q]
theorem TrAll.get : ∀ {vs : List V} {ts : List Tr} {fp : List Addr} {i : Nat} {t : Tr}, TrAll K ξ τ H0 H vs ts fp → ts[i]? = some t → ∃ v fq, vs[i]? = some v ∧ TrAt K ξ τ H0 H v t fq ∧ ∀ a ∈ fq, a ∈ fp
  | _, _, _, i, t, .nil, h => by simp at h
  | _, _, _, 0, t, .cons (v := v) (fp := fp) r q, h => by
    simp at h; subst h
    exact ⟨v, fp, rfl, r, fun a ha => List.mem_append_left _ ha⟩
  | _, _, _, i + 1, t, .cons r q, h => by
    obtain ⟨v, fq, h1, h2, h3⟩ := TrAll.get (i := i) q (by simpa using h)
    exact ⟨v, fq, by simpa using h1, h2, fun a ha => List.mem_append_right _ (h3 a ha)⟩
theorem TrKv.get : ∀ {vs : List (Key × V)} {ts : List (Key × Tr)} {fp : List Addr} {k : Key} {t : Tr}, TrKv K ξ τ H0 H vs ts fp → Tr.key ts k = some t → ∃ v fq, valV vs k = some v ∧ TrAt K ξ τ H0 H v t fq ∧ keyOk k = true ∧ ∀ a ∈ fq, a ∈ fp
  | _, _, _, k, t, .nil, h => by cases h
  | _, _, _, k, t, .cons (k := g) (v := v) (vs := vs) (t := t') (ts := ts) (fp := fp) n r q, h => by
    by_cases e : g = k
    · subst e
      have : Tr.key ((g, t') :: ts) g = some t' := by simp [Tr.key]
      rw [this] at h; cases h
      exact ⟨v, fp, valV_pos (p := (g, v)) rfl, r, n, fun a ha => List.mem_append_left _ ha⟩
    · have h' : Tr.key ts k = some t := by simpa [Tr.key, List.find?_cons, e] using h
      obtain ⟨v', fq', h1, h2, h3, h4⟩ := TrKv.get q h'
      exact ⟨v', fq', by rw [valV_neg (p := (g, v)) e]; exact h1, h2, h3, fun a ha => List.mem_append_right _ (h4 a ha)⟩
theorem TrAt.step {v : V} {t t' : Tr} {fp : List Addr} {s : St} (r : TrAt K ξ τ H0 H v t fp) (h : t.at1 s = some t') : ∃ u fq, VAt1 H s v u ∧ TrAt K ξ τ H0 H u t' fq ∧ ∀ a ∈ fq, a ∈ fp := by
  cases r with
  | da _ => cases s <;> cases h
  | hl _ => cases s <;> cases h
  | ls hh z q =>
    cases s with
    | ix i =>
      obtain ⟨u, fq, h1, h2, h3⟩ := q.get (i := i) h
      exact ⟨u, fq, ⟨_, _, rfl, hh, h1⟩, h2, fun a ha => List.mem_cons_of_mem _ (h3 a ha)⟩
    | fl _ => cases h
    | ky _ => cases h
  | dc hh q =>
    cases s with
    | ky k =>
      obtain ⟨u, fq, h1, h2, _, h3⟩ := q.get (k := k) h
      exact ⟨u, fq, ⟨_, _, rfl, hh, h1⟩, h2, fun a ha => List.mem_cons_of_mem _ (h3 a ha)⟩
    | fl _ => cases h
    | ix _ => cases h
  | ob hh e c q =>
    cases s with
    | fl f =>
      obtain ⟨u, fq, h1, h2, _, h3⟩ := q.get (f := f) h
      exact ⟨u, fq, ⟨_, _, _, _, rfl, hh, h1⟩, h2, fun a ha => List.mem_cons_of_mem _ (h3 a ha)⟩
    | ix _ => cases h
    | ky _ => cases h
theorem TrAt.way {fp : List Addr} : ∀ {p : List St} {v : V} {t t' : Tr} {fp : List Addr}, TrAt K ξ τ H0 H v t fp → Tr.at_ p t = some t' → ∃ u fq, VAt H p v u ∧ TrAt K ξ τ H0 H u t' fq ∧ ∀ a ∈ fq, a ∈ fp
  | [], v, t, t', fp, r, h => by cases h; exact ⟨v, fp, rfl, r, fun a ha => ha⟩
  | s :: p, v, t, t', fp, r, h => by
    unfold Tr.at_ at h
    split at h
    · rename_i t1 h1
      obtain ⟨u, fq, k1, k2, k3⟩ := r.step h1
      obtain ⟨w, fr, l1, l2, l3⟩ := TrAt.way (fp := fp) k2 h
      exact ⟨w, fr, ⟨u, k1, l1⟩, l2, fun a ha => k3 a (l3 a ha)⟩
    · cases h
theorem TrV.way {p : List St} {v u : V} {t t' : Tr} (r : TrV K ξ H0 H v t) (h : Tr.at_ p t = some t') (hv : VAt H p v u) : TrV K ξ H0 H u t' := by
  obtain ⟨fp, r⟩ := r
  obtain ⟨w, fq, k1, k2, _⟩ := TrAt.way (fp := fp) r h
  rw [hv.one k1]
  exact ⟨fq, k2⟩
def Tr.opqD : Tr → D
  | .da d => d
  | _ => .opq
def Tr.view : Tr → R D
  | .da d => .ok d
  | .ls ts => .ok (.lst (ts.map Tr.opqD))
  | .dc kvs => .ok (.dic (kvs.map fun p => (p.1, p.2.opqD)))
  | _ => .bad
theorem TrAt.opq {v : V} {t : Tr} {fp : List Addr} (r : TrAt K ξ τ H0 H v t fp) : Rep K H0 v t.opqD := by
  cases r with
  | da r => exact r
  | ls _ _ _ => exact .opq _
  | dc _ _ => exact .opq _
  | ob _ _ _ _ => exact .opq _
  | hl _ => exact .opq _
theorem TrAll.opq : ∀ {vs : List V} {ts : List Tr} {fp : List Addr}, TrAll K ξ τ H0 H vs ts fp → RepAll K H0 vs (ts.map Tr.opqD)
  | _, _, _, .nil => .nil
  | _, _, _, .cons r q => .cons r.opq (TrAll.opq q)
theorem TrKv.opq : ∀ {vs : List (Key × V)} {ts : List (Key × Tr)} {fp : List Addr}, TrKv K ξ τ H0 H vs ts fp → RepKv K H0 vs (ts.map fun p => (p.1, p.2.opqD))
  | _, _, _, .nil => .nil
  | _, _, _, .cons n r q => .cons n r.opq (TrKv.opq q)
theorem TrV.view {v : V} {t : Tr} {d : D} {H' : Hp} (r : TrV K ξ H0 H v t) (s : Same H H') (h : t.view = .ok d) : RepX false K H0 H' v d := by
  obtain ⟨fp, r⟩ := r
  cases r with
  | da r => cases h; exact .inl r
  | ls hh z q => cases h; exact .inr (.inl ⟨_, _, _, rfl, rfl, s _ _ hh, by rw [List.length_map]; exact z, q.opq⟩)
  | dc hh q => cases h; exact .inr (.inr ⟨_, _, _, rfl, rfl, s _ _ hh, q.opq⟩)
  | ob _ _ _ _ => cases h
  | hl _ => cases h
end

def nodeAt (env : En) (w : Nat × List St) : Option Tr := match env[w.1]? with
  | some (.tr _ _ t) => Tr.at_ w.2 t
  | _ => none
def WayAt {ξ : Str → Value} (M : Fm ξ) (env : En) (w : Nat × List St) (v : V) : Prop := ∃ n k t t', env[w.1]? = some (.tr n k t) ∧ Tr.at_ w.2 t = some t' ∧ VAt M.G w.2 (.ref (M.T n)) v
section
variable (K : PySem.W.Frag) (W : WX) (ξ : Str → Value) (M : Fm ξ) (σ : L2.St) (env : En)
def PostW (H0 H : Hp) (Q : VK) : R (Nat × List St) → Prop
  | .ok w => ∀ v H0' H', Gr K M σ env H0 H H0' H' → WayAt M env w v → Q v H'
  | .exc x => ∀ H0' H', Gr K M σ env H0 H H0' H' → W (ξ x) none σ H'
  | .bad => False
end
def tDP (K : PySem.W.Frag) (W : WX) (ξ : Str → Value) (F : En → R (Nat × List St)) : TE := fun σ H Q => ∃ M H0 env, EnvAt K M H0 H σ env ∧ PostW K W ξ M σ env H0 H Q (F env)
abbrev DP (X : Cx) (W : WX) (ξ : Str → Value) (e : Expr) (F : En → R (Nat × List St)) : Prop := PE X e (tDP X.K W ξ F)
section
variable {K : PySem.W.Frag} {W : WX} {ξ : Str → Value} {M : Fm ξ} {σ : L2.St} {env : En} {H0 H H0' H' : Hp} {Q Q1 : VK}
theorem PostW.weak {x : R (Nat × List St)} (g : Gr K M σ env H0 H H0' H') (p : PostW K W ξ M σ env H0 H Q x) : PostW K W ξ M σ env H0' H' Q x := by
  cases x with
  | ok d => exact fun v H02 H2 g2 r => p v H02 H2 (g.trans g2) r
  | exc x => exact fun H02 H2 g2 => p H02 H2 (g.trans g2)
  | bad => exact p
theorem WayAt.node {w : Nat × List St} {v : V} (h : WayAt M env w v) (E : EnvAt K M H0 H σ env) : ∃ t, nodeAt env w = some t ∧ TrV K ξ H0 M.G v t := by
  obtain ⟨n, k, t, t', h1, h2, h3⟩ := h
  refine ⟨t', by unfold nodeAt; rw [h1]; exact h2, ?_⟩
  exact (E.slot _ _ h1).2.2.way h2 h3
theorem WayAt.snoc {w : Nat × List St} {v u : V} {s : St} {t t1 : Tr} (h : WayAt M env w v) (hn : nodeAt env w = some t) (h1 : t.at1 s = some t1) (h2 : VAt1 M.G s v u) : WayAt M env (w.1, w.2 ++ [s]) u := by
  obtain ⟨n, k, t0, t', k1, k2, k3⟩ := h
  unfold nodeAt at hn
  rw [k1] at hn
  refine ⟨n, k, t0, t1, k1, ?_, k3.snoc h2⟩
  rw [Tr.at_snoc, show Tr.at_ w.2 t0 = some t from hn]
  exact h1
end
section
variable {X : Cx} {W : WX} {ξ : Str → Value} {e a b : Expr} {c : Bool} {pos : Pos} {P : En → R (Nat × List St)} {fb : En → R D}
end
end Dx

namespace Dx
open PySem PySem.Spec PyProof.Rows L2

inductive ArgV (K : PySem.W.Frag) (ξ : Str → Value) (H0 G : Hp) (i : Nat) : V → Slot → Prop
  | d {v : V} {x : D} : Rep K H0 v x → ArgV K ξ H0 G i v (.d x)
  | tr {a : Addr} {t : Tr} : TrV K ξ H0 G (.ref a) t → ArgV K ξ H0 G i (.ref a) (.tr i .par t)
  | u {v : V} : ArgV K ξ H0 G i v .u
inductive ArgsV (K : PySem.W.Frag) (ξ : Str → Value) (H0 G : Hp) : Nat → List V → List Slot → Prop
  | nil {i : Nat} : ArgsV K ξ H0 G i [] []
  | cons {i : Nat} {v : V} {vs : List V} {s : Slot} {ss : List Slot} : ArgV K ξ H0 G i v s → ArgsV K ξ H0 G (i + 1) vs ss → ArgsV K ξ H0 G i (v :: vs) (s :: ss)
section
variable {K : PySem.W.Frag} {ξ : Str → Value} {H0 G H0' G' : Hp}
theorem TrV.seen {H0 H H' : Hp} {v : V} {t : Tr} (s : Same H H') : TrV K ξ H0 H v t → TrV K ξ H0 H' v t := fun ⟨fp, r⟩ => ⟨fp, r.map (fun _ _ r => r) (fun _ _ e => e) fun a _ o e => s a o e⟩
theorem ArgV.mono {i : Nat} {v : V} {s : Slot} (s0 : Same H0 H0') (sg : Same G G') : ArgV K ξ H0 G i v s → ArgV K ξ H0' G' i v s
  | .d r => .d (r.mono s0)
  | .tr r => .tr ((r.mono s0).seen sg)
  | .u => .u
theorem ArgsV.mono (s0 : Same H0 H0') (sg : Same G G') : ∀ {i : Nat} {vs : List V} {ss : List Slot}, ArgsV K ξ H0 G i vs ss → ArgsV K ξ H0' G' i vs ss
  | _, _, _, .nil => .nil
  | _, _, _, .cons r q => .cons (r.mono s0 sg) (ArgsV.mono s0 sg q)
theorem ArgsV.length : ∀ {i : Nat} {vs : List V} {ss : List Slot}, ArgsV K ξ H0 G i vs ss → vs.length = ss.length
  | _, _, _, .nil => rfl
  | _, _, _, .cons _ q => by simp [ArgsV.length q]
theorem ArgsV.get : ∀ {i : Nat} {vs : List V} {ss : List Slot} {j : Nat} {s : Slot}, ArgsV K ξ H0 G i vs ss → ss[j]? = some s → ∃ v, vs[j]? = some v ∧ ArgV K ξ H0 G (i + j) v s
  | _, _, _, j, s, .nil, h => by simp at h
  | _, _, _, 0, s, .cons (v := v) r q, h => by simp at h; subst h; exact ⟨v, rfl, r⟩
  | i, _, _, j + 1, s, .cons r q, h => by
    obtain ⟨v, h1, h2⟩ := ArgsV.get (j := j) q (by simpa using h)
    refine ⟨v, by simpa using h1, ?_⟩
    rw [show i + (j + 1) = i + 1 + j from by omega]; exact h2
end

section
variable (K : PySem.W.Frag) (W : WX) (ξ : Str → Value) (M : Fm ξ) (σ : L2.St) (env : En)
def PostX (k : Nat) (H0 H : Hp) (Q : List V → Hp → Prop) : R (List Slot) → Prop
  | .ok ss => ∀ vs H0' H', Gr K M σ env H0 H H0' H' → ArgsV K ξ H0' M.G k vs ss → Q vs H'
  | .exc x => ∀ H0' H', Gr K M σ env H0 H H0' H' → W (ξ x) none σ H'
  | .bad => False
end
section
variable {K : PySem.W.Frag} {W : WX} {ξ : Str → Value} {M : Fm ξ} {σ : L2.St} {env : En} {H0 H H0' H' : Hp} {k : Nat}
theorem PostX.weak {x : R (List Slot)} {Q : List V → Hp → Prop} (g : Gr K M σ env H0 H H0' H') (p : PostX K W ξ M σ env k H0 H Q x) : PostX K W ξ M σ env k H0' H' Q x := by
  cases x with
  | ok d => exact fun v H02 H2 g2 r => p v H02 H2 (g.trans g2) r
  | exc x => exact fun H02 H2 g2 => p H02 H2 (g.trans g2)
  | bad => exact p
end
def Tr.isD : Tr → Bool
  | .da _ => true
  | _ => false
theorem TrV.ref {K : PySem.W.Frag} {ξ : Str → Value} {H0 H : Hp} {v : V} {t : Tr} (r : TrV K ξ H0 H v t) (h : t.isD = false) : ∃ a, v = .ref a := by
  obtain ⟨fp, r⟩ := r
  cases r with
  | da _ => cases h
  | ls _ _ _ => exact ⟨_, rfl⟩
  | dc _ _ => exact ⟨_, rfl⟩
  | ob _ _ _ _ => exact ⟨_, rfl⟩
  | hl _ => exact ⟨_, rfl⟩
section
variable {X : Cx} {W : WX} {ξ : Str → Value} {e o : Expr} {es : List Expr} {fa : En → R D} {P : En → R (Nat × List St)} {As : En → R (List Slot)} {pos : Pos} {k : Nat}
theorem ArgsV.grow {K : PySem.W.Frag} {M : Fm ξ} {σ : L2.St} {env : En} {H0 H H0' H' : Hp} {vs : List V} {ss : List Slot} (g : Gr K M σ env H0 H H0' H') (r : ArgsV K ξ H0 M.G k vs ss) : ArgsV K ξ H0' M.G k vs ss := r.mono g.s0 (Same.refl _)
end

section
variable {X : Cx} {CX : CXT} {k : Nat} {f C : Addr} {fd : FuncData} {ps : List Str} {sp : Sp} {E : L2.St → XK} {x m : Str} {q pos apos : Pos} {e o : Expr} {es : List Expr} {ta : TE} {t : TA}
end
section
variable {X : Cx} {W : WX} {ξ : Str → Value} {e o : Expr} {es : List Expr} {pos p apos : Pos} {k : Nat} {f C : Addr} {fd : FuncData} {ps : List Str} {F : List Slot → R D} {x m c : Str} {As : En → R (List Slot)} {P : En → R (Nat × List St)}
end

section
variable {P : Program} {w : World} {K : PySem.W.Frag} {mg : Str → Option Value} {base : Heap} {ξ : Str → Value}
end
end Dx

namespace Dx
open PySem PySem.Spec PyProof.Rows L2

mutual
def Tr.hall (p : Nat → Bool) : Tr → Bool
  | .da _ => true
  | .ls ts => Tr.halls p ts
  | .dc kvs => Tr.hallk p kvs
  | .ob _ fs => Tr.hallf p fs
  | .hl n => p n
def Tr.halls (p : Nat → Bool) : List Tr → Bool
  | [] => true
  | t :: ts => Tr.hall p t && Tr.halls p ts
def Tr.hallk (p : Nat → Bool) : List (Key × Tr) → Bool
  | [] => true
  | (_, t) :: ts => Tr.hall p t && Tr.hallk p ts
def Tr.hallf (p : Nat → Bool) : List (Str × Tr) → Bool
  | [] => true
  | (_, t) :: ts => Tr.hall p t && Tr.hallf p ts
end
def Tr.closed (t : Tr) : Bool := t.hall fun _ => false
section
variable {p q : Nat → Bool} (hpq : ∀ n, p n = true → q n = true)
include hpq
mutual
theorem Tr.hall_mono : ∀ t : Tr, Tr.hall p t = true → Tr.hall q t = true
  | .da _, _ => rfl
  | .ls ts, h => Tr.halls_mono ts h
  | .dc ts, h => Tr.hallk_mono ts h
  | .ob _ ts, h => Tr.hallf_mono ts h
  | .hl n, h => hpq n h
theorem Tr.halls_mono : ∀ t : List Tr, Tr.halls p t = true → Tr.halls q t = true
  | [], _ => rfl
  | t :: ts, h => by
    simp only [Tr.halls, Bool.and_eq_true] at h ⊢
    exact ⟨Tr.hall_mono t h.1, Tr.halls_mono ts h.2⟩
theorem Tr.hallk_mono : ∀ t : List (Key × Tr), Tr.hallk p t = true → Tr.hallk q t = true
  | [], _ => rfl
  | (_, t) :: ts, h => by
    simp only [Tr.hallk, Bool.and_eq_true] at h ⊢
    exact ⟨Tr.hall_mono t h.1, Tr.hallk_mono ts h.2⟩
theorem Tr.hallf_mono : ∀ t : List (Str × Tr), Tr.hallf p t = true → Tr.hallf q t = true
  | [], _ => rfl
  | (_, t) :: ts, h => by
    simp only [Tr.hallf, Bool.and_eq_true] at h ⊢
    exact ⟨Tr.hall_mono t h.1, Tr.hallf_mono ts h.2⟩
end
end
theorem Tr.closed_hall {t : Tr} (h : t.closed = true) (p : Nat → Bool) : t.hall p = true := Tr.hall_mono (fun _ z => Bool.noConfusion z) t h
section
variable {K : PySem.W.Frag} {ξ : Str → Value} {τ τ' : Nat → Option V} {H0 H H0' H' : Hp} {p : Nat → Bool}
structure Goes (K : PySem.W.Frag) (τ τ' : Nat → Option V) (p : Nat → Bool) (H0 H0' : Hp) : Prop where
  r : ∀ v d, Rep K H0 v d → Rep K H0' v d
  h : ∀ n u, p n = true → τ' n = some u → τ n = some u
mutual
theorem TrAt.go (g : Goes K τ τ' p H0 H0') : ∀ {v : V} {t : Tr} {fp : List Addr}, TrAt K ξ τ H0 H v t fp → t.hall p = true → (∀ a ∈ fp, ∀ o, H a = some o → H' a = some o) → TrAt K ξ τ' H0' H' v t fp
  | _, _, _, .da r, _, _ => .da (g.r _ _ r)
  | _, _, _, .ls h z r, w, k => .ls (k _ List.mem_cons_self _ h) z (TrAll.go g r w fun a ha => k a (List.mem_cons_of_mem _ ha))
  | _, _, _, .dc h r, w, k => .dc (k _ List.mem_cons_self _ h) (TrKv.go g r w fun a ha => k a (List.mem_cons_of_mem _ ha))
  | _, _, _, .ob h e c r, w, k => .ob (k _ List.mem_cons_self _ h) e c (TrFs.go g r w fun a ha => k a (List.mem_cons_of_mem _ ha))
  | _, _, _, .hl h, w, _ => .hl fun u e => h u (g.h _ u w e)
theorem TrAll.go (g : Goes K τ τ' p H0 H0') : ∀ {v : List V} {t : List Tr} {fp : List Addr}, TrAll K ξ τ H0 H v t fp → Tr.halls p t = true → (∀ a ∈ fp, ∀ o, H a = some o → H' a = some o) → TrAll K ξ τ' H0' H' v t fp
  | _, _, _, .nil, _, _ => .nil
  | _, _, _, .cons r q, w, k => by
    simp only [Tr.halls, Bool.and_eq_true] at w
    exact .cons (TrAt.go g r w.1 fun a ha => k a (List.mem_append_left _ ha)) (TrAll.go g q w.2 fun a ha => k a (List.mem_append_right _ ha))
theorem TrKv.go (g : Goes K τ τ' p H0 H0') : ∀ {v : List (Key × V)} {t : List (Key × Tr)} {fp : List Addr}, TrKv K ξ τ H0 H v t fp → Tr.hallk p t = true → (∀ a ∈ fp, ∀ o, H a = some o → H' a = some o) → TrKv K ξ τ' H0' H' v t fp
  | _, _, _, .nil, _, _ => .nil
  | _, _, _, .cons h r q, w, k => by
    simp only [Tr.hallk, Bool.and_eq_true] at w
    exact .cons h (TrAt.go g r w.1 fun a ha => k a (List.mem_append_left _ ha)) (TrKv.go g q w.2 fun a ha => k a (List.mem_append_right _ ha))
theorem TrFs.go (g : Goes K τ τ' p H0 H0') {C : Addr} : ∀ {v : List (Str × V)} {t : List (Str × Tr)} {fp : List Addr}, TrFs K ξ τ H0 H C v t fp → Tr.hallf p t = true → (∀ a ∈ fp, ∀ o, H a = some o → H' a = some o) → TrFs K ξ τ' H0' H' C v t fp
  | _, _, _, .nil, _, _ => .nil
  | _, _, _, .cons h r q, w, k => by
    simp only [Tr.hallf, Bool.and_eq_true] at w
    exact .cons h (TrAt.go g r w.1 fun a ha => k a (List.mem_append_left _ ha)) (TrFs.go g q w.2 fun a ha => k a (List.mem_append_right _ ha))
end
end

def Tr.putf (f : Str) (t : Tr) : List (Str × Tr) → List (Str × Tr)
  | [] => []
  | (g, x) :: fs => if g = f then (g, t) :: fs else (g, x) :: Tr.putf f t fs
def Tr.putk (k : Key) (t : Tr) : List (Key × Tr) → List (Key × Tr)
  | [] => []
  | (g, x) :: fs => if g = k then (g, t) :: fs else (g, x) :: Tr.putk k t fs
def Tr.put1 (t : Tr) (s : St) (x : Tr) : Tr := match s, t with
  | .fl f, .ob c fs => .ob c (Tr.putf f x fs)
  | .ix i, .ls ts => .ls (ts.set i x)
  | .ky k, .dc kvs => .dc (Tr.putk k x kvs)
  | _, t => t
def Tr.put : List St → Tr → Tr → Tr
  | [], x, _ => x
  | s :: p, x, t => match t.at1 s with
    | some c => t.put1 s (Tr.put p x c)
    | none => t
theorem Tr.fld_putf {f : Str} {x : Tr} : ∀ {fs : List (Str × Tr)} {y : Tr}, Tr.fld fs f = some y → Tr.fld (Tr.putf f x fs) f = some x
  | [], _, h => by cases h
  | (g, z) :: fs, y, h => by
    unfold Tr.putf
    by_cases e : g = f
    · rw [if_pos e]; simp [Tr.fld, e]
    · rw [if_neg e]
      have h' : Tr.fld fs f = some y := by simpa [Tr.fld, List.find?_cons, e] using h
      have := Tr.fld_putf (x := x) h'
      simpa [Tr.fld, List.find?_cons, e] using this
theorem Tr.key_putk {f : Key} {x : Tr} : ∀ {fs : List (Key × Tr)} {y : Tr}, Tr.key fs f = some y → Tr.key (Tr.putk f x fs) f = some x
  | [], _, h => by cases h
  | (g, z) :: fs, y, h => by
    unfold Tr.putk
    by_cases e : g = f
    · rw [if_pos e]; simp [Tr.key, e]
    · rw [if_neg e]
      have h' : Tr.key fs f = some y := by simpa [Tr.key, List.find?_cons, e] using h
      have := Tr.key_putk (x := x) h'
      simpa [Tr.key, List.find?_cons, e] using this
theorem Tr.putf_putf {f : Str} {x y : Tr} : ∀ {fs : List (Str × Tr)}, Tr.putf f y (Tr.putf f x fs) = Tr.putf f y fs
  | [] => rfl
  | (g, z) :: fs => by
    by_cases e : g = f
    · simp [Tr.putf, e]
    · simp [Tr.putf, e, Tr.putf_putf]
theorem Tr.putk_putk {f : Key} {x y : Tr} : ∀ {fs : List (Key × Tr)}, Tr.putk f y (Tr.putk f x fs) = Tr.putk f y fs
  | [] => rfl
  | (g, z) :: fs => by
    by_cases e : g = f
    · simp [Tr.putk, e]
    · simp [Tr.putk, e, Tr.putk_putk]
theorem Tr.at1_put1 {s : St} {t c x : Tr} (h : t.at1 s = some c) : (t.put1 s x).at1 s = some x := by
  cases s with
  | fl f => cases t <;> first | (cases h; done) | exact Tr.fld_putf h
  | ix i =>
    cases t with
    | ls ts =>
      have h : ts[i]? = some c := h
      have hl : i < ts.length := (List.getElem?_eq_some_iff.mp h).1
      show (ts.set i x)[i]? = some x
      rw [List.getElem?_set_self hl]
    | _ => cases h
  | ky k => cases t <;> first | (cases h; done) | exact Tr.key_putk h
theorem Tr.put1_put1 {s : St} {t x y : Tr} : (t.put1 s x).put1 s y = t.put1 s y := by
  cases s with
  | fl f => cases t <;> first | rfl | (show Tr.ob _ _ = Tr.ob _ _; rw [Tr.putf_putf])
  | ix i => cases t <;> first | rfl | (show Tr.ls _ = Tr.ls _; rw [List.set_set])
  | ky k => cases t <;> first | rfl | (show Tr.dc _ = Tr.dc _; rw [Tr.putk_putk])
theorem Tr.at_put : ∀ {p : List St} {t c x : Tr}, Tr.at_ p t = some c → Tr.at_ p (Tr.put p x t) = some x
  | [], _, _, _, _ => rfl
  | s :: p, t, c, x, h => by
    unfold Tr.at_ at h
    split at h
    · rename_i c1 h1
      unfold Tr.put
      rw [h1]
      unfold Tr.at_
      simp only
      rw [Tr.at1_put1 h1]
      exact Tr.at_put h
    · cases h
theorem Tr.put_put : ∀ {p : List St} {t c x y : Tr}, Tr.at_ p t = some c → Tr.put p y (Tr.put p x t) = Tr.put p y t
  | [], _, _, _, _, _ => rfl
  | s :: p, t, c, x, y, h => by
    unfold Tr.at_ at h
    split at h
    · rename_i c1 h1
      have e1 : Tr.put (s :: p) x t = t.put1 s (Tr.put p x c1) := by
        show (match t.at1 s with | some c => t.put1 s (Tr.put p x c) | none => t) = _
        rw [h1]
      have e2 : Tr.put (s :: p) y t = t.put1 s (Tr.put p y c1) := by
        show (match t.at1 s with | some c => t.put1 s (Tr.put p y c) | none => t) = _
        rw [h1]
      rw [e1, e2]
      show (match (t.put1 s (Tr.put p x c1)).at1 s with | some c => (t.put1 s (Tr.put p x c1)).put1 s (Tr.put p y c) | none => _) = _
      rw [Tr.at1_put1 h1]
      simp only
      rw [Tr.put1_put1, Tr.put_put h]
    · cases h
-- holes of what is put together
theorem Tr.hallf_putf {p : Nat → Bool} {f : Str} {x : Tr} (hx : x.hall p = true) : ∀ {fs : List (Str × Tr)}, Tr.hallf p fs = true → Tr.hallf p (Tr.putf f x fs) = true
  | [], _ => rfl
  | (g, z) :: fs, h => by
    simp only [Tr.hallf, Bool.and_eq_true] at h
    unfold Tr.putf
    split
    · simp only [Tr.hallf, Bool.and_eq_true]; exact ⟨hx, h.2⟩
    · simp only [Tr.hallf, Bool.and_eq_true]; exact ⟨h.1, Tr.hallf_putf hx h.2⟩
theorem Tr.hallk_putk {p : Nat → Bool} {f : Key} {x : Tr} (hx : x.hall p = true) : ∀ {fs : List (Key × Tr)}, Tr.hallk p fs = true → Tr.hallk p (Tr.putk f x fs) = true
  | [], _ => rfl
  | (g, z) :: fs, h => by
    simp only [Tr.hallk, Bool.and_eq_true] at h
    unfold Tr.putk
    split
    · simp only [Tr.hallk, Bool.and_eq_true]; exact ⟨hx, h.2⟩
    · simp only [Tr.hallk, Bool.and_eq_true]; exact ⟨h.1, Tr.hallk_putk hx h.2⟩
theorem Tr.halls_set {p : Nat → Bool} {x : Tr} (hx : x.hall p = true) : ∀ {ts : List Tr} {i : Nat}, Tr.halls p ts = true → Tr.halls p (ts.set i x) = true
  | [], _, _ => rfl
  | t :: ts, 0, h => by
    simp only [Tr.halls, Bool.and_eq_true] at h
    simp only [List.set, Tr.halls, Bool.and_eq_true]; exact ⟨hx, h.2⟩
  | t :: ts, i + 1, h => by
    simp only [Tr.halls, Bool.and_eq_true] at h
    simp only [List.set, Tr.halls, Bool.and_eq_true]; exact ⟨h.1, Tr.halls_set hx h.2⟩
theorem Tr.hall_put1 {p : Nat → Bool} {s : St} {t x : Tr} (ht : t.hall p = true) (hx : x.hall p = true) : (t.put1 s x).hall p = true := by
  cases s with
  | fl f => cases t <;> first | exact ht | exact Tr.hallf_putf hx ht
  | ix i => cases t <;> first | exact ht | exact Tr.halls_set hx ht
  | ky k => cases t <;> first | exact ht | exact Tr.hallk_putk hx ht
theorem Tr.fld_mem {fs : List (Str × Tr)} {f : Str} {c : Tr} (h : Tr.fld fs f = some c) : ∃ g, (g, c) ∈ fs := by
  unfold Tr.fld at h
  obtain ⟨⟨g, y⟩, h1, h2⟩ := Option.map_eq_some_iff.mp h
  cases h2
  exact ⟨g, List.mem_of_find?_eq_some h1⟩
theorem Tr.key_mem {fs : List (Key × Tr)} {f : Key} {c : Tr} (h : Tr.key fs f = some c) : ∃ g, (g, c) ∈ fs := by
  unfold Tr.key at h
  obtain ⟨⟨g, y⟩, h1, h2⟩ := Option.map_eq_some_iff.mp h
  cases h2
  exact ⟨g, List.mem_of_find?_eq_some h1⟩
theorem Tr.hallf_mem {p : Nat → Bool} : ∀ {fs : List (Str × Tr)} {g : Str} {c : Tr}, Tr.hallf p fs = true → (g, c) ∈ fs → c.hall p = true
  | (g', z) :: fs, g, c, h, hm => by
    simp only [Tr.hallf, Bool.and_eq_true] at h
    rcases List.mem_cons.mp hm with e | hm
    · cases e; exact h.1
    · exact Tr.hallf_mem h.2 hm
theorem Tr.hallk_mem {p : Nat → Bool} : ∀ {fs : List (Key × Tr)} {g : Key} {c : Tr}, Tr.hallk p fs = true → (g, c) ∈ fs → c.hall p = true
  | (g', z) :: fs, g, c, h, hm => by
    simp only [Tr.hallk, Bool.and_eq_true] at h
    rcases List.mem_cons.mp hm with e | hm
    · cases e; exact h.1
    · exact Tr.hallk_mem h.2 hm
theorem Tr.halls_mem {p : Nat → Bool} : ∀ {fs : List Tr} {c : Tr}, Tr.halls p fs = true → c ∈ fs → c.hall p = true
  | z :: fs, c, h, hm => by
    simp only [Tr.halls, Bool.and_eq_true] at h
    rcases List.mem_cons.mp hm with e | hm
    · cases e; exact h.1
    · exact Tr.halls_mem h.2 hm
theorem Tr.hall_at1 {p : Nat → Bool} {s : St} {t c : Tr} (ht : t.hall p = true) (h : t.at1 s = some c) : c.hall p = true := by
  cases s with
  | fl f =>
    cases t with
    | ob _ fs => obtain ⟨g, hg⟩ := Tr.fld_mem (show Tr.fld fs f = some c from h); exact Tr.hallf_mem ht hg
    | _ => cases h
  | ix i =>
    cases t with
    | ls ts => exact Tr.halls_mem ht (List.mem_of_getElem? (show ts[i]? = some c from h))
    | _ => cases h
  | ky k =>
    cases t with
    | dc fs => obtain ⟨g, hg⟩ := Tr.key_mem (show Tr.key fs k = some c from h); exact Tr.hallk_mem ht hg
    | _ => cases h
theorem Tr.hall_put {p : Nat → Bool} : ∀ {w : List St} {t x : Tr}, t.hall p = true → x.hall p = true → (Tr.put w x t).hall p = true
  | [], _, _, _, hx => hx
  | s :: w, t, x, ht, hx => by
    unfold Tr.put
    split
    · rename_i c1 h1; exact Tr.hall_put1 ht (Tr.hall_put (Tr.hall_at1 ht h1) hx)
    · exact ht

section
variable {K : PySem.W.Frag} {ξ : Str → Value} {τ : Nat → Option V} {H0 H : Hp} {P : Nat → Bool}
def Around1 (K : PySem.W.Frag) (ξ : Str → Value) (τ : Nat → Option V) (P : Nat → Bool) (H0 H : Hp) (v u : V) (fA : List Addr) (F : Tr → Tr) : Prop :=
  ∀ (τ' : Nat → Option V) (H0' H' : Hp) (c' : Tr) (fB' : List Addr), Goes K τ τ' P H0 H0' → (∀ a ∈ fA, ∀ o, H a = some o → H' a = some o) → TrAt K ξ τ' H0' H' u c' fB' → ∃ fp', TrAt K ξ τ' H0' H' v (F c') fp' ∧ fp'.Perm (fA ++ fB')
theorem TrFs.cut {C : Addr} : ∀ {vs : List (Str × V)} {ts : List (Str × Tr)} {fp : List Addr} {f : Str} {t : Tr}, TrFs K ξ τ H0 H C vs ts fp → Tr.hallf P ts = true → Tr.fld ts f = some t →
    ∃ u fA fB, vs.lookup f = some u ∧ TrAt K ξ τ H0 H u t fB ∧ fp.Perm (fA ++ fB) ∧ ∀ (τ' : Nat → Option V) (H0' H' : Hp) (c' : Tr) (fB' : List Addr), Goes K τ τ' P H0 H0' → (∀ a ∈ fA, ∀ o, H a = some o → H' a = some o) → TrAt K ξ τ' H0' H' u c' fB' → ∃ fp', TrFs K ξ τ' H0' H' C vs (Tr.putf f c' ts) fp' ∧ fp'.Perm (fA ++ fB')
  | _, _, _, f, t, .nil, _, h => by cases h
  | _, _, _, f, t, .cons (f := g) (v := v) (vs := vs) (t := t') (ts := ts) (fp := fp) (fq := fq) n r q, hP, h => by
    simp only [Tr.hallf, Bool.and_eq_true] at hP
    by_cases e : g = f
    · subst e
      have : Tr.fld ((g, t') :: ts) g = some t' := by simp [Tr.fld]
      rw [this] at h; cases h
      refine ⟨v, fq, fp, by simp, r, List.perm_append_comm, fun τ' H0' H' c' fB' g hk r' => ?_⟩
      unfold Tr.putf
      rw [if_pos rfl]
      exact ⟨fB' ++ fq, .cons n r' (TrFs.go g q hP.2 hk), List.perm_append_comm⟩
    · have h' : Tr.fld ts f = some t := by simpa [Tr.fld, List.find?_cons, e] using h
      obtain ⟨u, fA, fB, h1, h2, h3, h4⟩ := TrFs.cut q hP.2 h'
      refine ⟨u, fp ++ fA, fB, by rw [lookup_cons_ne e]; exact h1, h2, by rw [List.append_assoc]; exact h3.append_left fp, fun τ' H0' H' c' fB' g hk r' => ?_⟩
      obtain ⟨fp', k1, k2⟩ := h4 τ' H0' H' c' fB' g (fun a ha => hk a (List.mem_append_right _ ha)) r'
      unfold Tr.putf
      rw [if_neg e]
      exact ⟨fp ++ fp', .cons n (TrAt.go g r hP.1 fun a ha => hk a (List.mem_append_left _ ha)) k1, by rw [List.append_assoc]; exact k2.append_left fp⟩
theorem TrKv.cut : ∀ {vs : List (Key × V)} {ts : List (Key × Tr)} {fp : List Addr} {f : Key} {t : Tr}, TrKv K ξ τ H0 H vs ts fp → Tr.hallk P ts = true → Tr.key ts f = some t →
    ∃ u fA fB, valV vs f = some u ∧ TrAt K ξ τ H0 H u t fB ∧ fp.Perm (fA ++ fB) ∧ ∀ (τ' : Nat → Option V) (H0' H' : Hp) (c' : Tr) (fB' : List Addr), Goes K τ τ' P H0 H0' → (∀ a ∈ fA, ∀ o, H a = some o → H' a = some o) → TrAt K ξ τ' H0' H' u c' fB' → ∃ fp', TrKv K ξ τ' H0' H' vs (Tr.putk f c' ts) fp' ∧ fp'.Perm (fA ++ fB')
  | _, _, _, f, t, .nil, _, h => by cases h
  | _, _, _, f, t, .cons (k := g) (v := v) (vs := vs) (t := t') (ts := ts) (fp := fp) (fq := fq) n r q, hP, h => by
    simp only [Tr.hallk, Bool.and_eq_true] at hP
    by_cases e : g = f
    · subst e
      have : Tr.key ((g, t') :: ts) g = some t' := by simp [Tr.key]
      rw [this] at h; cases h
      refine ⟨v, fq, fp, valV_pos (p := (g, v)) rfl, r, List.perm_append_comm, fun τ' H0' H' c' fB' g hk r' => ?_⟩
      unfold Tr.putk
      rw [if_pos rfl]
      exact ⟨fB' ++ fq, .cons n r' (TrKv.go g q hP.2 hk), List.perm_append_comm⟩
    · have h' : Tr.key ts f = some t := by simpa [Tr.key, List.find?_cons, e] using h
      obtain ⟨u, fA, fB, h1, h2, h3, h4⟩ := TrKv.cut q hP.2 h'
      refine ⟨u, fp ++ fA, fB, by rw [valV_neg (p := (g, v)) e]; exact h1, h2, by rw [List.append_assoc]; exact h3.append_left fp, fun τ' H0' H' c' fB' g hk r' => ?_⟩
      obtain ⟨fp', k1, k2⟩ := h4 τ' H0' H' c' fB' g (fun a ha => hk a (List.mem_append_right _ ha)) r'
      unfold Tr.putk
      rw [if_neg e]
      exact ⟨fp ++ fp', .cons n (TrAt.go g r hP.1 fun a ha => hk a (List.mem_append_left _ ha)) k1, by rw [List.append_assoc]; exact k2.append_left fp⟩
theorem TrAll.cut : ∀ {vs : List V} {ts : List Tr} {fp : List Addr} {i : Nat} {t : Tr}, TrAll K ξ τ H0 H vs ts fp → Tr.halls P ts = true → ts[i]? = some t →
    ∃ u fA fB, vs[i]? = some u ∧ TrAt K ξ τ H0 H u t fB ∧ fp.Perm (fA ++ fB) ∧ ∀ (τ' : Nat → Option V) (H0' H' : Hp) (c' : Tr) (fB' : List Addr), Goes K τ τ' P H0 H0' → (∀ a ∈ fA, ∀ o, H a = some o → H' a = some o) → TrAt K ξ τ' H0' H' u c' fB' → ∃ fp', TrAll K ξ τ' H0' H' vs (ts.set i c') fp' ∧ fp'.Perm (fA ++ fB')
  | _, _, _, i, t, .nil, _, h => by simp at h
  | _, _, _, 0, t, .cons (v := v) (fp := fp) (fq := fq) r q, hP, h => by
    simp only [Tr.halls, Bool.and_eq_true] at hP
    simp at h; subst h
    exact ⟨v, fq, fp, rfl, r, List.perm_append_comm, fun τ' H0' H' c' fB' g hk r' => ⟨fB' ++ fq, .cons r' (TrAll.go g q hP.2 hk), List.perm_append_comm⟩⟩
  | _, _, _, i + 1, t, .cons (fp := fp) (fq := fq) r q, hP, h => by
    simp only [Tr.halls, Bool.and_eq_true] at hP
    obtain ⟨u, fA, fB, h1, h2, h3, h4⟩ := TrAll.cut (i := i) q hP.2 (by simpa using h)
    refine ⟨u, fp ++ fA, fB, by simpa using h1, h2, by rw [List.append_assoc]; exact h3.append_left fp, fun τ' H0' H' c' fB' g hk r' => ?_⟩
    obtain ⟨fp', k1, k2⟩ := h4 τ' H0' H' c' fB' g (fun a ha => hk a (List.mem_append_right _ ha)) r'
    exact ⟨fp ++ fp', .cons (TrAt.go g r hP.1 fun a ha => hk a (List.mem_append_left _ ha)) k1, by rw [List.append_assoc]; exact k2.append_left fp⟩
theorem TrAt.cut1 {v : V} {t c : Tr} {fp : List Addr} {s : St} (r : TrAt K ξ τ H0 H v t fp) (hP : t.hall P = true) (h : t.at1 s = some c) :
    ∃ u fA fB, VAt1 H s v u ∧ TrAt K ξ τ H0 H u c fB ∧ fp.Perm (fA ++ fB) ∧ Around1 K ξ τ P H0 H v u fA (fun c' => t.put1 s c') := by
  cases r with
  | da _ => cases s <;> cases h
  | hl _ => cases s <;> cases h
  | @ls a vs ts fp hh z q =>
    cases s with
    | ix i =>
      obtain ⟨u, fA, fB, h1, h2, h3, h4⟩ := q.cut (i := i) hP h
      refine ⟨u, a :: fA, fB, ⟨_, _, rfl, hh, h1⟩, h2, h3.cons a, fun τ' H0' H' c' fB' g hk r' => ?_⟩
      obtain ⟨fp', k1, k2⟩ := h4 τ' H0' H' c' fB' g (fun a ha => hk a (List.mem_cons_of_mem _ ha)) r'
      exact ⟨a :: fp', .ls (hk _ List.mem_cons_self _ hh) (by rw [List.length_set]; exact z) k1, k2.cons a⟩
    | fl _ => cases h
    | ky _ => cases h
  | @dc a vs ts fp hh q =>
    cases s with
    | ky k =>
      obtain ⟨u, fA, fB, h1, h2, h3, h4⟩ := q.cut (f := k) hP h
      refine ⟨u, a :: fA, fB, ⟨_, _, rfl, hh, h1⟩, h2, h3.cons a, fun τ' H0' H' c' fB' g hk r' => ?_⟩
      obtain ⟨fp', k1, k2⟩ := h4 τ' H0' H' c' fB' g (fun a ha => hk a (List.mem_cons_of_mem _ ha)) r'
      exact ⟨a :: fp', .dc (hk _ List.mem_cons_self _ hh) k1, k2.cons a⟩
    | fl _ => cases h
    | ix _ => cases h
  | @ob a C dx cn vs ts fp hh e cl q =>
    cases s with
    | fl f =>
      obtain ⟨u, fA, fB, h1, h2, h3, h4⟩ := q.cut (f := f) hP h
      refine ⟨u, a :: fA, fB, ⟨_, _, _, _, rfl, hh, h1⟩, h2, h3.cons a, fun τ' H0' H' c' fB' g hk r' => ?_⟩
      obtain ⟨fp', k1, k2⟩ := h4 τ' H0' H' c' fB' g (fun a ha => hk a (List.mem_cons_of_mem _ ha)) r'
      exact ⟨a :: fp', .ob (hk _ List.mem_cons_self _ hh) e cl k1, k2.cons a⟩
    | ix _ => cases h
    | ky _ => cases h
theorem TrAt.cut : ∀ {p : List St} {v : V} {t c : Tr} {fp : List Addr}, TrAt K ξ τ H0 H v t fp → t.hall P = true → Tr.at_ p t = some c →
    ∃ u fA fB, VAt H p v u ∧ TrAt K ξ τ H0 H u c fB ∧ fp.Perm (fA ++ fB) ∧ Around1 K ξ τ P H0 H v u fA (fun c' => Tr.put p c' t)
  | [], v, t, c, fp, r, hP, h => by
    cases h
    exact ⟨v, [], fp, rfl, r, .refl _, fun τ' H0' H' c' fB' g hk r' => ⟨fB', r', .refl _⟩⟩
  | s :: p, v, t, c, fp, r, hP, h => by
    unfold Tr.at_ at h
    split at h
    · rename_i c1 h1
      obtain ⟨u, fA, fB, k1, k2, k3, k4⟩ := r.cut1 hP h1
      obtain ⟨w, fA2, fB2, l1, l2, l3, l4⟩ := TrAt.cut k2 (Tr.hall_at1 hP h1) h
      refine ⟨w, fA ++ fA2, fB2, ⟨u, k1, l1⟩, l2, k3.trans (by rw [List.append_assoc]; exact l3.append_left fA), fun τ' H0' H' c' fB' g hk r' => ?_⟩
      obtain ⟨fp1, m1, m2⟩ := l4 τ' H0' H' c' fB' g (fun a ha => hk a (List.mem_append_right _ ha)) r'
      obtain ⟨fp2, n1, n2⟩ := k4 τ' H0' H' _ _ g (fun a ha => hk a (List.mem_append_left _ ha)) m1
      refine ⟨fp2, ?_, n2.trans (by rw [List.append_assoc]; exact m2.append_left fA)⟩
      have e1 : Tr.put (s :: p) c' t = t.put1 s (Tr.put p c' c1) := by
        show (match t.at1 s with | some c => t.put1 s (Tr.put p c' c) | none => t) = _
        rw [h1]
      show TrAt K ξ τ' H0' H' v (Tr.put (s :: p) c' t) fp2
      rw [e1]; exact n1
    · cases h
end
end Dx

namespace Dx
open PySem PySem.Spec PyProof.Rows L2

abbrev Loose := List (Addr × Tr × List Addr)
def cellsO (ρ : Nat → List Addr) (L : Loose) : List Addr := (List.range 100).flatMap ρ ++ L.flatMap fun x => x.2.2
def rootsO (env : En) (n : Nat) : Option (Tk × Tr) := match env[n]? with
  | some (.tr _ k t) => some (k, t)
  | _ => none
def ownO {ξ : Str → Value} (M : Fm ξ) (T : Nat → Addr) (env : En) (cs : List Addr) (H : Hp) : Fm ξ := ⟨fun a => if a ∈ cs then H a else M.G a, fun a => M.N a ∨ a ∈ cs, T, rootsO env⟩
structure TreeAt (K : PySem.W.Frag) {ξ : Str → Value} (M : Fm ξ) (H0 H : Hp) (σ : L2.St) (T : Nat → Addr) (τ : Nat → Nat → Option V) (ρ : Nat → List Addr) (b : Nat → Nat) (i : Nat) (k : Tk) (t : Tr) : Prop where
  lt : i < 100
  v : σ[i]? = some (some (.ref (T i)))
  at_ : TrAt K ξ (τ i) H0 H (.ref (T i)) t (ρ i)
  hb : t.hall (fun n => decide (n < b i)) = true
  par : k = .par → T i = M.T i
  tkn : ∀ j p, k = .tkn j p → τ j i = some (.ref (T i))
structure LooseAt (K : PySem.W.Frag) (ξ : Str → Value) (H0 H : Hp) (x : Addr × Tr × List Addr) : Prop where
  at_ : TrAt K ξ (fun _ => none) H0 H (.ref x.1) x.2.1 x.2.2
  cl : x.2.1.closed = true
structure EnvO (K : PySem.W.Frag) {ξ : Str → Value} (M : Fm ξ) (H0 H : Hp) (σ : L2.St) (env : En) (T : Nat → Addr) (τ : Nat → Nat → Option V) (ρ : Nat → List Addr) (L : Loose) (b : Nat → Nat) : Prop where
  base : EnvAt K (ownO M T env (cellsO ρ L) H) H0 H σ env
  nd : (cellsO ρ L).Nodup
  out : ∀ a ∈ cellsO ρ L, M.G a = none ∧ ¬ M.N a
  tr : ∀ i k t, env[i]? = some (.tr i k t) → TreeAt K M H0 H σ T τ ρ b i k t
  ls : ∀ x ∈ L, LooseAt K ξ H0 H x

section
variable {K : PySem.W.Frag} {ξ : Str → Value} {M : Fm ξ} {σ σ' : L2.St} {env env' : En} {H0 H H0' H' : Hp} {T T' : Nat → Addr} {τ τ' : Nat → Nat → Option V} {ρ ρ' : Nat → List Addr} {L L' : Loose} {b b' : Nat → Nat}
theorem mem_cells {a : Addr} : a ∈ cellsO ρ L ↔ (∃ i, i < 100 ∧ a ∈ ρ i) ∨ ∃ x ∈ L, a ∈ x.2.2 := by
  unfold cellsO
  rw [List.mem_append, List.mem_flatMap, List.mem_flatMap]
  constructor
  · rintro (⟨i, h1, h2⟩ | ⟨x, h1, h2⟩)
    · exact .inl ⟨i, List.mem_range.mp h1, h2⟩
    · exact .inr ⟨x, h1, h2⟩
  · rintro (⟨i, h1, h2⟩ | ⟨x, h1, h2⟩)
    · exact .inl ⟨i, List.mem_range.mpr h1, h2⟩
    · exact .inr ⟨x, h1, h2⟩
theorem EnvO.cell (E : EnvO K M H0 H σ env T τ ρ L b) {a : Addr} (h : a ∈ cellsO ρ L) : H0 a = none ∧ H a ≠ none := E.base.nogo a (.inr h)
theorem EnvO.G_in (E : EnvO K M H0 H σ env T τ ρ L b) {a : Addr} (h : a ∈ cellsO ρ L) : (ownO M T env (cellsO ρ L) H).G a = H a := if_pos h
theorem EnvO.G_out {cs : List Addr} {a : Addr} (h : a ∉ cs) : (ownO M T env cs H).G a = M.G a := if_neg h
theorem rootsO_at {i n : Nat} {k : Tk} {t : Tr} (h : env[i]? = some (.tr n k t)) : rootsO env i = some (k, t) := by unfold rootsO; rw [h]
theorem rootsO_of {i : Nat} {k : Tk} {t : Tr} (h : rootsO env i = some (k, t)) : ∃ n, env[i]? = some (.tr n k t) := by
  unfold rootsO at h
  split at h
  · rename_i n k' t' e; cases h; exact ⟨n, e⟩
  · cases h
theorem TrAt.seen {τ1 : Nat → Option V} {v : V} {t : Tr} {fp : List Addr} {G : Hp} (r : TrAt K ξ τ1 H0 H v t fp) (h : ∀ a ∈ fp, G a = H a) : TrV K ξ H0 G v t :=
  ⟨fp, r.map (fun _ _ r => r) (fun _ _ e => by cases e) fun a ha o e => by rw [h a ha]; exact e⟩
theorem EnvO.sub (E : EnvO K M H0 H σ env T τ ρ L b) {i : Nat} (h : i < 100) : ∀ a ∈ ρ i, a ∈ cellsO ρ L := fun a ha => mem_cells.mpr (.inl ⟨i, h, ha⟩)
theorem EnvO.new (E : EnvO K M H0 H σ env T τ ρ L b) (s0 : Same H0 H0') (s1 : Same H0' H') (k2 : ∀ a o, H a = some o → a ∉ cellsO ρ L → H' a = some o) (k3 : ∀ a, H a ≠ none → H0 a = none → a ∉ cellsO ρ L → H0' a = none)
    (c4 : ∀ a ∈ cellsO ρ' L', (a ∈ cellsO ρ L ∨ (H a = none)) ∧ H0' a = none ∧ H' a ≠ none) (nd' : (cellsO ρ' L').Nodup) (hl : σ'.length = env'.length)
    (hs : ∀ (i : Nat) (s : Slot), env'[i]? = some s → (∀ n k t, s ≠ .tr n k t) → s = .u ∨ (env[i]? = some s ∧ σ'[i]? = σ[i]?))
    (ht : ∀ i n k t, env'[i]? = some (.tr n k t) → n = i ∧ TreeAt K M H0' H' σ' T' τ' ρ' b' i k t) (hL : ∀ x ∈ L', LooseAt K ξ H0' H' x) : EnvO K M H0' H' σ' env' T' τ' ρ' L' b' := by
  have some_of : ∀ {a}, H a ≠ none → ∃ o, H a = some o := fun {a} h => by
    cases e : H a with
    | none => exact absurd e h
    | some o => exact ⟨o, rfl⟩
  have Gout : ∀ {a}, M.G a = none → ¬ M.N a → a ∈ cellsO ρ L → a ∈ cellsO ρ L := fun _ _ h => h
  have notcell : ∀ {a o}, M.G a = some o → a ∉ cellsO ρ L := fun {a o} e h => by rw [(E.out a h).1] at e; cases e
  have frM : ∀ {a o}, M.G a = some o → H a = some o := fun {a o} e => E.base.fr a o (by rw [EnvO.G_out (notcell e)]; exact e)
  have out' : ∀ a ∈ cellsO ρ' L', M.G a = none ∧ ¬ M.N a := fun a ha => by
    rcases (c4 a ha).1 with h | h
    · exact E.out a h
    · refine ⟨?_, fun z => (E.base.nogo a (.inl z)).2 h⟩
      cases e : M.G a with
      | none => rfl
      | some o => rw [frM e] at h; cases h
  have ownKeep : ∀ {i : Nat} {a : Addr} {s : Slot}, env[i]? = some s → s.own = true → σ[i]? = some (some (.ref a)) → a ∉ cellsO ρ L := fun {i a s} h1 h2 h3 h => E.base.ng a i (.inr h) ⟨h3, s, h1, h2⟩
  have ownOf : ∀ {i a}, Owns σ' env' i a → Owns σ env i a := fun {i a} ⟨h1, s, h2, h3⟩ => by
    rcases hs i s h2 (own_tr h3) with e | ⟨e1, e2⟩
    · subst e; cases h3
    · exact ⟨by rw [← e2]; exact h1, s, e1, h3⟩
  refine ⟨⟨s1, fun a o e => ?_, fun a h => ?_, hl, fun i s h => ?_, fun i j a h1 h2 => E.base.sep i j a (ownOf h1) (ownOf h2), fun a j h ho => ?_, fun i n k t h => (ht i n k t h).1⟩, nd', out', fun i k t h => (ht i i k t h).2, hL⟩
  · by_cases hc : a ∈ cellsO ρ' L'
    · rw [show (ownO M T' env' (cellsO ρ' L') H').G a = H' a from if_pos hc] at e; exact e
    · rw [EnvO.G_out hc] at e
      exact k2 a o (frM e) (notcell e)
  · rcases h with h | h
    · obtain ⟨h1, h2⟩ := E.base.nogo a (.inl h)
      have hn : a ∉ cellsO ρ L := fun z => (E.out a z).2 h
      refine ⟨k3 a h2 h1 hn, fun z => ?_⟩
      obtain ⟨o, e⟩ := some_of h2
      rw [k2 a o e hn] at z; cases z
    · exact (c4 a h).2
  · by_cases htr : ∃ n k t, s = .tr n k t
    · obtain ⟨n, k, t, rfl⟩ := htr
      obtain ⟨e, q⟩ := ht i n k t h
      subst e
      refine ⟨q.v, rootsO_at h, q.at_.seen fun a ha => ?_⟩
      exact if_pos (mem_cells.mpr (.inl ⟨n, q.lt, ha⟩))
    · rcases hs i s h (fun n k t e => htr ⟨n, k, t, e⟩) with e | ⟨e1, e2⟩
      · subst e; trivial
      · have q := E.base.slot i s e1
        rw [e2]
        cases s with
        | u => trivial
        | d x => obtain ⟨v, e, r⟩ := q; exact ⟨v, e, r.mono s0⟩
        | ol xs =>
          obtain ⟨a, vs, e, h0, hg, ha, z, r⟩ := q
          have hn := ownKeep e1 rfl e
          refine ⟨a, vs, e, k3 a (by rw [ha]; intro z; cases z) h0 hn, ?_, k2 a _ ha hn, z, r.mono s0⟩
          have hn' : a ∉ cellsO ρ' L' := fun z => by
            rcases (c4 a z).1 with z | z
            · exact hn z
            · rw [ha] at z; cases z
          rw [EnvO.G_out hn']
          rw [EnvO.G_out hn] at hg
          exact hg
        | od xs =>
          obtain ⟨a, vs, e, h0, hg, ha, r⟩ := q
          have hn := ownKeep e1 rfl e
          refine ⟨a, vs, e, k3 a (by rw [ha]; intro z; cases z) h0 hn, ?_, k2 a _ ha hn, r.mono s0⟩
          have hn' : a ∉ cellsO ρ' L' := fun z => by
            rcases (c4 a z).1 with z | z
            · exact hn z
            · rw [ha] at z; cases z
          rw [EnvO.G_out hn']
          rw [EnvO.G_out hn] at hg
          exact hg
        | ex => exact q
        | tr n k t => exact absurd ⟨n, k, t, rfl⟩ htr
  · have ho := ownOf ho
    obtain ⟨h3, s, h1, h2⟩ := id ho
    have hn := ownKeep h1 h2 h3
    rcases h with h | h
    · exact E.base.ng a j (.inl h) ho
    · rcases (c4 a h).1 with z | z
      · exact hn z
      · have q := E.base.slot j s h1
        rw [h3] at q
        cases s with
        | u => cases h2
        | d _ => cases h2
        | ex => cases h2
        | tr _ _ _ => cases h2
        | ol xs => obtain ⟨a', vs, e, _, _, ha, _⟩ := q; cases e; rw [ha] at z; cases z
        | od xs => obtain ⟨a', vs, e, _, _, ha, _⟩ := q; cases e; rw [ha] at z; cases z
theorem EnvO.lift (E : EnvO K M H0 H σ env T τ ρ L b) (E' : EnvAt K (ownO M T env (cellsO ρ L) H) H0' H' σ' env') (s0 : Same H0 H0') : EnvO K M H0' H' σ' env' T τ ρ L b := by
  have keep : ∀ a ∈ cellsO ρ L, H' a = H a := fun a ha => by
    cases e : H a with
    | none => exact absurd e (E.cell ha).2
    | some o => exact E'.fr a o (by rw [E.G_in ha]; exact e)
  have goes : ∀ {τ1 : Nat → Option V} {v : V} {t : Tr} {fp : List Addr}, (∀ a ∈ fp, a ∈ cellsO ρ L) → TrAt K ξ τ1 H0 H v t fp → TrAt K ξ τ1 H0' H' v t fp := fun hf r =>
    r.map (fun _ _ r => r.mono s0) (fun _ _ e => e) fun a ha o e => by rw [keep a (hf a ha)]; exact e
  have hG : (ownO M T env' (cellsO ρ L) H').G = (ownO M T env (cellsO ρ L) H).G := by
    funext a
    show (if a ∈ cellsO ρ L then H' a else M.G a) = if a ∈ cellsO ρ L then H a else M.G a
    by_cases h : a ∈ cellsO ρ L
    · rw [if_pos h, if_pos h]; exact keep a h
    · rw [if_neg h, if_neg h]
  have root : ∀ {i n : Nat} {k : Tk} {t : Tr}, env'[i]? = some (.tr n k t) → n = i ∧ env[i]? = some (.tr i k t) ∧ σ'[i]? = some (some (.ref (T i))) := fun {i n k t} h => by
    have e := E'.tg i n k t h
    subst e
    have q := E'.slot n _ h
    obtain ⟨m, hm⟩ := rootsO_of (show rootsO env n = some (k, t) from q.2.1)
    have := E.base.tg n m k t hm
    subst this
    exact ⟨rfl, hm, q.1⟩
  refine ⟨⟨E'.same, fun a o e => E'.fr a o (by rw [← hG]; exact e), E'.nogo, E'.len, fun i s h => ?_, E'.sep, E'.ng, E'.tg⟩, E.nd, E.out, fun i k t h => ?_, fun x hx => ?_⟩
  · have q := E'.slot i s h
    cases s with
    | u => trivial
    | d x => exact q
    | ol xs => obtain ⟨a, vs, e, h0, hg, ha, r⟩ := q; exact ⟨a, vs, e, h0, by rw [hG]; exact hg, ha, r⟩
    | od xs => obtain ⟨a, vs, e, h0, hg, ha, r⟩ := q; exact ⟨a, vs, e, h0, by rw [hG]; exact hg, ha, r⟩
    | ex => exact q
    | tr n k t =>
      obtain ⟨e, h1, h2⟩ := root h
      subst e
      exact ⟨q.1, rootsO_at h, by rw [hG]; exact q.2.2⟩
  · obtain ⟨_, h1, h2⟩ := root h
    have q := E.tr i k t h1
    exact ⟨q.lt, h2, goes (E.sub q.lt) q.at_, q.hb, q.par, q.tkn⟩
  · have q := E.ls x hx
    exact ⟨goes (fun a ha => mem_cells.mpr (.inr ⟨x, hx, ha⟩)) q.at_, q.cl⟩
end
end Dx

namespace Dx
open PySem PySem.Spec PyProof.Rows L2

section
variable {K : PySem.W.Frag} {ξ : Str → Value} {τ1 : Nat → Option V} {H0 H : Hp}
mutual
theorem TrAt.some_ : ∀ {v : V} {t : Tr} {fp : List Addr}, TrAt K ξ τ1 H0 H v t fp → ∀ a ∈ fp, H a ≠ none
  | _, _, _, .da _, a, h => by cases h
  | _, _, _, .hl _, a, h => by cases h
  | _, _, _, .ls e _ r, a, h => by
    rcases List.mem_cons.mp h with rfl | h
    · rw [e]; intro z; cases z
    · exact TrAll.some_ r a h
  | _, _, _, .dc e r, a, h => by
    rcases List.mem_cons.mp h with rfl | h
    · rw [e]; intro z; cases z
    · exact TrKv.some_ r a h
  | _, _, _, .ob e _ _ r, a, h => by
    rcases List.mem_cons.mp h with rfl | h
    · rw [e]; intro z; cases z
    · exact TrFs.some_ r a h
theorem TrAll.some_ : ∀ {v : List V} {t : List Tr} {fp : List Addr}, TrAll K ξ τ1 H0 H v t fp → ∀ a ∈ fp, H a ≠ none
  | _, _, _, .nil, a, h => by cases h
  | _, _, _, .cons r q, a, h => by
    rcases List.mem_append.mp h with h | h
    · exact TrAt.some_ r a h
    · exact TrAll.some_ q a h
theorem TrKv.some_ : ∀ {v : List (Key × V)} {t : List (Key × Tr)} {fp : List Addr}, TrKv K ξ τ1 H0 H v t fp → ∀ a ∈ fp, H a ≠ none
  | _, _, _, .nil, a, h => by cases h
  | _, _, _, .cons _ r q, a, h => by
    rcases List.mem_append.mp h with h | h
    · exact TrAt.some_ r a h
    · exact TrKv.some_ q a h
theorem TrFs.some_ : ∀ {C : Addr} {v : List (Str × V)} {t : List (Str × Tr)} {fp : List Addr}, TrFs K ξ τ1 H0 H C v t fp → ∀ a ∈ fp, H a ≠ none
  | _, _, _, _, .nil, a, h => by cases h
  | _, _, _, _, .cons _ r q, a, h => by
    rcases List.mem_append.mp h with h | h
    · exact TrAt.some_ r a h
    · exact TrFs.some_ q a h
end
mutual
theorem Tr.hall_true : ∀ t : Tr, Tr.hall (fun _ => true) t = true
  | .da _ => rfl
  | .ls ts => Tr.halls_true ts
  | .dc ts => Tr.hallk_true ts
  | .ob _ ts => Tr.hallf_true ts
  | .hl n => rfl
theorem Tr.halls_true : ∀ t : List Tr, Tr.halls (fun _ => true) t = true
  | [] => rfl
  | t :: ts => by simp only [Tr.halls, Tr.hall_true t, Tr.halls_true ts, Bool.and_self]
theorem Tr.hallk_true : ∀ t : List (Key × Tr), Tr.hallk (fun _ => true) t = true
  | [] => rfl
  | (_, t) :: ts => by simp only [Tr.hallk, Tr.hall_true t, Tr.hallk_true ts, Bool.and_self]
theorem Tr.hallf_true : ∀ t : List (Str × Tr), Tr.hallf (fun _ => true) t = true
  | [] => rfl
  | (_, t) :: ts => by simp only [Tr.hallf, Tr.hall_true t, Tr.hallf_true ts, Bool.and_self]
end
theorem TrAt.ref {v : V} {t : Tr} {fp : List Addr} (r : TrAt K ξ τ1 H0 H v t fp) (h : t.isD = false) : ∃ a, v = .ref a := by
  cases r with
  | da _ => cases h
  | ls _ _ _ => exact ⟨_, rfl⟩
  | dc _ _ => exact ⟨_, rfl⟩
  | ob _ _ _ _ => exact ⟨_, rfl⟩
  | hl _ => exact ⟨_, rfl⟩
theorem TrAt.any {τ2 : Nat → Option V} {v : V} {t : Tr} {fp : List Addr} (r : TrAt K ξ τ1 H0 H v t fp) (h : t.closed = true) : TrAt K ξ τ2 H0 H v t fp :=
  r.go ⟨fun _ _ r => r, fun n u z => Bool.noConfusion z⟩ h fun _ _ _ e => e
end

def updR (ρ : Nat → List Addr) (i : Nat) (x : List Addr) : Nat → List Addr := fun j => if j = i then x else ρ j
def updB (b : Nat → Nat) (i : Nat) (n : Nat) : Nat → Nat := fun j => if j = i then n else b j
def updH (τ : Nat → Nat → Option V) (i m : Nat) (v : V) : Nat → Nat → Option V := fun j n => if j = i ∧ n = m then some v else τ j n
theorem fm_same {ρ : Nat → List Addr} {i : Nat} {x : List Addr} {l : List Nat} (h : i ∉ l) : l.flatMap (updR ρ i x) = l.flatMap ρ := by
  induction l with
  | nil => rfl
  | cons j l ih =>
    rw [List.flatMap_cons, List.flatMap_cons, ih fun z => h (List.mem_cons_of_mem _ z)]
    unfold updR
    rw [if_neg fun e => h (by rw [e]; simp)]
theorem fm_upd {ρ : Nat → List Addr} {i : Nat} {x y : List Addr} (hi : i < 100) (hp : (ρ i).Perm (x ++ y)) : ((List.range 100).flatMap ρ).Perm ((List.range 100).flatMap (updR ρ i x) ++ y) := by
  obtain ⟨l1, l2, e⟩ := List.append_of_mem (List.mem_range.mpr hi)
  have nd : (List.range 100).Nodup := List.nodup_range
  rw [e] at nd ⊢
  obtain ⟨_, nd2, nd3⟩ := List.nodup_append.mp nd
  have h1 : i ∉ l1 := fun z => nd3 i z i (by simp) rfl
  have h2 : i ∉ l2 := (List.nodup_cons.mp nd2).1
  rw [List.flatMap_append, List.flatMap_append, List.flatMap_cons, List.flatMap_cons, fm_same h1, fm_same h2]
  have : updR ρ i x i = x := if_pos rfl
  rw [this]
  have p1 : (ρ i ++ l2.flatMap ρ).Perm (x ++ l2.flatMap ρ ++ y) := by
    refine (hp.append_right _).trans ?_
    rw [List.append_assoc, List.append_assoc]
    exact List.perm_append_comm.append_left x
  have := p1.append_left (l1.flatMap ρ)
  rw [← List.append_assoc] at this
  rw [List.append_assoc]
  rw [List.append_assoc] at this
  exact this
theorem cells_upd {ρ : Nat → List Addr} {L : Loose} {i : Nat} {x y : List Addr} (hi : i < 100) (hp : (ρ i).Perm (x ++ y)) : (cellsO ρ L).Perm (cellsO (updR ρ i x) L ++ y) := by
  unfold cellsO
  refine ((fm_upd hi hp).append_right _).trans ?_
  rw [List.append_assoc, List.append_assoc]
  exact List.perm_append_comm.append_left _
theorem cells_cons {ρ : Nat → List Addr} {L : Loose} {x : Addr × Tr × List Addr} : (cellsO ρ (x :: L)).Perm (cellsO ρ L ++ x.2.2) := by
  unfold cellsO
  rw [List.flatMap_cons, List.append_assoc]
  exact (List.perm_append_comm).append_left _

section
variable {K : PySem.W.Frag} {ξ : Str → Value} {M : Fm ξ} {σ σ' : L2.St} {env env' : En} {H0 H H0' H' : Hp} {T T' : Nat → Addr} {τ τ' : Nat → Nat → Option V} {ρ ρ' : Nat → List Addr} {L L' : Loose} {b b' : Nat → Nat}
theorem get_set {i j : Nat} {s s' : Slot} (h : (env.set i s)[j]? = some s') : (j = i ∧ s' = s) ∨ (j ≠ i ∧ env[j]? = some s') := by
  by_cases e : i = j
  · subst e
    have hl : i < env.length := by
      apply Decidable.byContradiction
      intro z
      rw [List.getElem?_eq_none (by rw [List.length_set]; omega)] at h; cases h
    rw [List.getElem?_set_self hl] at h
    cases h; exact .inl ⟨rfl, rfl⟩
  · rw [List.getElem?_set_ne e] at h
    exact .inr ⟨Ne.symm e, h⟩
theorem EnvO.retree (E : EnvO K M H0 H σ env T τ ρ L b) {i : Nat} {s : Slot} (hc : (cellsO ρ' L').Perm (cellsO ρ L)) (hs : (∀ n k t, s ≠ .tr n k t) → s = .u)
    (ht : ∀ j k t, (env.set i s)[j]? = some (.tr j k t) → TreeAt K M H0 H σ T τ' ρ' b' j k t) (hn : ∀ n k t, s = .tr n k t → n = i) (hL : ∀ x ∈ L', LooseAt K ξ H0 H x) : EnvO K M H0 H σ (env.set i s) T τ' ρ' L' b' := by
  refine E.new (Same.refl _) E.base.same (fun _ _ e _ => e) (fun _ _ e _ => e) (fun a ha => ?_) (hc.nodup_iff.mpr E.nd) (by rw [List.length_set]; exact E.base.len) (fun j s' h hns => ?_) (fun j n k t h => ?_) hL
  · have := hc.mem_iff.mp ha
    exact ⟨.inl this, E.cell this⟩
  · rcases get_set h with ⟨e, e2⟩ | ⟨e, e2⟩
    · subst e2
      exact .inl (hs hns)
    · exact .inr ⟨e2, rfl⟩
  · have e : n = j := by
      rcases get_set h with ⟨e, e2⟩ | ⟨e, e2⟩
      · rw [hn n k t e2.symm, e]
      · exact E.base.tg j n k t e2
    subst e
    exact ⟨rfl, ht n k t h⟩
theorem EnvO.take (E : EnvO K M H0 H σ env T τ ρ L b) {i m : Nat} {k : Tk} {t c : Tr} {p : List St} (hi : env[i]? = some (.tr i k t)) (hp : Tr.at_ p t = some c) (hd : c.isD = false) (hc : c.closed = true)
    (hm : t.hall (fun n => decide (n ≠ m)) = true) (hf : ∀ j p t', env[j]? = some (.tr j (.tkn i p) t') → j ≠ m) :
    ∃ u ρ' fB, VAt H p (.ref (T i)) (.ref u) ∧ EnvO K M H0 H σ (env.set i (.tr i k (Tr.put p (.hl m) t))) T (updH τ i m (.ref u)) ρ' ((u, c, fB) :: L) (updB b i (max (b i) (m + 1))) := by
  have q := E.tr i k t hi
  obtain ⟨u0, fA, fB, hv, hsub, hperm, har⟩ := q.at_.cut (P := fun n => decide (n ≠ m)) hm hp
  obtain ⟨u, rfl⟩ := hsub.ref hd
  obtain ⟨fp', h1, h2⟩ := har (updH τ i m (.ref u) i) H0 H (.hl m) [] ⟨fun _ _ r => r, fun n w hn e => by
    unfold updH at e
    rw [if_neg fun z => (of_decide_eq_true hn) z.2] at e
    exact e⟩ (fun _ _ _ e => e) (.hl fun w e => by
      unfold updH at e
      rw [if_pos ⟨rfl, rfl⟩] at e
      cases e; rfl)
  rw [List.append_nil] at h2
  have hcl : (cellsO (updR ρ i fp') ((u, c, fB) :: L)).Perm (cellsO ρ L) := by
    refine cells_cons.trans ?_
    exact (cells_upd q.lt (hperm.trans (h2.symm.append_right fB))).symm
  refine ⟨u, updR ρ i fp', fB, hv, E.retree hcl (fun z => absurd rfl (z _ _ _)) (fun j k' t' h => ?_) (fun n k' t' e => by cases e; rfl) fun x hx => ?_⟩
  · rcases get_set h with ⟨e, e2⟩ | ⟨e, e2⟩
    · subst e
      cases e2
      refine ⟨q.lt, q.v, ?_, ?_, q.par, fun j' p' e => ?_⟩
      · show TrAt K ξ _ H0 H _ _ (if j = j then fp' else ρ j)
        rw [if_pos rfl]; exact h1
      · show Tr.hall (fun n => decide (n < if j = j then max (b j) (m + 1) else b j)) _ = true
        rw [if_pos rfl]
        exact Tr.hall_put (Tr.hall_mono (fun n hn => decide_eq_true (by have := of_decide_eq_true hn; omega)) t q.hb) (show decide (m < max (b j) (m + 1)) = true from decide_eq_true (by omega))
      · have q2 := q.tkn j' p' e
        unfold updH
        by_cases z : j' = j ∧ j = m
        · exfalso
          rw [e, z.1] at hi
          exact hf j p' t hi z.2
        · rw [if_neg z]; exact q2
    · have q2 := E.tr j k' t' e2
      refine ⟨q2.lt, q2.v, ?_, ?_, q2.par, fun j' p' e3 => ?_⟩
      · have e4 : updH τ i m (.ref u) j = τ j := by
          funext n
          unfold updH
          rw [if_neg fun z => e z.1]
        rw [e4]
        show TrAt K ξ _ H0 H _ _ (if j = i then fp' else ρ j)
        rw [if_neg e]; exact q2.at_
      · show Tr.hall (fun n => decide (n < if j = i then max (b i) (m + 1) else b j)) _ = true
        rw [if_neg e]; exact q2.hb
      · unfold updH
        by_cases z : j' = i ∧ j = m
        · exfalso
          rw [e3, z.1] at e2
          exact hf j p' t' e2 z.2
        · rw [if_neg z]; exact q2.tkn j' p' e3
  · rcases List.mem_cons.mp hx with e | hx
    · subst e; exact ⟨hsub.any hc, hc⟩
    · exact E.ls x hx
theorem EnvO.back {u : Addr} {c : Tr} {fB : List Addr} (E : EnvO K M H0 H σ env T τ ρ ((u, c, fB) :: L) b) {i m n0 : Nat} {k : Tk} {t : Tr} {p : List St} (hi : env[i]? = some (.tr i k t)) (hp : Tr.at_ p t = some (.hl m)) (hτ : τ i m = some (.ref u))
    (hb : (Tr.put p c t).hall (fun n => decide (n < n0)) = true) : ∃ ρ', EnvO K M H0 H σ (env.set i (.tr i k (Tr.put p c t))) T τ ρ' L (updB b i n0) := by
  have q := E.tr i k t hi
  have ql := E.ls (u, c, fB) List.mem_cons_self
  obtain ⟨u0, fA, f0, hv, hsub, hperm, har⟩ := q.at_.cut (P := fun _ => true) (Tr.hall_true t) hp
  have e0 : u0 = .ref u ∧ f0 = [] := by
    cases hsub with
    | hl h => exact ⟨h _ hτ, rfl⟩
  obtain ⟨rfl, rfl⟩ := e0
  rw [List.append_nil] at hperm
  obtain ⟨fp', h1, h2⟩ := har (τ i) H0 H c fB ⟨fun _ _ r => r, fun n w hn e => e⟩ (fun _ _ _ e => e) (ql.at_.any ql.cl)
  have hcl : (cellsO (updR ρ i fp') L).Perm (cellsO ρ ((u, c, fB) :: L)) := by
    refine List.Perm.trans ?_ cells_cons.symm
    have e1 : (cellsO (updR ρ i fp') L).Perm (cellsO (updR (updR ρ i fp') i (ρ i)) L ++ fB) := cells_upd q.lt (by
      show (if i = i then fp' else ρ i).Perm _
      rw [if_pos rfl]
      exact h2.trans (hperm.symm.append_right fB))
    have e2 : updR (updR ρ i fp') i (ρ i) = ρ := by
      funext j
      unfold updR
      by_cases z : j = i
      · rw [if_pos z, z]
      · rw [if_neg z, if_neg z]
    rw [e2] at e1
    exact e1
  refine ⟨updR ρ i fp', E.retree hcl (fun z => absurd rfl (z _ _ _)) (fun j k' t' h => ?_) (fun n k' t' e => by cases e; rfl) fun x hx => E.ls x (List.mem_cons_of_mem _ hx)⟩
  rcases get_set h with ⟨e, e2⟩ | ⟨e, e2⟩
  · subst e
    cases e2
    refine ⟨q.lt, q.v, ?_, ?_, q.par, q.tkn⟩
    · show TrAt K ξ _ H0 H _ _ (if j = j then fp' else ρ j)
      rw [if_pos rfl]; exact h1
    · show Tr.hall (fun n => decide (n < if j = j then n0 else b j)) _ = true
      rw [if_pos rfl]; exact hb
  · have q2 := E.tr j k' t' e2
    refine ⟨q2.lt, q2.v, ?_, ?_, q2.par, q2.tkn⟩
    · show TrAt K ξ _ H0 H _ _ (if j = i then fp' else ρ j)
      rw [if_neg e]; exact q2.at_
    · show Tr.hall (fun n => decide (n < if j = i then n0 else b j)) _ = true
      rw [if_neg e]; exact q2.hb
theorem EnvO.mod {Ls Ls' : Loose} (E : EnvO K M H0 H σ env T τ ρ (Ls ++ L) b) (s0 : Same H0 H0') (s1 : Same H0' H') (k2 : ∀ a o, H a = some o → (∀ x ∈ Ls, a ∉ x.2.2) → H' a = some o)
    (k3 : ∀ a, H a ≠ none → H0 a = none → (∀ x ∈ Ls, a ∉ x.2.2) → H0' a = none) (hL : ∀ x ∈ Ls', LooseAt K ξ H0' H' x) (hc : ∀ x ∈ Ls', ∀ a ∈ x.2.2, ((∃ y ∈ Ls, a ∈ y.2.2) ∨ H a = none) ∧ H0' a = none) (nd : (Ls'.flatMap fun x => x.2.2).Nodup) :
    EnvO K M H0' H' σ env T τ ρ (Ls' ++ L) b := by
  have hcs : ∀ {a : Addr}, a ∈ cellsO ρ (Ls ++ L) → (∀ x ∈ Ls, a ∉ x.2.2) → H' a = H a ∧ H0' a = none := fun {a} ha hn => by
    obtain ⟨h1, h2⟩ := E.cell ha
    refine ⟨?_, k3 a h2 h1 hn⟩
    cases e : H a with
    | none => exact absurd e h2
    | some o => exact k2 a o e hn
  have nd0 := E.nd
  unfold cellsO at nd0
  rw [List.flatMap_append] at nd0
  -- what stands in names and other loose ones is not touched
  have offρ : ∀ {i : Nat} {a : Addr}, i < 100 → a ∈ ρ i → ∀ x ∈ Ls, a ∉ x.2.2 := fun {i a} hi ha x hx hax => by
    obtain ⟨_, _, d⟩ := List.nodup_append.mp nd0
    exact d a (List.mem_flatMap.mpr ⟨i, List.mem_range.mpr hi, ha⟩) a (List.mem_append_left _ (List.mem_flatMap.mpr ⟨x, hx, hax⟩)) rfl
  have offL : ∀ {y : Addr × Tr × List Addr} {a : Addr}, y ∈ L → a ∈ y.2.2 → ∀ x ∈ Ls, a ∉ x.2.2 := fun {y a} hy ha x hx hax => by
    obtain ⟨_, n2, _⟩ := List.nodup_append.mp nd0
    obtain ⟨_, _, d⟩ := List.nodup_append.mp n2
    exact d a (List.mem_flatMap.mpr ⟨x, hx, hax⟩) a (List.mem_flatMap.mpr ⟨y, hy, ha⟩) rfl
  have inρ : ∀ {i : Nat} {a : Addr}, i < 100 → a ∈ ρ i → a ∈ cellsO ρ (Ls ++ L) := fun hi ha => mem_cells.mpr (.inl ⟨_, hi, ha⟩)
  have inL : ∀ {y : Addr × Tr × List Addr} {a : Addr}, y ∈ L → a ∈ y.2.2 → a ∈ cellsO ρ (Ls ++ L) := fun hy ha => mem_cells.mpr (.inr ⟨_, List.mem_append_right _ hy, ha⟩)
  refine E.new s0 s1 (fun a o e hn => k2 a o e fun x hx hax => hn (mem_cells.mpr (.inr ⟨x, List.mem_append_left _ hx, hax⟩))) (fun a e1 e2 hn => k3 a e1 e2 fun x hx hax => hn (mem_cells.mpr (.inr ⟨x, List.mem_append_left _ hx, hax⟩)))
    (fun a ha => ?_) ?_ E.base.len (fun i s h _ => .inr ⟨h, rfl⟩) (fun i n k t h => ?_) fun x hx => ?_
  · rcases mem_cells.mp ha with ⟨i, hi, h⟩ | ⟨x, hx, h⟩
    · obtain ⟨e1, e2⟩ := hcs (inρ hi h) (offρ hi h)
      exact ⟨.inl (inρ hi h), e2, by rw [e1]; exact (E.cell (inρ hi h)).2⟩
    · rcases List.mem_append.mp hx with hx | hx
      · obtain ⟨e1, e2⟩ := hc x hx a h
        refine ⟨e1.imp (fun ⟨y, hy, z⟩ => mem_cells.mpr (.inr ⟨y, List.mem_append_left _ hy, z⟩)) fun z => z, e2, ?_⟩
        exact (hL x hx).at_.some_ a h
      · obtain ⟨e1, e2⟩ := hcs (inL hx h) (offL hx h)
        exact ⟨.inl (inL hx h), e2, by rw [e1]; exact (E.cell (inL hx h)).2⟩
  · unfold cellsO
    rw [List.flatMap_append]
    obtain ⟨n1, n2, d⟩ := List.nodup_append.mp nd0
    obtain ⟨n3, n4, d2⟩ := List.nodup_append.mp n2
    have fresh : ∀ {x : Addr × Tr × List Addr} {a : Addr}, x ∈ Ls' → a ∈ x.2.2 → a ∈ cellsO ρ (Ls ++ L) → ∃ y ∈ Ls, a ∈ y.2.2 := fun hx ha hm => by
      rcases (hc _ hx _ ha).1 with z | z
      · exact z
      · exact absurd z (E.cell hm).2
    refine List.nodup_append.mpr ⟨n1, List.nodup_append.mpr ⟨nd, n4, fun a h1 a' h2 e => ?_⟩, fun a h1 a' h2 e => ?_⟩
    · subst e
      obtain ⟨x, hx, h1⟩ := List.mem_flatMap.mp h1
      obtain ⟨y, hy, h2⟩ := List.mem_flatMap.mp h2
      obtain ⟨z, hz, h3⟩ := fresh hx h1 (inL hy h2)
      exact offL hy h2 z hz h3
    · subst e
      obtain ⟨i, hi, h1⟩ := List.mem_flatMap.mp h1
      have hi := List.mem_range.mp hi
      rcases List.mem_append.mp h2 with h2 | h2
      · obtain ⟨x, hx, h2⟩ := List.mem_flatMap.mp h2
        obtain ⟨z, hz, h3⟩ := fresh hx h2 (inρ hi h1)
        exact offρ hi h1 z hz h3
      · exact d a (List.mem_flatMap.mpr ⟨i, List.mem_range.mpr hi, h1⟩) a (List.mem_append_right _ h2) rfl
  · have e := E.base.tg i n k t h
    subst e
    have q := E.tr n k t h
    refine ⟨rfl, q.lt, q.v, ?_, q.hb, q.par, q.tkn⟩
    exact q.at_.map (fun _ _ r => r.mono s0) (fun _ _ e => e) fun a ha o e => by rw [(hcs (inρ q.lt ha) (offρ q.lt ha)).1]; exact e
  · rcases List.mem_append.mp hx with hx | hx
    · exact hL x hx
    · have q := E.ls x (List.mem_append_right _ hx)
      exact ⟨q.at_.map (fun _ _ r => r.mono s0) (fun _ _ e => e) fun a ha o e => by rw [(hcs (inL hx ha) (offL hx ha)).1]; exact e, q.cl⟩
end
end Dx

namespace Dx
open PySem PySem.Spec PyProof.Rows L2
section
variable {K : PySem.W.Frag} {ξ : Str → Value} {M : Fm ξ} {σ σ' : L2.St} {env env' : En} {H0 H H0' H' : Hp} {T T' : Nat → Addr} {τ τ' : Nat → Nat → Option V} {ρ ρ' : Nat → List Addr} {L L' : Loose} {b b' : Nat → Nat}
theorem cells_split (i : Nat) (hi : i < 100) (x : List Addr) : (cellsO (updR ρ i x) L).Perm (cellsO (updR ρ i []) L ++ x) := by
  have h := cells_upd (ρ := updR ρ i x) (L := L) (i := i) (x := []) (y := x) hi (by
    show (if i = i then x else ρ i).Perm _
    rw [if_pos rfl]; exact .refl _)
  have e : updR (updR ρ i x) i [] = updR ρ i [] := by
    funext j; unfold updR
    by_cases z : j = i
    · rw [if_pos z, if_pos z]
    · rw [if_neg z, if_neg z, if_neg z]
  rw [e] at h; exact h
theorem updR_same (i : Nat) : updR ρ i (ρ i) = ρ := by
  funext j; unfold updR
  by_cases z : j = i
  · rw [if_pos z, z]
  · rw [if_neg z]
theorem EnvO.drop {x : Addr × Tr × List Addr} (E : EnvO K M H0 H σ env T τ ρ (x :: L) b) : EnvO K M H0 H σ env T τ ρ L b := by
  have sub : ∀ a ∈ cellsO ρ L, a ∈ cellsO ρ (x :: L) := fun a ha => cells_cons.mem_iff.mpr (List.mem_append_left _ ha)
  refine E.new (Same.refl _) E.base.same (fun _ _ e _ => e) (fun _ _ e _ => e) (fun a ha => ⟨.inl (sub a ha), E.cell (sub a ha)⟩) ?_ E.base.len (fun i s h _ => .inr ⟨h, rfl⟩) (fun i n k t h => ?_) fun y hy => E.ls y (List.mem_cons_of_mem _ hy)
  · have := cells_cons.nodup_iff.mp E.nd
    exact (List.nodup_append.mp this).1
  · have e := E.base.tg i n k t h
    subst e
    exact ⟨rfl, E.tr n k t h⟩
theorem EnvO.rise (E : EnvO K M H0 H σ env T τ ρ L b) {i : Nat} {k : Tk} {t : Tr} (hi : env[i]? = some (.tr i k t)) (hc : t.closed = true) : EnvO K M H0 H σ (env.set i .u) T τ (updR ρ i []) ((T i, t, ρ i) :: L) b := by
  have q := E.tr i k t hi
  have hcl : (cellsO (updR ρ i []) ((T i, t, ρ i) :: L)).Perm (cellsO ρ L) := by
    refine cells_cons.trans ?_
    have := (cells_split (L := L) (ρ := ρ) i q.lt (ρ i)).symm
    rw [updR_same] at this; exact this
  refine E.retree hcl (fun _ => rfl) (fun j k' t' h => ?_) (fun n k' t' e => by cases e) fun x hx => ?_
  · rcases get_set h with ⟨e, e2⟩ | ⟨e, e2⟩
    · cases e2
    · have q2 := E.tr j k' t' e2
      refine ⟨q2.lt, q2.v, ?_, q2.hb, q2.par, q2.tkn⟩
      show TrAt K ξ _ H0 H _ _ (if j = i then [] else ρ j)
      rw [if_neg e]; exact q2.at_
  · rcases List.mem_cons.mp hx with e | hx
    · subst e; exact ⟨q.at_.any hc, hc⟩
    · exact E.ls x hx
end

def b200 : Nat → Nat := fun _ => 200
def EnvS (K : PySem.W.Frag) {ξ : Str → Value} (M : Fm ξ) (H0 H : Hp) (σ : L2.St) (env : En) : Prop := ∃ T τ ρ, EnvO K M H0 H σ env T τ ρ [] b200
inductive RX (α : Type) where
  | ok (a : α) (e : En)
  | exc (c : Str) (e : En)
  | bad
def RX.bnd {α β : Type} : RX α → (α → En → RX β) → RX β
  | .ok a e, f => f a e
  | .exc c e, _ => .exc c e
  | .bad, _ => .bad
def liftX {α : Type} (x : R α) (e : En) : RX α := match x with
  | .ok a => .ok a e
  | .exc c => .exc c e
  | .bad => .bad
@[simp] theorem liftX_ok {α : Type} (a : α) (e : En) : liftX (.ok a) e = .ok a e := (rfl)
@[simp] theorem liftX_exc {α : Type} (c : Str) (e : En) : liftX (.exc c : R α) e = .exc c e := (rfl)
@[simp] theorem liftX_bad {α : Type} (e : En) : liftX (.bad : R α) e = .bad := (rfl)
@[simp] theorem RX.bnd_ok {α β : Type} (a : α) (e : En) (f : α → En → RX β) : RX.bnd (.ok a e) f = f a e := (rfl)
@[simp] theorem RX.bnd_exc {α β : Type} (c : Str) (e : En) (f : α → En → RX β) : RX.bnd (.exc c e) f = .exc c e := (rfl)
@[simp] theorem RX.bnd_bad {α β : Type} (f : α → En → RX β) : RX.bnd .bad f = .bad := (rfl)
section
variable (K : PySem.W.Frag) (W : WX) (ξ : Str → Value) (M : Fm ξ) (σ : L2.St)
def PostXE (H0 : Hp) (Q : VK) : RX D → Prop
  | .ok d e => ∀ v H0' H', Same H0 H0' → EnvS K M H0' H' σ e → Rep K H0' v d → Q v H'
  | .exc x e => ∀ H0' H', Same H0 H0' → EnvS K M H0' H' σ e → W (ξ x) none σ H'
  | .bad => False
def PostXT (H0 : Hp) (Q : Bool → Hp → Prop) : RX Bool → Prop
  | .ok d e => ∀ H0' H', Same H0 H0' → EnvS K M H0' H' σ e → Q d H'
  | .exc x e => ∀ H0' H', Same H0 H0' → EnvS K M H0' H' σ e → W (ξ x) none σ H'
  | .bad => False
def PostXA (H0 : Hp) (Q : List V → Hp → Prop) : RX (List D) → Prop
  | .ok ds e => ∀ vs H0' H', Same H0 H0' → EnvS K M H0' H' σ e → RepAll K H0' vs ds → Q vs H'
  | .exc x e => ∀ H0' H', Same H0 H0' → EnvS K M H0' H' σ e → W (ξ x) none σ H'
  | .bad => False
def PostXN (H0 : Hp) (Q : VK) : RX Tr → Prop
  | .ok t e => ∀ u fB T τ ρ H0' H', Same H0 H0' → EnvO K M H0' H' σ e T τ ρ [(u, t, fB)] b200 → Q (.ref u) H'
  | .exc x e => ∀ H0' H', Same H0 H0' → EnvS K M H0' H' σ e → W (ξ x) none σ H'
  | .bad => False
end
def tX (K : PySem.W.Frag) (W : WX) (ξ : Str → Value) (F : En → RX D) : TE := fun σ H Q => ∃ (M : Fm ξ), ∃ H0 env, EnvS K M H0 H σ env ∧ PostXE K W ξ M σ H0 Q (F env)
abbrev XE (X : Cx) (W : WX) (ξ : Str → Value) (e : Expr) (F : En → RX D) : Prop := PE X e (tX X.K W ξ F)
section
variable {K : PySem.W.Frag} {W : WX} {ξ : Str → Value} {M : Fm ξ} {σ σ' : L2.St} {env env' : En} {H0 H H0' H' : Hp} {Q : VK}
theorem PostXE.weak {x : RX D} (s : Same H0 H0') (p : PostXE K W ξ M σ H0 Q x) : PostXE K W ξ M σ H0' Q x := by
  cases x with
  | ok d e => exact fun v H1 H2 s' => p v H1 H2 (s.trans s')
  | exc c e => exact fun H1 H2 s' => p H1 H2 (s.trans s')
  | bad => exact p
theorem PostXT.weak {x : RX Bool} {Q : Bool → Hp → Prop} (s : Same H0 H0') (p : PostXT K W ξ M σ H0 Q x) : PostXT K W ξ M σ H0' Q x := by
  cases x with
  | ok d e => exact fun H1 H2 s' => p H1 H2 (s.trans s')
  | exc c e => exact fun H1 H2 s' => p H1 H2 (s.trans s')
  | bad => exact p
theorem PostXA.weak {x : RX (List D)} {Q : List V → Hp → Prop} (s : Same H0 H0') (p : PostXA K W ξ M σ H0 Q x) : PostXA K W ξ M σ H0' Q x := by
  cases x with
  | ok d e => exact fun v H1 H2 s' => p v H1 H2 (s.trans s')
  | exc c e => exact fun H1 H2 s' => p H1 H2 (s.trans s')
  | bad => exact p
theorem PostXN.weak {x : RX Tr} (s : Same H0 H0') (p : PostXN K W ξ M σ H0 Q x) : PostXN K W ξ M σ H0' Q x := by
  cases x with
  | ok d e => exact fun u fB T τ ρ H1 H2 s' => p u fB T τ ρ H1 H2 (s.trans s')
  | exc c e => exact fun H1 H2 s' => p H1 H2 (s.trans s')
  | bad => exact p
structure WishX (K : PySem.W.Frag) (W : WX) (ξ : Str → Value) (M : Fm ξ) (σ : L2.St) {β : Type} (P : Hp → RX β → Prop) : Prop where
  weak : ∀ {H0 H0' : Hp} {x : RX β}, Same H0 H0' → P H0 x → P H0' x
  exc : ∀ {H0 : Hp} {x : Str} {e : En}, P H0 (.exc x e) → ∀ H0' H', Same H0 H0' → EnvS K M H0' H' σ e → W (ξ x) none σ H'
  bad : ∀ {H0 : Hp}, P H0 .bad → False
section
variable {β : Type} {P : Hp → RX β → Prop}
end
theorem EnvS.look (E : EnvS K M H0 H σ env) : ∃ (M' : Fm ξ), EnvAt K M' H0 H σ env ∧ ∀ {H0' H' : Hp} {σ' : L2.St} {env' : En}, Same H0 H0' → EnvAt K M' H0' H' σ' env' → EnvS K M H0' H' σ' env' := by
  obtain ⟨T, τ, ρ, E⟩ := E
  exact ⟨_, E.base, fun s E' => ⟨T, τ, ρ, E.lift E' s⟩⟩
theorem lookE {x : R D} (p : PostXE K W ξ M σ H0 Q (liftX x env)) {M' : Fm ξ} (hM : ∀ {H0' H' : Hp} {σ' : L2.St} {env' : En}, Same H0 H0' → EnvAt K M' H0' H' σ' env' → EnvS K M H0' H' σ' env') : PostE K W ξ M' σ env true H0 H Q x := by
  cases x with
  | ok d => exact fun v H0' H' g r => p v H0' H' g.s0 (hM g.s0 g.e) r
  | exc c => exact fun H0' H' g => p H0' H' g.s0 (hM g.s0 g.e)
  | bad => exact p
end
section
variable {X : Cx} {W : WX} {ξ : Str → Value} {e a b : Expr} {es : List Expr} {pos : Pos}
def lf {α : Type} (F : En → R α) : En → RX α := fun env => liftX (F env) env
theorem xe_d {F : En → R D} (h : DE X W ξ true e F) : XE X W ξ e (lf F) := peImp h fun σ H Q ⟨M, H0, env, E, p⟩ => by
  obtain ⟨M', E1, hM⟩ := E.look
  exact ⟨M', H0, env, E1, lookE p hM⟩
end
end Dx

namespace Dx
open PySem PySem.Spec PyProof.Rows L2

section
variable {K : PySem.W.Frag} {W : WX} {ξ : Str → Value} {M : Fm ξ} {σ : L2.St} {env : En} {H0 H : Hp} {Q : VK}
end

section
variable {X : Cx} {W : WX} {ξ : Str → Value} {e a b : Expr} {es rest : List Expr} {pos : Pos} {fa fb : En → RX D} {ta tb : En → RX Bool} {Fs : En → RX (List D)}
end
end Dx

namespace Dx
open PySem PySem.Spec PyProof.Rows L2

inductive Ag where
  | d (x : D)
  | t (w : Nat × List St)
  | u
inductive AgsW (K : PySem.W.Frag) {ξ : Str → Value} (M : Fm ξ) (env : En) (H0 : Hp) : List V → List Ag → Prop
  | nil : AgsW K M env H0 [] []
  | d {v : V} {vs : List V} {x : D} {as : List Ag} : Rep K H0 v x → AgsW K M env H0 vs as → AgsW K M env H0 (v :: vs) (.d x :: as)
  | t {v : V} {vs : List V} {w : Nat × List St} {as : List Ag} : WayAt M env w v → AgsW K M env H0 vs as → AgsW K M env H0 (v :: vs) (.t w :: as)
  | u {v : V} {vs : List V} {as : List Ag} : AgsW K M env H0 vs as → AgsW K M env H0 (v :: vs) (.u :: as)
theorem AgsW.mono {K : PySem.W.Frag} {ξ : Str → Value} {M : Fm ξ} {env : En} {H0 H0' : Hp} (s : Same H0 H0') : ∀ {vs : List V} {as : List Ag}, AgsW K M env H0 vs as → AgsW K M env H0' vs as
  | _, _, .nil => .nil
  | _, _, .d r q => .d (r.mono s) (AgsW.mono s q)
  | _, _, .t r q => .t r (AgsW.mono s q)
  | _, _, .u q => .u (AgsW.mono s q)
section
variable (K : PySem.W.Frag) (W : WX) (ξ : Str → Value) (M : Fm ξ) (σ : L2.St) (env : En)
def PostY (H0 H : Hp) (Q : List V → Hp → Prop) : R (List Ag) → Prop
  | .ok ss => ∀ vs H0' H', Gr K M σ env H0 H H0' H' → AgsW K M env H0' vs ss → Q vs H'
  | .exc x => ∀ H0' H', Gr K M σ env H0 H H0' H' → W (ξ x) none σ H'
  | .bad => False
end
section
variable {K : PySem.W.Frag} {W : WX} {ξ : Str → Value} {M : Fm ξ} {σ : L2.St} {env : En} {H0 H H0' H' : Hp}
theorem PostY.weak {x : R (List Ag)} {Q : List V → Hp → Prop} (g : Gr K M σ env H0 H H0' H') (p : PostY K W ξ M σ env H0 H Q x) : PostY K W ξ M σ env H0' H' Q x := by
  cases x with
  | ok d => exact fun v H02 H2 g2 r => p v H02 H2 (g.trans g2) r
  | exc x => exact fun H02 H2 g2 => p H02 H2 (g.trans g2)
  | bad => exact p
end
section
variable {X : Cx} {W : WX} {ξ : Str → Value} {e : Expr} {es : List Expr} {fa : En → R D} {P : En → R (Nat × List St)} {As : En → R (List Ag)}
end

inductive Rt where
  | d (x : D)
  | t (t : Tr)
  | part (i : Nat) (p : List St)
inductive RF where
  | ok (r : Rt) (ts : List Tr)
  | exc (c : Str) (ts : List Tr)
  | bad
inductive ArgsL (K : PySem.W.Frag) (H0 : Hp) : Nat → List V → List Slot → Loose → Prop
  | nil {i : Nat} : ArgsL K H0 i [] [] []
  | d {i : Nat} {v : V} {vs : List V} {x : D} {ss : List Slot} {Ls : Loose} : Rep K H0 v x → ArgsL K H0 (i + 1) vs ss Ls → ArgsL K H0 i (v :: vs) (.d x :: ss) Ls
  | t {i : Nat} {a : Addr} {vs : List V} {t : Tr} {fp : List Addr} {ss : List Slot} {Ls : Loose} : ArgsL K H0 (i + 1) vs ss Ls → ArgsL K H0 i (.ref a :: vs) (.tr i .par t :: ss) ((a, t, fp) :: Ls)
  | u {i : Nat} {v : V} {vs : List V} {ss : List Slot} {Ls : Loose} : ArgsL K H0 (i + 1) vs ss Ls → ArgsL K H0 i (v :: vs) (.u :: ss) Ls
theorem ArgsL.length {K : PySem.W.Frag} {H0 : Hp} : ∀ {i : Nat} {vs : List V} {ss : List Slot} {Ls : Loose}, ArgsL K H0 i vs ss Ls → vs.length = ss.length
  | _, _, _, _, .nil => rfl
  | _, _, _, _, .d _ q => by simp [ArgsL.length q]
  | _, _, _, _, .t q => by simp [ArgsL.length q]
  | _, _, _, _, .u q => by simp [ArgsL.length q]
def fpsOf (Ls : Loose) : List Addr := Ls.flatMap fun x => x.2.2
structure Behind (K : PySem.W.Frag) (ξ : Str → Value) (H0 H H0' H' : Hp) (Ls Ls' Rs : Loose) (ts : List Tr) : Prop where
  s0 : Same H0 H0'
  s1 : Same H0' H'
  k2 : ∀ a o, H a = some o → (∀ x ∈ Ls, a ∉ x.2.2) → H' a = some o
  k3 : ∀ a, H a ≠ none → H0 a = none → (∀ x ∈ Ls, a ∉ x.2.2) → H0' a = none
  ad : Ls'.map (·.1) = Ls.map (·.1)
  tr : Ls'.map (·.2.1) = ts
  ls : ∀ x ∈ Ls' ++ Rs, LooseAt K ξ H0' H' x
  nw : ∀ x ∈ Ls' ++ Rs, ∀ a ∈ x.2.2, ((∃ y ∈ Ls, a ∈ y.2.2) ∨ H a = none) ∧ H0' a = none
  nd : (fpsOf (Ls' ++ Rs)).Nodup
inductive ResAt (K : PySem.W.Frag) (H0' H' : Hp) (Ls' : Loose) : Loose → V → Rt → Prop
  | d {v : V} {x : D} : Rep K H0' v x → ResAt K H0' H' Ls' [] v (.d x)
  | t {u : Addr} {t : Tr} {fB : List Addr} : ResAt K H0' H' Ls' [(u, t, fB)] (.ref u) (.t t)
  | part {v : V} {i : Nat} {p : List St} {x : Addr × Tr × List Addr} {c : Tr} : Ls'[i]? = some x → VAt H' p (.ref x.1) v → Tr.at_ p x.2.1 = some c → ResAt K H0' H' Ls' [] v (.part i p)
def PostRF (K : PySem.W.Frag) (ξ : Str → Value) (H0 H : Hp) (Ls : Loose) (Q : VK) (E : XK) : RF → Prop
  | .ok r ts => ∀ v H0' H' Ls' Rs, Behind K ξ H0 H H0' H' Ls Ls' Rs ts → ResAt K H0' H' Ls' Rs v r → Q v H'
  | .exc c ts => ∀ H0' H' Ls', Behind K ξ H0 H H0' H' Ls Ls' [] ts → E (ξ c) none H'
  | .bad => False
def spE (K : PySem.W.Frag) (ξ : Str → Value) (F : List Slot → RF) : Sp := fun vs H Q E => ∃ ss H0 Ls, Same H0 H ∧ ArgsL K H0 0 vs ss Ls ∧ (∀ x ∈ Ls, LooseAt K ξ H0 H x) ∧ (fpsOf Ls).Nodup ∧ (∀ x ∈ Ls, ∀ a ∈ x.2.2, H0 a = none) ∧ PostRF K ξ H0 H Ls Q E (F ss)

def slotsA : List Ag → List Nat
  | [] => []
  | .t w :: r => w.1 :: slotsA r
  | _ :: r => slotsA r
def argsE : Nat → En → List Ag → R (List Slot)
  | _, _, [] => .ok []
  | k, env, .d x :: r => argsE (k + 1) env r >>= fun ss => .ok (.d x :: ss)
  | k, env, .u :: r => argsE (k + 1) env r >>= fun ss => .ok (.u :: ss)
  | k, env, .t w :: r => match nodeAt env w with
    | some t => if t.isD = false ∧ t.closed = true ∧ w.1 ∉ slotsA r then argsE (k + 1) env r >>= fun ss => .ok (.tr k .par t :: ss) else .bad
    | none => .bad
def takeAll (env : En) : List Ag → En
  | [] => env
  | .t w :: r => match env[w.1]? with
    | some (.tr n k t) => (takeAll env r).set w.1 (.tr n k (Tr.put w.2 (.hl 200) t))
    | _ => takeAll env r
  | .d _ :: r => takeAll env r
  | .u :: r => takeAll env r
def putAll : En → List Ag → List Tr → En
  | env, [], _ => env
  | env, .t w :: r, c :: cs => match env[w.1]? with
    | some (.tr n k t) => putAll (env.set w.1 (.tr n k (Tr.put w.2 c t))) r cs
    | _ => env
  | env, .t _ :: _, [] => env
  | env, .d _ :: r, cs => putAll env r cs
  | env, .u :: r, cs => putAll env r cs
inductive TauOk (τ : Nat → Nat → Option V) : List Ag → Loose → Prop
  | nil : TauOk τ [] []
  | t {w : Nat × List St} {r : List Ag} {x : Addr × Tr × List Addr} {Ls : Loose} : τ w.1 200 = some (.ref x.1) → TauOk τ r Ls → TauOk τ (.t w :: r) (x :: Ls)
  | d {y : D} {r : List Ag} {Ls : Loose} : TauOk τ r Ls → TauOk τ (.d y :: r) Ls
  | u {r : List Ag} {Ls : Loose} : TauOk τ r Ls → TauOk τ (.u :: r) Ls
theorem TauOk.adr {τ : Nat → Nat → Option V} : ∀ {as : List Ag} {Ls Ls' : Loose}, TauOk τ as Ls → Ls'.map (·.1) = Ls.map (·.1) → TauOk τ as Ls'
  | _, _, Ls', .nil, h => by
    have : Ls' = [] := by simpa using h
    rw [this]; exact .nil
  | _, _, Ls', .d q, h => .d (TauOk.adr q h)
  | _, _, Ls', .u q, h => .u (TauOk.adr q h)
  | _, _, Ls', .t e q, h => by
    cases Ls' with
    | nil => simp at h
    | cons y Ls' =>
      simp at h
      exact .t (by rw [h.1]; exact e) (TauOk.adr q h.2)
theorem TauOk.mono {τ τ' : Nat → Nat → Option V} : ∀ {as : List Ag} {Ls : Loose}, TauOk τ as Ls → (∀ j ∈ slotsA as, τ' j 200 = τ j 200) → TauOk τ' as Ls
  | _, _, .nil, _ => .nil
  | _, _, .d q, h => .d (TauOk.mono q h)
  | _, _, .u q, h => .u (TauOk.mono q h)
  | _, _, .t e q, h => .t (by rw [h _ (by simp [slotsA])]; exact e) (TauOk.mono q fun j hj => h j (by simp [slotsA, hj]))
def WaysOk (env : En) (as : List Ag) : Prop := ∀ w, Ag.t w ∈ as → ∃ k t c, env[w.1]? = some (.tr w.1 k t) ∧ t.hall (fun n => decide (n < 200)) = true ∧ Tr.at_ w.2 t = some c
theorem mem_slotsA {w : Nat × List St} : ∀ {as : List Ag}, Ag.t w ∈ as → w.1 ∈ slotsA as
  | .t w' :: r, h => by
    rcases List.mem_cons.mp h with e | h
    · cases e; simp [slotsA]
    · simp [slotsA, mem_slotsA h]
  | .d _ :: r, h => by
    rcases List.mem_cons.mp h with e | h
    · cases e
    · exact mem_slotsA (as := r) h
  | .u :: r, h => by
    rcases List.mem_cons.mp h with e | h
    · cases e
    · exact mem_slotsA (as := r) h
theorem takeAll_other {env : En} {j : Nat} : ∀ {as : List Ag}, j ∉ slotsA as → (takeAll env as)[j]? = env[j]?
  | [], _ => rfl
  | .d _ :: r, h => takeAll_other (as := r) h
  | .u :: r, h => takeAll_other (as := r) h
  | .t w :: r, h => by
    have h1 : j ≠ w.1 := fun e => h (by simp [slotsA, e])
    have h2 : j ∉ slotsA r := fun e => h (by simp [slotsA, e])
    unfold takeAll
    split
    · rw [List.getElem?_set_ne (Ne.symm h1)]; exact takeAll_other h2
    · exact takeAll_other h2
theorem takeAll_set {env : En} {j : Nat} {s : Slot} : ∀ {as : List Ag}, j ∉ slotsA as → takeAll (env.set j s) as = (takeAll env as).set j s
  | [], _ => rfl
  | .d _ :: r, h => takeAll_set (as := r) h
  | .u :: r, h => takeAll_set (as := r) h
  | .t w :: r, h => by
    have h1 : j ≠ w.1 := fun e => h (by simp [slotsA, e])
    have h2 : j ∉ slotsA r := fun e => h (by simp [slotsA, e])
    have e1 : ∀ env : En, takeAll env (.t w :: r) = (match env[w.1]? with | some (.tr n k t) => (takeAll env r).set w.1 (.tr n k (Tr.put w.2 (.hl 200) t)) | _ => takeAll env r) := fun _ => rfl
    rw [e1, e1, List.getElem?_set_ne h1, takeAll_set h2]
    cases e2 : env[w.1]? with
    | none => rfl
    | some s0 =>
      cases s0 with
      | tr n k t => exact List.set_comm _ _ h1
      | _ => rfl

section
variable {K : PySem.W.Frag} {ξ : Str → Value} {M : Fm ξ} {σ σ' : L2.St} {env env' : En} {H0 H H0' H' : Hp} {T T' : Nat → Addr} {τ τ' : Nat → Nat → Option V} {ρ ρ' : Nat → List Addr} {L L' : Loose} {b b' : Nat → Nat}
theorem VAt1.same {s : St} {v u : V} {G : Hp} (h : ∀ a o, G a = some o → H a = some o) (q : VAt1 G s v u) : VAt1 H s v u := by
  cases s with
  | fl f => obtain ⟨a, C, dx, fs, e, h1, h2⟩ := q; exact ⟨a, C, dx, fs, e, h _ _ h1, h2⟩
  | ix i => obtain ⟨a, vs, e, h1, h2⟩ := q; exact ⟨a, vs, e, h _ _ h1, h2⟩
  | ky k => obtain ⟨a, vs, e, h1, h2⟩ := q; exact ⟨a, vs, e, h _ _ h1, h2⟩
theorem VAt.same {G : Hp} (h : ∀ a o, G a = some o → H a = some o) : ∀ {p : List St} {v u : V}, VAt G p v u → VAt H p v u
  | [], _, _, q => q
  | s :: p, v, u, ⟨w, h1, h2⟩ => ⟨w, h1.same h, VAt.same h h2⟩
theorem EnvO.takes (E : EnvO K M H0 H σ env T τ ρ L b200) : ∀ {as : List Ag} {k : Nat} {ss : List Slot} {vs : List V}, argsE k env as = .ok ss → AgsW K (ownO M T env (cellsO ρ L) H) env H0 vs as →
    ∃ τ' ρ' Ls b', EnvO K M H0 H σ (takeAll env as) T τ' ρ' (Ls ++ L) b' ∧ ArgsL K H0 k vs ss Ls ∧ TauOk τ' as Ls ∧ WaysOk env as ∧ (slotsA as).Nodup ∧ ∀ j, j ∉ slotsA as → b' j = 200
  | [], k, ss, vs, h, w => by
    cases h
    cases w
    exact ⟨τ, ρ, [], b200, E, .nil, .nil, (fun _ hm => by cases hm), .nil, fun _ _ => rfl⟩
  | .d x :: r, k, ss, vs, h, w => by
    cases w with
    | d rp q =>
      unfold argsE at h
      cases e : argsE (k + 1) env r with
      | ok s1 =>
        rw [e] at h; cases h
        obtain ⟨τ', ρ', Ls, b', E1, a1, t1, w1, n1, b1⟩ := EnvO.takes E e q
        exact ⟨τ', ρ', Ls, b', E1, .d rp a1, .d t1, (fun w hm => w1 w ((List.mem_cons.mp hm).resolve_left fun z => by cases z)), n1, b1⟩
      | exc c => rw [e] at h; cases h
      | bad => rw [e] at h; cases h
  | .u :: r, k, ss, vs, h, w => by
    cases w with
    | u q =>
      unfold argsE at h
      cases e : argsE (k + 1) env r with
      | ok s1 =>
        rw [e] at h; cases h
        obtain ⟨τ', ρ', Ls, b', E1, a1, t1, w1, n1, b1⟩ := EnvO.takes E e q
        exact ⟨τ', ρ', Ls, b', E1, .u a1, .u t1, (fun w hm => w1 w ((List.mem_cons.mp hm).resolve_left fun z => by cases z)), n1, b1⟩
      | exc c => rw [e] at h; cases h
      | bad => rw [e] at h; cases h
  | .t w :: r, k, ss, vs, h, hw => by
    cases hw with
    | t wa q =>
      unfold argsE at h
      split at h
      · rename_i c hn
        split at h
        · rename_i hc
          obtain ⟨hd, hcl, hns⟩ := hc
          cases e : argsE (k + 1) env r with
          | ok s1 =>
            rw [e] at h; cases h
            obtain ⟨τ1, ρ1, Ls, b1, E1, a1, t1, w1, n1, hb1⟩ := EnvO.takes E e q
            obtain ⟨n, kk, t, t', k1, k2, k3⟩ := wa
            have := E.base.tg _ _ _ _ k1
            subst this
            have ht : t' = c := by
              unfold nodeAt at hn
              rw [k1] at hn
              exact Option.some.inj (k2.symm.trans hn)
            subst ht
            have hi : (takeAll env r)[w.1]? = some (.tr w.1 kk t) := by rw [takeAll_other hns]; exact k1
            have qt := E.tr _ _ _ k1
            have hm : t.hall (fun n => decide (n ≠ 200)) = true := Tr.hall_mono (fun n hn => decide_eq_true (by have : n < 200 := of_decide_eq_true hn; omega)) t qt.hb
            obtain ⟨u, ρ2, fB, hv, E2⟩ := E1.take hi k2 hd hcl hm fun j p t' hj z => by
              have := (E1.tr j _ _ hj).lt
              omega
            have eu := (k3.same fun a o z => E.base.fr a o z).one hv
            subst eu
            refine ⟨updH τ1 w.1 200 (.ref u), ρ2, (u, t', fB) :: Ls, updB b1 w.1 (max (b1 w.1) (200 + 1)), ?_, .t a1, .t ?_ (t1.mono fun j hj => ?_), (fun w2 hm2 => ?_), List.nodup_cons.mpr ⟨hns, n1⟩, fun j hj => ?_⟩
            · have e1 : takeAll env (.t w :: r) = (takeAll env r).set w.1 (.tr w.1 kk (Tr.put w.2 (.hl 200) t)) := by
                show (match env[w.1]? with | some (.tr n k t) => (takeAll env r).set w.1 (.tr n k (Tr.put w.2 (.hl 200) t)) | _ => takeAll env r) = _
                rw [k1]
              rw [e1]; exact E2
            · show (if w.1 = w.1 ∧ 200 = 200 then _ else _) = _
              rw [if_pos ⟨rfl, rfl⟩]
            · show (if j = w.1 ∧ 200 = 200 then _ else _) = _
              rw [if_neg fun (z : j = w.1 ∧ 200 = 200) => hns (z.1 ▸ hj)]
            · rcases List.mem_cons.mp hm2 with z | z
              · cases z; exact ⟨kk, t, t', k1, qt.hb, k2⟩
              · exact w1 w2 z
            · have h1 : j ≠ w.1 := fun z => hj (by simp [slotsA, z])
              have h2 : j ∉ slotsA r := fun z => hj (by simp [slotsA, z])
              show (if j = w.1 then _ else _) = _
              rw [if_neg h1]; exact hb1 j h2
          | exc c => rw [e] at h; cases h
          | bad => rw [e] at h; cases h
        · cases h
      · cases h
theorem EnvO.backs : ∀ {as : List Ag} {env : En} {ρ : Nat → List Addr} {Ls : Loose} {b : Nat → Nat}, EnvO K M H0 H σ (takeAll env as) T τ ρ (Ls ++ L) b → WaysOk env as → TauOk τ as Ls → (slotsA as).Nodup → (∀ j, j ∉ slotsA as → b j = 200) →
    ∃ ρ', EnvO K M H0 H σ (putAll env as (Ls.map (·.2.1))) T τ ρ' L b200
  | [], env, ρ, Ls, b, E, w, t, n, hb => by
    cases t
    refine ⟨ρ, ?_⟩
    have : b = b200 := by funext j; exact hb j (by simp [slotsA])
    subst this
    exact E
  | .d x :: r, env, ρ, Ls, b, E, w, t, n, hb => by
    cases t with
    | d t => exact EnvO.backs (as := r) E (fun w' hm => w w' (List.mem_cons_of_mem _ hm)) t n hb
  | .u :: r, env, ρ, Ls, b, E, w, t, n, hb => by
    cases t with
    | u t => exact EnvO.backs (as := r) E (fun w' hm => w w' (List.mem_cons_of_mem _ hm)) t n hb
  | .t w :: r, env, ρ, Ls, b, E, hw, t, n, hb => by
    cases t with
    | @t _ _ x Ls he t =>
      obtain ⟨kk, t0, c, k1, k2, k3⟩ := hw w List.mem_cons_self
      obtain ⟨hns, n1⟩ := List.nodup_cons.mp n
      obtain ⟨u, c', fB⟩ := x
      have e1 : takeAll env (.t w :: r) = (takeAll env r).set w.1 (.tr w.1 kk (Tr.put w.2 (.hl 200) t0)) := by
        show (match env[w.1]? with | some (.tr n k t) => (takeAll env r).set w.1 (.tr n k (Tr.put w.2 (.hl 200) t)) | _ => takeAll env r) = _
        rw [k1]
      have hl : w.1 < (takeAll env r).length := by
        have : (takeAll env r)[w.1]? = some _ := (takeAll_other hns).trans k1
        exact (List.getElem?_eq_some_iff.mp this).1
      rw [e1] at E
      have hi : ((takeAll env r).set w.1 (.tr w.1 kk (Tr.put w.2 (.hl 200) t0)))[w.1]? = some (.tr w.1 kk (Tr.put w.2 (.hl 200) t0)) := List.getElem?_set_self hl
      have ql := E.ls (u, c', fB) List.mem_cons_self
      have hpp : Tr.put w.2 c' (Tr.put w.2 (.hl 200) t0) = Tr.put w.2 c' t0 := Tr.put_put k3
      obtain ⟨ρ1, E1⟩ := E.back (n0 := 200) hi (Tr.at_put k3) he (by rw [hpp]; exact Tr.hall_put k2 (Tr.closed_hall ql.cl _))
      rw [hpp, List.set_set, ← takeAll_set hns] at E1
      obtain ⟨ρ2, E2⟩ := EnvO.backs (as := r) E1 (fun w' hm => by
        obtain ⟨k', t', c2, l1, l2, l3⟩ := hw w' (List.mem_cons_of_mem _ hm)
        have : w'.1 ≠ w.1 := fun z => hns (z ▸ mem_slotsA hm)
        exact ⟨k', t', c2, by rw [List.getElem?_set_ne (Ne.symm this)]; exact l1, l2, l3⟩) t n1 (fun j hj => by
        show (if j = w.1 then 200 else b j) = 200
        by_cases z : j = w.1
        · rw [if_pos z]
        · rw [if_neg z]; exact hb j fun y => by
            rcases List.mem_cons.mp y with y | y
            · exact z y
            · exact hj y)
      refine ⟨ρ2, ?_⟩
      have e2 : putAll env (.t w :: r) (c' :: Ls.map (·.2.1)) = putAll (env.set w.1 (.tr w.1 kk (Tr.put w.2 c' t0))) r (Ls.map (·.2.1)) := by
        show (match env[w.1]? with | some (.tr n k t) => putAll (env.set w.1 (.tr n k (Tr.put w.2 c' t))) r _ | _ => env) = _
        rw [k1]
      show EnvO K M H0 H σ (putAll env (.t w :: r) (c' :: Ls.map (·.2.1))) T τ ρ2 L b200
      rw [e2]; exact E2
end
end Dx

namespace Dx
open PySem PySem.Spec PyProof.Rows L2

def PartAt (H : Hp) (T : Nat → Addr) (env : En) (w : Nat × List St) (v : V) : Prop := ∃ k t c, env[w.1]? = some (.tr w.1 k t) ∧ Tr.at_ w.2 t = some c ∧ VAt H w.2 (.ref (T w.1)) v
theorem VAt.trans {H : Hp} : ∀ {p q : List St} {v u w : V}, VAt H p v u → VAt H q u w → VAt H (p ++ q) v w
  | [], _, _, _, _, h1, h2 => by cases h1; exact h2
  | s :: p, _, _, _, _, ⟨x, h1, k1⟩, h2 => ⟨x, h1, VAt.trans k1 h2⟩
section
variable {K : PySem.W.Frag} {ξ : Str → Value} {M : Fm ξ} {σ σ' : L2.St} {env env' : En} {H0 H H0' H' : Hp} {T T' : Nat → Addr} {τ τ' : Nat → Nat → Option V} {ρ ρ' : Nat → List Addr} {L L' : Loose} {b b' : Nat → Nat} {W : WX}
theorem PartAt.way {w : Nat × List St} {v : V} (E : EnvO K M H0 H σ env T τ ρ L b) (p : PartAt H T env w v) : WayAt (ownO M T env (cellsO ρ L) H) env w v := by
  obtain ⟨k, t, c, h1, h2, h3⟩ := p
  refine ⟨w.1, k, t, c, h1, h2, ?_⟩
  obtain ⟨fp, r⟩ := (E.base.slot _ _ h1).2.2
  obtain ⟨u, fq, hv, _, _⟩ := TrAt.way (fp := fp) r h2
  have := (hv.same fun a o z => E.base.fr a o z).one h3
  subst this
  exact hv
theorem WayAt.part {w : Nat × List St} {v : V} (E : EnvO K M H0 H σ env T τ ρ L b) (p : WayAt (ownO M T env (cellsO ρ L) H) env w v) : PartAt H T env w v := by
  obtain ⟨n, k, t, c, h1, h2, h3⟩ := p
  have := E.base.tg _ _ _ _ h1
  subst this
  exact ⟨k, t, c, h1, h2, h3.same fun a o z => E.base.fr a o z⟩
inductive RV where
  | d (x : D)
  | t (t : Tr)
  | w (w : Nat × List St)
def RVAt (K : PySem.W.Frag) {ξ : Str → Value} (M : Fm ξ) (H0 H : Hp) (σ : L2.St) (e : En) (v : V) : RV → Prop
  | .d d => EnvS K M H0 H σ e ∧ Rep K H0 v d
  | .t t => ∃ u fB T τ ρ, v = .ref u ∧ EnvO K M H0 H σ e T τ ρ [(u, t, fB)] b200
  | .w w => ∃ T τ ρ, EnvO K M H0 H σ e T τ ρ [] b200 ∧ PartAt H T e w v
def PostXC (K : PySem.W.Frag) (W : WX) (ξ : Str → Value) (M : Fm ξ) (σ : L2.St) (H0 : Hp) (Q : VK) : RX RV → Prop
  | .ok r e => ∀ v H0' H', Same H0 H0' → RVAt K M H0' H' σ e v r → Q v H'
  | .exc x e => ∀ H0' H', Same H0 H0' → EnvS K M H0' H' σ e → W (ξ x) none σ H'
  | .bad => False
variable {Q : VK}
theorem PostXC.weak {x : RX RV} (s : Same H0 H0') (p : PostXC K W ξ M σ H0 Q x) : PostXC K W ξ M σ H0' Q x := by
  cases x with
  | ok d e => exact fun v H1 H2 s' => p v H1 H2 (s.trans s')
  | exc c e => exact fun H1 H2 s' => p H1 H2 (s.trans s')
  | bad => exact p
end
section
variable {K : PySem.W.Frag} {ξ : Str → Value} {M : Fm ξ} {σ σ' : L2.St} {env env' : En} {H0 H H0' H' : Hp} {T T' : Nat → Addr} {τ τ' : Nat → Nat → Option V} {ρ ρ' : Nat → List Addr} {L L' : Loose} {b b' : Nat → Nat} {W : WX} {Q : VK}
end

def okOb (c m : Str) : Option Tr → Bool
  | some (.ob c' fs) => decide (c' = c) && (Tr.fld fs m).isNone
  | _ => false
def recvOk (c m : Str) (e : En) : RV → Bool
  | .w w => okOb c m (nodeAt e w)
  | .t t => okOb c m (some t)
  | .d _ => false
section
variable {X : Cx} {W : WX} {ξ : Str → Value} {e o : Expr} {es : List Expr} {pos p apos : Pos} {k : Nat} {f C : Addr} {fd : FuncData} {ps : List Str} {F : List Slot → RF} {x m c : Str} {As : En → R (List Ag)} {P : En → R (Nat × List St)} {Fo : En → RX RV}
theorem okOb_at {K : PySem.W.Frag} {τ : Nat → Option V} {H0 H : Hp} {v : V} {t : Tr} {fp : List Addr} (hC : ξ c = .ref C) (r : TrAt K ξ τ H0 H v t fp) (h : okOb c m (some t) = true) : ∃ a dx fs, v = .ref a ∧ H a = some (.ins C dx fs) ∧ fs.lookup m = none := by
  cases r with
  | @ob a C' dx c' vs ts fp hh ec cl q =>
    unfold okOb at h
    rw [Bool.and_eq_true] at h
    obtain ⟨h1, h2⟩ := h
    have := of_decide_eq_true h1
    subst this
    rw [hC] at ec
    cases ec
    exact ⟨a, dx, vs, rfl, hh, q.none (by simpa using h2)⟩
  | _ => cases h
theorem RVAt.ob {K : PySem.W.Frag} {M : Fm ξ} {σ : L2.St} {env : En} {H0 H : Hp} {v : V} {rv : RV} (hC : ξ c = .ref C) (r : RVAt K M H0 H σ env v rv) (h : recvOk c m env rv = true) : ∃ a dx fs, v = .ref a ∧ H a = some (.ins C dx fs) ∧ fs.lookup m = none := by
  cases rv with
  | d x => cases h
  | t t =>
    obtain ⟨u, fB, T, τ, ρ, e1, E1⟩ := r
    subst e1
    exact okOb_at hC (E1.ls _ List.mem_cons_self).at_ h
  | w w =>
    obtain ⟨T, τ, ρ, E1, pa⟩ := r
    obtain ⟨t, hn, q⟩ := (pa.way E1).node E1.base
    obtain ⟨fp, q⟩ := q
    unfold recvOk at h
    simp only [hn] at h
    obtain ⟨a, dx, fs, h1, h2, h3⟩ := okOb_at hC q h
    exact ⟨a, dx, fs, h1, E1.base.fr _ _ h2, h3⟩
theorem PartAt.keep {H H' : Hp} {T : Nat → Addr} {env : En} {w : Nat × List St} {v : V} (s : Same H H') (p : PartAt H T env w v) : PartAt H' T env w v := by
  obtain ⟨k, t, c, h1, h2, h3⟩ := p
  exact ⟨k, t, c, h1, h2, h3.same fun a o z => s a o z⟩
end
end Dx

namespace Dx
open PySem PySem.Spec PyProof.Rows L2

section
variable {K : PySem.W.Frag} {ξ : Str → Value} {M : Fm ξ} {σ σ' : L2.St} {env env' : En} {H0 H H0' H' : Hp} {T T' : Nat → Addr} {τ τ' : Nat → Nat → Option V} {ρ ρ' : Nat → List Addr} {L L' N : Loose} {b b' : Nat → Nat} {W : WX}
theorem LooseAt.keep {x : Addr × Tr × List Addr} (h : LooseAt K ξ H0 H x) (s0 : Same H0 H0') (k : ∀ a ∈ x.2.2, ∀ o, H a = some o → H' a = some o) : LooseAt K ξ H0' H' x :=
  ⟨h.at_.map (fun _ _ r => r.mono s0) (fun _ _ e => e) k, h.cl⟩
theorem EnvO.fresh (E : EnvO K M H0 H σ env T τ ρ (N ++ L) b) {q : Addr} {o : HO} {t : Tr} (hq : H q = none) (h : LooseAt K ξ H0 (upd H q o) (q, t, q :: fpsOf N)) : EnvO K M H0 (upd H q o) σ env T τ ρ ((q, t, q :: fpsOf N) :: L) b := by
  have nd := E.nd
  unfold cellsO at nd
  rw [List.flatMap_append] at nd
  have n1 : (fpsOf N).Nodup := (List.nodup_append.mp (List.nodup_append.mp nd).2.1).1
  have h0 : H0 q = none := E.base.same.free hq
  have cell : ∀ a ∈ fpsOf N, H0 a = none ∧ H a ≠ none ∧ ∃ y ∈ N, a ∈ y.2.2 := fun a ha => by
    obtain ⟨y, hy, h2⟩ := List.mem_flatMap.mp ha
    have := E.cell (mem_cells.mpr (.inr ⟨y, List.mem_append_left _ hy, h2⟩))
    exact ⟨this.1, this.2, y, hy, h2⟩
  refine E.mod (Ls' := [(q, t, q :: fpsOf N)]) (Same.refl _) (fun a u e => ?_) (fun a o' e _ => ?_) (fun a _ e _ => e) (fun x hx => ?_) (fun x hx a ha => ?_) ?_
  · rw [upd_ne (ne_of_none e h0)]; exact E.base.same _ _ e
  · rw [upd_ne (ne_of_none e hq)]; exact e
  · rw [List.mem_singleton] at hx; subst hx; exact h
  · rw [List.mem_singleton] at hx; subst hx
    rcases List.mem_cons.mp ha with z | z
    · subst z; exact ⟨.inr hq, h0⟩
    · obtain ⟨c1, c2, y, hy, h2⟩ := cell a z
      exact ⟨.inl ⟨y, hy, h2⟩, c1⟩
  · show (List.flatMap (fun x => x.2.2) [(q, t, q :: fpsOf N)]).Nodup
    rw [List.flatMap_cons, List.flatMap_nil, List.append_nil]
    exact List.nodup_cons.mpr ⟨fun z => (cell q z).2.1 hq, n1⟩

inductive MixAt (K : PySem.W.Frag) (H0 : Hp) : List V → List Tr → Loose → Prop
  | nil : MixAt K H0 [] [] []
  | d {v : V} {vs : List V} {x : D} {ts : List Tr} {N : Loose} : Rep K H0 v x → MixAt K H0 vs ts N → MixAt K H0 (v :: vs) (.da x :: ts) N
  | t {u : Addr} {vs : List V} {t : Tr} {fB : List Addr} {ts : List Tr} {N : Loose} : MixAt K H0 vs ts N → MixAt K H0 (.ref u :: vs) (t :: ts) ((u, t, fB) :: N)
inductive MixKv (K : PySem.W.Frag) (H0 : Hp) : List (Key × V) → List (Key × Tr) → Loose → Prop
  | nil : MixKv K H0 [] [] []
  | d {k : Key} {v : V} {vs : List (Key × V)} {x : D} {ts : List (Key × Tr)} {N : Loose} : keyOk k = true → Rep K H0 v x → MixKv K H0 vs ts N → MixKv K H0 ((k, v) :: vs) ((k, .da x) :: ts) N
  | t {k : Key} {u : Addr} {vs : List (Key × V)} {t : Tr} {fB : List Addr} {ts : List (Key × Tr)} {N : Loose} : keyOk k = true → MixKv K H0 vs ts N → MixKv K H0 ((k, .ref u) :: vs) ((k, t) :: ts) ((u, t, fB) :: N)
theorem MixAt.all : ∀ {vs : List V} {ts : List Tr} {N : Loose}, MixAt K H0 vs ts N → (∀ x ∈ N, LooseAt K ξ H0 H x) → TrAll K ξ (fun _ => none) H0 H vs ts (fpsOf N) ∧ Tr.halls (fun _ => false) ts = true
  | _, _, _, .nil, _ => ⟨.nil, rfl⟩
  | _, _, _, .d r q, h => ⟨.cons (.da r) (MixAt.all q h).1, by simp only [Tr.halls, Tr.hall, Bool.true_and]; exact (MixAt.all q h).2⟩
  | _, _, _, @MixAt.t _ _ u vs t1 fB ts N q, h => by
    have h1 := h (u, t1, fB) List.mem_cons_self
    obtain ⟨h2, h3⟩ := MixAt.all q fun x hx => h x (List.mem_cons_of_mem _ hx)
    refine ⟨?_, ?_⟩
    · show TrAll K ξ _ H0 H _ _ (List.flatMap _ _)
      rw [List.flatMap_cons]
      exact .cons h1.at_ h2
    · simp only [Tr.halls, Bool.and_eq_true]; exact ⟨h1.cl, h3⟩
theorem MixKv.all : ∀ {vs : List (Key × V)} {ts : List (Key × Tr)} {N : Loose}, MixKv K H0 vs ts N → (∀ x ∈ N, LooseAt K ξ H0 H x) → TrKv K ξ (fun _ => none) H0 H vs ts (fpsOf N) ∧ Tr.hallk (fun _ => false) ts = true
  | _, _, _, .nil, _ => ⟨.nil, rfl⟩
  | _, _, _, .d k r q, h => ⟨.cons k (.da r) (MixKv.all q h).1, by simp only [Tr.hallk, Tr.hall, Bool.true_and]; exact (MixKv.all q h).2⟩
  | _, _, _, @MixKv.t _ _ kk u vs t1 fB ts N k q, h => by
    have h1 := h (u, t1, fB) List.mem_cons_self
    obtain ⟨h2, h3⟩ := MixKv.all q fun x hx => h x (List.mem_cons_of_mem _ hx)
    refine ⟨?_, ?_⟩
    · show TrKv K ξ _ H0 H _ _ (List.flatMap _ _)
      rw [List.flatMap_cons]
      exact .cons k h1.at_ h2
    · simp only [Tr.hallk, Bool.and_eq_true]; exact ⟨h1.cl, h3⟩
theorem MixAt.length : ∀ {vs : List V} {ts : List Tr} {N : Loose}, MixAt K H0 vs ts N → vs.length = ts.length
  | _, _, _, .nil => rfl
  | _, _, _, .d _ q => by simp [MixAt.length q]
  | _, _, _, .t q => by simp [MixAt.length q]
theorem MixKv.length : ∀ {vs : List (Key × V)} {ts : List (Key × Tr)} {N : Loose}, MixKv K H0 vs ts N → vs.length = ts.length
  | _, _, _, .nil => rfl
  | _, _, _, .d _ _ q => by simp [MixKv.length q]
  | _, _, _, .t _ q => by simp [MixKv.length q]
theorem MixKv.keys : ∀ {vs : List (Key × V)} {ts : List (Key × Tr)} {N : Loose}, MixKv K H0 vs ts N → vs.map (·.1) = ts.map (·.1)
  | _, _, _, .nil => rfl
  | _, _, _, .d _ _ q => by simp [MixKv.keys q]
  | _, _, _, .t _ q => by simp [MixKv.keys q]
variable {Q : VK}
def PostXM (K : PySem.W.Frag) (W : WX) (ξ : Str → Value) (M : Fm ξ) (σ : L2.St) (H0 : Hp) (Q : List V → Hp → Prop) : RX (List Tr) → Prop
  | .ok ts e => ∀ vs N T τ ρ H0' H', Same H0 H0' → EnvO K M H0' H' σ e T τ ρ N b200 → MixAt K H0' vs ts N → Q vs H'
  | .exc x e => ∀ H0' H', Same H0 H0' → EnvS K M H0' H' σ e → W (ξ x) none σ H'
  | .bad => False
def PostXQ (K : PySem.W.Frag) (W : WX) (ξ : Str → Value) (M : Fm ξ) (σ : L2.St) (H0 : Hp) (Q : List (V × V) → Hp → Prop) : RX (List (Key × Tr)) → Prop
  | .ok ts e => ∀ kvs N T τ ρ H0' H', Same H0 H0' → EnvO K M H0' H' σ e T τ ρ N b200 → MixKv K H0' kvs ts N → Q (kvs.map fun kv => (kV kv.1, kv.2)) H'
  | .exc x e => ∀ H0' H', Same H0 H0' → EnvS K M H0' H' σ e → W (ξ x) none σ H'
  | .bad => False
theorem PostXM.weak {x : RX (List Tr)} {Q : List V → Hp → Prop} (s : Same H0 H0') (p : PostXM K W ξ M σ H0 Q x) : PostXM K W ξ M σ H0' Q x := by
  cases x with
  | ok d e => exact fun v N T τ ρ H1 H2 s' => p v N T τ ρ H1 H2 (s.trans s')
  | exc c e => exact fun H1 H2 s' => p H1 H2 (s.trans s')
  | bad => exact p
theorem PostXQ.weak {x : RX (List (Key × Tr))} {Q : List (V × V) → Hp → Prop} (s : Same H0 H0') (p : PostXQ K W ξ M σ H0 Q x) : PostXQ K W ξ M σ H0' Q x := by
  cases x with
  | ok d e => exact fun v N T τ ρ H1 H2 s' => p v N T τ ρ H1 H2 (s.trans s')
  | exc c e => exact fun H1 H2 s' => p H1 H2 (s.trans s')
  | bad => exact p
end
structure XPs (X : Cx) (W : WX) (ξ : Str → Value) (pos : Pos) (keys : List (Option Expr)) (values : List Expr) (F : En → RX (List (Key × Tr))) : Prop where
  ex : ∃ trs, PPs X pos keys values trs ∧ ∀ (σ : L2.St) (H : Hp) (Q : List (V × V) → Hp → Prop) (M : Fm ξ) (H0 : Hp) (env : En), EnvS X.K M H0 H σ env → PostXQ X.K W ξ M σ H0 Q (F env) → tPairs trs σ H Q
section
variable {X : Cx} {W : WX} {ξ : Str → Value} {e kx : Expr} {es vs : List Expr} {ks : List (Option Expr)} {pos p : Pos} {fa fb : En → RX D} {ft : En → RX Tr} {Fs : En → RX (List Tr)} {Fp : En → RX (List (Key × Tr))} {x c : Str}
theorem putK_new {kvs : List (Key × V)} {k : Key} {v : V} (h : k ∉ kvs.map (·.1)) : putK kvs k v = kvs ++ [(k, v)] := by
  unfold putK
  rw [if_neg]
  intro z
  obtain ⟨kv, h1, h2⟩ := List.any_eq_true.mp z
  exact h (List.mem_map.mpr ⟨kv, h1, of_decide_eq_true h2⟩)
theorem argsL_d {K : PySem.W.Frag} {H0 : Hp} : ∀ {i : Nat} {vs : List V} {ds : List D}, RepAll K H0 vs ds → ArgsL K H0 i vs (ds.map Slot.d) []
  | _, _, _, .nil => .nil
  | _, _, _, .cons r q => .d r (argsL_d q)
variable {f C : Addr} {k : Nat} {fd : FuncData} {ps : List Str} {F : List Slot → RF} {As : En → R (List D)}
end
end Dx

namespace Dx
open PySem PySem.Spec PyProof.Rows L2

inductive OutX where
  | nx (e : En)
  | rt (r : RV) (e : En)
  | bk (e : En)
  | ct (e : En)
  | exc (c : Str) (e : En)
  | bad
def PostSX (K : PySem.W.Frag) (W : WX) (ξ : Str → Value) (M : Fm ξ) (H0 : Hp) (Dn : Ends) : OutX → Prop
  | .nx e => ∀ σ' H0' H', Same H0 H0' → EnvS K M H0' H' σ' e → Dn.nx σ' H'
  | .rt r e => ∀ v σ' H0' H', Same H0 H0' → RVAt K M H0' H' σ' e v r → Dn.rt v H'
  | .bk e => ∀ σ' H0' H', Same H0 H0' → EnvS K M H0' H' σ' e → Dn.bk σ' H'
  | .ct e => ∀ σ' H0' H', Same H0 H0' → EnvS K M H0' H' σ' e → Dn.ct σ' H'
  | .exc x e => ∀ σ' H0' H', Same H0 H0' → EnvS K M H0' H' σ' e → W (ξ x) none σ' H'
  | .bad => False
def tSX (K : PySem.W.Frag) (W : WX) (ξ : Str → Value) (G : En → OutX) : TS := fun Dn σ H => ∃ (M : Fm ξ), ∃ H0 env, EnvS K M H0 H σ env ∧ PostSX K W ξ M H0 Dn (G env)
abbrev SX (X : Cx) (W : WX) (ξ : Str → Value) (st : Stmt) (G : En → OutX) : Prop := PS X st (tSX X.K W ξ G)
abbrev SXs (X : Cx) (W : WX) (ξ : Str → Value) (st : List Stmt) (G : En → OutX) : Prop := PSs X st (tSX X.K W ξ G)
def liftOX {α : Type} (r : RX α) (k : α → En → OutX) : OutX := match r with
  | .ok a e => k a e
  | .exc x e => .exc x e
  | .bad => .bad
@[simp] theorem liftOX_ok {α : Type} (a : α) (e : En) (k : α → En → OutX) : liftOX (.ok a e) k = k a e := (rfl)
@[simp] theorem liftOX_exc {α : Type} (x : Str) (e : En) (k : α → En → OutX) : liftOX (.exc x e) k = .exc x e := (rfl)
@[simp] theorem liftOX_bad {α : Type} (k : α → En → OutX) : liftOX .bad k = .bad := (rfl)
def seqX (o : OutX) (k : En → OutX) : OutX := match o with
  | .nx e => k e
  | o => o
@[simp] theorem seqX_nx (e : En) (k : En → OutX) : seqX (.nx e) k = k e := (rfl)
@[simp] theorem seqX_rt (r : RV) (e : En) (k : En → OutX) : seqX (.rt r e) k = .rt r e := (rfl)
@[simp] theorem seqX_bk (e : En) (k : En → OutX) : seqX (.bk e) k = .bk e := (rfl)
@[simp] theorem seqX_ct (e : En) (k : En → OutX) : seqX (.ct e) k = .ct e := (rfl)
@[simp] theorem seqX_exc (c : Str) (e : En) (k : En → OutX) : seqX (.exc c e) k = .exc c e := (rfl)
@[simp] theorem seqX_bad (k : En → OutX) : seqX .bad k = .bad := (rfl)
section
variable {K : PySem.W.Frag} {ξ : Str → Value} {M : Fm ξ} {σ σ' : L2.St} {env env' : En} {H0 H H0' H' : Hp} {T T' : Nat → Addr} {τ τ' : Nat → Nat → Option V} {ρ ρ' : Nat → List Addr} {L L' N : Loose} {b b' : Nat → Nat} {W : WX} {Q : VK} {Dn : Ends}
theorem PostSX.weak {o : OutX} (s : Same H0 H0') (p : PostSX K W ξ M H0 Dn o) : PostSX K W ξ M H0' Dn o := by
  cases o with
  | nx e => exact fun σ' H0'' H'' s' E => p σ' H0'' H'' (s.trans s') E
  | rt d e => exact fun v σ' H0'' H'' s' E => p v σ' H0'' H'' (s.trans s') E
  | bk e => exact fun σ' H0'' H'' s' E => p σ' H0'' H'' (s.trans s') E
  | ct e => exact fun σ' H0'' H'' s' E => p σ' H0'' H'' (s.trans s') E
  | exc x e => exact fun σ' H0'' H'' s' E => p σ' H0'' H'' (s.trans s') E
  | bad => exact p
theorem lSE {x : RX D} {k : D → En → OutX} (p : PostSX K W ξ M H0 Dn (liftOX x k)) (h : ∀ a e v H0' H', Same H0 H0' → EnvS K M H0' H' σ e → Rep K H0' v a → PostSX K W ξ M H0' Dn (k a e) → Q v H') : PostXE K W ξ M σ H0 Q x := by
  cases x with
  | ok d e => exact fun v H0' H' s E r => h d e v H0' H' s E r (p.weak s)
  | exc c e => exact fun H0' H' s E => p σ H0' H' s E
  | bad => exact p
end

def xsSeq (G1 G2 : En → OutX) : En → OutX := fun env => seqX (G1 env) G2
def xsRet (A : En → RX D) : En → OutX := fun env => liftOX (A env) fun d e => .rt (.d d) e
def isTr : Slot → Bool
  | .tr _ _ _ => true
  | _ => false
def back1 (i : Nat) (e : En) : En := match e[i]? with
  | some (.tr _ (.tkn j p) t) => (match e[j]? with
    | some (.tr _ k tj) => (match Tr.at_ p tj with
      | some (.hl m) => if m = i ∧ j ≠ i ∧ t.closed = true then (e.set i .u).set j (.tr j k (Tr.put p t tj)) else e
      | _ => e)
    | _ => e)
  | _ => e
def backS (is : List Nat) (e : En) : En := is.foldl (fun e i => back1 i e) e
def forX (T : D → En → R En) (B : En → OutX) : List D → En → OutX
  | [], env => .nx env
  | d :: ds, env => match T d env with
    | .ok e1 => (match B e1 with
      | .nx e => forX T B ds e
      | .ct e => forX T B ds e
      | .bk e => .nx e
      | o => o)
    | _ => .bad
section
variable {K : PySem.W.Frag} {ξ : Str → Value} {M : Fm ξ} {σ σ' : L2.St} {env env' : En} {H0 H H0' H' : Hp} {T T' : Nat → Addr} {τ τ' : Nat → Nat → Option V} {ρ ρ' : Nat → List Addr} {L L' N : Loose} {b b' : Nat → Nat} {W : WX} {Q : VK} {Dn : Ends}
theorem EnvS.set (E : EnvS K M H0 H σ env) {v : V} {x : D} (i : Nat) (r : Rep K H0 v x) : EnvS K M H0 H (σ.set i (some v)) (env.set i (.d x)) := by
  obtain ⟨M', E1, hM⟩ := E.look
  exact hM (Same.refl _) (E1.set i r)
theorem EnvS.kills (E : EnvS K M H0 H σ env) (is : List Nat) : EnvS K M H0 H σ (killS is env) := by
  obtain ⟨M', E1, hM⟩ := E.look
  exact hM (Same.refl _) (E1.kills is)
theorem back1_ok (E : EnvO K M H0 H σ env T τ ρ L b200) (i : Nat) : ∃ ρ', EnvO K M H0 H σ (back1 i env) T τ ρ' L b200 := by
  unfold back1
  split
  · rename_i n j p t hi
    have := E.base.tg _ _ _ _ hi
    subst this
    split
    · rename_i n' k tj hj
      have := E.base.tg _ _ _ _ hj
      subst this
      split
      · rename_i m hp
        split
        · rename_i hc
          obtain ⟨hm, hne, hcl⟩ := hc
          subst hm
          have q := E.tr _ _ _ hi
          have qj := E.tr _ _ _ hj
          have E1 := E.rise hi hcl
          have hj' : (env.set m .u)[n']? = some (.tr n' k tj) := by rw [List.getElem?_set_ne (Ne.symm hne)]; exact hj
          obtain ⟨ρ', E2⟩ := E1.back (n0 := 200) hj' hp (q.tkn n' p rfl) (Tr.hall_put qj.hb (Tr.closed_hall hcl _))
          refine ⟨ρ', ?_⟩
          have hb : updB b200 n' 200 = b200 := by
            funext x
            show (if x = n' then 200 else 200) = 200
            split <;> rfl
          rw [hb] at E2
          exact E2
        · exact ⟨ρ, E⟩
      · exact ⟨ρ, E⟩
    · exact ⟨ρ, E⟩
  · exact ⟨ρ, E⟩
theorem EnvS.backs (E : EnvS K M H0 H σ env) : ∀ (is : List Nat), EnvS K M H0 H σ (backS is env) := by
  intro is
  induction is generalizing env with
  | nil => exact E
  | cons i is ih =>
    obtain ⟨T, τ, ρ, E⟩ := E
    obtain ⟨ρ', E1⟩ := back1_ok E i
    exact ih ⟨T, τ, ρ', E1⟩
end
section
variable {X : Cx} {W : WX} {ξ : Str → Value} {e a b : Expr} {es : List Expr} {c c1 c2 c3 : Bool} {pos : Pos} {fa fb : En → RX D} {ft : En → RX Tr} {fc : En → RX RV} {st : Stmt} {body rest sa sb : List Stmt} {G G1 G2 B : En → OutX} {Gd : En → Out}
theorem sxs_one (h1 : SX X W ξ st G1) : SXs X W ξ [st] G1 := pss_one h1
theorem sxs_cons (h1 : SX X W ξ st G1) (h2 : SXs X W ξ rest G2) : SXs X W ξ (st :: rest) (xsSeq G1 G2) :=
  pssImp (pss_cons h1 h2) fun Dn σ H ⟨M, H0, env, E, p⟩ => ⟨M, H0, env, E, by
    have p : PostSX X.K W ξ M H0 Dn (seqX (G1 env) G2) := p
    cases hG : G1 env with
    | nx e => rw [hG] at p; exact fun σ' H0' H' s E' => ⟨M, H0', e, E', p.weak s⟩
    | rt d e => rw [hG] at p; exact p
    | bk e => rw [hG] at p; exact p
    | ct e => rw [hG] at p; exact p
    | exc x e => rw [hG] at p; exact p
    | bad => rw [hG] at p; exact p⟩
theorem sx_ret (h : XE X W ξ e fa) : SX X W ξ (.Return (some e) pos) (xsRet fa) :=
  psImp (ps_ret h) fun Dn σ H ⟨M, H0, env, E, p⟩ => ⟨M, H0, env, E, lSE p fun d e v H0' H' s E' r p => p v σ H0' H' (Same.refl _) ⟨E', r⟩⟩
section
variable {i : Nat} {x : Str} {pos' : Pos}
end
end
end Dx

namespace Dx
open PySem PySem.Spec PyProof.Rows L2

section
variable {K : PySem.W.Frag} {ξ : Str → Value} {M : Fm ξ} {σ σ' : L2.St} {env env' : En} {H0 H H0' H' : Hp} {T T' : Nat → Addr} {τ τ' : Nat → Nat → Option V} {ρ ρ' : Nat → List Addr} {L L' N : Loose} {b b' : Nat → Nat} {W : WX} {Q : VK} {Dn : Ends}
theorem PartAt.node {w : Nat × List St} {v : V} (p : PartAt H T env w v) : ∃ c, nodeAt env w = some c := by
  obtain ⟨k, t, c, h1, h2, _⟩ := p
  exact ⟨c, by unfold nodeAt; rw [h1]; exact h2⟩
theorem EnvO.node (E : EnvO K M H0 H σ env T τ ρ (N ++ L) b200) {w : Nat × List St} {v : V} {c : Tr} (pa : PartAt H T env w v) (hn : nodeAt env w = some c) (hd : c.isD = false) (hc : c.closed = true) :
    ∃ a fB, v = .ref a ∧ LooseAt K ξ H0 H (a, c, fB) ∧ (fB ++ fpsOf N).Nodup ∧ (∀ x ∈ fB ++ fpsOf N, H0 x = none) ∧
      ∀ (H0' H' : Hp) (c' : Tr) (fB' : List Addr), Same H0 H0' → Same H0' H' → (∀ x o, H x = some o → x ∉ fB ++ fpsOf N → H' x = some o) → (∀ x, H x ≠ none → H0 x = none → x ∉ fB ++ fpsOf N → H0' x = none) →
        LooseAt K ξ H0' H' (a, c', fB') → fB'.Nodup → (∀ x ∈ fB', x ∈ fB ++ fpsOf N ∧ H0' x = none) → ∃ τ' ρ', EnvO K M H0' H' σ (putAll env [.t w] [c']) T τ' ρ' L b200 := by
  have ha : argsE 0 env [.t w] = .ok [.tr 0 .par c] := by
    unfold argsE
    rw [hn]
    simp only
    rw [if_pos ⟨hd, hc, by simp [slotsA]⟩]
    rfl
  obtain ⟨τ1, ρ1, Ls, b1, E1, a1, t1, w1, n1, hb⟩ := E.takes ha (.t (pa.way E) .nil)
  cases a1 with
  | @t _ a _ _ fB _ _ a1 =>
    cases a1
    have E1' : EnvO K M H0 H σ (takeAll env [.t w]) T τ1 ρ1 (((a, c, fB) :: N) ++ L) b1 := E1
    have nd := E1'.nd
    unfold cellsO at nd
    rw [List.flatMap_append] at nd
    have n2 : (fB ++ fpsOf N).Nodup := by
      have := (List.nodup_append.mp (List.nodup_append.mp nd).2.1).1
      rw [List.flatMap_cons] at this
      exact this
    have inL : ∀ x, x ∈ fB ++ fpsOf N ↔ ∃ y ∈ ((a, c, fB) :: N), x ∈ y.2.2 := fun x => by
      rw [List.mem_append]
      constructor
      · rintro (h | h)
        · exact ⟨_, List.mem_cons_self, h⟩
        · obtain ⟨y, hy, h2⟩ := List.mem_flatMap.mp h; exact ⟨y, List.mem_cons_of_mem _ hy, h2⟩
      · rintro ⟨y, hy, h⟩
        rcases List.mem_cons.mp hy with e | hy
        · subst e; exact .inl h
        · exact .inr (List.mem_flatMap.mpr ⟨y, hy, h⟩)
    refine ⟨a, fB, rfl, E1'.ls _ (by simp), n2, fun x hx => ?_, fun H0' H' c' fB' s0 s1 k2 k3 hl nd' hc' => ?_⟩
    · obtain ⟨y, hy, h2⟩ := (inL x).mp hx
      exact (E1'.cell (mem_cells.mpr (.inr ⟨y, List.mem_append_left _ hy, h2⟩))).1
    · have E2 : EnvO K M H0' H' σ (takeAll env [.t w]) T τ1 ρ1 ([(a, c', fB')] ++ L) b1 := by
        refine E1'.mod s0 s1 (fun x o e hx => k2 x o e fun z => ?_) (fun x e1 e2 hx => k3 x e1 e2 fun z => ?_) (fun x hx => ?_) (fun x hx y hy => ?_) ?_
        · obtain ⟨y, hy, h2⟩ := (inL x).mp z; exact hx y hy h2
        · obtain ⟨y, hy, h2⟩ := (inL x).mp z; exact hx y hy h2
        · rw [List.mem_singleton] at hx; subst hx; exact hl
        · rw [List.mem_singleton] at hx; subst hx
          obtain ⟨z1, z2⟩ := hc' y hy
          exact ⟨.inl ((inL y).mp z1), z2⟩
        · show (List.flatMap (fun x => x.2.2) [(a, c', fB')]).Nodup
          rw [List.flatMap_cons, List.flatMap_nil, List.append_nil]
          exact nd'
      obtain ⟨ρ2, E3⟩ := EnvO.backs E2 w1 (t1.adr (by rfl)) n1 hb
      exact ⟨τ1, ρ2, E3⟩
end

def Tr.setf (f : Str) (t : Tr) : List (Str × Tr) → List (Str × Tr)
  | [] => [(f, t)]
  | (g, x) :: r => if g = f then (g, t) :: r else (g, x) :: Tr.setf f t r
def Tr.dropk (k : Key) (kvs : List (Key × Tr)) : List (Key × Tr) := kvs.filter fun kv => decide (kv.1 ≠ k)
section
variable {K : PySem.W.Frag} {ξ : Str → Value} {τ : Nat → Option V} {H0 H : Hp} {p : Nat → Bool}
theorem TrFs.set {C : Addr} {f : Str} {v : V} {t : Tr} {fq : List Addr} (hna : NoAttr K C f) (r0 : TrAt K ξ τ H0 H v t fq) : ∀ {vs : List (Str × V)} {ts : List (Str × Tr)} {fp : List Addr}, TrFs K ξ τ H0 H C vs ts fp →
    ∃ fp' r, TrFs K ξ τ H0 H C (putF f v vs) (Tr.setf f t ts) fp' ∧ (fp' ++ r).Perm (fp ++ fq)
  | _, _, _, .nil => ⟨fq ++ [], [], .cons hna r0 .nil, by simp⟩
  | _, _, _, @TrFs.cons _ _ _ _ _ _ g x vs y ts fp fp2 n r q => by
    unfold putF Tr.setf
    by_cases e : g = f
    · rw [if_pos e, if_pos e]
      subst e
      refine ⟨fq ++ fp2, fp, .cons n r0 q, ?_⟩
      rw [List.append_assoc]
      refine List.perm_append_comm.trans ?_
      exact List.Perm.append_right _ List.perm_append_comm
    · rw [if_neg e, if_neg e]
      obtain ⟨fp', r', h1, h2⟩ := TrFs.set hna r0 q
      exact ⟨fp ++ fp', r', .cons n r h1, by rw [List.append_assoc, List.append_assoc]; exact h2.append_left fp⟩
theorem TrKv.snoc {k : Key} {v : V} {t : Tr} {fq : List Addr} (hk : keyOk k = true) (r0 : TrAt K ξ τ H0 H v t fq) : ∀ {vs : List (Key × V)} {ts : List (Key × Tr)} {fp : List Addr}, TrKv K ξ τ H0 H vs ts fp → TrKv K ξ τ H0 H (vs ++ [(k, v)]) (ts ++ [(k, t)]) (fp ++ fq)
  | _, _, _, .nil => by
    have : TrKv K ξ τ H0 H [(k, v)] [(k, t)] (fq ++ []) := .cons hk r0 .nil
    rw [List.append_nil] at this; exact this
  | _, _, _, .cons h r q => by
    rw [List.append_assoc]
    exact .cons h r (TrKv.snoc hk r0 q)
theorem TrKv.drop {k : Key} {vs : List (Key × V)} {ts : List (Key × Tr)} {fp : List Addr} (q : TrKv K ξ τ H0 H vs ts fp) : ∃ fp' r, TrKv K ξ τ H0 H (dropK vs k) (Tr.dropk k ts) fp' ∧ (fp' ++ r).Perm fp := by
  unfold dropK Tr.dropk
  induction vs generalizing ts fp with
  | nil => cases q; exact ⟨[], [], .nil, .refl _⟩
  | cons x vs ih =>
    cases q with
    | @cons g x' _ t ts fp1 fp2 h r q =>
      obtain ⟨fp', r', h1, h2⟩ := ih q
      rw [List.filter_cons, List.filter_cons]
      by_cases e : g = k
      · rw [if_neg (by simp [e]), if_neg (by simp [e])]
        refine ⟨fp', r' ++ fp1, h1, ?_⟩
        rw [← List.append_assoc]
        exact (h2.append_right fp1).trans List.perm_append_comm
      · rw [if_pos (by simp [e]), if_pos (by simp [e])]
        exact ⟨fp1 ++ fp', r', .cons h r h1, by rw [List.append_assoc]; exact h2.append_left fp1⟩
theorem TrKv.val {k : Key} : ∀ {vs : List (Key × V)} {ts : List (Key × Tr)} {fp : List Addr}, TrKv K ξ τ H0 H vs ts fp → Tr.key ts k = none → valV vs k = none
  | _, _, _, .nil, _ => rfl
  | _, _, _, @TrKv.cons _ _ _ _ _ g v vs t' ts fp fq n r q, h => by
    by_cases e : g = k
    · subst e
      have : Tr.key ((g, t') :: ts) g = some t' := by simp [Tr.key]
      rw [this] at h; cases h
    · have h' : Tr.key ts k = none := by simpa [Tr.key, List.find?_cons, e] using h
      rw [valV_neg (p := (g, v)) e]; exact TrKv.val q h'
end

def datas : List Tr → Option (List D)
  | [] => some []
  | .da d :: ts => (datas ts).map (d :: ·)
  | _ :: _ => none
def frzN (w : Nat × List St) (e : En) : En := match nodeAt e w with
  | some (.ls ts) => (match datas ts with
    | some ds => putAll e [.t w] [.da (.lst ds)]
    | none => e)
  | _ => e
section
variable {X : Cx} {W : WX} {ξ : Str → Value} {e o y : Expr} {pos p pos' apos : Pos} {fa : En → RX D} {ft : En → RX Tr} {fy fd' fb : En → R D} {P : En → R (Nat × List St)} {c f : Str} {C : Addr} {st : Stmt} {body : List Stmt} {G : En → OutX}
variable {K : PySem.W.Frag} {M : Fm ξ} {σ : L2.St} {env : En} {H0 H : Hp} {T : Nat → Addr} {τ : Nat → Nat → Option V} {ρ : Nat → List Addr} {N : Loose} {Dn : Ends}
theorem datas_rep : ∀ {ts : List Tr} {ds : List D} {vs : List V} {fp : List Addr} {τ : Nat → Option V}, datas ts = some ds → TrAll K ξ τ H0 H vs ts fp → RepAll K H0 vs ds ∧ fp = []
  | [], _, _, _, _, h, .nil => by cases h; exact ⟨.nil, rfl⟩
  | .da d :: ts, ds, _, _, _, h, .cons r q => by
    unfold datas at h
    obtain ⟨ds', h1, rfl⟩ := Option.map_eq_some_iff.mp h
    obtain ⟨h2, rfl⟩ := datas_rep h1 q
    cases r with
    | da r => exact ⟨.cons r h2, rfl⟩
  | .ls _ :: _, _, _, _, _, h, _ => by cases h
  | .dc _ :: _, _, _, _, _, h, _ => by cases h
  | .ob _ _ :: _, _, _, _, _, h, _ => by cases h
  | .hl _ :: _, _, _, _, _, h, _ => by cases h
theorem datas_len : ∀ {ts : List Tr} {ds : List D}, datas ts = some ds → ts.length = ds.length
  | [], _, h => by cases h; rfl
  | .da d :: ts, ds, h => by
    unfold datas at h
    obtain ⟨ds', h1, rfl⟩ := Option.map_eq_some_iff.mp h
    simp [datas_len h1]
  | .ls _ :: _, _, h => by cases h
  | .dc _ :: _, _, h => by cases h
  | .ob _ _ :: _, _, h => by cases h
  | .hl _ :: _, _, h => by cases h
theorem datas_closed : ∀ {ts : List Tr} {ds : List D}, datas ts = some ds → (Tr.ls ts).closed = true
  | [], _, h => rfl
  | .da d :: ts, ds, h => by
    unfold datas at h
    obtain ⟨ds', h1, rfl⟩ := Option.map_eq_some_iff.mp h
    exact datas_closed (ts := ts) h1
  | .ls _ :: _, _, h => by cases h
  | .dc _ :: _, _, h => by cases h
  | .ob _ _ :: _, _, h => by cases h
  | .hl _ :: _, _, h => by cases h
theorem EnvS.frzN (E : EnvS K M H0 H σ env) (w : Nat × List St) : ∃ H0', Same H0 H0' ∧ EnvS K M H0' H σ (frzN w env) := by
  obtain ⟨T, τ, ρ, E⟩ := E
  unfold Dx.frzN
  split
  · rename_i ts hn
    split
    · rename_i ds hds
      have E0 : EnvO K M H0 H σ env T τ ρ ([] ++ []) b200 := E
      -- where it stands
      obtain ⟨v, pa⟩ : ∃ v, PartAt H T env w v := by
        unfold nodeAt at hn
        cases h1 : env[w.1]? with
        | none => rw [h1] at hn; cases hn
        | some s =>
          rw [h1] at hn
          cases s with
          | tr n k t =>
            have := E.base.tg _ _ _ _ h1
            subst this
            obtain ⟨u, fq, hv, _, _⟩ := TrAt.way (fp := ρ w.1) (E.tr _ _ _ h1).at_ hn
            exact ⟨u, k, t, _, h1, hn, hv⟩
          | _ => cases hn
      obtain ⟨a, fB, rfl, hl, nd, h0, k⟩ := E0.node pa hn rfl (datas_closed hds)
      have hat : TrAt K ξ (fun _ => none) H0 H (.ref a) (.ls ts) fB := hl.at_
      cases hat with
      | @ls _ vs _ fp hh z q =>
        obtain ⟨hr, rfl⟩ := datas_rep hds q
        have ha0 : H0 a = none := h0 a (by simp)
        have s0 : Same H0 (upd H0 a (.lst vs)) := same_upd ha0
        have s1 : Same (upd H0 a (.lst vs)) H := fun x u e => by
          by_cases hb : x = a
          · subst hb; rw [upd_same] at e; cases e; exact hh
          · rw [upd_ne hb] at e; exact E.base.same _ _ e
        have k3 : ∀ x, H x ≠ none → H0 x = none → x ∉ [a] ++ fpsOf [] → upd H0 a (.lst vs) x = none := fun x e1 e2 e3 => by
          rw [upd_ne fun z => e3 (by simp [z])]; exact e2
        obtain ⟨τ', ρ', E2⟩ := k (upd H0 a (.lst vs)) H (.da (.lst ds)) [] s0 s1 (fun _ _ e _ => e) k3 ⟨.da (.lst upd_same (by rw [← datas_len hds]; exact z) (hr.mono s0)), rfl⟩ .nil (fun x hx => by cases hx)
        exact ⟨_, s0, ⟨_, _, _, E2⟩⟩
    · exact ⟨H0, Same.refl _, ⟨T, τ, ρ, E⟩⟩
  · exact ⟨H0, Same.refl _, ⟨T, τ, ρ, E⟩⟩
end
end Dx

namespace Dx
open PySem PySem.Spec PyProof.Rows L2

def idxs : Nat → List Slot → List Nat
  | _, [] => []
  | j, s :: ss => if isTr s = true then j :: idxs (j + 1) ss else idxs (j + 1) ss
def tsOf (e : En) : List Nat → Option (List Tr)
  | [] => some []
  | j :: js => match e[j]? with
    | some (.tr _ .par t) => if t.closed = true then (tsOf e js).map (t :: ·) else none
    | _ => none
def ixOf (i : Nat) : List Nat → Option Nat
  | [] => none
  | j :: js => if j = i then some 0 else (ixOf i js).map (· + 1)
def exitE (ss : List Slot) (rv : RV) (e : En) : RF := match tsOf e (idxs 0 ss) with
  | some ts => (match rv with
    | .d d => .ok (.d d) ts
    | .t t => .ok (.t t) ts
    | .w w => (match ixOf w.1 (idxs 0 ss) with
      | some i => .ok (.part i w.2) ts
      | none => .bad))
  | none => .bad
def exitX (ss : List Slot) (c : Str) (e : En) : RF := match tsOf e (idxs 0 ss) with
  | some ts => .exc c ts
  | none => .bad
def runE (m : Nat) (G : En → OutX) (ss : List Slot) : RF := match G (ss ++ List.replicate m .u) with
  | .rt rv e => exitE ss rv e
  | .nx e => exitE ss (.d .non) e
  | .exc c e => exitX ss c e
  | _ => .bad
def defE (n m : Nat) (G : En → OutX) (ss : List Slot) : RF := if ss.length = n then runE m G ss else .bad

inductive Zp {α β : Type} (P : α → β → Prop) : List α → List β → Prop
  | nil : Zp P [] []
  | cons {a : α} {b : β} {as : List α} {bs : List β} : P a b → Zp P as bs → Zp P (a :: as) (b :: bs)
def rhoZ : List Nat → Loose → Nat → List Addr
  | j :: js, x :: Ls, n => if n = j then x.2.2 else rhoZ js Ls n
  | _, _, _ => []
def lsOf (T : Nat → Addr) (ρ : Nat → List Addr) : List Nat → List Tr → Loose
  | j :: js, t :: ts => (T j, t, ρ j) :: lsOf T ρ js ts
  | _, _ => []
section
variable {K : PySem.W.Frag} {ξ : Str → Value} {M : Fm ξ} {σ σ' : L2.St} {env env' : En} {H0 H H0' H' : Hp} {T T' : Nat → Addr} {τ τ' : Nat → Nat → Option V} {ρ ρ' : Nat → List Addr} {L L' N : Loose} {b b' : Nat → Nat} {W : WX} {Q : VK} {Dn : Ends}
theorem idxs_sub : ∀ {ss : List Slot} {j : Nat}, (idxs j ss).Sublist (List.range' j ss.length)
  | [], _ => .slnil
  | s :: ss, j => by
    unfold idxs
    rw [List.length_cons, List.range'_succ]
    split
    · exact idxs_sub.cons₂ _
    · exact idxs_sub.cons _
theorem idxs_range {ss : List Slot} (h : ss.length ≤ 100) : (idxs 0 ss).Sublist (List.range 100) := by
  refine idxs_sub.trans ?_
  rw [List.range_eq_range']
  exact List.range'_sublist_right.mpr h
theorem sub_fm {l l' : List Nat} (f : Nat → List Addr) (h : l.Sublist l') : (l.flatMap f).Sublist (l'.flatMap f) := by
  induction h with
  | slnil => exact .slnil
  | cons a _ ih => rw [List.flatMap_cons]; exact ih.trans (List.sublist_append_right _ _)
  | cons_cons a _ ih => rw [List.flatMap_cons, List.flatMap_cons]; exact (List.Sublist.refl _).append ih
theorem ArgsL.ats {vs0 : List V} {ss0 : List Slot} : ∀ {j : Nat} {vs : List V} {ss : List Slot} {Ls : Loose}, ArgsL K H0 j vs ss Ls → (∀ n, vs[n]? = vs0[j + n]?) → (∀ n, ss[n]? = ss0[j + n]?) →
    Zp (fun (i : Nat) (x : Addr × Tr × List Addr) => vs0[i]? = some (.ref x.1) ∧ ss0[i]? = some (.tr i .par x.2.1)) (idxs j ss) Ls
  | _, _, _, _, .nil, _, _ => .nil
  | j, _, _, _, .d r q, hv, hs => by
    show Zp _ (idxs (j + 1) _) _
    exact ArgsL.ats q (fun n => by have := hv (n + 1); rw [show j + (n + 1) = j + 1 + n from by omega] at this; simpa using this) (fun n => by have := hs (n + 1); rw [show j + (n + 1) = j + 1 + n from by omega] at this; simpa using this)
  | j, _, _, _, .u q, hv, hs => by
    show Zp _ (idxs (j + 1) _) _
    exact ArgsL.ats q (fun n => by have := hv (n + 1); rw [show j + (n + 1) = j + 1 + n from by omega] at this; simpa using this) (fun n => by have := hs (n + 1); rw [show j + (n + 1) = j + 1 + n from by omega] at this; simpa using this)
  | j, _, _, _, .t q, hv, hs => .cons ⟨by have := hv 0; simpa using this.symm, by have := hs 0; simpa using this.symm⟩ (ArgsL.ats q (fun n => by have := hv (n + 1); rw [show j + (n + 1) = j + 1 + n from by omega] at this; simpa using this) (fun n => by have := hs (n + 1); rw [show j + (n + 1) = j + 1 + n from by omega] at this; simpa using this))
theorem rhoZ_not : ∀ {js : List Nat} {Ls : Loose} {n : Nat}, n ∉ js → rhoZ js Ls n = []
  | [], _, _, _ => by unfold rhoZ; rfl
  | _ :: _, [], _, _ => by unfold rhoZ; rfl
  | j :: js, x :: Ls, n, h => by
    unfold rhoZ
    rw [if_neg fun e => h (by simp [e])]
    exact rhoZ_not fun z => h (by simp [z])
theorem rhoZ_perm {P : Nat → Addr × Tr × List Addr → Prop} : ∀ {js : List Nat} {Ls : Loose}, Zp P js Ls → js.Nodup → (∀ j ∈ js, j < 100) → ((List.range 100).flatMap (rhoZ js Ls)).Perm (fpsOf Ls)
  | _, _, .nil, _, _ => by
    have : rhoZ [] [] = fun _ => [] := by funext n; unfold rhoZ; rfl
    rw [this]
    have : ∀ l : List Nat, l.flatMap (fun _ => ([] : List Addr)) = [] := fun l => by induction l with | nil => rfl | cons a l ih => rw [List.flatMap_cons, ih]; rfl
    rw [this]; exact .refl _
  | j :: js, x :: Ls, .cons h q, n, hl => by
    obtain ⟨hj, n1⟩ := List.nodup_cons.mp n
    have h1 := fm_upd (ρ := rhoZ (j :: js) (x :: Ls)) (i := j) (x := []) (y := x.2.2) (hl j (by simp)) (by
      show (rhoZ (j :: js) (x :: Ls) j).Perm _
      unfold rhoZ
      rw [if_pos rfl]; exact .refl _)
    have e : updR (rhoZ (j :: js) (x :: Ls)) j [] = rhoZ js Ls := by
      funext n
      show (if n = j then [] else rhoZ (j :: js) (x :: Ls) n) = _
      by_cases z : n = j
      · rw [if_pos z, z, rhoZ_not hj]
      · rw [if_neg z]
        show (if n = j then x.2.2 else rhoZ js Ls n) = _
        rw [if_neg z]
    rw [e] at h1
    refine h1.trans ?_
    show ((List.range 100).flatMap (rhoZ js Ls) ++ x.2.2).Perm (List.flatMap _ _)
    rw [List.flatMap_cons]
    exact (List.perm_append_comm).trans ((rhoZ_perm q n1 fun j hj => hl j (by simp [hj])).append_left _)
theorem rhoZ_at {P : Nat → Addr × Tr × List Addr → Prop} : ∀ {js : List Nat} {Ls : Loose} {i : Nat}, Zp P js Ls → js.Nodup → i ∈ js → ∃ x ∈ Ls, P i x ∧ rhoZ js Ls i = x.2.2
  | _, _, _, .nil, _, h => by cases h
  | j :: js, x :: Ls, i, .cons h q, n, hi => by
    obtain ⟨hj, n1⟩ := List.nodup_cons.mp n
    by_cases e : i = j
    · subst e
      exact ⟨x, by simp, h, by unfold rhoZ; rw [if_pos rfl]⟩
    · obtain ⟨y, hy, h2, h3⟩ := rhoZ_at q n1 ((List.mem_cons.mp hi).resolve_left e)
      exact ⟨y, by simp [hy], h2, by unfold rhoZ; rw [if_neg e]; exact h3⟩
theorem mem_idxs : ∀ {ss : List Slot} {j i n : Nat} {k : Tk} {t : Tr}, ss[i]? = some (.tr n k t) → j + i ∈ idxs j ss
  | [], _, _, _, _, _, h => by simp at h
  | s :: ss, j, 0, n, k, t, h => by
    have h : some s = some (.tr n k t) := h
    cases h
    unfold idxs
    rw [if_pos (show isTr (.tr n k t) = true from rfl)]; simp
  | s :: ss, j, i + 1, n, k, t, h => by
    have := mem_idxs (j := j + 1) (i := i) (ss := ss) (by simpa using h)
    rw [show j + 1 + i = j + (i + 1) from by omega] at this
    unfold idxs
    split
    · exact List.mem_cons_of_mem _ this
    · exact this
theorem tsOf_ls (E : EnvO K M H0 H σ env T τ ρ L b) : ∀ {js : List Nat} {ts : List Tr}, tsOf env js = some ts → (lsOf T ρ js ts).map (·.2.1) = ts ∧ (lsOf T ρ js ts).map (·.1) = js.map M.T ∧ fpsOf (lsOf T ρ js ts) = js.flatMap ρ ∧ (∀ x ∈ lsOf T ρ js ts, LooseAt K ξ H0 H x) ∧
    ∀ (i m : Nat), js[m]? = some i → ∃ t, (lsOf T ρ js ts)[m]? = some (T i, t, ρ i) ∧ env[i]? = some (.tr i .par t)
  | [], ts, h => by
    cases h
    exact ⟨rfl, rfl, rfl, (fun _ h => by cases h), fun i m h => by simp at h⟩
  | j :: js, ts, h => by
    unfold tsOf at h
    split at h
    · rename_i n t hj
      have := E.base.tg _ _ _ _ hj
      subst this
      split at h
      · rename_i hc
        obtain ⟨ts', h1, rfl⟩ := Option.map_eq_some_iff.mp h
        obtain ⟨a1, a2, a3, a4, a5⟩ := tsOf_ls E h1
        have q := E.tr _ _ _ hj
        refine ⟨by show t :: _ = _; rw [a1], ?_, ?_, fun x hx => ?_, fun i m hm => ?_⟩
        · show T n :: _ = M.T n :: _
          rw [a2, q.par rfl]
        · show List.flatMap _ (_ :: _) = _
          rw [List.flatMap_cons, List.flatMap_cons]
          show ρ n ++ fpsOf _ = _
          rw [a3]
        · rcases List.mem_cons.mp hx with e | hx
          · subst e; exact ⟨q.at_.any hc, hc⟩
          · exact a4 x hx
        · cases m with
          | zero =>
            have hm : some n = some i := hm
            cases hm
            exact ⟨t, rfl, hj⟩
          | succ m =>
            obtain ⟨t', h2, h3⟩ := a5 i m (by simpa using hm)
            exact ⟨t', by show (_ :: lsOf T ρ js ts')[m + 1]? = _; rw [List.getElem?_cons_succ]; exact h2, h3⟩
      · cases h
    · cases h
theorem ixOf_at : ∀ {js : List Nat} {i m : Nat}, ixOf i js = some m → js[m]? = some i
  | [], _, _, h => by cases h
  | j :: js, i, m, h => by
    unfold ixOf at h
    split at h
    · rename_i e; cases h; subst e; rfl
    · obtain ⟨m', h1, rfl⟩ := Option.map_eq_some_iff.mp h
      rw [List.getElem?_cons_succ]; exact ixOf_at h1
end
section
variable {P : Program} {w : World} {K : PySem.W.Frag} {mg : Str → Option Value} {base : Heap} {ξ : Str → Value}
theorem fn_e {x qual : Str} {st : Stmt} {f : Addr} {fd : FuncData} {N ps : List Str} {k : Nat} {F : List Slot → RF} {G : En → OutX} (Fn : Fun K x qual st f fd) (S : FnScope N ps (defScope st))
    (hl : ∀ ds, ds.length ≠ ps.length → F ds = .bad) (hF : ∀ ds, ds.length = ps.length → F ds = runE (N.length - ps.length) G ds)
    (hbody : ∀ (cdv : Value) (A : Around) (outer : List Env) (s : Shared) (H : Hp) (E : XK), Room k (A.deeper (envOfC qual (defScope st) s.heap.objs.size f cdv)) →
      SXs (cxOf (L2.CX P w) P w K mg base N qual (defScope st) f cdv A outer s H E) (fun cls d _ H => E cls d H) ξ (defBody st) G) (h100 : ps.length ≤ 100 := by decide) : FnOk P w K mg base (L2.CX P w) (k + 1) f fd ps (spE K ξ F) := by
  have len : ∀ vs H Q E, spE K ξ F vs H Q E → vs.length = ps.length := fun vs H Q E ⟨ss, H0, Ls, _, r, _, _, _, p⟩ => by
    rw [r.length]
    apply Decidable.byContradiction
    intro h
    rw [hl ss h] at p
    exact p
  refine Fn.okX S len fun cdv A outer s H vs Q E hr ⟨ss, H0, Ls, s0, r, hls, nd, h0, p⟩ => ?_
  refine ⟨_, hbody cdv A outer s H E hr, ?_⟩
  have hlen : ss.length = ps.length := by rw [← r.length]; exact len vs H Q E ⟨ss, H0, Ls, s0, r, hls, nd, h0, p⟩
  rw [hF ss hlen] at p
  have hpl : ps.length ≤ N.length := by have := congrArg List.length S.pre; rw [List.length_take] at this; omega
  let M : Fm ξ := ⟨fun x => if x ∈ fpsOf Ls then none else H x, fun x => (H x ≠ none ∧ H0 x = none) ∧ x ∉ fpsOf Ls, fun n => match vs[n]? with | some (.ref a) => a | _ => 0, fun _ => none⟩
  have ats := r.ats (vs0 := vs) (ss0 := ss) (fun n => by rw [Nat.zero_add]) (fun n => by rw [Nat.zero_add])
  have hss : ss.length ≤ 100 := by rw [hlen]; exact h100
  have hsub := idxs_range hss
  have hjn : (idxs 0 ss).Nodup := hsub.nodup List.nodup_range
  have hjl : ∀ j ∈ idxs 0 ss, j < 100 := fun j hj => List.mem_range.mp (hsub.subset hj)
  let ρ := rhoZ (idxs 0 ss) Ls
  have hcells : (cellsO ρ []).Perm (fpsOf Ls) := by
    unfold cellsO
    rw [List.flatMap_nil, List.append_nil]
    exact rhoZ_perm ats hjn hjl
  have gets : ∀ (i : Nat) (x : Slot), (ss ++ List.replicate (N.length - ps.length) Slot.u)[i]? = some x → ss[i]? = some x ∨ x = Slot.u := fun (i : Nat) (x : Slot) h => by
    by_cases hi : i < ss.length
    · rw [List.getElem?_append_left hi] at h
      exact .inl h
    · rw [List.getElem?_append_right (by omega), List.getElem?_replicate] at h
      split at h
      · cases h; exact .inr rfl
      · cases h
  have at_ : ∀ {i : Nat} {v : V}, vs[i]? = some v → (L2.start N vs)[i]? = some (some v) := fun {i v} hv => by
    have hi : i < vs.length := (List.getElem?_eq_some_iff.mp hv).1
    unfold L2.start
    rw [List.getElem?_append_left (by simpa using hi), List.getElem?_map, hv]; rfl
  -- what a slot at the entry tells
  have slots : ∀ {j : Nat} {vs' : List V} {ss' : List Slot} {Ls' : Loose}, ArgsL K H0 j vs' ss' Ls' → ∀ (i : Nat) (s : Slot), ss'[i]? = some s → (∃ v d, vs'[i]? = some v ∧ s = .d d ∧ Rep K H0 v d) ∨ s = .u ∨ ∃ t, s = .tr (j + i) .par t := by
    intro j vs' ss' Ls' a
    induction a with
    | nil => intro i s h; simp at h
    | d r q ih =>
      intro i s h
      cases i with
      | zero => simp at h; subst h; exact .inl ⟨_, _, rfl, rfl, r⟩
      | succ i => have := ih i s (by simpa using h); rw [show ∀ j, j + 1 + i = j + (i + 1) from by intro j; omega] at this; simpa using this
    | u q ih =>
      intro i s h
      cases i with
      | zero => simp at h; subst h; exact .inr (.inl rfl)
      | succ i => have := ih i s (by simpa using h); rw [show ∀ j, j + 1 + i = j + (i + 1) from by intro j; omega] at this; simpa using this
    | t q ih =>
      intro i s h
      cases i with
      | zero => simp at h; subst h; exact .inr (.inr ⟨_, rfl⟩)
      | succ i => have := ih i s (by simpa using h); rw [show ∀ j, j + 1 + i = j + (i + 1) from by intro j; omega] at this; simpa using this
  have noOwn : ∀ i a, ¬ Owns (L2.start N vs) (ss ++ List.replicate (N.length - ps.length) Slot.u) i a := fun i a ⟨_, sl, h1, h2⟩ => by
    rcases gets i sl h1 with h | e
    · rcases slots r i sl h with ⟨v, d, _, e, _⟩ | e | ⟨t, e⟩ <;> (subst e; cases h2)
    · subst e; cases h2
  have trAt : ∀ (i n : Nat) (k : Tk) (t : Tr), (ss ++ List.replicate (N.length - ps.length) Slot.u)[i]? = some (.tr n k t) → n = i ∧ k = .par ∧ ∃ x ∈ Ls, vs[i]? = some (.ref x.1) ∧ x.2.1 = t ∧ ρ i = x.2.2 ∧ i < 100 := fun i n k t h => by
    rcases gets i _ h with h | e
    · have hi : i ∈ idxs 0 ss := by have := mem_idxs (j := 0) h; rw [Nat.zero_add] at this; exact this
      obtain ⟨x, hx, ⟨h1, h2⟩, h3⟩ := rhoZ_at ats hjn hi
      rw [h] at h2
      cases h2
      exact ⟨rfl, rfl, x, hx, h1, rfl, h3, hjl i hi⟩
    · cases e
  have hT : ∀ {i : Nat} {a : Addr}, vs[i]? = some (.ref a) → M.T i = a := fun {i a} hv => by show (match vs[i]? with | some (.ref a) => a | _ => 0) = a; rw [hv]
  have memc : ∀ a, a ∈ cellsO ρ [] ↔ a ∈ fpsOf Ls := fun a => hcells.mem_iff
  have inLs : ∀ {a}, a ∈ fpsOf Ls → ∃ x ∈ Ls, a ∈ x.2.2 := fun h => by obtain ⟨x, h1, h2⟩ := List.mem_flatMap.mp h; exact ⟨x, h1, h2⟩
  have E0 : EnvO K M H0 H (L2.start N vs) (ss ++ List.replicate (N.length - ps.length) .u) M.T (fun _ _ => none) ρ [] b200 := by
    refine ⟨⟨s0, fun a o e => ?_, fun a h => ?_, ?_, fun i sl h => ?_, fun i j a h => absurd h (noOwn i a), fun a i _ => noOwn i a, fun i n k t h => (trAt i n k t h).1⟩, hcells.nodup_iff.mpr nd, fun a ha => ?_, fun i k t h => ?_, fun x hx => by cases hx⟩
    · by_cases hc : a ∈ cellsO ρ []
      · rw [show (ownO M M.T _ (cellsO ρ []) H).G a = H a from if_pos hc] at e; exact e
      · rw [EnvO.G_out hc] at e
        rw [show M.G a = H a from if_neg fun z => hc ((memc a).mpr z)] at e
        exact e
    · rcases h with h | h
      · exact ⟨h.1.2, h.1.1⟩
      · obtain ⟨x, hx, h2⟩ := inLs ((memc a).mp h)
        exact ⟨h0 x hx a h2, (hls x hx).at_.some_ a h2⟩
    · unfold L2.start
      rw [List.length_append, List.length_append, List.length_map, List.length_replicate, List.length_replicate, r.length, hlen]
    · by_cases htr : ∃ n k t, sl = .tr n k t
      · obtain ⟨n, k, t, rfl⟩ := htr
        obtain ⟨rfl, rfl, x, hx, hv, rfl, hρ, _⟩ := trAt i n k t h
        refine ⟨by show (L2.start N vs)[n]? = some (some (.ref (M.T n))); rw [hT hv]; exact at_ hv, rootsO_at h, ?_⟩
        show TrV K ξ H0 (ownO M M.T _ (cellsO ρ []) H).G (.ref (M.T n)) x.2.1
        rw [hT hv]
        exact (hls x hx).at_.seen fun a ha => if_pos ((memc a).mpr (List.mem_flatMap.mpr ⟨x, hx, ha⟩))
      · rcases gets i sl h with h | e
        · rcases slots r i sl h with ⟨v, d, hv, e, rr⟩ | e | ⟨t, e⟩
          · subst e; exact ⟨v, at_ hv, rr⟩
          · subst e; trivial
          · exact absurd ⟨_, _, _, e⟩ htr
        · subst e; trivial
    · have h1 := (memc a).mp ha
      exact ⟨if_pos h1, fun z => z.2 h1⟩
    · obtain ⟨_, rfl, x, hx, hv, rfl, hρ, hi⟩ := trAt i i k t h
      refine ⟨hi, by rw [hT hv]; exact at_ hv, ?_, ?_, fun _ => rfl, fun j p e => by cases e⟩
      · rw [hT hv, hρ]; exact (hls x hx).at_
      · exact Tr.closed_hall (hls x hx).cl _
  refine ⟨M, H0, _, ⟨_, _, _, E0⟩, ?_⟩
  -- how it ends
  have ends : ∀ {H0' H' : Hp} {σ' : L2.St} {e : En} {T' : Nat → Addr} {τ' : Nat → Nat → Option V} {ρ' : Nat → List Addr} {Rs : Loose} {ts : List Tr}, Same H0 H0' → EnvO K M H0' H' σ' e T' τ' ρ' Rs b200 → tsOf e (idxs 0 ss) = some ts → Behind K ξ H0 H H0' H' Ls (lsOf T' ρ' (idxs 0 ss) ts) Rs ts := by
    intro H0' H' σ' e T' τ' ρ' Rs ts s' E1 hts
    obtain ⟨a1, a2, a3, a4, a5⟩ := tsOf_ls E1 hts
    have inC : ∀ a, a ∈ fpsOf (lsOf T' ρ' (idxs 0 ss) ts) → a ∈ cellsO ρ' Rs := fun a ha => by
      rw [a3] at ha
      obtain ⟨i, hi, h2⟩ := List.mem_flatMap.mp ha
      exact mem_cells.mpr (.inl ⟨i, hjl i hi, h2⟩)
    refine ⟨s', E1.base.same, fun a o e hn => ?_, fun a e1 e2 hn => ?_, ?_, a1, fun x hx => ?_, fun x hx a ha => ?_, ?_⟩
    · have hn' : a ∉ fpsOf Ls := fun z => by obtain ⟨x, hx, h2⟩ := inLs z; exact hn x hx h2
      have hM : M.G a = some o := (if_neg hn').trans e
      have hc : a ∉ cellsO ρ' Rs := fun z => by rw [(E1.out a z).1] at hM; cases hM
      exact E1.base.fr a o (by rw [EnvO.G_out hc]; exact hM)
    · have hn' : a ∉ fpsOf Ls := fun z => by obtain ⟨x, hx, h2⟩ := inLs z; exact hn x hx h2
      exact (E1.base.nogo a (.inl ⟨⟨e1, e2⟩, hn'⟩)).1
    · rw [a2]
      have : ∀ {js : List Nat} {Ls' : Loose}, Zp (fun (i : Nat) (x : Addr × Tr × List Addr) => vs[i]? = some (.ref x.1) ∧ ss[i]? = some (.tr i .par x.2.1)) js Ls' → js.map M.T = Ls'.map (·.1) := by
        intro js Ls' z
        induction z with
        | nil => rfl
        | cons h _ ih => rw [List.map_cons, List.map_cons, ih, hT h.1]
      exact this ats
    · rcases List.mem_append.mp hx with hx | hx
      · exact a4 x hx
      · exact E1.ls x hx
    · have hc : a ∈ cellsO ρ' Rs := by
        rcases List.mem_append.mp hx with hx | hx
        · exact inC a (List.mem_flatMap.mpr ⟨x, hx, ha⟩)
        · exact mem_cells.mpr (.inr ⟨x, hx, ha⟩)
      refine ⟨?_, (E1.cell hc).1⟩
      by_cases hf : a ∈ fpsOf Ls
      · exact .inl (inLs hf)
      · have := (E1.out a hc).1
        rw [show M.G a = H a from if_neg hf] at this
        exact .inr this
    · unfold fpsOf
      rw [List.flatMap_append]
      have e1 : List.flatMap (fun x => x.2.2) (lsOf T' ρ' (idxs 0 ss) ts) = (idxs 0 ss).flatMap ρ' := a3
      rw [e1]
      have nd' := E1.nd
      unfold cellsO at nd'
      exact ((sub_fm ρ' hsub).append (List.Sublist.refl _)).nodup nd'
  have fin : ∀ {rv : RV} {e : En}, PostRF K ξ H0 H Ls Q E (exitE ss rv e) → ∀ v σ' H0' H', Same H0 H0' → RVAt K M H0' H' σ' e v rv → Q v H' := by
    intro rv e p v σ' H0' H' s' r'
    unfold exitE at p
    split at p
    · rename_i ts hts
      cases rv with
      | d d =>
        obtain ⟨⟨T', τ', ρ', E1⟩, rr⟩ := r'
        exact p v H0' H' _ _ (ends s' E1 hts) (.d rr)
      | t t =>
        obtain ⟨u, fB, T', τ', ρ', rfl, E1⟩ := r'
        exact p _ H0' H' _ _ (ends s' E1 hts) .t
      | w w =>
        obtain ⟨T', τ', ρ', E1, pa⟩ := r'
        simp only at p
        cases hx : ixOf w.1 (idxs 0 ss) with
        | none => rw [hx] at p; exact p.elim
        | some i =>
          rw [hx] at p
          obtain ⟨_, _, _, _, a5⟩ := tsOf_ls E1 hts
          obtain ⟨t, h2, h3⟩ := a5 w.1 i (ixOf_at hx)
          obtain ⟨k', t', c, l1, l2, l3⟩ := pa
          rw [h3] at l1
          cases l1
          exact p v H0' H' _ _ (ends s' E1 hts) (.part h2 l3 l2)
    · exact p.elim
  unfold runE at p
  revert p
  cases G (ss ++ List.replicate (N.length - ps.length) .u) with
  | nx e => exact fun p σ' H0' H' s E' => fin p .non σ' H0' H' s ⟨E', .non⟩
  | rt d e => exact fun p v σ' H0' H' s R' => fin p v σ' H0' H' s R'
  | exc x e =>
    intro p σ' H0' H' s' E'
    obtain ⟨T', τ', ρ', E1⟩ := E'
    have p : PostRF K ξ H0 H Ls Q E (exitX ss x e) := p
    unfold exitX at p
    split at p
    · rename_i ts hts
      exact p H0' H' _ (ends s' E1 hts)
    · exact p.elim
  | bk e => exact fun p => p.elim
  | ct e => exact fun p => p.elim
  | bad => exact fun p => p.elim
end
end Dx

namespace Dx
open PySem PySem.Spec PyProof.Rows L2

theorem call_isX {X : Cx} {a D : Addr} {oe : Obj} (hp : (a, oe) ∈ X.pn) (C : ExcC X.K D) (hz : Zc (.ref D) none oe) (hf : ∃ vs, oe.data = .fields vs) : CallR X (.builtin "isinstance") (rIsE X.K D a) := by
  intro pins s σ H xs us Q I r h
  obtain ⟨c, cv, b, rfl, hcv, e, q⟩ := h
  cases r with
  | cons rx rr =>
    cases rr with
    | cons rt rr =>
      cases rr
      cases rx
      have ec := hcv _ rt
      subst ec
      obtain ⟨hget, _⟩ := I.pin (a, oe) (List.mem_append.mpr (.inl hp))
      obtain ⟨vs, hv⟩ := hf
      have J : PySem.W.InstAt s.heap a oe D none := by
        obtain ⟨oc, od, oda, osl⟩ := oe
        obtain ⟨h1, h2⟩ := hz
        dsimp only at h1 h2 hv
        subst h1 h2 hv
        exact ⟨hget, rfl, rfl, trivial⟩
      exact PySem.W.kia_one (PySem.W.handS_kitx_exc C.hg C.hk C.hs C.hd C.ha C.hn C.ht C.hm) I.kIn J e (fun z => nomatch z) fun tk => ⟨.bl b, H, I.kept (t' := tk) fun _ _ z => z, rfl, q⟩
def eIs (i : Nat) (b : Bool) : En → R D := fun env => match env[i]? with
  | some .ex => .ok (.bl b)
  | _ => .bad
section
variable {X : Cx} {W : WX} {ξ : Str → Value} {pos p p1 p2 : Pos} {n t : Str}
theorem de_isE {i : Nat} {a D : Addr} {oe : Obj} {c : V} {cv : Value} {b : Bool} (hx : ξ "!" = .ref a) (hp : (a, oe) ∈ X.pn) (C : ExcC X.K D) (hz : Zc (.ref D) none oe) (hf : ∃ vs, oe.data = .fields vs) (hk : PySem.W.kitOne X.K (.ref D) cv = some b)
    (hm : X.mg "isinstance" = none) (he : PE X (.Name n p1) (tVar i)) (hT : PE X (.Name t p2) (tC c)) (hcv : ∀ u, RelV c u → u = cv) (hg : Gl X "isinstance" := by rfl)
    (hs1 : starEach [.Name t p2] X.env = (false, eval (.Name t p2) X.env) :: starEach [] X.env := by rfl)
    (hs : starEach (.Name n p1 :: [.Name t p2]) X.env = (false, eval (.Name n p1) X.env) :: starEach [.Name t p2] X.env := by rfl) (hpl : (backTo pos (starEach [.Name t p2] X.env)).any (·.1) = false := by rfl) :
    DE X W ξ true (.Call (.Name "isinstance" p) [.Name n p1, .Name t p2] [] pos) (eIs i b) :=
  peImp (pe_callB (call_isX hp C hz hf) hg hm (by decide +kernel) (pa_cons he (pa_cons hT pa_nil hs1) hs) (by decide) (by decide) hs hpl) fun σ H Q ⟨M, H0, env, E, p⟩ => by
    unfold eIs at p
    split at p
    · rename_i h
      obtain ⟨a', e, hx'⟩ := E.slot i _ h
      rw [hx] at hx'
      cases hx'
      exact ⟨_, e, c, cv, b, rfl, hcv, hk, post_ok E p (.bl _)⟩
    · exact p.elim
end

structure FnX (P : Program) (w : World) (K : PySem.W.Frag) (mg : Str → Option Value) (base : Heap) (CX : CXT) (k : Nat) (f : Addr) (fd : FuncData) (ps : List Str) (sp : Addr → Value → Sp) : Prop where
  len : ∀ a c vs H Q E, sp a c vs H Q E → vs.length = ps.length
  run : ∀ (A : Around) (outer : List Env) (s : Shared) (H : Hp) (args : Args) (us : List Value) (vs : List V) (Q : VK) (E : XK) (p : Addr × Obj) (cls : Value), L2H.RoomH k A → Zc cls none p.2 → (∃ vs, p.2.data = .fields vs) → L2H.PinOk outer H s p → Env0 P w K mg base A outer s H → BindsTo s fd args (ps.zip us) → Vals vs us → sp p.1 cls vs H Q E →
    codeAny (model P w) A (.call (.ref f) args) (CR CX outer P w H s Q E) s
section
variable {X : Cx} {CX : CXT} {k : Nat} {f : Addr} {fd : FuncData} {ps : List Str} {sp : Addr → Value → Sp} {E : L2.St → XK} {x : Str} {q pos : Pos} {e : Expr} {es : List Expr} {t : TA}
end
def pinXi (ξ : Str → Value) (a : Addr) : Str → Value := fun s => if s = "!" then .ref a else ξ s
section
variable {P : Program} {w : World} {K : PySem.W.Frag} {mg : Str → Option Value} {base : Heap} {ξ : Str → Value}
def toD (F : List Slot → RF) (ds : List D) : R D := match F (ds.map Slot.d) with
  | .ok (.d d) _ => .ok d
  | .exc c _ => .exc c
  | _ => .bad
theorem fn_toD {CX : CXT} {k : Nat} {f : Addr} {fd : FuncData} {ps : List Str} {F : List Slot → RF} (G : FnOk P w K mg base CX k f fd ps (spE K ξ F)) : FnOk P w K mg base CX k f fd ps (spD K ξ (toD F)) :=
  G.imp fun vs H Q E ⟨ds, H0, s0, r, p⟩ => ⟨ds.map Slot.d, H0, [], s0, argsL_d r, (fun x hx => by cases hx), .nil, (fun x hx => by cases hx), by
    unfold toD at p
    cases hF : F (ds.map Slot.d) with
    | bad => rw [hF] at p; exact p
    | exc c ts => rw [hF] at p; exact fun H0' H' Ls' B => p H0' H' B.s0 (fun a o e => B.k2 a o e fun x hx => by cases hx) B.s1 fun a e1 e2 => B.k3 a e1 e2 fun x hx => by cases hx
    | ok rr ts =>
      rw [hF] at p
      intro v H0' H' Ls' Rs B hr
      cases hr with
      | d r => exact p v H0' H' B.s0 (fun a o e => B.k2 a o e fun x hx => by cases hx) B.s1 (fun a e1 e2 => B.k3 a e1 e2 fun x hx => by cases hx) r
      | t => exact p.elim
      | part _ _ _ => exact p.elim⟩
end

section
variable {X : Cx} {W : WX} {ξ : Str → Value} {pos pos' np np2 fp cp rp : Pos} {n x g : Str} {c : Value} {i k : Nat} {f : Addr} {fd : FuncData} {ps : List Str} {hit : Str → Option Bool} {F : Str → R D} {body : List Stmt} {B : En → OutX}
end
end Dx

namespace Dx
open PySem PySem.Spec PyProof.Rows L2

structure MeF (K : PySem.W.Frag) (C : Addr) (x qual : Str) (st : Stmt) (ps : List Str) where
  f : Addr
  fd : FuncData
  Fn : Fun K x qual st f fd
  m : Meth K C x f
  b : Binds K fd ps []
structure ClF (K : PySem.W.Frag) (mg : Str → Option Value) (x : Str) where
  C : Addr
  m : mg x = some (.ref C)
  cl : Cls K C
  mks : PySem.W.makesIn K C = true
  kp : PySem.W.keepIn K (.ref C) = true
structure IxF (K : PySem.W.Frag) (C : Addr) : Prop where
  ex : ExcC K C
  cl : PySem.W.isClsIn K C = true
  ty : PySem.W.typeIn K (.ref C) = some (.type "type")
  self : PySem.W.subIn K (.ref C) (.ref C) = some true
  ve : PySem.W.subIn K (.ref C) (.type "ValueError") = some true
theorem kit_ref {K : PySem.W.Frag} {D C : Addr} {b : Bool} (i : IxF K C) (h : PySem.W.subIn K (.ref D) (.ref C) = some b) : PySem.W.kitOne K (.ref D) (.ref C) = some b := by
  unfold PySem.W.kitOne
  split
  · rename_i e
    have := Value.ref.inj (beq_iff_eq.mp e)
    subst this
    rw [i.self] at h
    exact h
  · show (if ((PySem.W.clsIn K C).isSome && PySem.W.typeIn K (.ref C) == some (.type "type")) = true then PySem.W.subIn K (.ref D) (.ref C) else none) = some b
    have h2 : (PySem.W.clsIn K C).isSome = true := i.cl
    have e2 : ((PySem.W.clsIn K C).isSome && PySem.W.typeIn K (.ref C) == some (.type "type")) = true := by rw [h2, i.ty] <;> rfl
    rw [if_pos e2]; exact h
theorem kit_ve {K : PySem.W.Frag} {D : Addr} (i : IxF K D) : PySem.W.kitOne K (.ref D) (.type "ValueError") = some true := by
  unfold PySem.W.kitOne
  rw [if_neg (by intro z; cases (beq_iff_eq.mp z))]
  show (if PySem.W.kitMeta "ValueError" = true then PySem.W.subIn K (.ref D) (.type "ValueError") else none) = some true
  rw [if_pos (by decide +kernel)]; exact i.ve
theorem roomHU64 {A : Around} {k : Nat} (r : L2H.RoomH k A) : A.units + 64 < cLine := by have := r.un; omega
def isaT (x y : Str) : Bool := decide (x = y) || decide (y = "TouchError") || decide (y = "ValueError")
def hitE (ks : List Str) (c x : Str) : Option Bool := if x ∈ ks then some (isaT x c) else none
section
variable {X : Cx} {W : WX} {ξ : Str → Value} {st : Stmt} {G : En → OutX}
end
end Dx
namespace Dx
open PySem PySem.Spec PyProof.Rows L2
section
variable {X : Cx} {W : WX} {ξ : Str → Value} {e : Expr} {pos p : Pos} {k : Nat} {f : Addr} {fd : FuncData} {ps : List Str} {F : List Slot → RF} {x : Str} {ft : En → RX Tr}
end
section
variable {P : Program} {w : World} {K : PySem.W.Frag} {mg : Str → Option Value} {base : Heap} {ξ : Str → Value} {H0 H : Hp}
end
end Dx

namespace Dx
open PySem PySem.Spec PyProof.Rows L2
section
variable {K : PySem.W.Frag} {ξ : Str → Value} {τ : Nat → Option V} {H0 H : Hp}
end
section
variable {X : Cx} {W : WX} {ξ : Str → Value} {e o y : Expr} {pos p pos' apos : Pos} {ft : En → RX Tr} {fy : En → R D} {P : En → R (Nat × List St)}
variable {K : PySem.W.Frag} {M : Fm ξ} {σ : L2.St} {env : En} {H0 H : Hp} {T : Nat → Addr} {τ : Nat → Nat → Option V} {ρ : Nat → List Addr} {Dn : Ends}
end
end Dx

namespace Dx
open PySem
section
variable {α : Type} {env e : En} {A : En → R D} {G1 G2 B : En → OutX} {t : En → RX Bool} {tb : En → R Bool}
def rtO (x : R D) (e : En) : OutX := match x with
  | .ok d => .rt (.d d) e
  | .exc c => .exc c e
  | .bad => .bad
@[simp] theorem seqX_rtO {x : R D} {k : En → OutX} : seqX (rtO x e) k = rtO x e := by cases x <;> rfl
theorem idxs_d : ∀ (ds : List D) (j : Nat), idxs j (ds.map Slot.d) = []
  | [], _ => rfl
  | _ :: ds, j => by
    show (if isTr (.d _) = true then _ else idxs (j + 1) (ds.map Slot.d)) = []
    rw [if_neg (by intro z; cases z)]; exact idxs_d ds _
end
end Dx

namespace Ty
open PySem Dx Dn Fo
open Enc (enc)
noncomputable section
def t_number_in (word : Str) : R Int :=
 (letT (if (decide ((L2.cutS word none (some (1 : Int))) = ("-" : Str))) = true then (L2.cutS word (some (1 : Int)) none) else word) fun figures =>
 ((if (!((decide ((1 : Int) ≤ ((figures).length : Int))) && (decide (((figures).length : Int) ≤ (3 : Int))))) = true then .ok true else (((compR (fun (sign : Str) => R.ok true) (fun (sign : Str) => (signIn sign ("0123456789" : Str))) (chars figures)) >>= fun v1 => (.ok (List.all v1 id))) >>= fun v2 => .ok (!v2))) >>= fun v3 =>
 (if v3 = true then
 (.exc "NoText")
 else
 (intTG word))))
theorem k_number_in (word : Str) : Rr (den_number_in [enc word]) (t_number_in word) enc :=
  fn_of (p0 := [sv word, none, none]) rfl rfl fun e H => (by unfold t_number_in; exact (show TR (g_number_in e) _ from
 (j_set (J := TR)  (q := fun figures => [sv word, sv figures, none]) H (tpa (if (decide ((L2.cutS word none (some (1 : Int))) = ("-" : Str))) = true then (L2.cutS word (some (1 : Int)) none) else word) (te_if (ttb (decide ((L2.cutS word none (some (1 : Int))) = ("-" : Str))) (tt_bin (tpa (L2.cutS word none (some (1 : Int))) (tp_slice (tpa word (tp_var H rfl)) o_none (o_some (tpa (1 : Int) (tp_c rfl))) (op_cutS _ _ _))) (tpa ("-" : Str) (tp_c rfl)) (op_eq (α := Str) (by decide) _ _))) (tpa (L2.cutS word (some (1 : Int)) none) (tp_slice (tpa word (tp_var H rfl)) (o_some (tpa (1 : Int) (tp_c rfl))) o_none (op_cutS _ _ _))) (tpa word (tp_var H rfl)))) (fun _ => rfl) fun figures e H => (j_ifXM jTR (J := TR) (ttm (if (!((decide ((1 : Int) ≤ ((figures).length : Int))) && (decide (((figures).length : Int) ≤ (3 : Int))))) = true then .ok true else (((compR (fun (sign : Str) => R.ok true) (fun (sign : Str) => (signIn sign ("0123456789" : Str))) (chars figures)) >>= fun v1 => (.ok (List.all v1 id))) >>= fun v2 => .ok (!v2))) (tm_orP (tt_not (ttb ((decide ((1 : Int) ≤ ((figures).length : Int))) && (decide (((figures).length : Int) ≤ (3 : Int)))) (tt_chain (tpa (1 : Int) (tp_c rfl)) (tpa ((figures).length : Int) (tp_un (a_cons (tpa figures (tp_var H rfl)) a_nil) (op_lenS _))) (tpa (3 : Int) (tp_c rfl)) (op_le _ _) (op_le _ _)))) (tm_not (tm_val (tma (α := Bool) ((compR (fun (sign : Str) => R.ok true) (fun (sign : Str) => (signIn sign ("0123456789" : Str))) (chars figures)) >>= fun v1 => (.ok (List.all v1 id))) (w_un (am_m (tm_ofF (tml (α := Bool) (compR (fun (sign : Str) => R.ok true) (fun (sign : Str) => (signIn sign ("0123456789" : Str))) (chars figures)) (lc_xm (p1 := [sv word, sv figures, none]) (q := fun sign => [sv word, sv figures, sv sign]) (pr := (fun (sign : Str) => R.ok true)) (g := (fun (sign : Str) => (signIn sign ("0123456789" : Str)))) H rfl (tpl (chars figures) (tp_un (tpa figures (tp_var H rfl)) (it_str _))) (fun sign e H => tg_name H rfl) (fun sign e H => c_true) (fun sign e H => (tma (α := Bool) (signIn sign ("0123456789" : Str)) (w_bin (ce_p (tpa sign (tp_var H rfl)) (ce_p (tpa ("0123456789" : Str) (tp_c rfl)) (ro_in (ro_signIn _ _)))))))))) fun v1 => (am_nil (rr_p (op_all _)))))))))) (tr_x tr_raise) (j_seqnil (tr_ret (tma (α := Int) (intTG word) (w_un (am_p (tpa word (tp_var H rfl)) (am_nil (ro_intT _)))))))))))
def t_text_in (word : Str) : Str :=
 (if (decide (word = ("-" : Str))) = true then ("" : Str) else word)
theorem k_text_in (word : Str) : den_text_in [enc word] = .ok (enc (t_text_in word)) :=
  fn_ofP (p0 := [sv word]) rfl rfl fun e H => (by unfold t_text_in; exact (show TRp (g_text_in e) _ from
 (trp_ret (tpa (if (decide (word = ("-" : Str))) = true then ("" : Str) else word) (te_if (ttb (decide (word = ("-" : Str))) (tt_bin (tpa word (tp_var H rfl)) (tpa ("-" : Str) (tp_c rfl)) (op_eq (α := Str) (by decide) _ _))) (tpa ("" : Str) (tp_c rfl)) (tpa word (tp_var H rfl)))))))
end
end Ty

namespace Ty
open PySem Dx Dn Fo
open Enc (enc)
noncomputable section
def nB (w : Str) : R Int := match t_number_in w with | .ok i => .ok i | _ => .bad
end
end Ty

namespace Ty
open PySem Dx Dn Fo
open Enc (enc)
noncomputable section
end
end Ty

namespace Ty
open PySem Dx Dn Fo
open Enc (enc)
noncomputable section
def t_is_name (thing : Str) : R Bool :=
 ((isiG "str" (Co.f thing : D)) >>= fun v2 => if v2 = true then (if ((decide ((1 : Int) ≤ ((thing).length : Int))) && (decide (((thing).length : Int) ≤ (3 : Int)))) = true then ((compR (fun (sign : Str) => R.ok true) (fun (sign : Str) => (signIn sign ("abcdefghijklmnopqrstuvwxyz" : Str))) (chars thing)) >>= fun v1 => (.ok (List.all v1 id))) else .ok false) else .ok false)
def t_are_marks (thing : Str) : R Bool :=
 ((((isiG "str" (Co.f thing : D)) >>= fun v1 => .ok (!v1)) >>= fun v4 => if v4 = true then .ok true else (((compR (fun (sign : Str) => R.ok true) (fun (sign : Str) => (signIn sign ("cfhl" : Str))) (chars thing)) >>= fun v2 => (.ok (List.all v2 id))) >>= fun v3 => .ok (!v3))) >>= fun v5 =>
 (if v5 = true then
 (R.ok false)
 else
 (R.ok (List.all (List.map (fun (⟨one, other⟩ : (Str × Str)) => (ltS one other)) (List.zip (chars thing) (chars (L2.cutS thing (some (1 : Int)) none)))) id))))
end
end Ty

namespace Ty
open PySem Dx Dn Fo
open Enc (enc)
noncomputable section
def t_or_bar (text : Str) : Str :=
 (if (!decide (text = ("" : Str))) = true then text else ("-" : Str))
theorem k_or_bar (text : Str) : den_or_bar [enc text] = .ok (enc (t_or_bar text)) :=
  fn_ofP (p0 := [sv text]) rfl rfl fun e H => (by unfold t_or_bar; exact (show TRp (g_or_bar e) _ from
 (trp_ret (tpa (if (!decide (text = ("" : Str))) = true then text else ("-" : Str)) (te_if (ttb (!decide (text = ("" : Str))) (tt_bin (tpa text (tp_var H rfl)) (tpa ("" : Str) (tp_c rfl)) (op_ne (α := Str) (by decide) _ _))) (tpa text (tp_var H rfl)) (tpa ("-" : Str) (tp_c rfl)))))))
def t_box_text (box : Box) : R Str :=
 ((((compR (fun (number : Int) => R.ok true) (fun (number : Int) => (strG number)) ((Co.f (T4.mk box.l box.t box.w box.h) : (Tu Int))).l) >>= fun v1 => (catL [box.nm, (t_or_bar box.ar)] v1)) >>= fun v2 => (catL v2 [(t_or_bar box.ms)])) >>= fun v3 => (joinG (" " : Str) v3))
theorem k_box_text (box : Box) : Rr (den_box_text [enc box]) (t_box_text box) enc :=
  fn_of (p0 := [sv box, none]) rfl rfl fun e H => (by unfold t_box_text; exact (show TR (g_box_text e) _ from
 (tr_ret (tma (α := Str) ((((compR (fun (number : Int) => R.ok true) (fun (number : Int) => (strG number)) ((Co.f (T4.mk box.l box.t box.w box.h) : (Tu Int))).l) >>= fun v1 => (catL [box.nm, (t_or_bar box.ar)] v1)) >>= fun v2 => (catL v2 [(t_or_bar box.ms)])) >>= fun v3 => (joinG (" " : Str) v3)) (w_join (ce_p (tpa (" " : Str) (tp_c rfl)) (ce_p (op_str _) (ce_m (tma (α := (List Str)) (((compR (fun (number : Int) => R.ok true) (fun (number : Int) => (strG number)) ((Co.f (T4.mk box.l box.t box.w box.h) : (Tu Int))).l) >>= fun v1 => (catL [box.nm, (t_or_bar box.ar)] v1)) >>= fun v2 => (catL v2 [(t_or_bar box.ms)])) (w_bin (ce_m (tma (α := (List Str)) ((compR (fun (number : Int) => R.ok true) (fun (number : Int) => (strG number)) ((Co.f (T4.mk box.l box.t box.w box.h) : (Tu Int))).l) >>= fun v1 => (catL [box.nm, (t_or_bar box.ar)] v1)) (w_bin (ce_p (tp_ofF (tpl [box.nm, (t_or_bar box.ar)] (tp_un (a_cons (tpa box.nm (tp_bin (tpa box (tp_var H rfl)) (tpa (0 : Int) (tp_c rfl)) (rfl))) (a_cons (tpa (t_or_bar box.ar) (tp_un (a_cons (tpa box.ar (tp_bin (tpa box (tp_var H rfl)) (tpa (1 : Int) (tp_c rfl)) (rfl))) a_nil) (k_or_bar _))) a_nil)) (op_lst [box.nm, (t_or_bar box.ar)] rfl (smn 2 (by decide) rfl))))) (ce_m (tm_ofF (tml (α := Str) (compR (fun (number : Int) => R.ok true) (fun (number : Int) => (strG number)) ((Co.f (T4.mk box.l box.t box.w box.h) : (Tu Int))).l) (lc_xm (p1 := [sv box, none]) (q := fun number => [sv box, sv number]) (pr := (fun (number : Int) => R.ok true)) (g := (fun (number : Int) => (strG number))) H rfl (tpl ((Co.f (T4.mk box.l box.t box.w box.h) : (Tu Int))).l (tp_un (tp_co (γ := (Tu Int)) (tpa (T4.mk box.l box.t box.w box.h) (tp_slice (tpa box (tp_var H rfl)) (o_some (tpa (2 : Int) (tp_c rfl))) (o_some (tpa (6 : Int) (tp_c rfl))) (rfl)))) (it_tu _))) (fun number e H => tg_name H rfl) (fun number e H => c_true) (fun number e H => (tma (α := Str) (strG number) (w_un (am_p (tpa number (tp_var H rfl)) (am_nil (ro_strI _))))))))) fun v1 => (ro_catL _ _))))) fun v2 => (ce_p (tp_ofF (tpl [(t_or_bar box.ms)] (tp_un (a_cons (tpa (t_or_bar box.ms) (tp_un (a_cons (tpa box.ms (tp_bin (tpa box (tp_var H rfl)) (tpa (6 : Int) (tp_c rfl)) (rfl))) a_nil) (k_or_bar _))) a_nil) (op_lst [(t_or_bar box.ms)] rfl (smn 1 (by decide) rfl))))) (ro_catL _ _))))) fun v3 => (ro_join _ _)))))))))
def t_written (scene : (Tu Box)) : R Str :=
 ((compR (fun (box : Box) => R.ok true) (fun (box : Box) => ((t_box_text box) >>= fun v1 => (catS v1 ("\n" : Str)))) (scene).l) >>= fun v2 => (joinG ("" : Str) v2))
theorem k_written (scene : (Tu Box)) : Rr (den_written [enc scene]) (t_written scene) enc :=
  fn_of (p0 := [sv scene, none]) rfl rfl fun e H => (by unfold t_written; exact (show TR (g_written e) _ from
 (tr_ret (tma (α := Str) ((compR (fun (box : Box) => R.ok true) (fun (box : Box) => ((t_box_text box) >>= fun v1 => (catS v1 ("\n" : Str)))) (scene).l) >>= fun v2 => (joinG ("" : Str) v2)) (w_join (ce_p (tpa ("" : Str) (tp_c rfl)) (ce_p (op_str _) (ce_m (tm_ofF (tml (α := Str) (compR (fun (box : Box) => R.ok true) (fun (box : Box) => ((t_box_text box) >>= fun v1 => (catS v1 ("\n" : Str)))) (scene).l) (lc_xm (p1 := [sv scene, none]) (q := fun box => [sv scene, sv box]) (pr := (fun (box : Box) => R.ok true)) (g := (fun (box : Box) => ((t_box_text box) >>= fun v1 => (catS v1 ("\n" : Str))))) H rfl (tpl (scene).l (tp_un (tpa scene (tp_var H rfl)) (it_tu _))) (fun box e H => tg_name H rfl) (fun box e H => c_true) (fun box e H => (tma (α := Str) ((t_box_text box) >>= fun v1 => (catS v1 ("\n" : Str))) (w_bin (ce_m (tma (α := Str) (t_box_text box) (w_un (am_p (tpa box (tp_var H rfl)) (am_nil (k_box_text _))))) fun v1 => (ce_p (tpa ("\n" : Str) (tp_c rfl)) (ro_catS _ _))))))))) fun v2 => (ro_join _ _)))))))))
end
end Ty

namespace L2
open PySem PySem.Spec PyProof.Rows
section
variable {X : Cx}
end
end L2
namespace Dx
open PySem PySem.Spec PyProof.Rows L2
section
variable {X : Cx} {W : WX} {ξ : Str → Value} {a b : Expr} {c1 c2 : Bool} {pos : Pos} {fa fb : En → R D}
end
end Dx

namespace HT
open PySem PySem.Spec PyProof.Rows
variable {prog : Program} {w : World} {A : Around} {E : Value → Shared → Prop} {s : Shared}
end HT
namespace L2
open PySem PySem.Spec PyProof.Rows
section
variable {X : Cx}
end
end L2
namespace Dx
open PySem PySem.Spec PyProof.Rows L2
section
variable {X : Cx} {W : WX} {ξ : Str → Value} {a : Expr} {c1 : Bool} {pos : Pos} {fa : En → R D}
end
end Dx

namespace Dn
open PySem PySem.Spec PyProof.Rows L2 Dx
end Dn

namespace Fo
open PySem Dx Dn
def withinB (d : D) (lo hi : Int) : Bool := match d with
  | .int i => decide (lo ≤ i) && decide (i ≤ hi)
  | _ => false
theorem isiR_ok {d : D} (h : isFrz d = false) {T : String} (hT : T = "int" ∨ T = "bool" ∨ T = "str" ∨ T = "tuple") : isiR T d = .ok (.bl (isTy T d)) := if_pos ⟨hT, h⟩
theorem m_within {d : D} (h : isFrz d = false) (lo hi : Int) : den_is_within [d, .int lo, .int hi] = .ok (.bl (withinB d lo hi)) := by
  unfold den_is_within
  rw [defR_ok (by rfl)]
  unfold g_is_within
  cases d with
  | int i =>
    simp only [runB, List.map_cons, List.map_nil, List.replicate_zero, List.append_nil, sRet_ap, eAnd_ap, eUn_ap, getD_0, getD_s, R.ok_bind, isiR_ok (d := .int i) rfl (T := "int") (by simp), isiR_ok (d := .int i) rfl (T := "bool") (by simp), show isTy "int" (.int i) = true from rfl, show isTy "bool" (.int i) = false from rfl, boolR_bl, notR, if_true, Bool.not_false, eChain_ap, chainR, leR]
    show _ = R.ok (D.bl (decide (lo ≤ i) && decide (i ≤ hi)))
    cases decide (lo ≤ i) <;> rfl
  | frz ns => cases h
  | opq => cases h
  | _ => rfl
def charsIn (s z : Str) : Bool := s.cps.toList.all fun c => decide (c ∈ z.cps.toList)
theorem all_bls (xs : List Bool) : allR [.lst (xs.map D.bl)] = .ok (.bl (xs.all id)) := by
  unfold allR
  simp only [blsOf_map]
theorem all_chars {n : Nat} (s z : Str) (e : En) (F : En → R D) (hF : ∀ c : Nat, F ((wipeE e [n]).set n (.d (.str ⟨#[c]⟩))) = .ok (.bl (decide (c ∈ z.cps.toList)))) :
    compO (nameT n) tTrue F (wipeE e [n]) (charsD s) = .ok ((s.cps.toList.map fun c => decide (c ∈ z.cps.toList)).map D.bl) := by
  unfold charsD
  rw [compO_all (f := fun c : Nat => D.str ⟨#[c]⟩) (g := fun c : Nat => D.bl (decide (c ∈ z.cps.toList))) s.cps.toList fun c _ => ⟨_, rfl, rfl, hF c⟩, List.map_map]
  rfl
def letters : Str := "abcdefghijklmnopqrstuvwxyz"
def marksC : Str := "cfhl"
def nameB (d : D) : Bool := match d with
  | .str s => (decide (1 ≤ s.length) && decide (s.length ≤ 3)) && charsIn s letters
  | _ => false
theorem m_name {d : D} (h : isFrz d = false) : den_is_name [d] = .ok (.bl (nameB d)) := by
  unfold den_is_name
  rw [defR_ok (by rfl)]
  unfold g_is_name
  cases d with
  | str s =>
    simp only [runB, List.map_cons, List.map_nil, sRet_ap, eAnd_ap, eUn_ap, getD_0, R.ok_bind, isiR_ok (d := .str s) rfl (T := "str") (by simp), show isTy "str" (.str s) = true from rfl, boolR_bl, if_true, eChain_ap, chainR, leR, eC_ap, aCons_ap, aNil_ap, lenR, eOfF_ap, eComp_ap, List.cons_append, List.nil_append]
    rw [show itemsR (.str s) = .ok (charsD s) from rfl]
    simp only [R.ok_bind]
    rw [all_chars (n := 1) s letters _ _ fun c => rfl]
    simp only [R.ok_bind, all_bls]
    show _ = R.ok (D.bl ((decide (1 ≤ s.length) && decide (s.length ≤ 3)) && charsIn s letters))
    have e : (s.cps.toList.map fun c => decide (c ∈ letters.cps.toList)).all id = charsIn s letters := by unfold charsIn; rw [List.all_map]; rfl
    rw [e]
    have e1 : decide ((1 : Int) ≤ (s.length : Int)) = decide (1 ≤ s.length) := by rw [decide_eq_decide]; omega
    have e2 : decide ((s.length : Int) ≤ 3) = decide (s.length ≤ 3) := by rw [decide_eq_decide]; omega
    rw [e1, e2]
    cases decide (1 ≤ s.length) with
    | false => rfl
    | true =>
      simp only [if_true, boolR_bl, R.ok_bind]
      cases decide (s.length ≤ 3) <;> rfl
  | frz ns => cases h
  | opq => cases h
  | _ => rfl
def risL : List Nat → Bool
  | a :: b :: r => decide (a < b) && risL (b :: r)
  | _ => true
def marksB (d : D) : Bool := match d with
  | .str s => charsIn s marksC && risL s.cps.toList
  | _ => false
theorem lt_chr (a b : Nat) : ltR (.str ⟨#[a]⟩) (.str ⟨#[b]⟩) = .ok (.bl (decide (a < b))) := by
  show R.ok (D.bl (decide (([a] : List Nat) < [b]))) = _
  congr 2
  rw [decide_eq_decide]
  constructor
  · intro h
    cases h with
    | rel h => exact h
    | cons h => cases h
  · exact fun h => .rel h
theorem zip_ris (l : List Nat) : ((l.zip (l.drop 1)).map fun p => decide (p.1 < p.2)).all id = risL l := by
  induction l with
  | nil => rfl
  | cons a l ih =>
    cases l with
    | nil => rfl
    | cons b r =>
      have ih : (((b :: r).zip r).map fun p => decide (p.1 < p.2)).all id = risL (b :: r) := ih
      show (decide (a < b) && (((b :: r).zip r).map fun p => decide (p.1 < p.2)).all id) = _
      rw [ih]; rfl
theorem m_marks {d : D} (h : isFrz d = false) : den_are_marks [d] = .ok (.bl (marksB d)) := by
  unfold den_are_marks
  rw [defR_ok (by rfl)]
  unfold g_are_marks
  cases d with
  | str s =>
    simp only [runB, List.map_cons, List.map_nil, sSeq_ap, sIf_ap, tOr_ap, tNot_ap, tVal_ap, sRet_ap, eUn_ap, getD_0, R.ok_bind, isiR_ok (d := .str s) rfl (T := "str") (by simp), show isTy "str" (.str s) = true from rfl, boolR_bl, Bool.not_true, Bool.false_eq_true, if_false, aCons_ap, aNil_ap, eOfF_ap, eComp_ap, List.cons_append, List.nil_append]
    rw [show itemsR (.str s) = .ok (charsD s) from rfl]
    simp only [R.ok_bind]
    rw [all_chars (n := 1) s marksC _ _ fun c => rfl]
    simp only [R.ok_bind, all_bls, boolR_bl]
    have e : (s.cps.toList.map fun c => decide (c ∈ marksC.cps.toList)).all id = charsIn s marksC := by unfold charsIn; rw [List.all_map]; rfl
    rw [e]
    show _ = R.ok (D.bl (charsIn s marksC && risL s.cps.toList))
    cases charsIn s marksC with
    | false => rfl
    | true =>
      simp only [Bool.not_true, liftO, Bool.false_eq_true, if_false, sNil_ap, seqO, Bool.true_and]
      have ez : fZip (getD' 0) (eSlice (getD' 0) (eUn optR (eC (.int 1))) oNone) (Slot.d (.str s) :: List.replicate 3 Slot.u) = .ok ((s.cps.toList.zip (s.cps.toList.drop 1)).map fun p => D.tup [.str ⟨#[p.1]⟩, .str ⟨#[p.2]⟩]) := by
        have e1 : (L2.cutS s (some (1 : Int)) none).cps.toList = s.cps.toList.drop 1 := by
          have hl : s.length = s.cps.toList.length := by rw [Array.length_toList]; rfl
          show (s.cps.toList.drop (HT.sIx s.length 0 (some ((1 : Nat) : Int)))).take (HT.sIx s.length s.length none - HT.sIx s.length 0 (some ((1 : Nat) : Int))) = _
          rw [HT.sIx_nat, HT.sIx_none, hl]
          by_cases h1 : 1 ≤ s.cps.toList.length
          · rw [Nat.min_eq_left h1, List.take_of_length_le (by rw [List.length_drop]; omega)]
          · have h0 : s.cps.toList = [] := List.eq_nil_of_length_eq_zero (by omega)
            rw [h0]; rfl
        show R.ok (pairs2 (charsD s) (charsD (L2.cutS s (some 1) none))) = _
        unfold pairs2 charsD
        rw [e1, List.zip_map, List.map_map]
        rfl
      simp only [sRet_ap, eUn_ap, aCons_ap, aNil_ap, eOfF_ap, eComp_ap, ez, R.ok_bind]
      rw [compO_all (f := fun p : Nat × Nat => D.tup [.str ⟨#[p.1]⟩, .str ⟨#[p.2]⟩]) (g := fun p : Nat × Nat => D.bl (decide (p.1 < p.2))) _ fun p _ => ⟨_, rfl, rfl, lt_chr p.1 p.2⟩]
      simp only [R.ok_bind]
      rw [show ((s.cps.toList.zip (s.cps.toList.drop 1)).map fun p => D.bl (decide (p.1 < p.2))) = (((s.cps.toList.zip (s.cps.toList.drop 1)).map fun p => decide (p.1 < p.2)).map D.bl) by rw [List.map_map]; rfl, all_bls, zip_ris]
      rfl
  | frz ns => cases h
  | opq => cases h
  | _ => rfl
def strB (d : D) : Bool := match d with
  | .str _ => true
  | _ => false
def boxB (d : D) : Bool := match d with
  | .tup [a, b, c, e, f, g, m] => nameB a && (marksB m && (strB b && ((withinB c (-20) 20 && withinB e (-20) 20) && (withinB f 0 20 && withinB g 0 20))))
  | _ => false
def okD1 (d : D) : Prop := isFrz d = false ∧ ∀ xs, d = .tup xs → ∀ x ∈ xs, isFrz x = false
theorem isStr_ok {d : D} (h : isFrz d = false) : isiR "str" d = .ok (.bl (strB d)) := by
  rw [isiR_ok h (by simp)]
  cases d <;> rfl
theorem m_box {d : D} (h : okD1 d) : den_is_box [d] = .ok (.bl (boxB d)) := by
  obtain ⟨h0, h1⟩ := h
  unfold den_is_box
  rw [defR_ok (by rfl)]
  unfold g_is_box
  cases d with
  | tup xs =>
    have h1 := h1 xs rfl
    by_cases hl : xs.length = 7
    · obtain ⟨a, b, c, e, f, g, m, rfl⟩ : ∃ a b c e f g m, xs = [a, b, c, e, f, g, m] := by
        match xs, hl with
        | [a, b, c, e, f, g, m], _ => exact ⟨a, b, c, e, f, g, m, rfl⟩
      have ha := h1 a (by simp)
      have hb := h1 b (by simp)
      have hc := h1 c (by simp)
      have he := h1 e (by simp)
      have hf := h1 f (by simp)
      have hg := h1 g (by simp)
      have hm := h1 m (by simp)
      have i0 : ixR (.tup [a, b, c, e, f, g, m]) (.int 0) = .ok a := rfl
      have i1 : ixR (.tup [a, b, c, e, f, g, m]) (.int 1) = .ok b := rfl
      have i6 : ixR (.tup [a, b, c, e, f, g, m]) (.int 6) = .ok m := rfl
      have s1 : sliceR (.tup [a, b, c, e, f, g, m]) (some 2) (some 4) = .ok (.tup [c, e]) := rfl
      have s2 : sliceR (.tup [a, b, c, e, f, g, m]) (some 4) (some 6) = .ok (.tup [f, g]) := rfl
      have w1 : ∀ (n : Nat) (env : En) (lo hi : Int) (F : En → R D) (x y : D), (∀ z, (z = x ∨ z = y) → F ((wipeE env [n]).set n (.d z)) = .ok (.bl (withinB z lo hi))) → compO (nameT n) tTrue F (wipeE env [n]) [x, y] = .ok ([withinB x lo hi, withinB y lo hi].map D.bl) := fun n env lo hi F x y hF => by
        have := compO_all (T := nameT n) (C := tTrue) (F := F) (f := fun z : D => z) (g := fun z : D => D.bl (withinB z lo hi)) (e := wipeE env [n]) [x, y] fun z hz => ⟨_, rfl, rfl, hF z (by simpa using hz)⟩
        simpa using this
      simp only [runB, List.map_cons, List.map_nil, sSeq_ap, sIf_ap, tOr_ap, tNot_ap, tVal_ap, tBin_ap, sRet_ap, eUn_ap, eBin_ap, eC_ap, eSlice_ap, optR_int, getD_0, R.ok_bind, isiR_ok (d := .tup [a, b, c, e, f, g, m]) rfl (T := "tuple") (by simp), show isTy "tuple" (.tup [a, b, c, e, f, g, m]) = true from rfl, boolR_bl, Bool.not_true, Bool.false_eq_true, if_false, aCons_ap, aNil_ap, List.cons_append, List.nil_append, show lenR [.tup [a, b, c, e, f, g, m]] = .ok (.int 7) from rfl, show neR (.int 7) (.int 7) = .ok (.bl false) from rfl, i0, i1, i6, s1, s2, m_name ha, m_marks hm, isStr_ok hb]
      show _ = R.ok (D.bl (nameB a && (marksB m && (strB b && ((withinB c (-20) 20 && withinB e (-20) 20) && (withinB f 0 20 && withinB g 0 20))))))
      cases nameB a with
      | false => rfl
      | true =>
        cases marksB m with
        | false => rfl
        | true =>
          simp only [Bool.not_true, Bool.false_eq_true, if_false, liftO, sNil_ap, seqO, sSeq_ap, sIf_ap, tOr_ap, tNot_ap, tVal_ap, sRet_ap, eUn_ap, eBin_ap, eC_ap, eSlice_ap, optR_int, getD_0, R.ok_bind, boolR_bl, aCons_ap, aNil_ap, eOfF_ap, eComp_ap, i1, s1, s2, isStr_ok hb, itemsR_tup]
          rw [w1 1 _ (-20) 20 _ c e (fun z hz => by
            show den_is_within [z, .int (0 - 20), .int 20] = _
            rw [m_within (by rcases hz with rfl | rfl; exact hc; exact he)]; rfl)]
          simp only [R.ok_bind, all_bls, boolR_bl]
          cases strB b with
          | false => rfl
          | true =>
            simp only [Bool.not_true, Bool.false_eq_true, if_false, Bool.true_and, List.all_cons, List.all_nil, id, Bool.and_true]
            cases (withinB c (-20) 20 && withinB e (-20) 20) with
            | false => rfl
            | true =>
              simp only [Bool.not_true, Bool.false_eq_true, if_false, getD_0, R.ok_bind, s2, itemsR_tup]
              rw [w1 2 _ 0 20 _ f g (fun z hz => by
                show den_is_within [z, .int 0, .int 20] = _
                rw [m_within (by rcases hz with rfl | rfl; exact hf; exact hg)])]
              simp only [R.ok_bind, all_bls, List.all_cons, List.all_nil, id, Bool.and_true, Bool.true_and]
    · simp only [runB, List.map_cons, List.map_nil, sSeq_ap, sIf_ap, tOr_ap, tNot_ap, tVal_ap, tBin_ap, sRet_ap, eUn_ap, eC_ap, getD_0, R.ok_bind, isiR_ok (d := .tup xs) rfl (T := "tuple") (by simp), show isTy "tuple" (.tup xs) = true from rfl, boolR_bl, Bool.not_true, Bool.false_eq_true, if_false, aCons_ap, aNil_ap, List.cons_append, List.nil_append, show lenR [.tup xs] = .ok (.int xs.length) from rfl]
      have hne : neR (.int (xs.length : Int)) (.int 7) = .ok (.bl true) := by
        show R.ok (D.bl (!decide ((xs.length : Int) = 7))) = _
        rw [decide_eq_false (by omega)]; rfl
      rw [hne]
      have hb : boxB (.tup xs) = false := by
        unfold boxB
        split
        · rename_i e; cases e; exact absurd rfl hl
        · rfl
      rw [hb]
      rfl
  | frz ns => cases h0
  | opq => cases h0
  | _ => rfl
end Fo

namespace Fo
open PySem Dx Dn
def nmD (d : D) : Str := match d with
  | .tup (.str s :: _) => s
  | _ => ""
def arD (d : D) : Str := match d with
  | .tup (_ :: .str s :: _) => s
  | _ => ""
def nodB : List Str → List D → Bool
  | _, [] => true
  | ns, x :: xs => !decide (nmD x ∈ ns) && nodB (ns ++ [nmD x]) xs
def arB : List Str → List D → Bool
  | _, [] => true
  | ns, x :: xs => (decide (arD x = "") || decide (arD x ∈ ns)) && arB (ns ++ [nmD x]) xs
def lawB : List Str → List D → Bool
  | _, [] => true
  | ns, x :: xs => (boxB x && (!decide (nmD x ∈ ns) && (decide (arD x = "") || decide (arD x ∈ ns)))) && lawB (ns ++ [nmD x]) xs
theorem lawB_eq : ∀ (xs : List D) (ns : List Str), lawB ns xs = (xs.all boxB && (nodB ns xs && arB ns xs))
  | [], _ => rfl
  | x :: xs, ns => by
    unfold lawB nodB arB
    rw [lawB_eq xs, List.all_cons]
    cases boxB x <;> cases decide (nmD x ∈ ns) <;> cases (decide (arD x = "") || decide (arD x ∈ ns)) <;> cases xs.all boxB <;> simp
def scB (d : D) : Bool := match d with
  | .tup xs => decide (xs.length ≤ 12) && lawB [] xs
  | _ => false
def okD2 (d : D) : Prop := isFrz d = false ∧ ∀ xs, d = .tup xs → ∀ x ∈ xs, okD1 x
theorem nodB_iff : ∀ (xs : List D) (ns : List Str), nodB ns xs = true ↔ (∀ x ∈ xs, nmD x ∉ ns) ∧ (xs.map nmD).Nodup
  | [], ns => by simp [nodB]
  | x :: xs, ns => by
    unfold nodB
    rw [Bool.and_eq_true, nodB_iff xs, List.map_cons, List.nodup_cons]
    simp only [Bool.not_eq_true', decide_eq_false_iff_not, List.mem_append, List.mem_singleton, not_or, List.mem_cons, forall_eq_or_imp, List.mem_map, not_exists, not_and, List.not_mem_nil, not_false_eq_true, and_true]
    constructor
    · rintro ⟨h1, h2, h3⟩
      exact ⟨⟨h1, fun y hy => (h2 y hy).1⟩, fun y hy e => (h2 y hy).2 e, h3⟩
    · rintro ⟨⟨h1, h2⟩, h3, h4⟩
      exact ⟨h1, fun y hy => ⟨h2 y hy, h3 y hy⟩, h4⟩
theorem box_shape {d : D} (h : boxB d = true) : ∃ s b c e f g m, d = .tup [.str s, .str b, c, e, f, g, m] := by
  unfold boxB at h
  split at h
  · rename_i a b c e f g m
    rw [Bool.and_eq_true, Bool.and_eq_true, Bool.and_eq_true] at h
    cases a with
    | str s =>
      cases b with
      | str b => exact ⟨s, b, c, e, f, g, m, rfl⟩
      | _ => exact absurd h.2.2.1 (by simp [strB])
    | _ => exact absurd h.1 (by simp [nameB])
  · cases h
theorem nub_le {κ : Type} [DecidableEq κ] : ∀ ks : List κ, (Sx.nub ks).length ≤ ks.length
  | [] => Nat.le_refl _
  | k :: ks => by
    have := nub_le ks
    unfold Sx.nub
    split
    · rw [List.length_cons]; omega
    · rw [List.length_cons, List.length_cons]; omega
theorem nub_lt {κ : Type} [DecidableEq κ] : ∀ ks : List κ, (Sx.nub ks).length < ks.length ↔ ¬ ks.Nodup
  | [] => by simp [Sx.nub]
  | k :: ks => by
    have ih := nub_lt ks
    have := nub_le ks
    unfold Sx.nub
    rw [List.nodup_cons]
    split
    · rename_i h
      rw [List.length_cons]
      constructor
      · intro _ z; exact z.1 h
      · intro _; omega
    · rename_i h
      rw [List.length_cons, List.length_cons]
      constructor
      · intro z y; exact ih.mp (by omega) y.2
      · intro z; have := ih.mpr fun y => z ⟨h, y⟩; omega
theorem lenSet_strs (xs : List Str) (h : xs.length < 4000) : lenSetR (sL xs) = .ok (.int (Sx.nub xs).length) := by
  have := Ty.ro_lenSetS xs
  unfold Ty.lenSetG at this
  rw [if_pos h] at this
  exact this
theorem ar_all (full : List Str) : ∀ (xs : List D) (ns : List Str), full = ns ++ xs.map nmD → ((xs.zipIdx ns.length).map fun p => (decide (arD p.1 = "") || decide (arD p.1 ∈ full.take p.2))).all id = arB ns xs
  | [], _, _ => rfl
  | x :: xs, ns, e => by
    rw [List.zipIdx_cons, List.map_cons, List.all_cons]
    have ih := ar_all full xs (ns ++ [nmD x]) (by rw [e, List.map_cons, List.append_assoc]; rfl)
    rw [List.length_append, List.length_singleton] at ih
    rw [ih]
    show _ = ((decide (arD x = "") || decide (arD x ∈ ns)) && arB (ns ++ [nmD x]) xs)
    have : full.take ns.length = ns := by rw [e]; exact List.take_left' rfl
    rw [this]
    rfl
theorem m_isScene {d : D} (h : okD2 d) : den_is_scene [d] = .ok (.bl (scB d)) := by
  obtain ⟨h0, h1⟩ := h
  unfold den_is_scene
  rw [defR_ok (by rfl)]
  unfold g_is_scene
  cases d with
  | tup xs =>
    have h1 := h1 xs rfl
    simp only [runB, List.map_cons, List.map_nil, sSeq_ap, sIf_ap, tOr_ap, tNot_ap, tVal_ap, tBin_ap, sRet_ap, eUn_ap, eC_ap, getD_0, R.ok_bind, isiR_ok (d := .tup xs) rfl (T := "tuple") (by simp), show isTy "tuple" (.tup xs) = true from rfl, boolR_bl, Bool.not_true, Bool.false_eq_true, if_false, aCons_ap, aNil_ap, List.cons_append, List.nil_append, show lenR [.tup xs] = .ok (.int xs.length) from rfl, show gtR (.int (xs.length : Int)) (.int 12) = .ok (.bl (decide ((12 : Int) < xs.length))) from rfl, eOfF_ap, eComp_ap, itemsR_tup]
    show _ = R.ok (D.bl (decide (xs.length ≤ 12) && lawB [] xs))
    by_cases hl : xs.length ≤ 12
    · rw [decide_eq_true hl, decide_eq_false (show ¬ (12 : Int) < xs.length by omega), lawB_eq, Bool.true_and]
      simp only [Bool.false_eq_true, if_false]
      have ec := compO_all (T := nameT 2) (C := tTrue) (F := eUn den_is_box (aCons (getD' 2) aNil)) (f := fun z : D => z) (g := fun z : D => D.bl (boxB z)) (e := wipeE (Slot.d (.tup xs) :: List.replicate 3 Slot.u) [2]) xs fun z hz => ⟨_, rfl, rfl, m_box (h1 z hz)⟩
      rw [List.map_id'] at ec
      rw [ec]
      have eb : (xs.map fun z => D.bl (boxB z)) = (xs.map boxB).map D.bl := by rw [List.map_map]; rfl
      have ea : (xs.map boxB).all id = xs.all boxB := by rw [List.all_map]; rfl
      simp only [R.ok_bind]
      rw [eb, all_bls, ea]
      simp only [boolR_bl, R.ok_bind]
      cases hab : xs.all boxB with
      | false => rfl
      | true =>
        rw [List.all_eq_true] at hab
        simp only [Bool.not_true, liftO, Bool.false_eq_true, if_false, sNil_ap, seqO, sSeq_ap, sSet_ap, eOfF_ap, eComp_ap, eUn_ap, getD_0, R.ok_bind, itemsR_tup, Bool.true_and]
        have en := compO_all (T := nameT 2) (C := tTrue) (F := eBin ixR (getD' 2) (eC (.int 0))) (f := fun z : D => z) (g := fun z : D => D.str (nmD z)) (e := wipeE (Slot.d (.tup xs) :: List.replicate 3 Slot.u) [2]) xs fun z hz => by
          obtain ⟨s, b, c, e, f, g, m, rfl⟩ := box_shape (hab z hz)
          exact ⟨_, rfl, rfl, rfl⟩
        rw [List.map_id'] at en
        rw [en]
        have es : (xs.map fun z => D.str (nmD z)) = (xs.map nmD).map D.str := by rw [List.map_map]; rfl
        rw [es]
        simp only [R.ok_bind, liftO, seqO, show List.replicate 3 Slot.u = [Slot.u, Slot.u, Slot.u] from rfl, List.set_cons_zero, List.set_cons_succ, sIf_ap, tBin_ap, eUn_ap, eC_ap, getD_0, getD_s, aCons_ap, aNil_ap, sRet_ap, eOfF_ap, eComp_ap, sSeq_ap]
        rw [show (D.lst ((xs.map nmD).map D.str)) = sL (xs.map nmD) from rfl, lenSet_strs _ (by rw [List.length_map]; omega)]
        rw [show lenR [sL (xs.map nmD)] = .ok (.int (xs.map nmD).length) by unfold sL lenR; simp]
        simp only [R.ok_bind]
        rw [show ltR (.int ((Sx.nub (xs.map nmD)).length : Int)) (.int ((xs.map nmD).length : Int)) = .ok (.bl (decide ((Sx.nub (xs.map nmD)).length < (xs.map nmD).length))) by
          show R.ok (D.bl (decide _)) = _
          congr 2
          rw [decide_eq_decide]; omega]
        simp only [R.ok_bind, boolR_bl]
        by_cases nd : (xs.map nmD).Nodup
        · rw [decide_eq_false (fun z => (nub_lt _).mp z nd)]
          have hn : nodB [] xs = true := (nodB_iff xs []).mpr ⟨fun _ _ => by simp, nd⟩
          rw [hn, Bool.true_and]
          simp only [Bool.false_eq_true, if_false, sNil_ap, fEnT_ap, getD_0, R.ok_bind]
          have ep := compO_all (T := tupT [3, 2]) (C := tTrue) (F := (eOr (eBin eqR (eBin ixR (getD' 2) (eC (.int 1))) (eC (.str ""))) (eBin inR (eBin ixR (getD' 2) (eC (.int 1))) (eSlice (getD' 1) oNone (eUn optR (getD' 3))))))
            (f := fun p : D × Nat => D.tup [.int (p.2 : Nat), p.1]) (g := fun p : D × Nat => D.bl (decide (arD p.1 = "") || decide (arD p.1 ∈ (xs.map nmD).take p.2))) (e := wipeE [Slot.d (.tup xs), Slot.d (sL (xs.map nmD)), Slot.u, Slot.u] [3, 2]) xs.zipIdx fun p hp => by
              have hz : p.1 ∈ xs := by
                have h2 : p.1 ∈ (List.zipIdx xs).map Prod.fst := List.mem_map_of_mem hp
                rw [List.zipIdx_map_fst] at h2; exact h2
              obtain ⟨s, b, c, e, f, g, m, hd⟩ := box_shape (hab p.1 hz)
              refine ⟨[Slot.d (.tup xs), Slot.d (sL (xs.map nmD)), Slot.d p.1, Slot.d (.int (p.2 : Nat))], rfl, rfl, ?_⟩
              have i1 : ixR p.1 (.int 1) = .ok (.str (arD p.1)) := by rw [hd]; rfl
              have sl : sliceR (sL (xs.map nmD)) none (some ((p.2 : Nat) : Int)) = .ok (sL ((xs.map nmD).take p.2)) := by
                show R.ok (D.lst (cutL ((xs.map nmD).map D.str) none (some ((p.2 : Nat) : Int)))) = _
                rw [cutL_to, ← List.map_take]
                rfl
              simp only [eOr_ap, eBin_ap, eUn_ap, eC_ap, getD_0, getD_s, R.ok_bind, i1, eq_str, boolR_bl, eSlice_ap, oNone_ap, optR_int, sl, in_strs]
              cases decide (arD p.1 = "") <;> rfl
          rw [show pairs0 xs = xs.zipIdx.map fun p : D × Nat => D.tup [.int (p.2 : Nat), p.1] from rfl, ep]
          simp only [R.ok_bind]
          rw [show (xs.zipIdx.map fun p : D × Nat => D.bl (decide (arD p.1 = "") || decide (arD p.1 ∈ (xs.map nmD).take p.2))) = (xs.zipIdx.map fun p : D × Nat => (decide (arD p.1 = "") || decide (arD p.1 ∈ (xs.map nmD).take p.2))).map D.bl by rw [List.map_map]; rfl, all_bls]
          have := ar_all (xs.map nmD) xs [] rfl
          rw [show xs.zipIdx = xs.zipIdx ([] : List Str).length from rfl, this]
        · rw [decide_eq_true ((nub_lt _).mpr nd)]
          have hn : nodB [] xs = false := by
            rw [Bool.eq_false_iff]
            exact fun z => nd ((nodB_iff xs []).mp z).2
          rw [hn]
          rfl
    · rw [decide_eq_false hl, decide_eq_true (show (12 : Int) < xs.length by omega)]
      rfl
  | frz ns => cases h0
  | opq => cases h0
  | _ => rfl
end Fo

namespace Ty
open PySem Dx Dn Fo
open Enc (enc)
class ET (σ : Type) where
  tr : σ → Tr
  cl : ∀ s, (tr s).closed = true
  nd : ∀ s, (tr s).isD = false
open ET (tr)
abbrev st {σ : Type} [ET σ] (n : Nat) (k : Tk) (s : σ) : Option Slot := some (.tr n k (tr s))
inductive RS (ρ α : Type) where
  | ok (a : α) (r : ρ)
  | exc (c : Str) (r : ρ)
  | bad
inductive OX (σ ρ α : Type) where
  | nx (s : σ)
  | rt (a : α) (r : ρ)
  | bk (s : σ)
  | ct (s : σ)
  | exc (c : Str) (r : ρ)
  | bad
section
variable {σ σ' τ ρ α β γ : Type}
def OX.bd (r : R β) (z : ρ) (k : β → OX σ ρ α) : OX σ ρ α := match r with
  | .ok b => k b
  | .exc c => .exc c z
  | .bad => .bad
def OX.bs (t : RS τ β) (ex : τ → ρ) (k : β → τ → OX σ ρ α) : OX σ ρ α := match t with
  | .ok b s => k b s
  | .exc c s => .exc c (ex s)
  | .bad => .bad
def OX.sq (t : OX σ' ρ α) (k : σ' → OX σ ρ α) : OX σ ρ α := match t with
  | .nx s => k s
  | .rt a r => .rt a r
  | .exc c r => .exc c r
  | _ => .bad
def forX {σ ρ α β : Type} (f : σ → β → OX σ ρ α) : List β → σ → OX σ ρ α
  | [], s => .nx s
  | x :: xs, s => match f s x with
    | .nx s => Ty.forX f xs s
    | .ct s => Ty.forX f xs s
    | .bk s => .nx s
    | .rt a r => .rt a r
    | .exc c r => .exc c r
    | .bad => .bad
def OX.fin (n : α) (t : OX ρ ρ α) : RS ρ α := match t with
  | .nx r => .ok n r
  | .rt a r => .ok a r
  | .exc c r => .exc c r
  | _ => .bad
def OX.finD (t : OX ρ ρ α) : R α := match t with
  | .rt a _ => .ok a
  | .exc c _ => .exc c
  | _ => .bad
end
section
variable {σ σ' τ ρ α β γ δ : Type} [Enc α] [Enc β] [Enc γ] {p p' : Pat} {e : En} {i : Nat}
def XO (P : σ → Pat) (Pr : ρ → Pat) (o : OutX) (t : OX σ ρ α) : Prop := match t with
  | .nx s => ∃ e, o = .nx e ∧ EnvIs (P s) e
  | .rt a r => ∃ e, o = .rt (.d (enc a)) e ∧ EnvIs (Pr r) e
  | .bk s => ∃ e, o = .bk e ∧ EnvIs (P s) e
  | .ct s => ∃ e, o = .ct e ∧ EnvIs (P s) e
  | .exc c r => ∃ e, o = .exc c e ∧ EnvIs (Pr r) e
  | .bad => True
variable {P : σ → Pat} {P' : σ' → Pat} {Pr : ρ → Pat} {A B C : En → R D} {FA FB FC : En → RX D} {FT FU : En → RX Bool} {G G1 G2 : En → OutX} {K : En → OutX} {T T1 T2 : OX σ ρ α}
section
variable {K1 : D → En → OutX} {KB : Bool → En → OutX} {KL : List D → En → OutX} {KV : RV → En → OutX} {δ' : Type}
section
variable {As : En → R (List Slot)} {Q : R γ} {g : γ → δ'} {KS : List Slot → R δ'}
end
-- changing defs
section
variable {As : En → R (List Ag)} {KA : List Ag → En → OutX}
end
end
section
variable {c : Str} {F : List Slot → RF} {k : Tr → En → OutX}
end
def RS.of {ρ α : Type} (t : R α) (s : ρ) : RS ρ α := match t with
  | .ok a => .ok a s
  | .exc c => .exc c s
  | .bad => .bad
theorem fnE_D {n m : Nat} {ds : List D} {t : OX ρ ρ α} {p0 : Pat} (hl : ds.length = n) (hp : (ds.map fun d => some (Slot.d d)) ++ List.replicate m none = p0) (h : ∀ e, EnvIs p0 e → XO Pr Pr (G e) t) : Rr (toD (defE n m G) ds) t.finD enc := by
  unfold toD defE
  rw [if_pos (by rw [List.length_map]; exact hl)]
  unfold runE
  have h := h _ (EnvIs.of ds m hp)
  have hi : idxs 0 (ds.map Slot.d) = [] := idxs_d0 ds 0
  cases t with
  | nx s => trivial
  | rt a r => obtain ⟨e, h1, h2⟩ := h; rw [h1]; show (match exitE (ds.map Slot.d) (.d (enc a)) e with | .ok (.d d) _ => R.ok d | .exc c _ => .exc c | _ => .bad) = _; unfold exitE; rw [hi]; rfl
  | bk s => trivial
  | ct s => trivial
  | bad => trivial
  | exc c r => obtain ⟨e, h1, h2⟩ := h; rw [h1]; show (match exitX (ds.map Slot.d) c e with | .ok (.d d) _ => R.ok d | .exc c _ => .exc c | _ => .bad) = _; unfold exitX; rw [hi]; rfl
where idxs_d0 : ∀ (ds : List D) (j : Nat), idxs j (ds.map Slot.d) = []
  | [], _ => rfl
  | _ :: ds, j => by
    show (if Dx.isTr (Slot.d _) = true then _ else idxs (j + 1) (ds.map Slot.d)) = []
    rw [if_neg (by intro z; cases z)]; exact idxs_d0 ds _
end
open Classical in
noncomputable def unD {α : Type} [Enc α] (d : D) : R α := if h : ∃ a : α, enc a = d then .ok h.choose else .bad
end Ty

namespace Dx
open PySem PySem.Spec PyProof.Rows L2

section
variable {K : PySem.W.Frag} {ξ : Str → Value} {M : Fm ξ} {σ σ' : L2.St} {env env' e : En} {H0 H H0' H' : Hp} {T T' : Nat → Addr} {τ τ' : Nat → Nat → Option V} {ρ ρ' : Nat → List Addr} {L L' N : Loose} {b b' : Nat → Nat} {W : WX} {Q : VK}
end
section
variable {X : Cx} {W : WX} {ξ : Str → Value} {elt tg iter : Expr} {scope : Scope} {own : List (Str × Nat)} {pos : Pos}
variable {Fi : En → R (List D)} {Tg : D → En → R En} {F : En → RX D} {ts : List Nat}
end
end Dx

namespace Dx
open PySem PySem.Spec PyProof.Rows L2
section
variable {X : Cx} {W : WX} {ξ : Str → Value} {elt tg iter : Expr} {ifs : List Expr} {scope : Scope} {own : List (Str × Nat)} {pos : Pos}
variable {A : En → RX D} {T : D → En → R En} {C : En → R Bool} {F : En → R D} {ts : List Nat}
variable {K : PySem.W.Frag} {M : Fm ξ} {σ : L2.St} {env : En} {H0 H : Hp} {Q : VK}
def PostXI (K : PySem.W.Frag) (W : WX) (ξ : Str → Value) (M : Fm ξ) (σ : L2.St) (H0 : Hp) (R' : It → Hp → Prop) : RX (List D) → Prop
  | .ok ds e => ∀ J H0' H', Same H0 H0' → EnvS K M H0' H' σ e → Feeds K H0' H0' J ds → R' J H'
  | .exc x e => ∀ H0' H', Same H0 H0' → EnvS K M H0' H' σ e → W (ξ x) none σ H'
  | .bad => False
theorem PostXI.weak {H0' : Hp} {R' : It → Hp → Prop} {x : RX (List D)} (s : Same H0 H0') (p : PostXI K W ξ M σ H0 R' x) : PostXI K W ξ M σ H0' R' x := by
  cases x with
  | ok d e => exact fun J H1 H2 s' => p J H1 H2 (s.trans s')
  | exc c e => exact fun H1 H2 s' => p H1 H2 (s.trans s')
  | bad => exact p
variable {Fi : En → RX (List D)}
end
end Dx

namespace Dx
open PySem PySem.Spec PyProof.Rows L2
variable {X : Cx} {W : WX} {ξ : Str → Value} {pos : Pos} {a b : Expr} {fa fb : En → R D} {c1 c2 : Bool}
end Dx

namespace Dx
open PySem PySem.Spec PyProof.Rows L2
variable {X : Cx} {W : WX} {ξ : Str → Value} {pos : Pos} {a b : Expr} {fa fb : En → R D} {c1 c2 : Bool}
def catF : D → D → R (List D)
  | .lst xs, .lst ys => if xs.length + ys.length ≤ sizeLine then .ok (xs ++ ys) else .bad
  | _, _ => .bad
def eCatF (A B : En → R D) : En → R (List D) := fun env => A env >>= fun x => B env >>= fun y => catF x y
theorem df_cat (ha : DE X W ξ c1 a fa) (hb : DE X W ξ c2 b fb) : DF X W ξ (.BinOp a .Add b pos) (eCatF fa fb) :=
  peImp (pe_op op_cat ha hb) fun σ H Q ⟨M, H0, env, E, p⟩ => ⟨M, H0, env, E, bindE wishF p fun d1 x H1 H2 g1 r1 p1 => ⟨M, H1, env, g1.e, bindE wishF p1 fun d2 y H3 H4 g2 r2 p2 => by
    have r1 := r1.mono g2.s0 g2.s
    unfold catF at p2
    split at p2
    · split at p2
      · rename_i h
        obtain ⟨q1, vs, rfl, h1, r3⟩ := r1.lst g2.e.same
        obtain ⟨q2, us, rfl, h2, r4⟩ := r2.lst g2.e.same
        exact ⟨_, _, _, _, rfl, rfl, h1, h2, by rw [r3.length, r4.length]; exact h, newF g2.e p2 (by rw [List.length_append]; exact h) (r3.append r4)⟩
      · exact p2.elim
    · exact p2.elim⟩⟩
end Dx

namespace Ty
open PySem Dx Dn Fo
open Enc (enc)
open ET (tr)
noncomputable section
variable {σ ρ τ α β γ : Type} [Enc α] [Enc β] [Enc γ] {p : Pat} {e : En} {i : Nat}
variable {P : σ → Pat} {Pr : ρ → Pat} {T : OX σ ρ α}
theorem ro_catF (xs ys : List β) : Rr (catF (enc xs) (enc ys)) (catL xs ys) (List.map enc) := by
  unfold catL
  split
  · rename_i h
    show catF (.lst _) (.lst _) = _
    unfold catF
    simp only [List.length_map]
    rw [if_pos h, List.map_append]
  · trivial
variable {A B : En → R D}
theorem w_catF {γ : Type} {g : γ → List D} {T : R γ} (h : Rr (A e >>= fun x => B e >>= fun y => catF x y) T g) : Rr (eCatF A B e) T g := h
instance {ε δ ζ : Type} [Enc ε] [Enc δ] [Enc ζ] [Co α ζ] [Co β ζ] [Co γ ζ] [Co δ ζ] [Co ε ζ] : Co (T5 α β γ δ ε) (Tu ζ) := ⟨fun x => ⟨[Co.f x.a, Co.f x.b, Co.f x.c, Co.f x.d, Co.f x.e]⟩, fun x => by show D.tup [enc (Co.f x.a), enc (Co.f x.b), enc (Co.f x.c), enc (Co.f x.d), enc (Co.f x.e)] = _; rw [Co.h, Co.h, Co.h, Co.h, Co.h]; rfl⟩
end
end Ty

namespace Dn
open PySem PySem.Spec PyProof.Rows L2 Dx
end Dn

namespace Dx
open PySem PySem.Spec PyProof.Rows L2

def plainE (e : En) : Bool := e.all fun s => match s with
  | .d _ => true
  | .u => true
  | _ => false
def xsTrySu (i : Nat) (hit : Str → Option Bool) (S : Str → En → Out) (B : En → OutX) : En → OutX := fun env => match B env with
  | .exc x e => (match hit x with
    | some true => if i < e.length ∧ plainE e = true then (match S x (e.set i .ex) with
      | .nx e2 => if plainE (e2.set i .u) = true then .nx (e2.set i .u) else .bad
      | .rt d _ => .rt (.d d) e
      | _ => .bad) else .bad
    | some false => .exc x e
    | none => .bad)
  | o => o
section
variable {K : PySem.W.Frag} {ξ ξ' : Str → Value} {M : Fm ξ} {M2 : Fm ξ'} {σ : L2.St} {env : En} {H0 H H0' H' : Hp}
theorem plain_at (h : plainE env = true) {i : Nat} {s : Slot} (hi : env[i]? = some s) : (∃ d, s = .d d) ∨ s = .u := by
  have := List.all_eq_true.mp h s (List.mem_of_getElem? hi)
  cases s with
  | d x => exact .inl ⟨x, rfl⟩
  | u => exact .inr rfl
  | _ => cases this
theorem env_plain (same : Same H0 H) (fr : Same M2.G H) (nogo : ∀ a, M2.N a → H0 a = none ∧ H a ≠ none) (len : σ.length = env.length)
    (sl : ∀ (i : Nat) (s : Slot), env[i]? = some s → s.own = false ∧ (∀ n k t, s ≠ .tr n k t) ∧ SlotAt K M2 H0 H σ[i]? s) : EnvAt K M2 H0 H σ env := by
  have noOwn : ∀ i a, ¬ Owns σ env i a := fun i a ⟨_, s, h1, h2⟩ => by
    rw [(sl i s h1).1] at h2; cases h2
  exact ⟨same, fr, nogo, len, fun i s h => (sl i s h).2.2, fun i j a h => absurd h (noOwn i a), fun a j _ => noOwn j a, fun i n k t h => absurd rfl ((sl i _ h).2.1 n k t)⟩
theorem plain_slot (E : EnvAt K M H0 H σ env) (hp : plainE env = true) {i : Nat} {s : Slot} (hi : env[i]? = some s) : s.own = false ∧ (∀ n k t, s ≠ .tr n k t) ∧ SlotAt K M2 H0 H σ[i]? s := by
  have q := E.slot i s hi
  rcases plain_at hp hi with ⟨d, e⟩ | e
  · subst e; exact ⟨rfl, (fun _ _ _ z => by cases z), q⟩
  · subst e; exact ⟨rfl, (fun _ _ _ z => by cases z), trivial⟩
end
theorem hit_mem {ks : List Str} {c x : Str} {b : Bool} (h : hitE ks c x = some b) : x ∈ ks := by
  unfold hitE at h
  split at h
  · assumption
  · cases h
theorem room_suite {X : Cx} {k : Nat} (hr : Room k X.A) (a : Addr) (pn : List (Addr × Obj)) : L2H.RoomH k (X.suite a pn).A := ⟨hr.dp, hr.un⟩
section
variable {X : Cx} {W : WX} {ξ : Str → Value} {pos pos' np : Pos} {n x : Str} {c : Value} {i : Nat} {hit : Str → Option Bool} {body suite : List Stmt} {b₀ : Stmt} {B : En → OutX} {S : Str → En → Out}
theorem sx_trySu (hs : X.stack = X.env :: X.outer) (hf : X.env.frame = some X.env.locals) (hN : X.N.Nodup) (hi : X.N[i]? = some n) (hln : X.env.kindOf n = some .local) (hc : Names X x c) (tk : Takes X W)
    (hh : ∀ y b, hit y = some b → PySem.W.exmOne X.K (ξ y) c = some b)
    (hb : ∀ (W : WX) (pn : List (Addr × Obj)) (xe : Value → Shared → Prop), Takes (X.tr pn xe) W → PassesOwn (model X.prog X.w) X.A X.env xe → SXs (X.tr pn xe) W ξ body B)
    (hsu : ∀ (x : Str), hit x = some true → ∀ (p : Addr × Obj) (pn : List (Addr × Obj)), Zc (ξ x) none p.2 → (∃ vs, p.2.data = .fields vs) → DSs (X.suite p.1 (p :: pn)) (fun _ _ _ _ => False) (pinXi ξ p.1) (b₀ :: suite) (S x)) :
    SX X W ξ (.Try body [.ExceptHandler (some (.Name x np)) (some n) (b₀ :: suite) pos'] [] [] pos) (xsTrySu i hit S B) := by
  let ts : Addr → Value → Option Addr → TS := fun a cls d => fun Dn σ H => d = none ∧ ∃ x, ξ x = cls ∧ hit x = some true ∧ tS X.K (fun _ _ _ _ => False) (pinXi ξ a) (S x) Dn σ H
  have hsu' : ∀ (a : Addr) (oe : Obj) (cls : Value) (d : Option Addr) (pn : List (Addr × Obj)), Zc cls d oe → (∃ vs, oe.data = .fields vs) → PSs (X.suite a ((a, oe) :: pn)) (b₀ :: suite) (ts a cls d) := fun a oe cls d pn hz hf' => ⟨fun pins s σ H D I ⟨hd, x, hx, hh, h⟩ => by
    subst hd hx
    exact (hsu x hh (a, oe) pn hz hf').run pins s σ H D I h⟩
  refine psImp (ps_try_as (ts := ts) (tb := fun W => tSX X.K W ξ B) hs hf hN hi hln hc tk hb hsu') fun Dn σ H ⟨M, H0, env, E, p⟩ => ⟨M, H0, env, E, ?_⟩
  unfold xsTrySu at p
  cases hB : B env with
  | nx e => rw [hB] at p; exact p
  | rt r e => rw [hB] at p; exact p
  | bk e => rw [hB] at p; exact p
  | ct e => rw [hB] at p; exact p
  | bad => rw [hB] at p; exact p
  | exc y e =>
    rw [hB] at p
    simp only at p
    intro σ' H0' H' s E'
    cases hy : hit y with
    | none => rw [hy] at p; exact p.elim
    | some b =>
      rw [hy] at p
      refine ⟨b, hh y b hy, fun hb' a ha => ?_, fun hb' => ?_⟩
      · subst hb'
        simp only at p
        split at p
        case isFalse => exact p.elim
        rename_i hlp
        obtain ⟨hlt, hpl⟩ := hlp
        obtain ⟨M', E1, hM⟩ := E'.look
        let M2 : Fm (pinXi ξ a) := ⟨H', fun b => H' b ≠ none ∧ H0' b = none, fun _ => 0, fun _ => none⟩
        have hl : i < σ'.length := by rw [E1.len]; exact hlt
        have E2 : EnvAt X.K M2 H0' H' (σ'.set i (some (.ref a))) (e.set i .ex) := by
          refine env_plain E1.same (Same.refl _) (fun b h => ⟨h.2, h.1⟩) (by rw [List.length_set, List.length_set]; exact E1.len) fun j sl h => ?_
          rcases get_set h with ⟨e1, e2⟩ | ⟨e1, e2⟩
          · subst e1 e2
            exact ⟨rfl, (fun _ _ _ z => by cases z), a, List.getElem?_set_self hl, if_pos rfl⟩
          · have q := plain_slot (M2 := M2) E1 hpl e2
            rw [List.getElem?_set_ne (Ne.symm e1)]
            exact q
        -- what the old frame keeps
        have back : ∀ {H02 H2 : Hp}, Same H0' H02 → Same H' H2 → (∀ b, M2.N b → H02 b = none) → ∀ b, M'.N b → H02 b = none ∧ H2 b ≠ none := fun s0 s1 n b hb => by
          obtain ⟨h1, h2⟩ := E1.nogo b hb
          refine ⟨n b ⟨h2, h1⟩, fun z => ?_⟩
          cases h3 : H' b with
          | none => exact h2 h3
          | some o => rw [s1 b o h3] at z; cases z
        refine ⟨rfl, y, rfl, hy, M2, H0', e.set i .ex, E2, ?_⟩
        cases hS : S y (e.set i .ex) with
        | bad => rw [hS] at p; exact p.elim
        | exc z e3 => rw [hS] at p; exact p.elim
        | bk e3 => rw [hS] at p; exact p.elim
        | ct e3 => rw [hS] at p; exact p.elim
        | rt d e3 =>
          rw [hS] at p
          intro v H02 H2 s0 R
          have E3 : EnvAt X.K M' H02 H2 σ' e := E1.grow s0 R.fr R.same fun b h1 h2 => R.nogo b ⟨h1, h2⟩
          exact p v σ' H02 H2 (s.trans s0) ⟨hM s0 E3, R.rep⟩
        | nx e3 =>
          rw [hS] at p
          simp only at p
          split at p
          case isFalse => exact p.elim
          rename_i hp3
          intro σ3 H02 H2 s0 E3
          have E4 : EnvAt X.K M' H02 H2 (σ3.set i none) (e3.set i .u) := by
            refine env_plain E3.same (E1.fr.trans E3.fr) (back s0 E3.fr fun b hb => (E3.nogo b hb).1) (by rw [List.length_set, List.length_set]; exact E3.len) fun j sl h => ?_
            rcases get_set h with ⟨e1, e2⟩ | ⟨e1, e2⟩
            · subst e1 e2; exact ⟨rfl, (fun _ _ _ z => by cases z), trivial⟩
            · have q := E3.slot j sl e2
              rw [List.getElem?_set_ne (Ne.symm e1)]
              rcases plain_at hp3 h with ⟨d, z⟩ | z
              · subst z; exact ⟨rfl, (fun _ _ _ z => by cases z), q⟩
              · subst z; exact ⟨rfl, (fun _ _ _ z => by cases z), trivial⟩
          exact p _ H02 H2 (s.trans s0) (hM s0 E4)
      · subst hb'
        exact p σ' H0' H' s E'
end
end Dx

namespace Dx
open PySem PySem.Spec PyProof.Rows L2

theorem funFrames_base {h B B' : Heap} (k : ∀ b, B.get? b = none → B'.get? b = none) : ∀ {l : List Env}, h.FunFrames B l → h.FunFrames B' l
  | [], _ => trivial
  | _ :: _, ⟨h1, ⟨L, o, e1, e2, e3, e4⟩, h3⟩ => ⟨h1, ⟨L, o, e1, k L e2, e3, e4⟩, funFrames_base k h3⟩
theorem comp_fails {X : Cx} {W : WX} (tk : Takes X W) (st : X.stack = X.env :: X.outer) (fr : X.env.frame = some X.env.locals) {ps0 : List (Addr × Obj)} {σ : L2.St} {s3 : Shared} {H3 : Hp} (I3 : Inv X ps0 σ H3 s3)
    {scope : Scope} {ce : Env} {fp : List Addr} {xe : Value → Shared → Prop} (cf : ce.frame = X.env.frame) (cl : ce.locals = s3.heap.objs.size) (f3 : ∀ b ∈ fp, FpOk X ps0 H3 b)
    {ps1 : List (Addr × Obj)} {σ1 : L2.St} {H1 : Hp} {s1 s' : Shared} {u : Value} (I : Inv ((X.blk s3 H3 scope ce fp).wish xe) ps1 σ1 H1 s1) (c : L2.CX X.prog X.w X.stack H1 s1 (fun cls d H' => W cls d σ H') u s') :
    notedBy (model X.prog X.w) X.A ce (CompFails (model X.prog X.w) X.A X.xe ce) u s' := by
  have xx := XE.of_call (X := X.blk s3 H3 scope ce fp) (W := fun cls d _ H' => W cls d σ H') I.unwish (fun _ _ _ h => h) c
  obtain ⟨a, B0, _, _, _, e0, fl0, _⟩ := c
  obtain ⟨a1, B, sI, ps2, σ2, H2, cls, d, e1, J, nb, up, sky, na, os, ag, w⟩ := xx
  subst e1
  cases e0
  have fl : HandSPX.FlyingZ B X.stack a (Zc cls d) s'.heap := by
    obtain ⟨_, _, _, oe0, vs0, T0, oT0, ts0, he0, _, hd0, h10, _, _, hT0, hdT0, h30⟩ := fl0
    rcases sky with ⟨_, _, _, oe, vs, he, _, hd, h1⟩ | fl | ⟨_, _, _, oe, vs, T, oT, ts, he, _, hd, h1, _, _, hT, hdT, h3⟩
    · rw [he] at he0; cases he0
      rw [hd] at hd0; cases hd0
      rw [h1] at h10; cases h10
    · exact fl
    · rw [he] at he0; cases he0
      rw [hd] at hd0; cases hd0
      rw [h1] at h10; cases h10
      rw [hT] at hT0; cases hT0
      rw [hdT] at hdT0; cases hdT0
      rw [h3] at h30; cases h30
  have hfr : X.A.frames = some (X.env :: X.outer) := by rw [I3.ok.frames, st]
  obtain ⟨m, hnI, _⟩ := J.loc
  have hn0 : s'.heap.Ns ce.locals m := Heap.Ns.upToSlots hnI up
  have nC : H2 ce.locals = none := J.free
  show wpAny _ X.A (noteFrame (.ref a) ce) _ _ s'
  rw [noteFrame_env _ cf]
  rw [st] at fl
  refine HandSPX.looks_onZ Zc.steady hfr fr fl fun h1 hh1 up1 => ?_
  have hn1 : h1.Ns ce.locals m := Heap.Ns.upToSlots hn0 up1
  refine ⟨m, hn1, fun h2 m2 hn2 sb => ?_⟩
  obtain ⟨k1, k2, k3, oe, vs, T, oT, ts, he, hz, hd, hv1, hnT, hTa, hT, hdT, hv3⟩ := hh1
  have dictC : ∀ {o : Obj} {us : Array Value}, h1.get? ce.locals = some o → o.data = .fields us → False := fun {o us} e z => by
    obtain ⟨oL, es, ep, e2, z2, _⟩ := hn1
    rw [e] at e2; cases e2
    rw [z] at z2; cases z2
  have aC : a ≠ ce.locals := fun z => dictC (z ▸ he) hd
  have TC : T ≠ ce.locals := fun z => dictC (z ▸ hT) hdT
  obtain ⟨B', r1, r2⟩ := restrict B fun b => decide (b ≠ ce.locals)
  have rN : ∀ b, B.get? b = none → B'.get? b = none := fun b e => by
    by_cases z : b = ce.locals
    · exact r2 b (decide_eq_false fun y => y z)
    · rw [r1 b (decide_eq_true z)]; exact e
  have rS : ∀ b o, B'.get? b = some o → b ≠ ce.locals ∧ B.get? b = some o := fun b o e => by
    by_cases z : b = ce.locals
    · rw [r2 b (decide_eq_false fun y => y z)] at e; cases e
    · rw [r1 b (decide_eq_true z)] at e; exact ⟨z, e⟩
  have held2 : HandSPX.HeldZ B' (X.env :: X.outer) a (Zc cls d) X.env.locals h2 := by
    refine ⟨fun b o e => ?_, rN a k2, funFrames_base rN (Heap.FunFrames.sameBut sb hn2 k3), oe, vs, T, oT, ts, ?_, hz, hd, hv1, rN T hnT, hTa, ?_, hdT, hv3⟩
    · obtain ⟨z, e'⟩ := rS b o e
      exact (sb.2 b z).trans (k1 b o e')
    · exact (sb.2 a aC).trans he
    · exact (sb.2 T TC).trans hT
  unfold PySem.passOn
  refine wpAny_bind (wpAny_field (s := { s' with heap := h2 }) ((sb.2 a aC).trans he) hd hv1 ?_)
  rw [if_neg (show ¬ ((Value.ref T == Value.none) = true) from by simp), cf, fr]
  refine wpAny_bind (HandSPX.setFlight_onZ (s := { s' with heap := h2 }) held2 fun h4 hh4 up4 => wpAny_throw (tk _ _ ?_))
  -- the def's state, without the block
  have I7 : Inv X ps0 σ H2 sI := I3.call' (ch := fp) J.os J.base J.hok J.bare fun b hb => ⟨(f3 b hb).2.2.2.1, (f3 b hb).2.1, (f3 b hb).2.2.2.2.1, (f3 b hb).2.2.2.2.2⟩
  obtain ⟨g0, g1, g2, g3, g4, g5⟩ := I3.fpOk (H' := H2) (b := ce.locals) (Nat.le_of_eq cl.symm) nC
  obtain ⟨G, q1, q2⟩ := restrict sI.heap fun b => decide (b ≠ ce.locals)
  have gS : ∀ b o, G.get? b = some o → b ≠ ce.locals ∧ sI.heap.get? b = some o := fun b o e => by
    by_cases z : b = ce.locals
    · rw [q2 b (decide_eq_false fun y => y z)] at e; cases e
    · rw [q1 b (decide_eq_true z)] at e; exact ⟨z, e⟩
  have I8 : Inv X ps0 σ H2 { sI with heap := G, toks := sI.toks } := I7.turned (t' := sI.toks) (fun b o hb e => (q1 b (decide_eq_true hb)).trans e) g0 g1 g3 g4 g5
  refine ⟨a, B', { sI with heap := G, toks := sI.toks }, ps0, σ, H2, cls, d, rfl, I8, fun b o e hb => ?_, fun b o e hnf => ?_, .inr (.inr (by rw [st]; exact hh4)), na, os, ag, w⟩
  · obtain ⟨z, e'⟩ := gS b o e
    rw [r1 b (decide_eq_true z)]
    exact nb b o e' hb
  · obtain ⟨z, e'⟩ := gS b o e
    obtain ⟨sl1, y1⟩ := up b o e' hnf
    obtain ⟨sl2, y2⟩ := up1 b _ y1 hnf
    have y3 : h2.get? b = some { o with slots := sl2 } := (sb.2 b z).trans y2
    exact up4 b { o with slots := sl2 } y3 hnf
section
variable {X : Cx} {W : WX} {elt tg iter : Expr} {scope : Scope} {own : List (Str × Nat)} {pos : Pos} {wi : TI} {g : TG} {te : L2.St → TE}
theorem pe_lcX (tk : Takes X W) (st : X.stack = X.env :: X.outer) (fr : X.env.frame = some X.env.locals) (hc : X.calm = true) (hN : X.N.Nodup) (hi : PI X tg iter wi) (ok : BlkOk X.N X.env.scope scope own)
    (hg : ∀ (t : Shared) (G : Hp) (B : Addr) (cs : List (Str × Addr)) (fp : List Addr), PG (X.blk t G scope (compEnvC scope cs B X.env) fp) tg g)
    (he : ∀ (τ : L2.St) (t : Shared) (G : Hp) (B : Addr) (cs : List (Str × Addr)) (fp : List Addr) (xe : Value → Shared → Prop), (∀ ρ, PassesAt (L2.CX X.prog X.w) ((X.blk t G scope (compEnvC scope cs B X.env) fp).wish xe) ρ fun cls d H' => W cls d τ H') →
      PE ((X.blk t G scope (compEnvC scope cs B X.env) fp).wish xe) elt (te τ))
    (hs : ∀ x, foldedSetIterable iter X.env x = pure x := by intro _; rfl) : PE X (.ListComp elt [⟨tg, iter, [], 0⟩] scope pos) (fun σ H Q => tLc wi g tYes (te σ) (own.map (·.2)) σ H Q) := by
  refine ⟨fun pins s σ H Q I want => ?_⟩
  rw [eval_ListComp]
  have hfree : ∀ y ∈ scope.names, y.2 = .free → ∃ c, X.env.cells.lookup y.1 = some c := fun y hy e => (ok.free y hy e).elim (fun k => I.ok.has _ (.inl k)) fun k => I.ok.has _ (.inr k)
  refine comprehension_at (use := none) rfl hs (closure_ok hfree) ok.kind (fun y hy e => by rw [ok.uniq y hy, e]) (thn (hi.run pins s σ H _ I want) fun xv sA ha => thn ha fun itv sB hb => ?_)
  obtain ⟨it, fp, tn, J, HB, e, IB, T, stB, fB, q⟩ := hb
  subst e
  refine wpAny_newObj_type (newEnv_comp ?_) (by show 0 ≤ sizeLine; decide)
  generalize hDa : sB.heap.objs.size = Da
  have hDn : HB Da = none := IB.hok.fresh (Nat.le_of_eq hDa)
  obtain ⟨V, ⟨m0, v0⟩, turn⟩ := q Da hDn
  generalize hsC : ({ sB with heap := sB.heap.push { cls := .type "list", data := .seq ([] : List Value).toArray } } : Shared) = sC
  have eC : sC.heap = sB.heap.push { cls := .type "list", data := .seq ([] : List Value).toArray } := by rw [← hsC]
  have IC : Inv X pins σ (upd HB Da (.lst [])) sC := by
    rw [← hsC]
    refine IB.laid (t' := sB.toks) (fun b o z => Heap.get?_push_of_some _ z) (Nat.le_of_eq hDa) ⟨Nat.zero_le _, [], 0, .nil, ?_⟩
    rw [← hDa]; exact Heap.get?_push_size _ rfl
  have below : ∀ b ∈ fp, b < sB.heap.objs.size := fun b hb => (T.obj _ _ stB b hb).elim fun o z => Heap.lt_size z.1
  have fC : ∀ b ∈ fp, FpOk X pins (upd HB Da (.lst [])) b ∧ b < sC.heap.objs.size := fun b hb => by
    have lt := below b hb
    refine ⟨⟨?_, (fB b hb).2⟩, by rw [eC, Heap.size_push]; exact Nat.lt_succ_of_lt lt⟩
    rw [upd_ne (by rw [← hDa]; exact Nat.ne_of_lt lt)]; exact (fB b hb).1
  have stC : tn 0 sC.heap := T.keep _ _ _ stB fun b _ o z => by rw [eC]; exact Heap.get?_push_of_some _ z
  have ID := block_start IC ok hN fC
  have pg := hg sC (upd HB Da (.lst [])) sC.heap.objs.size (cellsFrom (sC.heap.objs.size + 1) scope.names (cloFrom X.env.cells scope.names [])) fp
  have pe := he σ sC (upd HB Da (.lst [])) sC.heap.objs.size (cellsFrom (sC.heap.objs.size + 1) scope.names (cloFrom X.env.cells scope.names [])) fp
  show codeAny _ _ (.compStart (.ListComp elt [⟨tg, iter, [], 0⟩] scope pos) 0 (.ref it) (.ref Da) (compEnvC scope (cellsFrom (sC.heap.objs.size + 1) scope.names (cloFrom X.env.cells scope.names [])) sC.heap.objs.size X.env)) (compEnds (model X.prog X.w) X.A X.xe none (EP X pins σ Q) (.ref Da) (compEnvC scope (cellsFrom (sC.heap.objs.size + 1) scope.names (cloFrom X.env.cells scope.names [])) sC.heap.objs.size X.env)) { sC with heap := pushCells (sC.heap.push { cls := .type "dict", data := .dict #[] }) scope.names }
  have free3 : ∀ b ∈ fp, (upd HB Da (.lst [])) b = none := fun b hb => (fC b hb).1.1
  generalize hce : compEnvC scope (cellsFrom (sC.heap.objs.size + 1) scope.names (cloFrom X.env.cells scope.names [])) sC.heap.objs.size X.env = ce at ID pg pe ⊢
  have ceL : ce.locals = sC.heap.objs.size := by subst hce; rfl
  have ceF : ce.frame = X.env.frame := by subst hce; rfl
  generalize hHC : upd HB Da (.lst []) = HC at IC ID pg pe v0 free3 fC
  generalize hsD : ({ sC with heap := pushCells (sC.heap.push { cls := .type "dict", data := .dict #[] }) scope.names } : Shared) = sD at ID ⊢
  have stD : tn 0 sD.heap := T.keep _ _ _ stC fun b _ o z => by rw [← hsD]; exact pushCells_keeps _ _ _ _ (Heap.get?_push_of_some _ z)
  have quiet : ∀ {τ : L2.St} {G : Hp} {t : Shared}, Inv (X.blk sC HC scope ce fp) [] τ G t → (∀ b ∈ fp, G b = none) → ∀ b ∈ fp, FpOk (X.blk sC HC scope ce fp) [] G b := fun {τ G t} K hn b hb =>
    ⟨hn b hb, (K.ok.exf b hb).1, K.ok.exfs b hb, .inl hb, fun x c z => (K.ok.exf b hb).2 x c z, fun p hp => absurd (show p ∈ ([] : List (Addr × Obj)) ++ [] from hp) (by simp)⟩
  have loop : codeAny (model X.prog X.w) X.A (.compLoop (.ListComp elt [⟨tg, iter, [], 0⟩] scope pos) 0 (.ref it) (.ref Da) ce) (compEnds (model X.prog X.w) X.A X.xe none (EP X pins σ Q) (.ref Da) ce) sD := by
    refine compLoop_any (fun n t => ∃ i G, Inv (X.blk sC HC scope ce fp) [] (wipe σ (own.map (·.2))) G t ∧ tn i t.heap ∧ (∀ b ∈ fp, G b = none) ∧ V i n G) ?_ m0 ⟨0, HC, ID, stD, free3, v0⟩
    rintro n sE ⟨i, HE, IE, stE, nE, vE⟩
    rcases turn i n HE vE with ⟨stop, fin⟩ | ⟨go, Nx, hNx, step⟩
    · refine thnF (T.done (X.blk sC HC scope ce fp) rfl rfl rfl hc i [] sE _ HE (fun _ _ => False) IE (quiet IE nE) stE stop) fun r sF ⟨hr, IF⟩ => ?_
      subst hr
      have IG : Inv X pins σ HE sF := IC.call' (ch := fp) IF.os IF.base IF.hok IF.bare fun b hb => ⟨(fC b hb).1.2.2.2.1, (fC b hb).1.2.1, (fC b hb).1.2.2.2.2.1, (fC b hb).1.2.2.2.2.2⟩
      have nC : HE ce.locals = none := IF.free
      obtain ⟨m, hn, _⟩ := IF.loc
      refine ⟨m, hn, fun h'' sb => ?_⟩
      obtain ⟨g0, g1, _, g3, g4, g5⟩ := IC.fpOk (H' := HE) (b := ce.locals) (Nat.le_of_eq ceL.symm) nC
      exact ⟨.ref Da, HE, IG.turned (t' := sF.toks) (fun b o hb z => (sb.2 b hb).trans z) g0 g1 g3 g4 g5, rfl, fin⟩
    · refine thnF (T.item (X.blk sC HC scope ce fp) rfl rfl rfl hc i [] sE _ HE (fun _ _ => False) IE (quiet IE nE) stE go) fun r sF ⟨u, hr, hF⟩ => ?_
      subst hr
      refine thnF hF fun _ sG ⟨x, HG, IG, rG, yG, stG, nG⟩ => ?_
      have IG' := IG.pinned (quiet IG nG) (T.obj _ _ stG)
      refine thnF (pg.run _ sG _ HG x u _ IG' rG (step x HG yG)) fun _ sH ⟨σH, HH, IH, wH, qH⟩ => ?_
      have qH : te σ σH HH _ := qH
      refine wpAny_tests_nil ?_
      simp only [if_true]
      have pe' := pe (notedBy (model X.prog X.w) X.A ce (CompFails (model X.prog X.w) X.A X.xe ce)) fun ρ ps G t eu t' K c => comp_fails tk st fr IC ceF ceL (fun b hb => (fC b hb).1) K c
      refine wpAny_mono (pe'.run _ sH σH HH _ (IH.wish _) qH) (fun z sI hI => ?_) fun _ _ y => y
      obtain ⟨yv, HI, II, rI, acc, hacc, hz, nx⟩ := hI
      refine app_ok (X := X.blk sC HC scope ce fp) II.unwish hacc hz rI fun sJ IJ => ?_
      obtain ⟨m', hm, v'⟩ := hNx _ nx
      have pin' : ∀ b ∈ fp, ∀ o, sG.heap.get? b = some o → sJ.heap.get? b = some o ∧ (upd HI Da (.lst (acc ++ [yv]))) b = none := fun b hb o z =>
        have y := IJ.pin (b, o) (List.mem_append_right _ (List.mem_append_right _ (mem_pinsAt hb z)))
        ⟨y.1, y.2.1⟩
      refine ⟨m', hm, i + 1, _, (IJ.unpinned (pins := [])).weak (by rw [← wH, wipe_length]) (fun j v z => ?_), T.keep _ _ _ stG fun b hb o z => (pin' b hb o z).1, fun b hb => ?_, v'⟩
      · rw [← wH] at z; exact (wipe_some z).1
      · obtain ⟨o, z, _⟩ := T.obj _ _ stG b hb
        exact (pin' b hb o z).2
  exact codeAny_compStart_list loop (T.self X.A 0 _ _ _ stD loop)
end

def compEx (T : D → En → R En) (F : En → R D) (env : En) : List D → R (List D)
  | [] => .ok []
  | d :: ds => match T d env with
    | .ok e1 => F e1 >>= fun x => compEx T F env ds >>= fun xs => .ok (x :: xs)
    | _ => .bad
theorem compEx_cons (T : D → En → R En) (F : En → R D) (env : En) (d : D) (ds : List D) : compEx T F env (d :: ds) = match T d env with
    | .ok e1 => F e1 >>= fun x => compEx T F env ds >>= fun xs => .ok (x :: xs)
    | _ => .bad := rfl
def eCompX (I : En → R (List D)) (T : D → En → R En) (F : En → R D) (own : List Nat) : En → R (List D) := fun env => I env >>= fun ds => compEx T F (wipeE env own) ds
section
variable {X : Cx} {W : WX} {ξ : Str → Value} {elt tg iter : Expr} {scope : Scope} {own : List (Str × Nat)} {pos : Pos} {c : Bool}
variable {Fi : En → R (List D)} {T : D → En → R En} {F : En → R D} {ts : List Nat}
theorem bind_id (x : R (List D)) : x = (x >>= fun r => R.ok ([] ++ r)) := by cases x <;> rfl
theorem lc_loopX {K : PySem.W.Frag} {Wo : WX} {M : Fm ξ} {σ : L2.St} {env : En} {H0 H : Hp} {Q : VK} (vs : List Nat) (hts : ∀ i ∈ ts, i ∈ vs) {J : It} {ds : List D} (E : EnvAt K M H0 H σ env) (fd : Feeds K H0 (if c = true then H0 else H) J ds)
    (p : PostF K Wo ξ M σ env H0 H Q (compEx T F (wipeE env vs) ds)) :
    ∀ Da, H Da = none → ∃ V : Nat → Nat → Hp → Prop, (∃ m, V 0 m (upd H Da (.lst []))) ∧ ∀ i m H, V i m H →
      (J.stop i H ∧ Q (.ref Da) H) ∨ (J.go i H ∧ ∃ Nx : Hp → Prop, (∀ H', Nx H' → ∃ m', m' < m ∧ V (i + 1) m' H') ∧ ∀ x H', J.yld i H x H' → tDG K ξ ts T x (wipe σ vs) H' fun σ2 H2 => wipe σ2 vs = wipe σ vs ∧ tYes σ2 H2 fun b H3 =>
        if b = true then tD K (fun cls d _ H' => Wo cls d σ H') ξ true F σ2 H3 fun y H4 => ∃ acc, H4 Da = some (.lst acc) ∧ acc.length < sizeLine ∧ Nx (upd H4 Da (.lst (acc ++ [y]))) else Nx H3) := by
  intro Da hDa
  obtain ⟨hlen, Gd, Y, wk, hGd, hY⟩ := fd
  obtain ⟨g0, n0⟩ := E.newAt (o := .lst []) hDa
  have hg : M.G Da = none := n0.g
  have ifS : ∀ {H1 H01 : Hp}, Same H0 H01 → Same H01 H1 → Same H H1 → Gd H1 := fun a b cc => hGd _ (by
    cases c with
    | true => exact a.trans b
    | false => exact cc)
  refine lc_it (g := tDG K ξ ts T) (tt := tYes) (te := tD K (fun cls d _ H' => Wo cls d σ H') ξ true F) wk (fun i H1 => ∃ H01 acc done, Same H0 H01 ∧ Same H H1 ∧ EnvAt K (M.plus Da) H01 H1 σ env ∧ H1 Da = some (.lst acc) ∧ RepAll K H01 acc done ∧ acc.length ≤ i ∧ (∀ a, H a ≠ none → H0 a = none → H01 a = none) ∧
      compEx T F (wipeE env vs) ds = (compEx T F (wipeE env vs) (ds.drop i) >>= fun rest => .ok (done ++ rest)))
    ⟨H0, [], [], Same.refl _, same_upd hDa, g0.e.plus n0, upd_same, .nil, Nat.le_refl _, fun _ _ z => z, by rw [List.drop_zero]; exact bind_id _⟩ (fun i H1 _ ⟨H01, acc, done, s0, s, E1, _⟩ => ifS s0 E1.same s) (fun i x H1 H2 hi ⟨H01, acc, done, s0, s, E1, hacc, racc, hal, hnew, hall⟩ y => ?_) fun H1 ⟨H01, acc, done, s0, s, E1, hacc, racc, hal, hnew, hall⟩ => ?_
  · obtain ⟨d, hd⟩ : ∃ d, ds[i]? = some d := ⟨ds[i], by simp [hi]⟩
    have hdrop : ds.drop i = d :: ds.drop (i + 1) := by
      rw [List.drop_eq_getElem_cons hi]
      rw [List.getElem?_eq_getElem hi] at hd
      cases hd; rfl
    rw [hdrop] at hall
    rw [compEx_cons] at hall
    cases hT : T d (wipeE env vs) with
    | exc z =>
      exfalso
      rw [hT] at hall
      have hall : compEx T F (wipeE env vs) ds = .bad := hall
      rw [hall] at p; exact p
    | bad =>
      exfalso
      rw [hT] at hall
      have hall : compEx T F (wipeE env vs) ds = .bad := hall
      rw [hall] at p; exact p
    | ok e1 =>
      rw [hT] at hall
      simp only at hall
      have fin : ∀ {H02 : Hp}, Gr K (M.plus Da) σ env H01 H1 H02 H2 → Rep K H02 x d → tDG K ξ ts T x (wipe σ vs) H2 fun σ2 H2 => wipe σ2 vs = wipe σ vs ∧ tYes σ2 H2 fun b H3 =>
          if b = true then tD K (fun cls d _ H' => Wo cls d σ H') ξ true F σ2 H3 fun y H4 => ∃ acc, H4 Da = some (.lst acc) ∧ acc.length < sizeLine ∧ (∃ H01 acc' done, Same H0 H01 ∧ Same H (upd H4 Da (.lst (acc ++ [y]))) ∧ EnvAt K (M.plus Da) H01 (upd H4 Da (.lst (acc ++ [y]))) σ env ∧ (upd H4 Da (.lst (acc ++ [y]))) Da = some (.lst acc') ∧ RepAll K H01 acc' done ∧ acc'.length ≤ i + 1 ∧ (∀ a, H a ≠ none → H0 a = none → H01 a = none) ∧
            compEx T F (wipeE env vs) ds = (compEx T F (wipeE env vs) (ds.drop (i + 1)) >>= fun rest => .ok (done ++ rest)))
          else (∃ H01 acc done, Same H0 H01 ∧ Same H H3 ∧ EnvAt K (M.plus Da) H01 H3 σ env ∧ H3 Da = some (.lst acc) ∧ RepAll K H01 acc done ∧ acc.length ≤ i + 1 ∧ (∀ a, H a ≠ none → H0 a = none → H01 a = none) ∧
            compEx T F (wipeE env vs) ds = (compEx T F (wipeE env vs) (ds.drop (i + 1)) >>= fun rest => .ok (done ++ rest))) := by
        intro H02 g2 r
        refine ⟨M.plus Da, H02, wipeE env vs, d, e1, g2.e.wipe vs, r, hT, fun σ2 hw E3 => ⟨?_, ?_⟩⟩
        · rw [wipe_sub _ _ ts vs hts hw, wipe_wipe]
        · dsimp only [tYes]
          rw [if_pos rfl]
          refine ⟨M.plus Da, H02, e1, E3, ?_⟩
          have back : ∀ {H03 H3 : Hp}, Gr K (M.plus Da) σ2 e1 H02 H2 H03 H3 → Gr K (M.plus Da) σ env H01 H1 H03 H3 := fun {H03 H3} g3 =>
            g2.trans ⟨g3.s0, g3.s, g2.e.grow g3.s0 g3.s g3.e.same g3.n, g3.n⟩
          cases hF : F e1 with
          | bad =>
            rw [hF] at hall
            have hall : compEx T F (wipeE env vs) ds = .bad := hall
            rw [hall] at p; exact p.elim
          | exc z =>
            rw [hF] at hall
            have hall : compEx T F (wipeE env vs) ds = .exc z := hall
            rw [hall] at p
            intro H04 H4 g4
            have gg := back g4
            exact p H04 H4 ⟨s0.trans gg.s0, s.trans gg.s, gg.e.minus, fun a h1 h2 => gg.n a (fun z => h1 (s.free z)) (hnew a h1 h2)⟩
          | ok x' =>
            rw [hF] at hall
            intro v H04 H4 g4 rv
            have gg : Gr K (M.plus Da) σ env H01 H1 H04 H4 := back g4
            have rv : Rep K H04 v x' := rv
            refine ⟨acc, gg.s _ _ hacc, by have := hlen; omega, ?_⟩
            have s4 : Same H (upd H4 Da (.lst (acc ++ [v]))) := fun b o e => by
              rw [upd_ne (ne_of_none e hDa)]; exact gg.s _ _ (s _ _ e)
            refine ⟨H04, acc ++ [v], done ++ [x'], s0.trans gg.s0, s4, gg.e.app hg _, upd_same, (racc.mono gg.s0).snoc rv, by simp; omega, fun a h1 h2 => gg.n a (fun z => h1 (s.free z)) (hnew a h1 h2), ?_⟩
            rw [hall]
            show ((compEx T F (wipeE env vs) (ds.drop (i + 1)) >>= fun xs => R.ok (x' :: xs)) >>= fun rest => R.ok (done ++ rest)) = _
            cases compEx T F (wipeE env vs) (ds.drop (i + 1)) with
            | ok xs => show R.ok _ = R.ok _; simp
            | exc z => rfl
            | bad => rfl
      rcases hY i H1 x H2 d (ifS s0 E1.same s) hd y with ⟨e2, r⟩ | ⟨T', ws, ds', hT', f1, f2, f3, hz, r⟩
      · subst e2
        exact fin (Gr.refl E1) (r.mono s0)
      · subst f1 f2 f3
        have n := E1.new (o := .tup ws) hT'
        exact fin n (.tup upd_same hz (r.mono (s0.trans n.s0)))
  · rw [List.drop_length] at hall
    have hall : compEx T F (wipeE env vs) ds = .ok (done ++ []) := hall
    rw [List.append_nil] at hall
    rw [hall] at p
    have hd0 : H01 Da = none := (E1.nogo Da (.inr rfl)).1
    refine p Da acc H01 H1 ⟨s0, s, E1.minus, hnew⟩ hDa ⟨hacc, hd0, hg, n0.n, n0.w⟩ ⟨?_, racc⟩
    rw [← racc.length]
    exact Nat.le_trans hal hlen
theorem df_lcX (tk : Takes X W) (hN : X.N.Nodup) (hi : DI X W ξ c tg iter Fi) (ok : blkC X.N X.env.scope scope own = true)
    (hg : ∀ (s : Shared) (H : Hp) (C : Addr) (cl : List (Str × Addr)) (fp : List Addr), DGt (X.blk s H scope (compEnvC scope cl C X.env) fp) ξ tg ts T)
    (he : ∀ (τ : L2.St) (t : Shared) (G : Hp) (B : Addr) (cs : List (Str × Addr)) (fp : List Addr) (xe : Value → Shared → Prop), (∀ ρ, PassesAt (L2.CX X.prog X.w) ((X.blk t G scope (compEnvC scope cs B X.env) fp).wish xe) ρ fun cls d H' => W cls d τ H') →
      DE ((X.blk t G scope (compEnvC scope cs B X.env) fp).wish xe) (fun cls d _ H' => W cls d τ H') ξ true elt F)
    (hts : ∀ i ∈ ts, i ∈ own.map (·.2) := by decide) (st : X.stack = X.env :: X.outer := by rfl) (fr : X.env.frame = some X.env.locals := by rfl) (hc : X.calm = true := by rfl) (hs : ∀ x, foldedSetIterable iter X.env x = pure x := by intro _; rfl) :
    DF X W ξ (.ListComp elt [⟨tg, iter, [], 0⟩] scope pos) (eCompX Fi T F (own.map (·.2))) :=
  peImp (pe_lcX (te := fun τ => tD X.K (fun cls d _ H' => W cls d τ H') ξ true F) tk st fr hc hN hi (blkOk_by ok) hg he hs) fun σ H Q ⟨M, H0, env, E, p⟩ => ⟨M, H0, env, E, compI p fun ds J H1 H2 g f p1 => lc_loopX (own.map (·.2)) hts g.e f p1⟩
end
section
variable {X : Cx} {W : WX} {ξ : Str → Value} {e : Expr} {es : List Expr} {k : Nat} {f : Addr} {fd : FuncData} {ps : List Str} {F : List D → R D} {x : Str} {p pos : Pos} {Fs : En → R (List D)}
theorem de_callP (G : FnOk X.prog X.w X.K X.mg X.base (L2.CX X.prog X.w) k f fd ps (spD X.K ξ F)) (hx : ∀ ρ, PassesAt (L2.CX X.prog X.w) X ρ (WE W ρ)) (hr : Room k X.A) (hm : X.mg x = some (.ref f)) (hk : PySem.W.keepIn X.K (.ref f) = true) (hb : Binds X.K fd ps [])
    (ha : DA X W ξ true (e :: es) Fs) (hg : Gl X x := by rfl) (hdb : (x == ("__debug__" : Str)) = false := by decide) (he : starEach (e :: es) X.env = (false, eval e X.env) :: starEach es X.env := by rfl) (hpl : (backTo pos (starEach es X.env)).any (·.1) = false := by rfl) :
    DE X W ξ true (.Call (.Name x p) (e :: es) [] pos) (eUn F Fs) :=
  peImp (pe_callS G hr hg hm hk hb hx ha hdb he hpl) fun σ H Q ⟨M, H0, env, E, p⟩ => ⟨M, H0, env, E, bindA wishE p fun ds vs H1 H2 g r p1 => ⟨ds, H1, g.e.same, RepXs.all r, callPost (H0' := H0) (H' := H) g.e p1⟩⟩
end
end Dx

namespace Dn
open PySem PySem.Spec PyProof.Rows L2 Dx
def g_box_in_k51 : En → Out := (sSeq (sSet 1 (eOfF (eSplit (getD' 0) (eC (.str " ")))))
  (sSeq (sIf (tBin neR (eUn lenR (aCons (getD' 1) aNil)) (eC (.int 7)))
  (sRaise "NoText")
  sNil)
  (sRet (eBin addR (eBin addR (eUn tupR (aCons (eBin ixR (getD' 1) (eC (.int 0))) (aCons (eUn den_text_in (aCons (eBin ixR (getD' 1) (eC (.int 1))) aNil)) aNil))) (eUn tupleR (aCons (eOfF (eCompX (eUn itemsR (eSlice (getD' 1) (eUn optR (eC (.int 2))) (eUn optR (eC (.int 6))))) (nameT 2) (eUn den_number_in (aCons (getD' 2) aNil)) [2])) aNil))) (eUn tupR (aCons (eUn den_text_in (aCons (eBin ixR (getD' 1) (eC (.int 6))) aNil)) aNil))))))
def den_box_in_k51 : List D → R D := defR 1 2 g_box_in_k51
def g_read_k51 : En → Out := (sSeq (sSet 1 (eUn tupleR (aCons (eOfF (eCompX (eUn itemsR (eSlice (eOfF (eSplit (getD' 0) (eC (.str "\n")))) oNone (eUn optR (eUn negR (eC (.int 1)))))) (nameT 2) (eUn den_box_in_k51 (aCons (getD' 2) aNil)) [2])) aNil)))
  (sSeq (sIf (tOr (tNot (tVal (eUn den_is_scene (aCons (getD' 1) aNil)))) (tBin neR (eUn den_written (aCons (getD' 1) aNil)) (getD' 0)))
  (sRaise "NoText")
  sNil)
  (sRet (getD' 1))))
def den_read_k51 : List D → R D := defR 1 2 g_read_k51
def g__law_told_k51 : En → OutX := (xsSeq (xsTrySu 2 (hitE ["NoBox", "Taken", "NoText"] "TouchError") (fun x => (sSeq (sSet 1 (eOfF (eUn lstR (aCons (eIs 2 (isaT x "NoText")) (aCons (eIs 2 (isaT x "NoBox")) (aCons (eIs 2 (isaT x "Taken")) aNil))))))
  (sIf (tAnd (tVal (eIs 2 (isaT x "ValueError"))) (tBin eqR (getD' 1) (eOfF (eUn lstR (aCons (eC (.bl true)) (aCons (eC (.bl false)) (aCons (eC (.bl false)) aNil)))))))
  (sRet (eC .non))
  sNil))) (xsRet (lf (eUn den_read_k51 (aCons (getD' 0) aNil)))))
  (xsRet (lf (eC (.bl false)))))
def denE__law_told_k51 : List Slot → RF := defE 1 2 g__law_told_k51
def den__law_told_k51 : List D → R D := toD denE__law_told_k51
def g__law_due_k51 : En → Out := (sSeq (sSet 1 (eUn tupR aNil))
  (sSeq (sFor (eUn itemsR (eSlice (eOfF (eSplit (getD' 0) (eC (.str "\n")))) oNone (eUn optR (eUn negR (eC (.int 1)))))) (nameT 2)
  (sEnd [2, 3, 4, 5, 6, 7] (sSeq (sSet 3 (eOfF (eSplit (getD' 2) (eC (.str " ")))))
  (sSeq (sIf (tBin neR (eUn lenR (aCons (getD' 3) aNil)) (eC (.int 7)))
  (sRet (eC .non))
  sNil)
  (sSeq (sSetF 4 (eUn lstR aNil))
  (sSeq (sFor (eUn itemsR (eSlice (getD' 3) (eUn optR (eC (.int 2))) (eUn optR (eC (.int 6))))) (nameT 5)
  (sEnd [5, 6] (sSeq (sSet 6 (eSlice (getD' 5) (eUn optR (eUn int1R (aCons (eBin eqR (eSlice (getD' 5) oNone (eUn optR (eC (.int 1)))) (eC (.str "-"))) aNil))) oNone))
  (sSeq (sIf (tOr (tNot (tChain ltR ltR (eC (.int 0)) (eUn lenR (aCons (getD' 6) aNil)) (eC (.int 5)))) (tBin neR (eOfF (eComp (eUn itemsR (getD' 6)) (nameT 8) (tBin notInR (getD' 8) (eC (.str "0123456789"))) (getD' 8) [8])) (eOfF (eUn lstR aNil))))
  (sRet (eC .non))
  sNil)
  (sMeth 4 (eUn intTR (aCons (getD' 5) aNil)) appO)))))
  (sSeq (sSetFD 7 (eComp (eUn itemsR (eUn tupR (aCons (eC (.int 1)) (aCons (eC (.int 6)) aNil)))) (nameT 9) tTrue (eBin ixR (eOfF (eUn lstR (aCons (eC (.str "")) (aCons (eBin ixR (getD' 3) (getD' 9)) aNil)))) (eUn int1R (aCons (eBin neR (eBin ixR (getD' 3) (getD' 9)) (eC (.str "-"))) aNil))) [9]))
  (sSet 1 (eBin addR (getD' 1) (eUn tupR (aCons (eBin addR (eBin addR (eUn tupR (aCons (eBin ixR (getD' 3) (eC (.int 0))) (aCons (eBin ixR (getD' 7) (eC (.int 0))) aNil))) (eUn tupleR (aCons (getV 4) aNil))) (eUn tupR (aCons (eBin ixR (getD' 7) (eC (.int 1))) aNil))) aNil)))))))))))
  (sSeq (sIf (tOr (tNot (tVal (eUn den_is_scene (aCons (getD' 1) aNil)))) (tBin neR (eUn den_written (aCons (getD' 1) aNil)) (getD' 0)))
  (sRet (eC .non))
  sNil)
  (sRet (getD' 1)))))
def den__law_due_k51 : List D → R D := defR 1 9 g__law_due_k51
def g_law_k51 : En → Out := (sSeq (sSet 1 (eUn den_written (aCons (eUn den__law_scene (aCons (getD' 0) (aCons (eC (.int 0)) aNil))) aNil)))
  (sSeq (sSet 2 (eOfF (eSplit (getD' 1) (eC (.str " ")))))
  (sSeq (sSet 3 (eUn den__law_drawn (aCons (getD' 0) (aCons (eC (.int 100)) (aCons (eUn lenR (aCons (getD' 2) aNil)) aNil)))))
  (sSeq (sSet 4 (eOfF (eUn lstR (aCons (eC (.str "-")) (aCons (eC (.str "")) (aCons (eC (.str "a")) (aCons (eC (.str "21")) (aCons (eC (.str "-0")) (aCons (eC (.str "05")) (aCons (eC (.str "-3")) (aCons (eC (.str "c")) (aCons (eC (.str "fc")) (aCons (eC (.str "zz")) (aCons (eC (.str "0")) (aCons (eC (.str "1000")) aNil)))))))))))))))
  (sSeq (sSet 5 (eBin ixR (getD' 4) (eUn den__law_drawn (aCons (getD' 0) (aCons (eC (.int 101)) (aCons (eC (.int 12)) aNil))))))
  (sSeq (sSet 6 (eOfF (eUn lstR (aCons (eBin addR (eSlice (getD' 2) oNone (eUn optR (getD' 3))) (eSlice (getD' 2) (eUn optR (eBin addR (getD' 3) (eC (.int 1)))) oNone)) (aCons (eBin addR (eSlice (getD' 2) oNone (eUn optR (eBin addR (getD' 3) (eC (.int 1))))) (eSlice (getD' 2) (eUn optR (getD' 3)) oNone)) (aCons (eBin addR (eBin addR (eSlice (getD' 2) oNone (eUn optR (getD' 3))) (eOfF (eUn lstR (aCons (getD' 5) aNil)))) (eSlice (getD' 2) (eUn optR (eBin addR (getD' 3) (eC (.int 1)))) oNone)) aNil))))))
  (sSeq (sSetF 7 (eCatF (eOfF (eComp (eUn itemsR (getD' 6)) (nameT 11) tTrue (eJoin (eC (.str " ")) (getD' 11)) [11])) (eOfF (eUn lstR (aCons (getD' 1) (aCons (eSlice (getD' 1) oNone (eUn optR (eUn negR (eC (.int 1))))) (aCons (eBin addR (getD' 1) (eC (.str "\n"))) (aCons (eC (.str "")) (aCons (eC (.str "a - 0 0 1 1 -\n")) (aCons (eC (.str "a b 0 0 1 1 -\n")) aNil))))))))))
  (sSeq (sSet 8 (eOfF (eSplit (getD' 1) (eC (.str "\n")))))
  (sSeq (sSet 9 (eUn den__law_drawn (aCons (getD' 0) (aCons (eC (.int 102)) (aCons (eUn lenR (aCons (getD' 8) aNil)) aNil)))))
  (sSeq (sSetF 7 (eCatF (getV 7) (eOfF (eUn lstR (aCons (eJoin (eC (.str "\n")) (eBin addR (eSlice (getD' 8) oNone (eUn optR (getD' 9))) (eSlice (getD' 8) (eUn optR (eBin addR (getD' 9) (eC (.int 1)))) oNone))) (aCons (eJoin (eC (.str "\n")) (eBin addR (eSlice (getD' 8) oNone (eUn optR (eBin addR (getD' 9) (eC (.int 1))))) (eSlice (getD' 8) (eUn optR (getD' 9)) oNone))) aNil))))))
  (sSeq (sSet 10 (eBin addR (eBin addR (eSlice (getD' 8) oNone (eUn optR (getD' 9))) (eOfF (eUn revF (eSlice (getD' 8) (eUn optR (getD' 9)) (eUn optR (eBin addR (getD' 9) (eC (.int 2)))))))) (eSlice (getD' 8) (eUn optR (eBin addR (getD' 9) (eC (.int 2)))) oNone)))
  (sSeq (sMeth 7 (eJoin (eC (.str "\n")) (getD' 10)) appO)
  (sSeq (sSetF 7 (eCatF (getV 7) (eOfF (eUn lstR (aCons (eC (.str "a - -20 12 0 20 c\n")) (aCons (eC (.str "a - 10 -10 10 11 -\n")) (aCons (eC (.str "a - 010 0 1 1 -\n")) (aCons (eC (.str "a - 100 0 1 1 -\n")) aNil))))))))
  (sSeq (sFrz 7 (sFor (eUn itemsR (getD' 7)) (nameT 10)
  (sEnd [10] (sIf (tBin neR (eUn den__law_told_k51 (aCons (getD' 10) aNil)) (eUn den__law_due_k51 (aCons (getD' 10) aNil)))
  (sRet (eC (.bl false)))
  sNil))))
  (sRet (eC (.bl true)))))))))))))))))
def den_law_k51 : List D → R D := defR 1 11 g_law_k51
end Dn

namespace Ty
open PySem Dx Dn Fo
open Enc (enc)
noncomputable section
def g_told51 (t : Str) : R D := den__law_told_k51 [.str t]
theorem kg_told51 (t : Str) : Rr (den__law_told_k51 [enc t]) (g_told51 t) enc := rr_D
def isScD (d : D) : R Bool := match den_is_scene [d] with
  | .ok (.bl b) => .ok b
  | _ => .bad
theorem kg_isScD (d : D) : Rr (den_is_scene [enc d]) (isScD d) enc := by
  show Rr (den_is_scene [d]) (isScD d) enc
  unfold isScD
  cases h : den_is_scene [d] with
  | ok x => cases x <;> first | rfl | trivial
  | exc c => trivial
  | bad => trivial
def wrD (d : D) : R Str := match den_written [d] with
  | .ok (.str s) => .ok s
  | _ => .bad
theorem kg_wrD (d : D) : Rr (den_written [enc d]) (wrD d) enc := by
  show Rr (den_written [d]) (wrD d) enc
  unfold wrD
  cases h : den_written [d] with
  | ok x => cases x <;> first | rfl | trivial
  | exc c => trivial
  | bad => trivial
end
end Ty

namespace Ty
open PySem Dx Dn Fo
open Enc (enc)
noncomputable section
def t_law_due_k51_b2 (numbers : (List Int)) (word : Str) : OT (List Int) D :=
 (letT (L2.cutS word (some (b2i (decide ((L2.cutS word none (some (1 : Int))) = ("-" : Str))))) none) fun figures =>
 (OT.bd (if (!((decide ((0 : Int) < ((figures).length : Int))) && (decide (((figures).length : Int) < (5 : Int))))) = true then .ok true else ((compR (fun (sign : Str) => (signIn sign ("0123456789" : Str) >>= fun k => .ok (!k))) (fun (sign : Str) => (R.ok sign)) (chars figures)) >>= fun v3 => (.ok (!decide (v3 = ([] : (List Str))))))) fun v4 =>
 (if v4 = true then
 (.rt (Co.f () : D))
 else
 (OT.bd ((intTG word) >>= fun a => pushL numbers a) fun numbers =>
 (.nx numbers)))))
def t_law_due_k51_b1 (found : D) (line : Str) : OT D D :=
 (OT.bd (splitG line (" " : Str)) fun words =>
 (if (!decide (((words).length : Int) = (7 : Int))) = true then
 (.rt (Co.f () : D))
 else
 (letT ([] : (List Int)) fun numbers =>
 (OT.sq (forT (fun (numbers : (List Int)) (word : Str) => t_law_due_k51_b2 numbers word) (cutL words (some (2 : Int)) (some (6 : Int))) numbers) fun numbers =>
 (OT.bd (compR (fun (at1 : Int) => R.ok true) (fun (at1 : Int) => (((ixL words at1) >>= fun v5 => (.ok [("" : Str), v5])) >>= fun v8 => ((((ixL words at1) >>= fun v6 => (.ok (!decide (v6 = ("-" : Str))))) >>= fun v7 => (.ok (b2i v7))) >>= fun v9 => (ixL v8 v9)))) ((Co.f ((1 : Int), (6 : Int)) : (Tu Int))).l) fun ends =>
 (OT.bd ((((((((ixL words (0 : Int)) >>= fun v10 => ((ixL ends (0 : Int)) >>= fun v11 => (.ok (v10, v11)))) >>= fun a => .ok (Co.f a : D)) >>= fun v12 => (addR v12 (Co.f (Tu.mk numbers) : D))) >>= fun v14 => ((((ixL ends (1 : Int)) >>= fun v13 => (.ok (T1.mk v13))) >>= fun a => .ok (Co.f a : D)) >>= fun v15 => (addR v14 v15))) >>= fun v16 => (.ok (T1.mk v16))) >>= fun a => .ok (Co.f a : D)) >>= fun v17 => (addR found v17)) fun found =>
 (.nx found)))))))
def t_law_due_k51 (text : Str) : R D :=
 (letT (Co.f (Tu.mk ([] : (List Unit))) : D) fun found =>
 (OT.thn (OT.bd (((splitG text ("\n" : Str)) >>= fun v1 => (.ok (cutL v1 none (some (-(1 : Int)))))) >>= fun v2 => .ok v2) fun v18 => forT (fun (found : D) (line : Str) => t_law_due_k51_b1 found line) v18 found) fun found =>
 ((((isScD found) >>= fun v19 => .ok (!v19)) >>= fun v21 => if v21 = true then .ok true else ((wrD found) >>= fun v20 => (.ok (!decide (v20 = text))))) >>= fun v22 =>
 (if v22 = true then
 (R.ok (Co.f () : D))
 else
 (R.ok found)))))
theorem k_law_due_k51 (text : Str) : Rr (den__law_due_k51 [enc text]) (t_law_due_k51 text) enc :=
  fn_of (p0 := [sv text, none, none, none, none, none, none, none, none, none]) rfl rfl fun e H => (by unfold t_law_due_k51; exact (show TR (g__law_due_k51 e) _ from
 (j_set (J := TR)  (q := fun found => [sv text, sv found, none, none, none, none, none, none, none, none]) H (tp_co (γ := D) (tp_un a_nil (op_tn 0 (by decide) rfl))) (fun _ => rfl) fun found e H => (tr_sqO (P' := (fun (found : D) => [sv text, sv found, none, none, none, none, none, none, none, none])) (to_forM (P := (fun (found : D) => [sv text, sv found, none, none, none, none, none, none, none, none])) (q := fun (found : D) (line : Str) => [sv text, sv found, sv line, none, none, none, none, none, none, none]) (f := (fun (found : D) (line : Str) => t_law_due_k51_b1 found line)) (s0 := found) (tml (α := Str) (((splitG text ("\n" : Str)) >>= fun v1 => (.ok (cutL v1 none (some (-(1 : Int)))))) >>= fun v2 => .ok v2) (w_un (ce_m (tma (α := (List Str)) ((splitG text ("\n" : Str)) >>= fun v1 => (.ok (cutL v1 none (some (-(1 : Int)))))) (w_slice (ce_m (tm_ofF (tml (α := Str) (splitG text ("\n" : Str)) (w_split (ce_p (tpa text (tp_var H rfl)) (ce_p (op_str _) (ce_p (tpa ("\n" : Str) (tp_c rfl)) (ro_split _ _))))))) fun v1 => (ce_p o_none (ce_p (o_some (tpa (-(1 : Int)) (tp_un (tpa (1 : Int) (tp_c rfl)) (op_neg _)))) (rr_p (op_cut _ _ _))))))) fun v2 => (rr_p (it_list _))))) ((EnvIs.mask [true, true, false, false, false, false, false, false, false, false] H).as rfl) (fun line found e H => tg_name H rfl) (fun line found e H => to_end (Q := (fun (found : D) => [sv text, sv found, none, none, none, none, none, none, none, none])) (j_setM (J := TO (fun (found : D) => [sv text, sv found, none, none, none, none, none, none, none, none])) jTO (q := fun words => [sv text, sv found, sv line, sv words, none, none, none, none, none, none]) H (tm_ofF (tml (α := Str) (splitG line (" " : Str)) (w_split (ce_p (tpa line (tp_var H rfl)) (ce_p (op_str _) (ce_p (tpa (" " : Str) (tp_c rfl)) (ro_split _ _))))))) (fun _ => rfl) fun words e H => (j_ifX (J := TO (fun (found : D) => [sv text, sv found, none, none, none, none, none, none, none, none])) (ttb (!decide (((words).length : Int) = (7 : Int))) (tt_bin (tpa ((words).length : Int) (tp_un (a_cons (tpa words (tp_var H rfl)) a_nil) (op_len _))) (tpa (7 : Int) (tp_c rfl)) (op_ne (α := Int) (by decide) _ _))) (to_tx (tx_ret (tp_co (γ := D) (tpa () (tp_c rfl))))) (j_seqnil (j_setF (J := TO (fun (found : D) => [sv text, sv found, none, none, none, none, none, none, none, none]))  (q := fun numbers => [sv text, sv found, sv line, sv words, so numbers, none, none, none, none, none]) H (tp_un a_nil (if_pos (Nat.zero_le _))) (fun _ => rfl) fun numbers e H => (to_sqO (P := (fun (found : D) => [sv text, sv found, none, none, none, none, none, none, none, none])) (P' := (fun (numbers : (List Int)) => [sv text, sv found, sv line, sv words, so numbers, none, none, none, none, none])) (to_forP (P := (fun (numbers : (List Int)) => [sv text, sv found, sv line, sv words, so numbers, none, none, none, none, none])) (q := fun (numbers : (List Int)) (word : Str) => [sv text, sv found, sv line, sv words, so numbers, sv word, none, none, none, none]) (f := (fun (numbers : (List Int)) (word : Str) => t_law_due_k51_b2 numbers word)) (s0 := numbers) (tpl (cutL words (some (2 : Int)) (some (6 : Int))) (tp_un (tpa (cutL words (some (2 : Int)) (some (6 : Int))) (tp_slice (tpa words (tp_var H rfl)) (o_some (tpa (2 : Int) (tp_c rfl))) (o_some (tpa (6 : Int) (tp_c rfl))) (op_cut _ _ _))) (it_list _))) ((EnvIs.mask [true, true, true, true, true, false, false, false, false, false] H).as rfl) (fun word numbers e H => tg_name H rfl) (fun word numbers e H => to_end (Q := (fun (numbers : (List Int)) => [sv text, sv found, sv line, sv words, so numbers, none, none, none, none, none])) (j_set (J := TO (fun (numbers : (List Int)) => [sv text, sv found, sv line, sv words, so numbers, none, none, none, none, none]))  (q := fun figures => [sv text, sv found, sv line, sv words, so numbers, sv word, sv figures, none, none, none]) H (tpa (L2.cutS word (some (b2i (decide ((L2.cutS word none (some (1 : Int))) = ("-" : Str))))) none) (tp_slice (tpa word (tp_var H rfl)) (o_some (tpa (b2i (decide ((L2.cutS word none (some (1 : Int))) = ("-" : Str)))) (tp_un (a_cons (tpa (decide ((L2.cutS word none (some (1 : Int))) = ("-" : Str))) (tp_bin (tpa (L2.cutS word none (some (1 : Int))) (tp_slice (tpa word (tp_var H rfl)) o_none (o_some (tpa (1 : Int) (tp_c rfl))) (op_cutS _ _ _))) (tpa ("-" : Str) (tp_c rfl)) (op_eq (α := Str) (by decide) _ _))) a_nil) (op_intB _)))) o_none (op_cutS _ _ _))) (fun _ => rfl) fun figures e H => (j_ifXM jTO (J := TO (fun (numbers : (List Int)) => [sv text, sv found, sv line, sv words, so numbers, none, none, none, none, none])) (ttm (if (!((decide ((0 : Int) < ((figures).length : Int))) && (decide (((figures).length : Int) < (5 : Int))))) = true then .ok true else ((compR (fun (sign : Str) => (signIn sign ("0123456789" : Str) >>= fun k => .ok (!k))) (fun (sign : Str) => (R.ok sign)) (chars figures)) >>= fun v3 => (.ok (!decide (v3 = ([] : (List Str))))))) (tm_orP (tt_not (ttb ((decide ((0 : Int) < ((figures).length : Int))) && (decide (((figures).length : Int) < (5 : Int)))) (tt_chain (tpa (0 : Int) (tp_c rfl)) (tpa ((figures).length : Int) (tp_un (a_cons (tpa figures (tp_var H rfl)) a_nil) (op_lenS _))) (tpa (5 : Int) (tp_c rfl)) (op_lt _ _) (op_lt _ _)))) (ttm ((compR (fun (sign : Str) => (signIn sign ("0123456789" : Str) >>= fun k => .ok (!k))) (fun (sign : Str) => (R.ok sign)) (chars figures)) >>= fun v3 => (.ok (!decide (v3 = ([] : (List Str)))))) (w_tbin (ce_m (tm_ofF (tml (α := Str) (compR (fun (sign : Str) => (signIn sign ("0123456789" : Str) >>= fun k => .ok (!k))) (fun (sign : Str) => (R.ok sign)) (chars figures)) (lc_xm (p1 := [sv text, sv found, sv line, sv words, so numbers, sv word, sv figures, none, none, none]) (q := fun sign => [sv text, sv found, sv line, sv words, so numbers, sv word, sv figures, none, sv sign, none]) (pr := (fun (sign : Str) => (signIn sign ("0123456789" : Str) >>= fun k => .ok (!k)))) (g := (fun (sign : Str) => (R.ok sign))) H rfl (tpl (chars figures) (tp_un (tpa figures (tp_var H rfl)) (it_str _))) (fun sign e H => tg_name H rfl) (fun sign e H => (ttm (signIn sign ("0123456789" : Str) >>= fun k => .ok (!k)) (w_tbin (ce_p (tpa sign (tp_var H rfl)) (ce_p (tpa ("0123456789" : Str) (tp_c rfl)) (rr_bool (ro_notIn (ro_signIn _ _)))))))) (fun sign e H => (rr_p (tpa sign (tp_var H rfl))))))) fun v3 => (ce_p (tpa ([] : (List Str)) (tp_ofF (tp_un a_nil (if_pos (Nat.zero_le _))))) (rr_bool (rr_p (op_ne (α := (List Str)) (by decide) _ _))))))))) (to_tx (tx_ret (tp_co (γ := D) (tpa () (tp_c rfl))))) (j_seqnil (to_one (j_pushM (J := TO (fun (numbers : (List Int)) => [sv text, sv found, sv line, sv words, so numbers, none, none, none, none, none])) jTO (q := fun numbers => [sv text, sv found, sv line, sv words, so numbers, sv word, sv figures, none, none, none]) H rfl (tma (α := Int) (intTG word) (w_un (am_p (tpa word (tp_var H rfl)) (am_nil (ro_intT _))))) (fun _ => rfl) fun numbers e H => (to_nil (P := (fun (numbers : (List Int)) => [sv text, sv found, sv line, sv words, so numbers, none, none, none, none, none])) (s := numbers) ((EnvIs.mask [true, true, true, true, true, false, false, false, false, false] H).as rfl))))))) (fun _ => rfl))) fun numbers e H => (j_setDM (J := TO (fun (found : D) => [sv text, sv found, none, none, none, none, none, none, none, none])) jTO (q := fun ends => [sv text, sv found, sv line, sv words, so numbers, none, none, sv ends, none, none]) H (tml (α := Str) (compR (fun (at1 : Int) => R.ok true) (fun (at1 : Int) => (((ixL words at1) >>= fun v5 => (.ok [("" : Str), v5])) >>= fun v8 => ((((ixL words at1) >>= fun v6 => (.ok (!decide (v6 = ("-" : Str))))) >>= fun v7 => (.ok (b2i v7))) >>= fun v9 => (ixL v8 v9)))) ((Co.f ((1 : Int), (6 : Int)) : (Tu Int))).l) (lc_xm (p1 := [sv text, sv found, sv line, sv words, so numbers, none, none, none, none, none]) (q := fun at1 => [sv text, sv found, sv line, sv words, so numbers, none, none, none, none, sv at1]) (pr := (fun (at1 : Int) => R.ok true)) (g := (fun (at1 : Int) => (((ixL words at1) >>= fun v5 => (.ok [("" : Str), v5])) >>= fun v8 => ((((ixL words at1) >>= fun v6 => (.ok (!decide (v6 = ("-" : Str))))) >>= fun v7 => (.ok (b2i v7))) >>= fun v9 => (ixL v8 v9))))) H rfl (tpl ((Co.f ((1 : Int), (6 : Int)) : (Tu Int))).l (tp_un (tp_co (γ := (Tu Int)) (tpa ((1 : Int), (6 : Int)) (tp_un (a_cons (tpa (1 : Int) (tp_c rfl)) (a_cons (tpa (6 : Int) (tp_c rfl)) a_nil)) (op_tn 2 (by decide) rfl)))) (it_tu _))) (fun at1 e H => tg_name H rfl) (fun at1 e H => c_true) (fun at1 e H => (tma (α := Str) (((ixL words at1) >>= fun v5 => (.ok [("" : Str), v5])) >>= fun v8 => ((((ixL words at1) >>= fun v6 => (.ok (!decide (v6 = ("-" : Str))))) >>= fun v7 => (.ok (b2i v7))) >>= fun v9 => (ixL v8 v9))) (w_bin (ce_m (tm_ofF (tml (α := Str) ((ixL words at1) >>= fun v5 => (.ok [("" : Str), v5])) (w_un (am_p (tpa ("" : Str) (tp_c rfl)) (am_m (tma (α := Str) (ixL words at1) (w_bin (ce_p (tpa words (tp_var H rfl)) (ce_p (tpa at1 (tp_var H rfl)) (ro_ixL _ _))))) fun v5 => (am_nil (rr_p (op_lst [("" : Str), v5] rfl (smn 2 (by decide) rfl))))))))) fun v8 => (ce_m (tma (α := Int) (((ixL words at1) >>= fun v6 => (.ok (!decide (v6 = ("-" : Str))))) >>= fun v7 => (.ok (b2i v7))) (w_un (am_m (tma (α := Bool) ((ixL words at1) >>= fun v6 => (.ok (!decide (v6 = ("-" : Str))))) (w_bin (ce_m (tma (α := Str) (ixL words at1) (w_bin (ce_p (tpa words (tp_var H rfl)) (ce_p (tpa at1 (tp_var H rfl)) (ro_ixL _ _))))) fun v6 => (ce_p (tpa ("-" : Str) (tp_c rfl)) (rr_p (op_ne (α := Str) (by decide) _ _)))))) fun v7 => (am_nil (rr_p (op_intB _)))))) fun v9 => (ro_ixL _ _)))))))) (fun _ => rfl) fun ends e H => (to_one (j_setM (J := TO (fun (found : D) => [sv text, sv found, none, none, none, none, none, none, none, none])) jTO (q := fun found => [sv text, sv found, sv line, sv words, so numbers, none, none, sv ends, none, none]) H (tma (α := D) ((((((((ixL words (0 : Int)) >>= fun v10 => ((ixL ends (0 : Int)) >>= fun v11 => (.ok (v10, v11)))) >>= fun a => .ok (Co.f a : D)) >>= fun v12 => (addR v12 (Co.f (Tu.mk numbers) : D))) >>= fun v14 => ((((ixL ends (1 : Int)) >>= fun v13 => (.ok (T1.mk v13))) >>= fun a => .ok (Co.f a : D)) >>= fun v15 => (addR v14 v15))) >>= fun v16 => (.ok (T1.mk v16))) >>= fun a => .ok (Co.f a : D)) >>= fun v17 => (addR found v17)) (w_bin (ce_p (tpa found (tp_var H rfl)) (ce_m (rr_co (γ := D) (tma (α := (T1 D)) ((((((ixL words (0 : Int)) >>= fun v10 => ((ixL ends (0 : Int)) >>= fun v11 => (.ok (v10, v11)))) >>= fun a => .ok (Co.f a : D)) >>= fun v12 => (addR v12 (Co.f (Tu.mk numbers) : D))) >>= fun v14 => ((((ixL ends (1 : Int)) >>= fun v13 => (.ok (T1.mk v13))) >>= fun a => .ok (Co.f a : D)) >>= fun v15 => (addR v14 v15))) >>= fun v16 => (.ok (T1.mk v16))) (w_un (am_m (tma (α := D) (((((ixL words (0 : Int)) >>= fun v10 => ((ixL ends (0 : Int)) >>= fun v11 => (.ok (v10, v11)))) >>= fun a => .ok (Co.f a : D)) >>= fun v12 => (addR v12 (Co.f (Tu.mk numbers) : D))) >>= fun v14 => ((((ixL ends (1 : Int)) >>= fun v13 => (.ok (T1.mk v13))) >>= fun a => .ok (Co.f a : D)) >>= fun v15 => (addR v14 v15))) (w_bin (ce_m (tma (α := D) ((((ixL words (0 : Int)) >>= fun v10 => ((ixL ends (0 : Int)) >>= fun v11 => (.ok (v10, v11)))) >>= fun a => .ok (Co.f a : D)) >>= fun v12 => (addR v12 (Co.f (Tu.mk numbers) : D))) (w_bin (ce_m (rr_co (γ := D) (tma (α := (Str × Str)) ((ixL words (0 : Int)) >>= fun v10 => ((ixL ends (0 : Int)) >>= fun v11 => (.ok (v10, v11)))) (w_un (am_m (tma (α := Str) (ixL words (0 : Int)) (w_bin (ce_p (tpa words (tp_var H rfl)) (ce_p (tpa (0 : Int) (tp_c rfl)) (ro_ixL _ _))))) fun v10 => (am_m (tma (α := Str) (ixL ends (0 : Int)) (w_bin (ce_p (tpa ends (tp_var H rfl)) (ce_p (tpa (0 : Int) (tp_c rfl)) (ro_ixL _ _))))) fun v11 => (am_nil (rr_p (op_tn 2 (by decide) rfl)))))))) fun v12 => (ce_p (tp_co (γ := D) (tpa (Tu.mk numbers) (tp_un (a_cons (tpa numbers (tp_varO H rfl)) a_nil) (op_tuple _)))) rr_D)))) fun v14 => (ce_m (rr_co (γ := D) (tma (α := (T1 Str)) ((ixL ends (1 : Int)) >>= fun v13 => (.ok (T1.mk v13))) (w_un (am_m (tma (α := Str) (ixL ends (1 : Int)) (w_bin (ce_p (tpa ends (tp_var H rfl)) (ce_p (tpa (1 : Int) (tp_c rfl)) (ro_ixL _ _))))) fun v13 => (am_nil (rr_p (op_tn 1 (by decide) rfl))))))) fun v15 => rr_D)))) fun v16 => (am_nil (rr_p (op_tn 1 (by decide) rfl))))))) fun v17 => rr_D)))) (fun _ => rfl) fun found e H => (to_nil (P := (fun (found : D) => [sv text, sv found, none, none, none, none, none, none, none, none])) (s := found) ((EnvIs.mask [true, true, false, false, false, false, false, false, false, false] H).as rfl)))))))))) (fun _ => rfl))) fun found e H => (j_ifXM jTR (J := TR) (ttm (((isScD found) >>= fun v19 => .ok (!v19)) >>= fun v21 => if v21 = true then .ok true else ((wrD found) >>= fun v20 => (.ok (!decide (v20 = text))))) (tm_orM (tm_not (tm_val (tma (α := Bool) (isScD found) (w_un (am_p (tpa found (tp_var H rfl)) (am_nil (kg_isScD _))))))) (ttm ((wrD found) >>= fun v20 => (.ok (!decide (v20 = text)))) (w_tbin (ce_m (tma (α := Str) (wrD found) (w_un (am_p (tpa found (tp_var H rfl)) (am_nil (kg_wrD _))))) fun v20 => (ce_p (tpa text (tp_var H rfl)) (rr_bool (rr_p (op_ne (α := Str) (by decide) _ _))))))))) (tr_x (tr_ret (rr_p (tp_co (γ := D) (tpa () (tp_c rfl)))))) (j_seqnil (tr_ret (rr_p (tpa found (tp_var H rfl))))))))))
def t_law_k51_b1 (other : Str) : OT Unit Bool :=
 (OT.bd ((g_told51 other) >>= fun v24 => ((t_law_due_k51 other) >>= fun v25 => (eqDG v24 v25 >>= fun k => .ok (!k)))) fun v26 =>
 (if v26 = true then
 (.rt false)
 else
 (.nx ())))
def t_law_k51 (script : Fz) : R Bool :=
 (((g_scene script (0 : Int)) >>= fun v1 => (t_written v1)) >>= fun text =>
 ((splitG text (" " : Str)) >>= fun words =>
 ((g_drawn script (100 : Int) ((words).length : Int)) >>= fun at1 =>
 (letT [("-" : Str), ("" : Str), ("a" : Str), ("21" : Str), ("-0" : Str), ("05" : Str), ("-3" : Str), ("c" : Str), ("fc" : Str), ("zz" : Str), ("0" : Str), ("1000" : Str)] fun odd =>
 (((g_drawn script (101 : Int) (12 : Int)) >>= fun v2 => (ixL odd v2)) >>= fun word =>
 (((catL (cutL words none (some at1)) (cutL words (some (at1 + (1 : Int))) none)) >>= fun v4 => ((catL (cutL words none (some (at1 + (1 : Int)))) (cutL words (some at1) none)) >>= fun v5 => (((catL (cutL words none (some at1)) [word]) >>= fun v3 => (catL v3 (cutL words (some (at1 + (1 : Int))) none))) >>= fun v6 => (.ok [v4, v5, v6])))) >>= fun some1 =>
 (((compR (fun (row : (List Str)) => R.ok true) (fun (row : (List Str)) => (joinG (" " : Str) row)) some1) >>= fun v11 => (((catS text ("\n" : Str)) >>= fun v10 => (.ok [text, (L2.cutS text none (some (-(1 : Int)))), v10, ("" : Str), ("a - 0 0 1 1 -\n" : Str), ("a b 0 0 1 1 -\n" : Str)])) >>= fun v12 => (catL v11 v12))) >>= fun texts =>
 ((splitG text ("\n" : Str)) >>= fun lines =>
 ((g_drawn script (102 : Int) ((lines).length : Int)) >>= fun to =>
 (((((catL (cutL lines none (some to)) (cutL lines (some (to + (1 : Int))) none)) >>= fun v18 => (joinG ("\n" : Str) v18)) >>= fun v20 => (((catL (cutL lines none (some (to + (1 : Int)))) (cutL lines (some to) none)) >>= fun v19 => (joinG ("\n" : Str) v19)) >>= fun v21 => (.ok [v20, v21]))) >>= fun v22 => (catL texts v22)) >>= fun texts =>
 (((catL (cutL lines none (some to)) (List.reverse (cutL lines (some to) (some (to + (2 : Int)))))) >>= fun v23 => (catL v23 (cutL lines (some (to + (2 : Int))) none))) >>= fun other =>
 (((joinG ("\n" : Str) other) >>= fun a => pushL texts a) >>= fun texts =>
 ((catL texts ([("a - -20 12 0 20 c\n" : Str), ("a - 10 -10 10 11 -\n" : Str), ("a - 010 0 1 1 -\n" : Str), ("a - 100 0 1 1 -\n" : Str)])) >>= fun texts =>
 (OT.thn (forT (fun (_ : Unit) (other : Str) => t_law_k51_b1 other) texts ()) fun _ =>
 (R.ok true)))))))))))))))
theorem k_law_k51 (script : Fz) : Rr (den_law_k51 [enc script]) (t_law_k51 script) enc :=
  fn_of (p0 := [sv script, none, none, none, none, none, none, none, none, none, none, none]) rfl rfl fun e H => (by unfold t_law_k51; exact (show TR (g_law_k51 e) _ from
 (j_setM (J := TR) jTR (q := fun text => [sv script, sv text, none, none, none, none, none, none, none, none, none, none]) H (tma (α := Str) ((g_scene script (0 : Int)) >>= fun v1 => (t_written v1)) (w_un (am_m (tma (α := (Tu Box)) (g_scene script (0 : Int)) (w_un (am_p (tpa script (tp_var H rfl)) (am_p (tpa (0 : Int) (tp_c rfl)) (am_nil (kg_scene _ _)))))) fun v1 => (am_nil (k_written _))))) (fun _ => rfl) fun text e H => (j_setM (J := TR) jTR (q := fun words => [sv script, sv text, sv words, none, none, none, none, none, none, none, none, none]) H (tm_ofF (tml (α := Str) (splitG text (" " : Str)) (w_split (ce_p (tpa text (tp_var H rfl)) (ce_p (op_str _) (ce_p (tpa (" " : Str) (tp_c rfl)) (ro_split _ _))))))) (fun _ => rfl) fun words e H => (j_setM (J := TR) jTR (q := fun at1 => [sv script, sv text, sv words, sv at1, none, none, none, none, none, none, none, none]) H (tma (α := Int) (g_drawn script (100 : Int) ((words).length : Int)) (w_un (am_p (tpa script (tp_var H rfl)) (am_p (tpa (100 : Int) (tp_c rfl)) (am_p (tpa ((words).length : Int) (tp_un (a_cons (tpa words (tp_var H rfl)) a_nil) (op_len _))) (am_nil (kg_drawn _ _ _))))))) (fun _ => rfl) fun at1 e H => (j_set (J := TR)  (q := fun odd => [sv script, sv text, sv words, sv at1, sv odd, none, none, none, none, none, none, none]) H (tp_ofF (tpl [("-" : Str), ("" : Str), ("a" : Str), ("21" : Str), ("-0" : Str), ("05" : Str), ("-3" : Str), ("c" : Str), ("fc" : Str), ("zz" : Str), ("0" : Str), ("1000" : Str)] (tp_un (a_cons (tpa ("-" : Str) (tp_c rfl)) (a_cons (tpa ("" : Str) (tp_c rfl)) (a_cons (tpa ("a" : Str) (tp_c rfl)) (a_cons (tpa ("21" : Str) (tp_c rfl)) (a_cons (tpa ("-0" : Str) (tp_c rfl)) (a_cons (tpa ("05" : Str) (tp_c rfl)) (a_cons (tpa ("-3" : Str) (tp_c rfl)) (a_cons (tpa ("c" : Str) (tp_c rfl)) (a_cons (tpa ("fc" : Str) (tp_c rfl)) (a_cons (tpa ("zz" : Str) (tp_c rfl)) (a_cons (tpa ("0" : Str) (tp_c rfl)) (a_cons (tpa ("1000" : Str) (tp_c rfl)) a_nil)))))))))))) (op_lst [("-" : Str), ("" : Str), ("a" : Str), ("21" : Str), ("-0" : Str), ("05" : Str), ("-3" : Str), ("c" : Str), ("fc" : Str), ("zz" : Str), ("0" : Str), ("1000" : Str)] rfl (smn 12 (by decide) rfl))))) (fun _ => rfl) fun odd e H => (j_setM (J := TR) jTR (q := fun word => [sv script, sv text, sv words, sv at1, sv odd, sv word, none, none, none, none, none, none]) H (tma (α := Str) ((g_drawn script (101 : Int) (12 : Int)) >>= fun v2 => (ixL odd v2)) (w_bin (ce_p (tpa odd (tp_var H rfl)) (ce_m (tma (α := Int) (g_drawn script (101 : Int) (12 : Int)) (w_un (am_p (tpa script (tp_var H rfl)) (am_p (tpa (101 : Int) (tp_c rfl)) (am_p (tpa (12 : Int) (tp_c rfl)) (am_nil (kg_drawn _ _ _))))))) fun v2 => (ro_ixL _ _))))) (fun _ => rfl) fun word e H => (j_setM (J := TR) jTR (q := fun some1 => [sv script, sv text, sv words, sv at1, sv odd, sv word, sv some1, none, none, none, none, none]) H (tm_ofF (tml (α := (List Str)) ((catL (cutL words none (some at1)) (cutL words (some (at1 + (1 : Int))) none)) >>= fun v4 => ((catL (cutL words none (some (at1 + (1 : Int)))) (cutL words (some at1) none)) >>= fun v5 => (((catL (cutL words none (some at1)) [word]) >>= fun v3 => (catL v3 (cutL words (some (at1 + (1 : Int))) none))) >>= fun v6 => (.ok [v4, v5, v6])))) (w_un (am_m (tma (α := (List Str)) (catL (cutL words none (some at1)) (cutL words (some (at1 + (1 : Int))) none)) (w_bin (ce_p (tpa (cutL words none (some at1)) (tp_slice (tpa words (tp_var H rfl)) o_none (o_some (tpa at1 (tp_var H rfl))) (op_cut _ _ _))) (ce_p (tpa (cutL words (some (at1 + (1 : Int))) none) (tp_slice (tpa words (tp_var H rfl)) (o_some (tpa (at1 + (1 : Int)) (tp_bin (tpa at1 (tp_var H rfl)) (tpa (1 : Int) (tp_c rfl)) (op_add _ _)))) o_none (op_cut _ _ _))) (ro_catL _ _))))) fun v4 => (am_m (tma (α := (List Str)) (catL (cutL words none (some (at1 + (1 : Int)))) (cutL words (some at1) none)) (w_bin (ce_p (tpa (cutL words none (some (at1 + (1 : Int)))) (tp_slice (tpa words (tp_var H rfl)) o_none (o_some (tpa (at1 + (1 : Int)) (tp_bin (tpa at1 (tp_var H rfl)) (tpa (1 : Int) (tp_c rfl)) (op_add _ _)))) (op_cut _ _ _))) (ce_p (tpa (cutL words (some at1) none) (tp_slice (tpa words (tp_var H rfl)) (o_some (tpa at1 (tp_var H rfl))) o_none (op_cut _ _ _))) (ro_catL _ _))))) fun v5 => (am_m (tma (α := (List Str)) ((catL (cutL words none (some at1)) [word]) >>= fun v3 => (catL v3 (cutL words (some (at1 + (1 : Int))) none))) (w_bin (ce_m (tma (α := (List Str)) (catL (cutL words none (some at1)) [word]) (w_bin (ce_p (tpa (cutL words none (some at1)) (tp_slice (tpa words (tp_var H rfl)) o_none (o_some (tpa at1 (tp_var H rfl))) (op_cut _ _ _))) (ce_p (tp_ofF (tpl [word] (tp_un (a_cons (tpa word (tp_var H rfl)) a_nil) (op_lst [word] rfl (smn 1 (by decide) rfl))))) (ro_catL _ _))))) fun v3 => (ce_p (tpa (cutL words (some (at1 + (1 : Int))) none) (tp_slice (tpa words (tp_var H rfl)) (o_some (tpa (at1 + (1 : Int)) (tp_bin (tpa at1 (tp_var H rfl)) (tpa (1 : Int) (tp_c rfl)) (op_add _ _)))) o_none (op_cut _ _ _))) (ro_catL _ _))))) fun v6 => (am_nil (rr_p (op_lst [v4, v5, v6] rfl (smn 3 (by decide) rfl)))))))))) (fun _ => rfl) fun some1 e H => (j_setFM (J := TR) jTR (q := fun texts => [sv script, sv text, sv words, sv at1, sv odd, sv word, sv some1, so texts, none, none, none, none]) H (tml (α := Str) ((compR (fun (row : (List Str)) => R.ok true) (fun (row : (List Str)) => (joinG (" " : Str) row)) some1) >>= fun v11 => (((catS text ("\n" : Str)) >>= fun v10 => (.ok [text, (L2.cutS text none (some (-(1 : Int)))), v10, ("" : Str), ("a - 0 0 1 1 -\n" : Str), ("a b 0 0 1 1 -\n" : Str)])) >>= fun v12 => (catL v11 v12))) (w_catF (ce_m (tm_ofF (tml (α := Str) (compR (fun (row : (List Str)) => R.ok true) (fun (row : (List Str)) => (joinG (" " : Str) row)) some1) (lc_xm (p1 := [sv script, sv text, sv words, sv at1, sv odd, sv word, sv some1, none, none, none, none, none]) (q := fun row => [sv script, sv text, sv words, sv at1, sv odd, sv word, sv some1, none, none, none, none, sv row]) (pr := (fun (row : (List Str)) => R.ok true)) (g := (fun (row : (List Str)) => (joinG (" " : Str) row))) H rfl (tpl some1 (tp_un (tpa some1 (tp_var H rfl)) (it_list _))) (fun row e H => tg_name H rfl) (fun row e H => c_true) (fun row e H => (tma (α := Str) (joinG (" " : Str) row) (w_join (ce_p (tpa (" " : Str) (tp_c rfl)) (ce_p (op_str _) (ce_p (tpa row (tp_var H rfl)) (ro_join _ _)))))))))) fun v11 => (ce_m (tm_ofF (tml (α := Str) ((catS text ("\n" : Str)) >>= fun v10 => (.ok [text, (L2.cutS text none (some (-(1 : Int)))), v10, ("" : Str), ("a - 0 0 1 1 -\n" : Str), ("a b 0 0 1 1 -\n" : Str)])) (w_un (am_p (tpa text (tp_var H rfl)) (am_p (tpa (L2.cutS text none (some (-(1 : Int)))) (tp_slice (tpa text (tp_var H rfl)) o_none (o_some (tpa (-(1 : Int)) (tp_un (tpa (1 : Int) (tp_c rfl)) (op_neg _)))) (op_cutS _ _ _))) (am_m (tma (α := Str) (catS text ("\n" : Str)) (w_bin (ce_p (tpa text (tp_var H rfl)) (ce_p (tpa ("\n" : Str) (tp_c rfl)) (ro_catS _ _))))) fun v10 => (am_p (tpa ("" : Str) (tp_c rfl)) (am_p (tpa ("a - 0 0 1 1 -\n" : Str) (tp_c rfl)) (am_p (tpa ("a b 0 0 1 1 -\n" : Str) (tp_c rfl)) (am_nil (rr_p (op_lst [text, (L2.cutS text none (some (-(1 : Int)))), v10, ("" : Str), ("a - 0 0 1 1 -\n" : Str), ("a b 0 0 1 1 -\n" : Str)] rfl (smn 6 (by decide) rfl))))))))))))) fun v12 => (ro_catF _ _))))) (fun _ => rfl) fun texts e H => (j_setM (J := TR) jTR (q := fun lines => [sv script, sv text, sv words, sv at1, sv odd, sv word, sv some1, so texts, sv lines, none, none, none]) H (tm_ofF (tml (α := Str) (splitG text ("\n" : Str)) (w_split (ce_p (tpa text (tp_var H rfl)) (ce_p (op_str _) (ce_p (tpa ("\n" : Str) (tp_c rfl)) (ro_split _ _))))))) (fun _ => rfl) fun lines e H => (j_setM (J := TR) jTR (q := fun to => [sv script, sv text, sv words, sv at1, sv odd, sv word, sv some1, so texts, sv lines, sv to, none, none]) H (tma (α := Int) (g_drawn script (102 : Int) ((lines).length : Int)) (w_un (am_p (tpa script (tp_var H rfl)) (am_p (tpa (102 : Int) (tp_c rfl)) (am_p (tpa ((lines).length : Int) (tp_un (a_cons (tpa lines (tp_var H rfl)) a_nil) (op_len _))) (am_nil (kg_drawn _ _ _))))))) (fun _ => rfl) fun to e H => (j_setFM (J := TR) jTR (q := fun texts => [sv script, sv text, sv words, sv at1, sv odd, sv word, sv some1, so texts, sv lines, sv to, none, none]) H (tml (α := Str) ((((catL (cutL lines none (some to)) (cutL lines (some (to + (1 : Int))) none)) >>= fun v18 => (joinG ("\n" : Str) v18)) >>= fun v20 => (((catL (cutL lines none (some (to + (1 : Int)))) (cutL lines (some to) none)) >>= fun v19 => (joinG ("\n" : Str) v19)) >>= fun v21 => (.ok [v20, v21]))) >>= fun v22 => (catL texts v22)) (w_catF (ce_p (tpa texts (tp_varO H rfl)) (ce_m (tm_ofF (tml (α := Str) (((catL (cutL lines none (some to)) (cutL lines (some (to + (1 : Int))) none)) >>= fun v18 => (joinG ("\n" : Str) v18)) >>= fun v20 => (((catL (cutL lines none (some (to + (1 : Int)))) (cutL lines (some to) none)) >>= fun v19 => (joinG ("\n" : Str) v19)) >>= fun v21 => (.ok [v20, v21]))) (w_un (am_m (tma (α := Str) ((catL (cutL lines none (some to)) (cutL lines (some (to + (1 : Int))) none)) >>= fun v18 => (joinG ("\n" : Str) v18)) (w_join (ce_p (tpa ("\n" : Str) (tp_c rfl)) (ce_p (op_str _) (ce_m (tma (α := (List Str)) (catL (cutL lines none (some to)) (cutL lines (some (to + (1 : Int))) none)) (w_bin (ce_p (tpa (cutL lines none (some to)) (tp_slice (tpa lines (tp_var H rfl)) o_none (o_some (tpa to (tp_var H rfl))) (op_cut _ _ _))) (ce_p (tpa (cutL lines (some (to + (1 : Int))) none) (tp_slice (tpa lines (tp_var H rfl)) (o_some (tpa (to + (1 : Int)) (tp_bin (tpa to (tp_var H rfl)) (tpa (1 : Int) (tp_c rfl)) (op_add _ _)))) o_none (op_cut _ _ _))) (ro_catL _ _))))) fun v18 => (ro_join _ _)))))) fun v20 => (am_m (tma (α := Str) ((catL (cutL lines none (some (to + (1 : Int)))) (cutL lines (some to) none)) >>= fun v19 => (joinG ("\n" : Str) v19)) (w_join (ce_p (tpa ("\n" : Str) (tp_c rfl)) (ce_p (op_str _) (ce_m (tma (α := (List Str)) (catL (cutL lines none (some (to + (1 : Int)))) (cutL lines (some to) none)) (w_bin (ce_p (tpa (cutL lines none (some (to + (1 : Int)))) (tp_slice (tpa lines (tp_var H rfl)) o_none (o_some (tpa (to + (1 : Int)) (tp_bin (tpa to (tp_var H rfl)) (tpa (1 : Int) (tp_c rfl)) (op_add _ _)))) (op_cut _ _ _))) (ce_p (tpa (cutL lines (some to) none) (tp_slice (tpa lines (tp_var H rfl)) (o_some (tpa to (tp_var H rfl))) o_none (op_cut _ _ _))) (ro_catL _ _))))) fun v19 => (ro_join _ _)))))) fun v21 => (am_nil (rr_p (op_lst [v20, v21] rfl (smn 2 (by decide) rfl))))))))) fun v22 => (ro_catF _ _))))) (fun _ => rfl) fun texts e H => (j_setM (J := TR) jTR (q := fun other => [sv script, sv text, sv words, sv at1, sv odd, sv word, sv some1, so texts, sv lines, sv to, sv other, none]) H (tma (α := (List Str)) ((catL (cutL lines none (some to)) (List.reverse (cutL lines (some to) (some (to + (2 : Int)))))) >>= fun v23 => (catL v23 (cutL lines (some (to + (2 : Int))) none))) (w_bin (ce_m (tma (α := (List Str)) (catL (cutL lines none (some to)) (List.reverse (cutL lines (some to) (some (to + (2 : Int)))))) (w_bin (ce_p (tpa (cutL lines none (some to)) (tp_slice (tpa lines (tp_var H rfl)) o_none (o_some (tpa to (tp_var H rfl))) (op_cut _ _ _))) (ce_p (tp_ofF (tpl (List.reverse (cutL lines (some to) (some (to + (2 : Int))))) (tp_un (tpa (cutL lines (some to) (some (to + (2 : Int)))) (tp_slice (tpa lines (tp_var H rfl)) (o_some (tpa to (tp_var H rfl))) (o_some (tpa (to + (2 : Int)) (tp_bin (tpa to (tp_var H rfl)) (tpa (2 : Int) (tp_c rfl)) (op_add _ _)))) (op_cut _ _ _))) (op_rev _)))) (ro_catL _ _))))) fun v23 => (ce_p (tpa (cutL lines (some (to + (2 : Int))) none) (tp_slice (tpa lines (tp_var H rfl)) (o_some (tpa (to + (2 : Int)) (tp_bin (tpa to (tp_var H rfl)) (tpa (2 : Int) (tp_c rfl)) (op_add _ _)))) o_none (op_cut _ _ _))) (ro_catL _ _))))) (fun _ => rfl) fun other e H => (j_pushM (J := TR) jTR (q := fun texts => [sv script, sv text, sv words, sv at1, sv odd, sv word, sv some1, so texts, sv lines, sv to, sv other, none]) H rfl (tma (α := Str) (joinG ("\n" : Str) other) (w_join (ce_p (tpa ("\n" : Str) (tp_c rfl)) (ce_p (op_str _) (ce_p (tpa other (tp_var H rfl)) (ro_join _ _)))))) (fun _ => rfl) fun texts e H => (j_setFM (J := TR) jTR (q := fun texts => [sv script, sv text, sv words, sv at1, sv odd, sv word, sv some1, so texts, sv lines, sv to, sv other, none]) H (tml (α := Str) (catL texts ([("a - -20 12 0 20 c\n" : Str), ("a - 10 -10 10 11 -\n" : Str), ("a - 010 0 1 1 -\n" : Str), ("a - 100 0 1 1 -\n" : Str)])) (w_catF (ce_p (tpa texts (tp_varO H rfl)) (ce_p (tp_ofF (tpl [("a - -20 12 0 20 c\n" : Str), ("a - 10 -10 10 11 -\n" : Str), ("a - 010 0 1 1 -\n" : Str), ("a - 100 0 1 1 -\n" : Str)] (tp_un (a_cons (tpa ("a - -20 12 0 20 c\n" : Str) (tp_c rfl)) (a_cons (tpa ("a - 10 -10 10 11 -\n" : Str) (tp_c rfl)) (a_cons (tpa ("a - 010 0 1 1 -\n" : Str) (tp_c rfl)) (a_cons (tpa ("a - 100 0 1 1 -\n" : Str) (tp_c rfl)) a_nil)))) (op_lst [("a - -20 12 0 20 c\n" : Str), ("a - 10 -10 10 11 -\n" : Str), ("a - 010 0 1 1 -\n" : Str), ("a - 100 0 1 1 -\n" : Str)] rfl (smn 4 (by decide) rfl))))) (ro_catF _ _))))) (fun _ => rfl) fun texts e H => (j_frzS (J := TR) (q := [sv script, sv text, sv words, sv at1, sv odd, sv word, sv some1, sv texts, sv lines, sv to, sv other, none]) H rfl rfl fun e H => (tr_sqO (P' := (fun (_ : Unit) => [sv script, sv text, sv words, sv at1, sv odd, sv word, sv some1, sv texts, sv lines, sv to, none, none])) (to_forP (P := (fun (_ : Unit) => [sv script, sv text, sv words, sv at1, sv odd, sv word, sv some1, sv texts, sv lines, sv to, none, none])) (q := fun (_ : Unit) (other : Str) => [sv script, sv text, sv words, sv at1, sv odd, sv word, sv some1, sv texts, sv lines, sv to, sv other, none]) (f := (fun (_ : Unit) (other : Str) => t_law_k51_b1 other)) (s0 := ()) (tpl texts (tp_un (tpa texts (tp_var H rfl)) (it_list _))) ((EnvIs.mask [true, true, true, true, true, true, true, true, true, true, false, false] H).as rfl) (fun other _ e H => tg_name H rfl) (fun other _ e H => to_end (Q := (fun (_ : Unit) => [sv script, sv text, sv words, sv at1, sv odd, sv word, sv some1, sv texts, sv lines, sv to, none, none])) (j_ifM jTO (J := TO (fun (_ : Unit) => [sv script, sv text, sv words, sv at1, sv odd, sv word, sv some1, sv texts, sv lines, sv to, none, none])) (ttm ((g_told51 other) >>= fun v24 => ((t_law_due_k51 other) >>= fun v25 => (eqDG v24 v25 >>= fun k => .ok (!k)))) (w_tbin (ce_m (tma (α := D) (g_told51 other) (w_un (am_p (tpa other (tp_var H rfl)) (am_nil (kg_told51 _))))) fun v24 => (ce_m (tma (α := D) (t_law_due_k51 other) (w_un (am_p (tpa other (tp_var H rfl)) (am_nil (k_law_due_k51 _))))) fun v25 => (rr_bool (ro_neD _ _))))))
 (to_ret (tpa false (tp_c rfl)))
 (to_nil (P := (fun (_ : Unit) => [sv script, sv text, sv words, sv at1, sv odd, sv word, sv some1, sv texts, sv lines, sv to, none, none])) (s := ()) ((EnvIs.mask [true, true, true, true, true, true, true, true, true, true, false, false] H).as rfl))) (fun _ => rfl))) fun _ e H => (tr_ret (rr_p (tpa true (tp_c rfl)))))))))))))))))))))
end
end Ty

namespace Fo
open PySem Dx
section
variable {f : Box → Box}
structure KeepB (f : Box → Box) : Prop where
  nm : ∀ b, (f b).nm = b.nm
  ar : ∀ b, (f b).ar = b.ar
end
section
variable {S : List Box} (w : wf [] S) {n : Str} (hn : n ∈ names S) {m : Str}
include w in
include w hn in
include w hn in
include w in
end
end Fo

namespace Fo
open PySem Dx
section
variable {S : List Box} (w : wf [] S) (dx dy : Int)
include w in
include w in
include w in
include w in
include w in
include w in
end
def msAll : List Str := ["", "c", "f", "h", "l", "cf", "ch", "cl", "fh", "fl", "hl", "cfh", "cfl", "chl", "fhl", "cfhl"]
theorem scene_ms {ns : List Int} (at_ : Int) : ∀ b ∈ scene ns at_, b.ms ∈ msAll := by
  have one : ∀ p : Nat × Nat → Bool, (⟨((marks4.filter p).map (·.2)).toArray⟩ : Str) ∈ msAll := by
    intro p
    unfold marks4
    rw [List.filter_cons, List.filter_cons, List.filter_cons, List.filter_cons, List.filter_nil]
    cases p (0, 99) <;> cases p (1, 102) <;> cases p (2, 104) <;> cases p (3, 108) <;> decide +kernel
  have all : ∀ k, ∀ b ∈ mkSc ns at_ k, b.ms ∈ msAll := by
    intro k
    induction k with
    | zero => intro b hb; cases hb
    | succ k ih =>
      intro b hb
      rw [mkSc, List.mem_append] at hb
      rcases hb with hb | hb
      · exact ih b hb
      · rw [List.mem_singleton] at hb
        rw [hb]
        exact one _
  exact all _
end Fo
namespace Ty
open PySem Dx Dn Fo
open Enc (enc)
end Ty

namespace Ty
open PySem Dx Dn Fo
open Enc (enc)
def okNm (n : Str) : Prop := t_is_name n = .ok true
def okMs (m : Str) : Prop := t_are_marks m = .ok true
structure BxO (b : Box) : Prop where
  nm : okNm b.nm
  ms : okMs b.ms
  l : -20 ≤ b.l ∧ b.l ≤ 20
  t : -20 ≤ b.t ∧ b.t ≤ 20
  w : 0 ≤ b.w ∧ b.w ≤ 20
  h : 0 ≤ b.h ∧ b.h ≤ 20
theorem ms_okM : ∀ m ∈ msAll, okMs m := by
  have one : ∀ m : Str, (match t_are_marks m with | .ok b => b | _ => false) = true → okMs m := by
    intro m h
    unfold okMs
    cases e : t_are_marks m with
    | ok b => rw [e] at h; simp at h; rw [h]
    | exc c => rw [e] at h; cases h
    | bad => rw [e] at h; cases h
  intro m hm
  refine one m ?_
  have : (msAll.all fun m => (match t_are_marks m with | .ok b => b | _ => false)) = true := by decide +kernel
  exact List.all_eq_true.mp this m hm
theorem letter_okN (i : Nat) : okNm (letter i) := by
  have one : ∀ m : Str, (match t_is_name m with | .ok b => b | _ => false) = true → okNm m := by
    intro m h
    unfold okNm
    cases e : t_is_name m with
    | ok b => rw [e] at h; simp at h; rw [h]
    | exc c => rw [e] at h; cases h
    | bad => rw [e] at h; cases h
  refine one _ ?_
  have : ((List.range 8).all fun i => (match t_is_name (letter i) with | .ok b => b | _ => false)) = true := by decide +kernel
  have h := List.all_eq_true.mp this (i % 8) (List.mem_range.mpr (Nat.mod_lt _ (by decide)))
  have e : letter (i % 8) = letter i := by unfold letter; rw [Nat.mod_mod]
  rw [e] at h; exact h
theorem scene_bx {ns : List Int} (h : ns.length ≤ 63) (at_ : Int) : ∀ b ∈ scene ns at_, BxO b := by
  intro b hb
  have hs := mkSc_small h at_ _ b hb
  have hm := ms_okM _ (scene_ms at_ b hb)
  have hn : ∃ i, b.nm = letter i := by
    have : b.nm ∈ names (scene ns at_) := mem_names.mpr ⟨b, hb, rfl⟩
    unfold scene at this
    rw [mkSc_names, List.mem_map] at this
    obtain ⟨i, _, e⟩ := this
    exact ⟨_, e.symm⟩
  obtain ⟨i, hi⟩ := hn
  exact ⟨hi ▸ letter_okN i, hm, by omega, by omega, by omega, by omega⟩
end Ty

namespace Ty
open PySem Dx Dn Fo
open Enc (enc)
noncomputable section
def wOk (w : Str) : Bool := !decide (32 ∈ w.cps.toList) && !decide (10 ∈ w.cps.toList) && decide (w.length ≤ 10) && sOk w
def wordsB (b : Box) : List Str := [b.nm, t_or_bar b.ar, strOfI b.l, strOfI b.t, strOfI b.w, strOfI b.h, t_or_bar b.ms]
def lineB (b : Box) : Str := Txt.join " " (wordsB b)
theorem num_ok {i : Int} (h : -20 ≤ i ∧ i ≤ 20) : wOk (strOfI i) = true ∧ strG i = .ok (strOfI i) ∧ nB (strOfI i) = .ok i := by
  have all : ((List.range 41).all fun k => wOk (strOfI ((k : Int) - 20)) && (match strG ((k : Int) - 20) with | .ok s => decide (s = strOfI ((k : Int) - 20)) | _ => false) && (match nB (strOfI ((k : Int) - 20)) with | .ok j => decide (j = (k : Int) - 20) | _ => false)) = true := by decide +kernel
  have := List.all_eq_true.mp all (i + 20).toNat (List.mem_range.mpr (by omega))
  have e : (((i + 20).toNat : Nat) : Int) - 20 = i := by omega
  rw [e, Bool.and_eq_true, Bool.and_eq_true] at this
  refine ⟨this.1.1, ?_, ?_⟩
  · have h2 := this.1.2
    cases hs : strG i with
    | ok s => rw [hs] at h2; simp at h2; rw [h2]
    | exc c => rw [hs] at h2; cases h2
    | bad => rw [hs] at h2; cases h2
  · have h2 := this.2
    cases hs : nB (strOfI i) with
    | ok s => rw [hs] at h2; simp at h2; rw [h2]
    | exc c => rw [hs] at h2; cases h2
    | bad => rw [hs] at h2; cases h2
structure Bx (b : Box) : Prop where
  w : ∀ x ∈ wordsB b, wOk x = true
  n0 : b.nm ≠ ""
  ar : t_text_in (t_or_bar b.ar) = b.ar
  ms : t_text_in (t_or_bar b.ms) = b.ms
  l : -20 ≤ b.l ∧ b.l ≤ 20
  t : -20 ≤ b.t ∧ b.t ≤ 20
  wd : -20 ≤ b.w ∧ b.w ≤ 20
  h : -20 ≤ b.h ∧ b.h ≤ 20
theorem letter_w (i : Nat) : wOk (letter i) = true ∧ letter i ≠ "" ∧ wOk (t_or_bar (letter i)) = true ∧ t_text_in (t_or_bar (letter i)) = letter i := by
  have all : ((List.range 8).all fun i => wOk (letter i) && !decide (letter i = "") && wOk (t_or_bar (letter i)) && decide (t_text_in (t_or_bar (letter i)) = letter i)) = true := by decide +kernel
  have h := List.all_eq_true.mp all (i % 8) (List.mem_range.mpr (Nat.mod_lt _ (by decide)))
  have e : letter (i % 8) = letter i := by unfold letter; rw [Nat.mod_mod]
  rw [e] at h
  simp only [Bool.and_eq_true, Bool.not_eq_true', decide_eq_false_iff_not, decide_eq_true_eq] at h
  exact ⟨h.1.1.1, h.1.1.2, h.1.2, h.2⟩
theorem ms_w {m : Str} (hm : m ∈ msAll) : wOk (t_or_bar m) = true ∧ t_text_in (t_or_bar m) = m := by
  have all : (msAll.all fun m => wOk (t_or_bar m) && decide (t_text_in (t_or_bar m) = m)) = true := by decide +kernel
  have h := List.all_eq_true.mp all m hm
  simp only [Bool.and_eq_true, decide_eq_true_eq] at h
  exact h
theorem none_w : wOk (t_or_bar "") = true ∧ t_text_in (t_or_bar "") = "" := ⟨by decide +kernel, by decide +kernel⟩
theorem scene_letter' (ns : List Int) (at_ : Int) {m : Str} (h : m ∈ names (scene ns at_)) : ∃ i, m = letter i := by
  unfold scene at h
  rw [mkSc_names, List.mem_map] at h
  obtain ⟨i, _, e⟩ := h
  exact ⟨_, e.symm⟩
theorem scene_B {ns : List Int} (h : ns.length ≤ 63) : ∀ b ∈ scene ns 0, Bx b := by
  intro b hb
  have o := scene_bx h 0 b hb
  obtain ⟨i, hi⟩ := scene_letter' ns 0 (mem_names.mpr ⟨b, hb, rfl⟩ : b.nm ∈ names (scene ns 0))
  have ln := letter_w i
  have hm := ms_w (scene_ms 0 b hb)
  have ha : wOk (t_or_bar b.ar) = true ∧ t_text_in (t_or_bar b.ar) = b.ar := by
    by_cases e : b.ar = ""
    · rw [e]; exact none_w
    · obtain ⟨j, hj⟩ := scene_letter' ns 0 (ar_names (scene_wf h 0) hb e)
      rw [hj]; exact (letter_w j).2.2
  have bl : -20 ≤ b.l ∧ b.l ≤ 20 := o.l
  have bt : -20 ≤ b.t ∧ b.t ≤ 20 := o.t
  have bw : -20 ≤ b.w ∧ b.w ≤ 20 := ⟨by have := o.w.1; omega, o.w.2⟩
  have bh : -20 ≤ b.h ∧ b.h ≤ 20 := ⟨by have := o.h.1; omega, o.h.2⟩
  refine ⟨fun x hx => ?_, by rw [hi]; exact ln.2.1, ha.2, hm.2, bl, bt, bw, bh⟩
  unfold wordsB at hx
  simp only [List.mem_cons, List.not_mem_nil, or_false] at hx
  rcases hx with rfl | rfl | rfl | rfl | rfl | rfl | rfl
  · rw [hi]; exact ln.1
  · exact ha.1
  · exact (num_ok bl).1
  · exact (num_ok bt).1
  · exact (num_ok bw).1
  · exact (num_ok bh).1
  · exact hm.1
end
end Ty

namespace Ty
open PySem Dx Dn Fo
open Enc (enc)
open TL (tl tl_append ext_tl len_tl joinL tl_join join_eq)
noncomputable section
theorem tl_nl : tl ("\n" : Str) = [10] := by decide +kernel
theorem tl_sp : tl (" " : Str) = [32] := by decide +kernel
theorem tl_no : tl ("" : Str) = [] := by decide +kernel
theorem joinL_cons {S a : List Nat} {m : List (List Nat)} (h : m ≠ []) : joinL S (a :: m) = a ++ (S ++ joinL S m) := by
  cases m with
  | nil => exact absurd rfl h
  | cons x m => rfl
theorem joinL_mem {c : Nat} {S : List Nat} : ∀ {ps : List (List Nat)}, c ∈ joinL S ps → c ∈ S ∨ ∃ p ∈ ps, c ∈ p
  | [], h => by cases h
  | [p], h => .inr ⟨p, by simp, h⟩
  | p :: q :: r, h => by
    rcases List.mem_append.mp (show c ∈ p ++ (S ++ joinL S (q :: r)) from h) with z | z
    · exact .inr ⟨p, by simp, z⟩
    · rcases List.mem_append.mp z with z | z
      · exact .inl z
      · rcases joinL_mem z with z | ⟨p', h1, h2⟩
        · exact .inl z
        · exact .inr ⟨p', List.mem_cons_of_mem _ h1, h2⟩
theorem joinL_len {S : List Nat} {k : Nat} : ∀ {ps : List (List Nat)}, (∀ p ∈ ps, p.length ≤ k) → (joinL S ps).length ≤ ps.length * (k + S.length)
  | [], _ => Nat.zero_le _
  | [p], h => by
    show p.length ≤ 1 * (k + S.length)
    have := h p (by simp); omega
  | p :: q :: r, h => by
    show (p ++ (S ++ joinL S (q :: r))).length ≤ _
    have h1 := h p (by simp)
    have h2 := joinL_len (S := S) (ps := q :: r) fun z hz => h z (List.mem_cons_of_mem _ hz)
    rw [List.length_append, List.length_append, List.length_cons (a := p), Nat.add_mul]
    omega
theorem joinL_flat : ∀ ps : List (List Nat), joinL [] ps = ps.flatten
  | [] => rfl
  | [p] => by simp [joinL]
  | p :: q :: r => by
    show p ++ ([] ++ joinL [] (q :: r)) = _
    rw [joinL_flat (q :: r)]; rfl
theorem sum_le {k : Nat} : ∀ {ys : List Str}, (∀ y ∈ ys, y.length ≤ k) → (ys.map (·.length)).sum ≤ ys.length * k
  | [], _ => Nat.zero_le _
  | y :: ys, h => by
    have h1 := h y (by simp)
    have h2 := sum_le fun z hz => h z (List.mem_cons_of_mem y hz)
    rw [List.map_cons, List.sum_cons, List.length_cons, Nat.add_mul]
    omega
theorem sOk_of {x : Str} (h : ∀ c ∈ tl x, c < 0x110000) (hz : (tl x).length ≤ 16777216) : sOk x = true := by
  unfold sOk PyData.strOk
  rw [Bool.and_eq_true]
  refine ⟨?_, decide_eq_true (by rw [len_tl]; exact hz)⟩
  rw [← Array.all_toList, List.all_eq_true]
  exact fun c hc => decide_eq_true (h c hc)
theorem sOk_lt {x : Str} (h : sOk x = true) : ∀ c ∈ tl x, c < 0x110000 := by
  unfold sOk PyData.strOk at h
  rw [Bool.and_eq_true] at h
  have h1 := h.1
  rw [← Array.all_toList, List.all_eq_true] at h1
  exact fun c hc => of_decide_eq_true (h1 c hc)
structure WO (w : Str) : Prop where
  sp : 32 ∉ tl w
  nl : 10 ∉ tl w
  len : w.length ≤ 10
  ok : sOk w = true
theorem wo {w : Str} (h : wOk w = true) : WO w := by
  unfold wOk at h
  simp only [Bool.and_eq_true, Bool.not_eq_true', decide_eq_false_iff_not, decide_eq_true_eq] at h
  exact ⟨h.1.1.1, h.1.1.2, h.1.2, h.2⟩
structure LO (x : Str) : Prop where
  nl : 10 ∉ tl x
  len : (tl x).length ≤ 77
  lt : ∀ c ∈ tl x, c < 0x110000
theorem line_tl (b : Box) : tl (lineB b) = joinL [32] ((wordsB b).map tl) := by
  unfold lineB; rw [join_eq, tl_join, tl_sp]
theorem line_ok {b : Box} (o : Bx b) : LO (lineB b) := by
  have ow := fun x hx => wo (o.w x hx)
  refine ⟨fun h => ?_, ?_, fun c h => ?_⟩
  · rw [line_tl] at h
    rcases joinL_mem h with z | ⟨p, h1, h2⟩
    · simp at z
    · obtain ⟨w, hw, rfl⟩ := List.mem_map.mp h1
      exact (ow w hw).nl h2
  · rw [line_tl]
    refine Nat.le_trans (joinL_len (k := 10) fun p hp => ?_) ?_
    · obtain ⟨w, hw, rfl⟩ := List.mem_map.mp hp
      have := (ow w hw).len
      rw [len_tl] at this; exact this
    · rw [List.length_map]; exact Nat.le_refl _
  · rw [line_tl] at h
    rcases joinL_mem h with z | ⟨p, h1, h2⟩
    · simp at z; omega
    · obtain ⟨w, hw, rfl⟩ := List.mem_map.mp h1
      exact sOk_lt (ow w hw).ok c h2
theorem LO.sok {x : Str} (o : LO x) : sOk x = true := sOk_of o.lt (by have := o.len; omega)
theorem line_join {b : Box} (o : Bx b) : joinG " " (wordsB b) = .ok (lineB b) := by
  have h1 := sum_le fun x hx => (wo (o.w x hx)).len
  refine if_pos ⟨?_, (line_ok o).sok⟩
  have h2 : (" " : Str).length = 1 := by decide +kernel
  have h3 : (wordsB b).length = 7 := rfl
  rw [h2]; rw [h3] at h1 ⊢; omega
theorem line_split {b : Box} (o : Bx b) : splitG (lineB b) " " = .ok (wordsB b) := by
  have e : Txt.split (lineB b) " " = wordsB b := TL.split_join (S := []) tl_sp (by decide +kernel) (by unfold wordsB; simp) fun p hp => (wo (o.w p hp)).sp
  have hl := (line_ok o).len
  unfold splitG
  rw [e]
  refine if_pos ⟨by decide +kernel, ?_, ?_, ?_⟩
  · rw [len_tl, sizeLine_eq]; omega
  · rw [sizeLine_eq]; show 7 ≤ 16777216; omega
  · rw [List.all_eq_true]; exact fun x hx => (wo (o.w x hx)).ok
theorem line_text {b : Box} (o : Bx b) : t_box_text b = .ok (lineB b) := by
  unfold t_box_text
  have e1 : compR (fun (number : Int) => R.ok true) (fun (number : Int) => (strG number)) ((Co.f (T4.mk b.l b.t b.w b.h) : (Tu Int))).l = .ok [strOfI b.l, strOfI b.t, strOfI b.w, strOfI b.h] := by
    rw [compR_map _ _ strOfI _ (fun _ _ => rfl)]
    · rfl
    · intro x hx
      have hx : x ∈ [b.l, b.t, b.w, b.h] := hx
      simp only [List.mem_cons, List.not_mem_nil, or_false] at hx
      rcases hx with rfl | rfl | rfl | rfl
      · exact (num_ok o.l).2.1
      · exact (num_ok o.t).2.1
      · exact (num_ok o.wd).2.1
      · exact (num_ok o.h).2.1
  rw [e1]
  simp only [R.ok_bind]
  rw [catL_ok (by simp)]
  simp only [R.ok_bind]
  rw [catL_ok (by simp)]
  simp only [R.ok_bind]
  exact line_join o
def txtB (S : List Box) : Str := Txt.join "\n" (S.map lineB ++ [("" : Str)])
theorem txt_tl : ∀ S : List Box, tl (txtB S) = (S.map fun b => tl (lineB b) ++ [10]).flatten := by
  intro S
  unfold txtB
  rw [join_eq, tl_join, tl_nl]
  induction S with
  | nil => rfl
  | cons b S ih =>
    rw [List.map_cons, List.cons_append, List.map_cons, joinL_cons (by simp), ih, List.map_cons, List.flatten_cons, List.append_assoc]
theorem txt_len : ∀ {S : List Box}, (∀ b ∈ S, Bx b) → (tl (txtB S)).length ≤ S.length * 78
  | [], _ => by rw [txt_tl]; exact Nat.zero_le _
  | b :: S, h => by
    have h1 := (line_ok (h b (by simp))).len
    have h2 := txt_len fun z hz => h z (List.mem_cons_of_mem b hz)
    rw [txt_tl] at h2
    rw [txt_tl, List.map_cons, List.flatten_cons, List.length_append, List.length_append]
    have : (b :: S).length = S.length + 1 := rfl
    have : [10].length = 1 := rfl
    omega
theorem txt_sok {S : List Box} (o : ∀ b ∈ S, Bx b) (hl : S.length ≤ 1000) : sOk (txtB S) = true := by
  have := txt_len o
  refine sOk_of (fun c hc => ?_) (by omega)
  rw [txt_tl, List.mem_flatten] at hc
  obtain ⟨l, hl, hc⟩ := hc
  obtain ⟨b, hb, rfl⟩ := List.mem_map.mp hl
  rcases List.mem_append.mp hc with z | z
  · exact (line_ok (o b hb)).lt c z
  · simp at z; omega
theorem nl_len : ("\n" : Str).length = 1 := by decide +kernel
theorem join_lines {S : List Box} (o : ∀ b ∈ S, Bx b) (hl : S.length ≤ 1000) : joinG "" (S.map fun b => lineB b ++ ("\n" : Str)) = .ok (txtB S) := by
  have e : Txt.join "" (S.map fun b => lineB b ++ ("\n" : Str)) = txtB S := ext_tl (by
    rw [join_eq, tl_join, tl_no, joinL_flat, txt_tl, List.map_map]
    congr 1
    refine List.map_congr_left fun b _ => ?_
    show tl (lineB b ++ ("\n" : Str)) = _
    rw [tl_append, tl_nl])
  unfold joinG
  show (if _ ∧ sOk (Txt.join "" (S.map fun b => lineB b ++ ("\n" : Str))) = true then _ else _) = _
  rw [e]
  refine if_pos ⟨?_, txt_sok o hl⟩
  have h0 : ("" : Str).length = 0 := by decide +kernel
  have h1 : ((S.map fun b => lineB b ++ ("\n" : Str)).map (·.length)).sum ≤ (S.map fun b => lineB b ++ ("\n" : Str)).length * 78 := sum_le fun y hy => by
    obtain ⟨b, hb, rfl⟩ := List.mem_map.mp hy
    have := (line_ok (o b hb)).len
    rw [len_tl, tl_append, tl_nl, List.length_append]
    have : [10].length = 1 := rfl
    omega
  rw [h0]
  rw [List.length_map] at h1
  show (((S.map fun b => lineB b ++ ("\n" : Str)).map (·.length)).sum + _ * 0 ≤ _)
  omega
theorem line_nl {b : Box} (o : Bx b) : catS (lineB b) ("\n" : Str) = .ok (lineB b ++ ("\n" : Str)) := by
  have := (line_ok o).len
  exact catS_ok (by rw [nl_len, len_tl]; omega)
theorem written_ok {S : List Box} (o : ∀ b ∈ S, Bx b) (hl : S.length ≤ 1000) : t_written ⟨S⟩ = .ok (txtB S) := by
  unfold t_written
  rw [compR_map _ _ (fun b => lineB b ++ ("\n" : Str)) _ (fun _ _ => rfl) (fun b hb => by
    rw [line_text (o b hb)]
    simp only [R.ok_bind]
    exact line_nl (o b hb))]
  simp only [R.ok_bind]
  exact join_lines o hl
theorem lines_split {S : List Box} (o : ∀ b ∈ S, Bx b) (hl : S.length ≤ 1000) : splitG (txtB S) "\n" = .ok (S.map lineB ++ [("" : Str)]) := by
  have e : Txt.split (txtB S) "\n" = S.map lineB ++ [("" : Str)] := TL.split_join (S := []) tl_nl (by decide +kernel) (by simp) fun p hp => by
    rcases List.mem_append.mp hp with z | z
    · obtain ⟨b, hb, rfl⟩ := List.mem_map.mp z
      exact (line_ok (o b hb)).nl
    · simp at z; rw [z, tl_no]; simp
  have h1 := txt_len o
  unfold splitG
  rw [e]
  refine if_pos ⟨by decide +kernel, ?_, ?_, ?_⟩
  · rw [len_tl, sizeLine_eq]; omega
  · rw [sizeLine_eq]; simp; omega
  · rw [List.all_eq_true]
    intro x hx
    rcases List.mem_append.mp hx with z | z
    · obtain ⟨b, hb, rfl⟩ := List.mem_map.mp z
      exact (line_ok (o b hb)).sok
    · simp at z; rw [z]; decide +kernel
end
end Ty

namespace Ty
open PySem Dx Dn Fo
open Enc (enc)
open TL (tl tl_append ext_tl len_tl joinL tl_join join_eq)
noncomputable section
def figL (w : Str) : List Nat := match tl w with
  | 45 :: r => r
  | l => l
def isDig (c : Nat) : Bool := decide (48 ≤ c) && decide (c ≤ 57)
def figOk (k : Nat) (w : Str) : Bool := decide (1 ≤ (figL w).length) && decide ((figL w).length ≤ k) && (figL w).all isDig
def numW (w : Str) : Int := match tl w with
  | 45 :: r => -((PySem.NumText.digitsVal r : Nat) : Int)
  | l => ((PySem.NumText.digitsVal l : Nat) : Int)
theorem tl_cut1 (w : Str) : tl (L2.cutS w none (some (1 : Int))) = (tl w).take 1 := by
  unfold L2.cutS
  show ((w.cps.toList.drop (HT.sIx w.length 0 none)).take (HT.sIx w.length w.length (some 1) - HT.sIx w.length 0 none)).toArray.toList = _
  have h0 : HT.sIx w.length 0 none = 0 := rfl
  have h1 : HT.sIx w.length w.length (some 1) = min 1 w.length := by
    unfold HT.sIx; simp
  rw [h0, h1, List.drop_zero, Nat.sub_zero]
  show w.cps.toList.take _ = w.cps.toList.take 1
  have hl : w.length = w.cps.toList.length := by simp [Str.length]
  rw [hl]
  cases w.cps.toList with
  | nil => rfl
  | cons a l => simp [Nat.min_def]
theorem tl_cutD (w : Str) (k : Nat) : tl (L2.cutS w (some (k : Int)) none) = (tl w).drop k := by
  unfold L2.cutS
  show ((w.cps.toList.drop (HT.sIx w.length 0 (some (k : Int)))).take (HT.sIx w.length w.length none - HT.sIx w.length 0 (some (k : Int)))).toArray.toList = w.cps.toList.drop k
  have hl : w.length = w.cps.toList.length := by simp [Str.length]
  have h0 : HT.sIx w.length w.length none = w.length := rfl
  have h1 : HT.sIx w.length 0 (some (k : Int)) = min k w.length := by
    unfold HT.sIx; simp; omega
  rw [h0, h1, hl]
  show (w.cps.toList.drop (min k w.cps.toList.length)).take _ = _
  rw [List.take_of_length_le (by rw [List.length_drop]; exact Nat.le_refl _)]
  by_cases z : k ≤ w.cps.toList.length
  · rw [Nat.min_eq_left z]
  · rw [Nat.min_eq_right (by omega), List.drop_length, List.drop_eq_nil_of_le (by omega)]
theorem tl_bar : tl ("-" : Str) = [45] := by decide +kernel
theorem starts (w : Str) : decide (L2.cutS w none (some (1 : Int)) = ("-" : Str)) = decide ((tl w).take 1 = [45]) := by
  by_cases h : (tl w).take 1 = [45]
  · rw [decide_eq_true h]
    exact decide_eq_true (ext_tl (by rw [tl_cut1, h, tl_bar]))
  · rw [decide_eq_false h]
    exact decide_eq_false fun z => h (by rw [← tl_cut1, z, tl_bar])
theorem figL_eq (w : Str) : figL w = if (tl w).take 1 = [45] then (tl w).drop 1 else tl w := by
  unfold figL
  cases h : tl w with
  | nil => rfl
  | cons a r =>
    by_cases z : a = 45
    · subst z; simp
    · rw [if_neg (by intro y; simp at y; exact z y)]
      split
      · rename_i r' e; injection e with e1 _; exact absurd e1 z
      · rfl
theorem figs3 (w : Str) : tl (if decide (L2.cutS w none (some (1 : Int)) = ("-" : Str)) = true then L2.cutS w (some (1 : Int)) none else w) = figL w := by
  rw [starts, figL_eq]
  by_cases h : (tl w).take 1 = [45]
  · rw [decide_eq_true h, if_pos rfl, if_pos h]; exact tl_cutD w 1
  · rw [decide_eq_false h, if_neg Bool.false_ne_true, if_neg h]
theorem figs4 (w : Str) : tl (L2.cutS w (some (b2i (decide (L2.cutS w none (some (1 : Int)) = ("-" : Str))))) none) = figL w := by
  rw [starts, figL_eq]
  by_cases h : (tl w).take 1 = [45]
  · rw [decide_eq_true h, if_pos h]; exact tl_cutD w 1
  · rw [decide_eq_false h, if_neg h]; exact (tl_cutD w 0).trans (List.drop_zero ..)
theorem digs_tl : (("0123456789" : Str)).cps.toList = [48, 49, 50, 51, 52, 53, 54, 55, 56, 57] := by decide +kernel
theorem hasC_dig (c : Nat) : hasC c ("0123456789" : Str) = isDig c := by
  unfold hasC isDig
  rw [digs_tl]
  by_cases h : 48 ≤ c ∧ c ≤ 57
  · rw [decide_eq_true h.1, decide_eq_true h.2]
    refine decide_eq_true ?_
    have : c = 48 ∨ c = 49 ∨ c = 50 ∨ c = 51 ∨ c = 52 ∨ c = 53 ∨ c = 54 ∨ c = 55 ∨ c = 56 ∨ c = 57 := by omega
    simpa using this
  · have : (decide (48 ≤ c) && decide (c ≤ 57)) = false := by
      rw [Bool.and_eq_false_iff]
      by_cases h1 : 48 ≤ c
      · exact .inr (decide_eq_false fun h2 => h ⟨h1, h2⟩)
      · exact .inl (decide_eq_false h1)
    rw [this]
    refine decide_eq_false fun z => h ?_
    simp at z; omega
theorem chars_map (x : Str) : chars x = (tl x).map fun c => (⟨#[c]⟩ : Str) := rfl
theorem sign1 (c : Nat) : signIn (⟨#[c]⟩ : Str) ("0123456789" : Str) = .ok (isDig c) := by
  show R.ok (hasC c ("0123456789" : Str)) = _
  rw [hasC_dig]
theorem all_digs (x : Str) : (compR (fun (sign : Str) => R.ok true) (fun (sign : Str) => (signIn sign ("0123456789" : Str))) (chars x)) = .ok ((tl x).map isDig) := by
  rw [chars_map]
  generalize tl x = l
  induction l with
  | nil => rfl
  | cons c l ih =>
    rw [List.map_cons, List.map_cons]
    unfold compR
    simp only [sign1]
    rw [ih]; rfl
theorem no_digs (x : Str) : (compR (fun (sign : Str) => (signIn sign ("0123456789" : Str) >>= fun k => .ok (!k))) (fun (sign : Str) => (R.ok sign)) (chars x)) = .ok (((tl x).filter fun c => !isDig c).map fun c => (⟨#[c]⟩ : Str)) := by
  rw [chars_map]
  generalize tl x = l
  induction l with
  | nil => rfl
  | cons c l ih =>
    rw [List.map_cons, List.filter_cons]
    unfold compR
    simp only [sign1, R.ok_bind]
    cases isDig c with
    | true => simp only [Bool.not_true, Bool.false_eq_true, if_false]; exact ih
    | false =>
      simp only [Bool.not_false, if_true]
      rw [ih]; rfl
theorem no_digs_nil (l : List Nat) : decide ((l.filter fun c => !isDig c).map (fun c => (⟨#[c]⟩ : Str)) = ([] : List Str)) = l.all isDig := by
  induction l with
  | nil => rfl
  | cons c l ih =>
    rw [List.filter_cons, List.all_cons]
    cases isDig c with
    | true => simp only [Bool.not_true, Bool.false_eq_true, if_false, Bool.true_and]; exact ih
    | false => simp
theorem int_ok {k : Nat} {w : Str} (h : figOk k w = true) (hk : k ≤ 600) : intTG w = .ok (numW w) := by
  unfold figOk at h
  simp only [Bool.and_eq_true, decide_eq_true_eq] at h
  obtain ⟨⟨h1, h2⟩, h3⟩ := h
  have dg : PySem.NumText.AllDigits (figL w) := fun c hc => by
    have := List.all_eq_true.mp h3 c hc
    unfold isDig at this
    simpa using this
  have hne : figL w ≠ [] := fun z => by rw [z] at h1; simp at h1
  have hlen : w.length ≤ 640 := by
    rw [len_tl]
    have : (tl w).length ≤ (figL w).length + 1 := by
      rw [figL_eq]; split
      · rw [List.length_drop]; omega
      · omega
    omega
  unfold intTG numW
  unfold figL at dg hne
  cases hw : tl w with
  | nil => rw [hw] at hne; exact absurd rfl hne
  | cons a r =>
    rw [hw] at dg hne
    by_cases z : a = 45
    · subst z
      simp only at dg hne
      rw [PySem.intText_neg (x := w) (cs := r) hw dg hne (by omega)]
      simp only [if_pos hlen]
    · have e1 : (match a :: r with | 45 :: r => r | l => l) = a :: r := by
        split
        · rename_i r' e; injection e with e1 _; exact absurd e1 z
        · rfl
      rw [e1] at dg hne
      have hw' : w.cps.toList = a :: r := hw
      rw [PySem.intText_digits (x := w) (by rw [hw']; exact dg) (by rw [hw']; exact hne) (by omega)]
      simp only [if_pos hlen]
      rw [hw']
      split
      · rename_i r' e; injection e with e1 _; exact absurd e1 z
      · rfl
theorem number_eq (w : Str) : t_number_in w = if figOk 3 w = true then .ok (numW w) else .exc "NoText" := by
  unfold t_number_in
  show (letT (if decide (L2.cutS w none (some (1 : Int)) = ("-" : Str)) = true then L2.cutS w (some (1 : Int)) none else w) _) = _
  unfold letT
  generalize hf : (if decide (L2.cutS w none (some (1 : Int)) = ("-" : Str)) = true then L2.cutS w (some (1 : Int)) none else w) = f
  have ef : tl f = figL w := by rw [← hf]; exact figs3 w
  dsimp only
  rw [all_digs, ef, len_tl, ef]
  simp only [R.ok_bind]
  have eall : List.all ((figL w).map isDig) id = (figL w).all isDig := by rw [List.all_map]; rfl
  rw [eall]
  by_cases h1 : 1 ≤ (figL w).length
  · by_cases h2 : (figL w).length ≤ 3
    · rw [decide_eq_true (show (1 : Int) ≤ ((figL w).length : Int) by omega), decide_eq_true (show ((figL w).length : Int) ≤ (3 : Int) by omega)]
      simp only [Bool.and_self, Bool.not_true, Bool.false_eq_true, if_false, R.ok_bind]
      cases h3 : (figL w).all isDig with
      | true =>
        have hk : figOk 3 w = true := by unfold figOk; rw [decide_eq_true h1, decide_eq_true h2, h3]; rfl
        rw [if_pos hk]
        simp only [Bool.not_true, Bool.false_eq_true, if_false]
        exact int_ok hk (by decide)
      | false =>
        have hk : figOk 3 w = false := by unfold figOk; rw [h3]; simp
        rw [hk]
        simp
    · have hk : figOk 3 w = false := by unfold figOk; rw [decide_eq_false h2]; simp
      rw [hk, decide_eq_false (show ¬ ((figL w).length : Int) ≤ (3 : Int) by omega)]
      simp
  · have hk : figOk 3 w = false := by unfold figOk; rw [decide_eq_false h1]; simp
    rw [hk, decide_eq_false (show ¬ (1 : Int) ≤ ((figL w).length : Int) by omega)]
    simp
theorem due_b2 (ns : List Int) (w : Str) (hn : ns.length < 100) : t_law_due_k51_b2 ns w = if figOk 4 w = true then .nx (ns ++ [numW w]) else .rt .non := by
  unfold t_law_due_k51_b2
  show (letT (L2.cutS w (some (b2i (decide (L2.cutS w none (some (1 : Int)) = ("-" : Str))))) none) _) = _
  unfold letT
  generalize hf : L2.cutS w (some (b2i (decide (L2.cutS w none (some (1 : Int)) = ("-" : Str))))) none = f
  have ef : tl f = figL w := by rw [← hf]; exact figs4 w
  dsimp only
  rw [no_digs, ef, len_tl, ef]
  simp only [R.ok_bind]
  rw [no_digs_nil]
  by_cases h1 : 1 ≤ (figL w).length
  · by_cases h2 : (figL w).length ≤ 4
    · rw [decide_eq_true (show (0 : Int) < ((figL w).length : Int) by omega), decide_eq_true (show ((figL w).length : Int) < (5 : Int) by omega)]
      simp only [Bool.and_self, Bool.not_true, Bool.false_eq_true, if_false, OT.bd]
      cases h3 : (figL w).all isDig with
      | true =>
        have hk : figOk 4 w = true := by unfold figOk; rw [decide_eq_true h1, decide_eq_true h2, h3]; rfl
        rw [if_pos hk]
        simp only [Bool.not_true, Bool.false_eq_true, if_false]
        rw [int_ok hk (by decide)]
        simp only [R.ok_bind]
        rw [pushL_ok (by omega)]
      | false =>
        have hk : figOk 4 w = false := by unfold figOk; rw [h3]; simp
        rw [hk]
        simp only [Bool.not_false, if_true, Bool.false_eq_true, if_false]
        rfl
    · have hk : figOk 4 w = false := by unfold figOk; rw [decide_eq_false h2]; simp
      rw [hk, decide_eq_false (show ¬ ((figL w).length : Int) < (5 : Int) by omega)]
      simp only [Bool.and_false, Bool.not_false, if_true, Bool.false_eq_true, if_false, OT.bd]
      rfl
  · have hk : figOk 4 w = false := by unfold figOk; rw [decide_eq_false h1]; simp
    rw [hk, decide_eq_false (show ¬ (0 : Int) < ((figL w).length : Int) by omega)]
    simp only [Bool.false_and, Bool.not_false, if_true, Bool.false_eq_true, if_false, OT.bd]
    rfl
theorem fig34 {w : Str} (h : figOk 3 w = true) : figOk 4 w = true := by
  unfold figOk at h ⊢
  simp only [Bool.and_eq_true, decide_eq_true_eq] at h ⊢
  exact ⟨⟨h.1.1, by omega⟩, h.2⟩
theorem spl_facts {s : Nat} : ∀ (l acc : List Nat), (TL.spl [s] 0 acc l).length ≤ l.length + 1 ∧ ∀ p ∈ TL.spl [s] 0 acc l, p.length ≤ acc.length + l.length ∧ ∀ c ∈ p, c ∈ acc ∨ c ∈ l
  | [], acc => by
    rw [TL.spl_nil]
    refine ⟨Nat.le_refl _, fun p hp => ?_⟩
    rw [List.mem_singleton.mp hp]
    exact ⟨Nat.le_refl _, fun c hc => .inl hc⟩
  | x :: l, acc => by
    by_cases h : x = s
    · subst h
      rw [TL.spl_hit (show TL.pre [x] (x :: l) = true from TL.pre_self [x] l)]
      obtain ⟨i1, i2⟩ := spl_facts (s := x) l []
      refine ⟨by simp only [List.length_cons]; exact Nat.succ_le_succ i1, fun p hp => ?_⟩
      rcases List.mem_cons.mp hp with z | z
      · rw [z]; exact ⟨by omega, fun c hc => .inl hc⟩
      · obtain ⟨j1, j2⟩ := i2 p z
        simp only [List.length_nil, List.length_cons] at j1 ⊢
        exact ⟨by omega, fun c hc => .inr (List.mem_cons_of_mem _ ((j2 c hc).resolve_left (by simp)))⟩
    · rw [TL.spl_miss (TL.pre_of_head [] l h)]
      obtain ⟨i1, i2⟩ := spl_facts (s := s) l (acc ++ [x])
      refine ⟨by simp only [List.length_cons]; omega, fun p hp => ?_⟩
      obtain ⟨j1, j2⟩ := i2 p hp
      simp only [List.length_append, List.length_cons, List.length_nil] at j1 ⊢
      refine ⟨by omega, fun c hc => ?_⟩
      rcases j2 c hc with z | z
      · rcases List.mem_append.mp z with y | y
        · exact .inl y
        · rw [List.mem_singleton.mp y]; exact .inr List.mem_cons_self
      · exact .inr (List.mem_cons_of_mem _ z)
structure TOk (n : Nat) (t : Str) : Prop where
  len : (tl t).length ≤ n
  lt : ∀ c ∈ tl t, c < 0x110000
theorem TOk.sok {n : Nat} {t : Str} (h : TOk n t) (hn : n ≤ 16777216) : sOk t = true := sOk_of h.lt (Nat.le_trans h.len hn)
theorem split_ok {n : Nat} {t y : Str} {s : Nat} (h : TOk n t) (hn : n ≤ 10000000) (ey : tl y = [s]) (hk : y.cps.all (· < 256) = true) :
    splitG t y = .ok (Txt.split t y) ∧ (Txt.split t y).length ≤ n + 1 ∧ ∀ p ∈ Txt.split t y, TOk n p := by
  have e := TL.split_spl t y (by rw [ey]; simp) (TL.kind_ok hk)
  rw [ey] at e
  obtain ⟨f1, f2⟩ := spl_facts (s := s) (tl t) []
  rw [← e] at f1 f2
  rw [List.length_map] at f1
  have hl := h.len
  have pcs : ∀ p ∈ Txt.split t y, TOk n p := fun p hp => by
    obtain ⟨g1, g2⟩ := f2 (tl p) (List.mem_map_of_mem hp)
    simp only [List.length_nil] at g1
    exact ⟨by omega, fun c hc => h.lt c ((g2 c hc).resolve_left (by simp))⟩
  refine ⟨if_pos ⟨?_, ?_, ?_, ?_⟩, by omega, pcs⟩
  · have : y.length = 1 := by rw [len_tl, ey]; rfl
    rw [this]; rfl
  · rw [len_tl, sizeLine_eq]; omega
  · rw [sizeLine_eq]; omega
  · rw [List.all_eq_true]; exact fun p hp => (pcs p hp).sok (by omega)
theorem nl_split {n : Nat} {t : Str} (h : TOk n t) (hn : n ≤ 10000000) : splitG t "\n" = .ok (Txt.split t "\n") ∧ (Txt.split t "\n").length ≤ n + 1 ∧ ∀ p ∈ Txt.split t "\n", TOk n p := split_ok h hn tl_nl (by decide +kernel)
theorem sp_split {n : Nat} {t : Str} (h : TOk n t) (hn : n ≤ 10000000) : splitG t " " = .ok (Txt.split t " ") ∧ (Txt.split t " ").length ≤ n + 1 ∧ ∀ p ∈ Txt.split t " ", TOk n p := split_ok h hn tl_sp (by decide +kernel)
end
end Ty

namespace Ty
open PySem Dx Dn Fo
open Enc (enc)
open TL (tl tl_append ext_tl len_tl joinL tl_join join_eq)
noncomputable section
def allP {α β : Type} (f : α → Option β) : List α → Option (List β)
  | [] => some []
  | x :: xs => match f x with
    | some y => (match allP f xs with
      | some ys => some (y :: ys)
      | none => none)
    | none => none
theorem allP_cons {α β : Type} (f : α → Option β) (x : α) (xs : List α) : allP f (x :: xs) = match f x with
    | some y => (match allP f xs with
      | some ys => some (y :: ys)
      | none => none)
    | none => none := rfl
theorem allP_mono {α β : Type} {f g : α → Option β} (h : ∀ x y, f x = some y → g x = some y) : ∀ {xs : List α} {ys : List β}, allP f xs = some ys → allP g xs = some ys
  | [], _, e => e
  | x :: xs, ys, e => by
    unfold allP at e ⊢
    cases hx : f x with
    | none => rw [hx] at e; cases e
    | some y =>
      rw [hx] at e
      rw [h x y hx]
      simp only at e ⊢
      cases hxs : allP f xs with
      | none => rw [hxs] at e; cases e
      | some zs =>
        rw [hxs] at e
        rw [allP_mono h hxs]
        exact e
theorem allP_len {α β : Type} {f : α → Option β} : ∀ {xs : List α} {ys : List β}, allP f xs = some ys → ys.length = xs.length
  | [], _, e => by cases e; rfl
  | x :: xs, ys, e => by
    unfold allP at e
    cases hx : f x with
    | none => rw [hx] at e; cases e
    | some y =>
      rw [hx] at e
      simp only at e
      cases hxs : allP f xs with
      | none => rw [hxs] at e; cases e
      | some zs =>
        rw [hxs] at e; cases e
        simp only [List.length_cons, allP_len hxs]
theorem compEx_opt {α β : Type} (f : α → Option β) (g : β → D) (en : α → D) (c : Str) {n : Nat} {env : En} {F : En → R D} : ∀ xs : List α, (∀ x ∈ xs, F (env.set n (.d (en x))) = match f x with | some b => .ok (g b) | none => .exc c) →
    compEx (nameT n) F env (xs.map en) = match allP f xs with | some bs => .ok (bs.map g) | none => .exc c
  | [], _ => rfl
  | x :: xs, h => by
    rw [List.map_cons, compEx_cons]
    show (F (env.set n (.d (en x))) >>= fun y => compEx (nameT n) F env (xs.map en) >>= fun ys => R.ok (y :: ys)) = _
    rw [h x List.mem_cons_self, compEx_opt f g en c xs fun y hy => h y (List.mem_cons_of_mem _ hy)]
    rw [allP_cons]
    cases f x with
    | none => rfl
    | some y =>
      simp only [R.ok_bind]
      cases allP f xs with
      | none => rfl
      | some ys => rfl
def numP (k : Nat) (w : Str) : Option Int := if figOk k w = true then some (numW w) else none
def boxP (k : Nat) : List Str → Option Box
  | [a, b, c, d, e, f, g] => match allP (numP k) [c, d, e, f] with
    | some [l, t, w, h] => some ⟨a, t_text_in b, l, t, w, h, t_text_in g⟩
    | _ => none
  | _ => none
theorem boxP_7 (k : Nat) (a b c d e f g : Str) : boxP k [a, b, c, d, e, f, g] = match allP (numP k) [c, d, e, f] with
    | some [l, t, w, h] => some ⟨a, t_text_in b, l, t, w, h, t_text_in g⟩
    | _ => none := rfl
def lineP (k : Nat) (line : Str) : Option Box := boxP k (Txt.split line " ")
def parseP (k : Nat) (t : Str) : Option (List Box) := allP (lineP k) (Txt.split t "\n").dropLast
theorem num34 : ∀ (w : Str) (i : Int), numP 3 w = some i → numP 4 w = some i := fun w i h => by
  unfold numP at h ⊢
  split at h
  · rename_i z; rw [if_pos (fig34 z)]; exact h
  · cases h
theorem box34 {ws : List Str} {b : Box} (h : boxP 3 ws = some b) : boxP 4 ws = some b := by
  unfold boxP at h ⊢
  split at h
  · rename_i a b c d e f g
    split at h
    · rename_i l t w hh e1
      rw [allP_mono num34 e1]
      exact h
    · cases h
  · cases h
theorem parse34 {t : Str} {S : List Box} (h : parseP 3 t = some S) : parseP 4 t = some S := allP_mono (fun _ _ z => box34 z) h
theorem den_num (w : Str) : den_number_in [enc w] = match numP 3 w with | some i => .ok (enc i) | none => .exc "NoText" := by
  have k := k_number_in w
  rw [number_eq] at k
  unfold numP
  split at k
  · rename_i z; rw [if_pos z]; exact k
  · rename_i z; rw [if_neg z]; exact k
theorem four_map {k : Nat} {c d e f : Str} : allP (numP k) [c, d, e, f] = none ∨ ∃ l t w h, allP (numP k) [c, d, e, f] = some [l, t, w, h] := by
  cases hh : allP (numP k) [c, d, e, f] with
  | none => exact .inl rfl
  | some ys =>
    have := allP_len hh
    match ys, this with
    | [l, t, w, h], _ => exact .inr ⟨l, t, w, h, rfl⟩
theorem box_eq {n : Nat} {line : Str} (h : TOk n line) (hn : n ≤ 10000000) : den_box_in_k51 [.str line] = match lineP 3 line with | some b => .ok (enc b) | none => .exc "NoText" := by
  have hs := ro_split line " "
  rw [(sp_split h hn).1] at hs
  have hr : strR (enc line) = .ok (enc line) := rfl
  unfold lineP
  generalize Txt.split line " " = ws at hs
  have hs : splitR (enc line) (.str " ") = .ok (ws.map enc) := hs
  show runB 2 g_box_in_k51 [enc line] = _
  have h1 : eSplit (getD' 0) (eC (.str " ")) [.d (enc line), .u, .u] = .ok (ws.map enc) := by
    unfold eSplit
    simp [hr, hs]
  unfold runB g_box_in_k51
  by_cases hl : ws.length = 7
  · match ws, hl with
    | [a, b, c, d, e, f, g], _ =>
      have l7 : lenR [.lst [enc a, enc b, enc c, enc d, enc e, enc f, enc g]] = .ok (.int 7) := rfl
      have n7 : neR (.int 7) (.int 7) = .ok (.bl false) := rfl
      have x0 : ixR (.lst [enc a, enc b, enc c, enc d, enc e, enc f, enc g]) (.int 0) = .ok (enc a) := rfl
      have x1 : ixR (.lst [enc a, enc b, enc c, enc d, enc e, enc f, enc g]) (.int 1) = .ok (enc b) := rfl
      have x6 : ixR (.lst [enc a, enc b, enc c, enc d, enc e, enc f, enc g]) (.int 6) = .ok (enc g) := rfl
      have sl : sliceR (.lst [enc a, enc b, enc c, enc d, enc e, enc f, enc g]) (some 2) (some 6) = .ok (.lst [enc c, enc d, enc e, enc f]) := rfl
      have tb := k_text_in b
      have tg := k_text_in g
      have hc : compEx (nameT 2) (eUn den_number_in (aCons (getD' 2) aNil)) [.d (enc line), .d (.lst [enc a, enc b, enc c, enc d, enc e, enc f, enc g]), .u] [enc c, enc d, enc e, enc f] = match allP (numP 3) [c, d, e, f] with | some bs => .ok (bs.map enc) | none => .exc "NoText" :=
        (compEx_opt (n := 2) (env := [.d (enc line), .d (.lst [enc a, enc b, enc c, enc d, enc e, enc f, enc g]), .u]) (F := eUn den_number_in (aCons (getD' 2) aNil)) (numP 3) (enc : Int → D) (enc : Str → D) "NoText" [c, d, e, f] fun w _ => by
          show den_number_in [enc w] = _
          rw [den_num]
          cases numP 3 w <;> rfl).trans (by cases allP (numP 3) [c, d, e, f] <;> rfl)
      have is : itemsR (.lst [enc c, enc d, enc e, enc f]) = .ok [enc c, enc d, enc e, enc f] := rfl
      have t2 : ∀ x y : D, tupR [x, y] = .ok (.tup [x, y]) := fun _ _ => rfl
      have t3 : ∀ x : D, tupR [x] = .ok (.tup [x]) := fun _ => rfl
      have a1 : ∀ x y z u v v' : D, addR (.tup [x, y]) (.tup [z, u, v, v']) = .ok (.tup [x, y, z, u, v, v']) := fun _ _ _ _ _ _ => rfl
      have a2 : ∀ x y z u v v' o : D, addR (.tup [x, y, z, u, v, v']) (.tup [o]) = .ok (.tup [x, y, z, u, v, v', o]) := fun _ _ _ _ _ _ _ => rfl
      have o2 : optR (.int 2) = .ok (some 2) := rfl
      have o6 : optR (.int 6) = .ok (some 6) := rfl
      rcases four_map (k := 3) (c := c) (d := d) (e := e) (f := f) with hn4 | ⟨l, t, w, hh, hn4⟩
      · have eb : boxP 3 [a, b, c, d, e, f, g] = none := by rw [boxP_7, hn4]
        rw [eb]
        rw [hn4] at hc
        simp [h1, l7, n7, x0, x1, x6, sl, tb, tg, hc, is, t2, t3, a1, a2, o2, o6, List.map, wipeE, eCompX]
      · have eb : boxP 3 [a, b, c, d, e, f, g] = some ⟨a, t_text_in b, l, t, w, hh, t_text_in g⟩ := by rw [boxP_7, hn4]
        rw [eb]
        rw [hn4] at hc
        have t1 : tupleR [.lst [enc l, enc t, enc w, enc hh]] = .ok (.tup [enc l, enc t, enc w, enc hh]) := rfl
        have l4 : lstR [enc l, enc t, enc w, enc hh] = .ok [enc l, enc t, enc w, enc hh] := rfl
        simp [h1, l7, n7, x0, x1, x6, sl, tb, tg, hc, is, t1, t2, t3, l4, a1, a2, o2, o6, List.map, wipeE, eCompX]
        rfl
  · have hb : boxP 3 ws = none := by
      unfold boxP
      split
      · exact absurd rfl hl
      · rfl
    rw [hb]
    have ln : lenR [.lst (ws.map enc)] = .ok (.int ws.length) := by simp [lenR]
    have n7 : neR (.int ws.length) (.int 7) = .ok (.bl true) := by
      simp [ne_int]
      omega
    simp [h1, ln, n7]
end
end Ty

namespace Ty
open PySem Dx Dn Fo
open Enc (enc)
open TL (tl tl_append ext_tl len_tl joinL tl_join join_eq)
noncomputable section
def scT (S : List Box) : D := enc (⟨S⟩ : Tu Box)
theorem scT_eq (S : List Box) : scT S = .tup (S.map enc) := rfl
theorem letters_tl : letters.cps.toList = (List.range 26).map (· + 97) := by decide +kernel
theorem marks_tl : marksC.cps.toList = [99, 102, 104, 108] := by decide +kernel
theorem or_bar_ne {s : Str} (h : s ≠ "") : t_or_bar s = s := by
  unfold t_or_bar; rw [decide_eq_false h]; rfl
theorem text_in_ne {s : Str} (h : s ≠ "-") : t_text_in s = s := by
  unfold t_text_in; rw [decide_eq_false h]; rfl
theorem wOk_of {s : Str} (h1 : 32 ∉ tl s) (h2 : 10 ∉ tl s) (h3 : (tl s).length ≤ 10) (h4 : ∀ c ∈ tl s, c < 0x110000) : wOk s = true := by
  unfold wOk
  rw [show decide (32 ∈ s.cps.toList) = false from decide_eq_false h1, show decide (10 ∈ s.cps.toList) = false from decide_eq_false h2, decide_eq_true (show s.length ≤ 10 by rw [len_tl]; exact h3), sOk_of h4 (by omega)]
  rfl
theorem name_facts {s : Str} (h : nameB (.str s) = true) : 1 ≤ (tl s).length ∧ (tl s).length ≤ 3 ∧ ∀ c ∈ tl s, 97 ≤ c ∧ c ≤ 122 := by
  unfold nameB at h
  simp only [Bool.and_eq_true, decide_eq_true_eq] at h
  obtain ⟨⟨h1, h2⟩, h3⟩ := h
  rw [len_tl] at h1 h2
  refine ⟨h1, h2, fun c hc => ?_⟩
  unfold charsIn at h3
  have := of_decide_eq_true (List.all_eq_true.mp h3 c hc)
  rw [letters_tl] at this
  obtain ⟨k, hk, e⟩ := List.mem_map.mp this
  have := List.mem_range.mp hk
  omega
structure NameW (s : Str) : Prop where
  w : wOk s = true
  n0 : s ≠ ""
  nb : s ≠ "-"
theorem name_w {s : Str} (h : nameB (.str s) = true) : NameW s := by
  obtain ⟨h1, h2, h3⟩ := name_facts h
  refine ⟨wOk_of (fun z => by have := h3 _ z; omega) (fun z => by have := h3 _ z; omega) (by omega) (fun c hc => by have := h3 c hc; omega), fun z => ?_, fun z => ?_⟩
  · rw [z, tl_no] at h1; simp at h1
  · have := h3 45 (by rw [z, tl_bar]; simp)
    omega
theorem ris_len : ∀ (l : List Nat) (a : Nat), risL (a :: l) = true → (∀ c ∈ a :: l, c ≤ 108) → (a :: l).length + a ≤ 109
  | [], a, _, h => by have := h a List.mem_cons_self; simp; omega
  | b :: l, a, hr, h => by
    have hr : (decide (a < b) && risL (b :: l)) = true := hr
    rw [Bool.and_eq_true] at hr
    have h1 := of_decide_eq_true hr.1
    have h2 := ris_len l b hr.2 fun c hc => h c (List.mem_cons_of_mem _ hc)
    rw [List.length_cons]; omega
theorem marks_facts {s : Str} (h : marksB (.str s) = true) : (tl s).length ≤ 10 ∧ ∀ c ∈ tl s, 99 ≤ c ∧ c ≤ 108 := by
  unfold marksB at h
  rw [Bool.and_eq_true] at h
  obtain ⟨h1, h2⟩ := h
  have hc : ∀ c ∈ tl s, 99 ≤ c ∧ c ≤ 108 := fun c hc => by
    unfold charsIn at h1
    have := of_decide_eq_true (List.all_eq_true.mp h1 c hc)
    rw [marks_tl] at this
    simp at this
    omega
  refine ⟨?_, hc⟩
  have h2 : risL (tl s) = true := h2
  revert h2 hc
  cases tl s with
  | nil => intro _ _; exact Nat.zero_le _
  | cons a l =>
    intro hc h2
    have := ris_len l a h2 fun c z => (hc c z).2
    have := (hc a List.mem_cons_self).1
    omega
theorem marks_w {s : Str} (h : marksB (.str s) = true) : wOk (t_or_bar s) = true ∧ t_text_in (t_or_bar s) = s := by
  obtain ⟨h1, h2⟩ := marks_facts h
  by_cases e : s = ""
  · subst e; exact none_w
  · rw [or_bar_ne e]
    refine ⟨wOk_of (fun z => by have := h2 _ z; omega) (fun z => by have := h2 _ z; omega) h1 (fun c hc => by have := h2 c hc; omega), text_in_ne fun z => ?_⟩
    have := h2 45 (by rw [z, tl_bar]; simp)
    omega
theorem ar_facts : ∀ (S : List Box) (ns : List Str), arB ns (S.map enc) = true → ∀ b ∈ S, b.ar = "" ∨ b.ar ∈ ns ++ names S
  | [], _, _, b, hb => by cases hb
  | x :: S, ns, h, b, hb => by
    have h : ((decide (x.ar = "") || decide (x.ar ∈ ns)) && arB (ns ++ [x.nm]) (S.map enc)) = true := h
    rw [Bool.and_eq_true, Bool.or_eq_true, decide_eq_true_eq, decide_eq_true_eq] at h
    rcases List.mem_cons.mp hb with e | hb
    · subst e
      rcases h.1 with z | z
      · exact .inl z
      · exact .inr (List.mem_append_left _ z)
    · rcases ar_facts S _ h.2 b hb with z | z
      · exact .inl z
      · refine .inr ?_
        rw [List.append_assoc] at z
        exact z
theorem box_facts {b : Box} (h : boxB (enc b) = true) : nameB (.str b.nm) = true ∧ marksB (.str b.ms) = true ∧ (-20 ≤ b.l ∧ b.l ≤ 20) ∧ (-20 ≤ b.t ∧ b.t ≤ 20) ∧ (-20 ≤ b.w ∧ b.w ≤ 20) ∧ (-20 ≤ b.h ∧ b.h ≤ 20) := by
  have h : (nameB (.str b.nm) && (marksB (.str b.ms) && (strB (.str b.ar) && ((withinB (.int b.l) (-20) 20 && withinB (.int b.t) (-20) 20) && (withinB (.int b.w) 0 20 && withinB (.int b.h) 0 20))))) = true := h
  unfold withinB at h
  simp only [Bool.and_eq_true, decide_eq_true_eq] at h
  obtain ⟨h1, h2, _, ⟨h3, h4⟩, h5, h6⟩ := h
  exact ⟨h1, h2, h3, h4, ⟨by omega, h5.2⟩, by omega, h6.2⟩
theorem sc_bx {S : List Box} (h : scB (scT S) = true) : (∀ b ∈ S, Bx b) ∧ S.length ≤ 12 := by
  have h : (decide ((S.map (enc : Box → D)).length ≤ 12) && lawB [] (S.map enc)) = true := h
  rw [lawB_eq] at h
  simp only [Bool.and_eq_true, decide_eq_true_eq, List.length_map] at h
  obtain ⟨h1, h2, _, h4⟩ := h
  have hb : ∀ b ∈ S, boxB (enc b) = true := fun b hb => List.all_eq_true.mp h2 _ (List.mem_map_of_mem hb)
  refine ⟨fun b hbS => ?_, h1⟩
  obtain ⟨f1, f2, f3, f4, f5, f6⟩ := box_facts (hb b hbS)
  have nw := name_w f1
  have mw := marks_w f2
  have aw : wOk (t_or_bar b.ar) = true ∧ t_text_in (t_or_bar b.ar) = b.ar := by
    rcases ar_facts S [] h4 b hbS with z | z
    · rw [z]; exact none_w
    · obtain ⟨c, hc, e⟩ := mem_names.mp (show b.ar ∈ names S from z)
      have := name_w (box_facts (hb c hc)).1
      rw [e] at this
      rw [or_bar_ne this.n0]
      exact ⟨this.w, text_in_ne this.nb⟩
  refine ⟨fun x hx => ?_, nw.n0, aw.2, mw.2, f3, f4, f5, f6⟩
  unfold wordsB at hx
  simp only [List.mem_cons, List.not_mem_nil, or_false] at hx
  rcases hx with rfl | rfl | rfl | rfl | rfl | rfl | rfl
  · exact nw.w
  · exact aw.1
  · exact (num_ok f3).1
  · exact (num_ok f4).1
  · exact (num_ok f5).1
  · exact (num_ok f6).1
  · exact mw.1
theorem m_scene (S : List Box) : den_is_scene [scT S] = .ok (.bl (scB (scT S))) := by
  refine m_isScene ⟨rfl, fun xs e x hx => ?_⟩
  have e : D.tup (S.map enc) = D.tup xs := e
  injection e with e
  subst e
  obtain ⟨b, _, rfl⟩ := List.mem_map.mp hx
  refine ⟨rfl, fun ys e y hy => ?_⟩
  have e : D.tup [.str b.nm, .str b.ar, .int b.l, .int b.t, .int b.w, .int b.h, .str b.ms] = D.tup ys := e
  injection e with e
  subst e
  simp only [List.mem_cons, List.not_mem_nil, or_false] at hy
  rcases hy with rfl | rfl | rfl | rfl | rfl | rfl | rfl <;> rfl
theorem m_written {S : List Box} (o : ∀ b ∈ S, Bx b) (hl : S.length ≤ 12) : den_written [scT S] = .ok (.str (txtB S)) := rr_ok (k_written ⟨S⟩) (written_ok o (by omega))
theorem num_back {i : Int} (h : -20 ≤ i ∧ i ≤ 20) : numP 3 (strOfI i) = some i := by
  have all : ((List.range 41).all fun k => figOk 3 (strOfI ((k : Int) - 20)) && decide (numW (strOfI ((k : Int) - 20)) = (k : Int) - 20)) = true := by decide +kernel
  have := List.all_eq_true.mp all (i + 20).toNat (List.mem_range.mpr (by omega))
  have e : (((i + 20).toNat : Nat) : Int) - 20 = i := by omega
  rw [e, Bool.and_eq_true, decide_eq_true_eq] at this
  unfold numP
  rw [if_pos this.1, this.2]
theorem split_of {a b : Str} {ps : List Str} (h : splitG a b = .ok ps) : Txt.split a b = ps := by
  unfold splitG at h
  split at h
  · injection h
  · cases h
theorem line_back {b : Box} (o : Bx b) : lineP 3 (lineB b) = some b := by
  unfold lineP
  rw [split_of (line_split o)]
  show boxP 3 [b.nm, t_or_bar b.ar, strOfI b.l, strOfI b.t, strOfI b.w, strOfI b.h, t_or_bar b.ms] = _
  rw [boxP_7]
  have e : allP (numP 3) [strOfI b.l, strOfI b.t, strOfI b.w, strOfI b.h] = some [b.l, b.t, b.w, b.h] := by
    unfold allP allP allP allP allP
    rw [num_back o.l, num_back o.t, num_back o.wd, num_back o.h]
  rw [e, o.ar, o.ms]
theorem parse_back {S : List Box} (o : ∀ b ∈ S, Bx b) (hl : S.length ≤ 12) : parseP 3 (txtB S) = some S := by
  unfold parseP
  rw [split_of (lines_split o (by omega)), List.dropLast_concat]
  have : ∀ L : List Box, (∀ b ∈ L, Bx b) → allP (lineP 3) (L.map lineB) = some L := fun L => by
    induction L with
    | nil => intro _; rfl
    | cons b L ih =>
      intro h
      rw [List.map_cons, allP_cons, line_back (h b List.mem_cons_self), ih fun x hx => h x (List.mem_cons_of_mem _ hx)]
  exact this S o
def tellP (k : Nat) (t : Str) : D := match parseP k t with
  | some S => if scB (scT S) = true ∧ txtB S = t then scT S else .non
  | none => .non
theorem tell_eq (t : Str) : tellP 3 t = tellP 4 t := by
  unfold tellP
  cases h3 : parseP 3 t with
  | some S => rw [parse34 h3]
  | none =>
    cases h4 : parseP 4 t with
    | none => rfl
    | some S =>
      simp only
      rw [if_neg]
      rintro ⟨h1, h2⟩
      obtain ⟨o, hl⟩ := sc_bx h1
      have := parse_back o hl
      rw [h2, h3] at this
      cases this
end
end Ty

namespace Ty
open PySem Dx Dn Fo
open Enc (enc)
open TL (tl tl_append ext_tl len_tl joinL tl_join join_eq)
noncomputable section
theorem cut_but51 {α : Type} (xs : List α) : cutL xs none (some (-(1 : Int))) = xs.dropLast := by
  rcases List.eq_nil_or_concat xs with rfl | ⟨ys, y, rfl⟩
  · rfl
  · rw [List.concat_eq_append, cutL_but]; simp
def readP (t : Str) : R D := match parseP 3 t with
  | some S => if scB (scT S) = true ∧ txtB S = t then .ok (scT S) else .exc "NoText"
  | none => .exc "NoText"
theorem read_eq {n : Nat} {t : Str} (h : TOk n t) (hn : n ≤ 10000000) : den_read_k51 [.str t] = readP t := by
  have hs := ro_split t "\n"
  obtain ⟨e1, _, hp⟩ := nl_split h hn
  rw [e1] at hs
  have hr : strR (enc t) = .ok (enc t) := rfl
  unfold readP parseP
  generalize Txt.split t "\n" = ps at hs hp
  have hs : splitR (enc t) (.str "\n") = .ok (ps.map enc) := hs
  show runB 2 g_read_k51 [enc t] = _
  have h1 : eSplit (getD' 0) (eC (.str "\n")) [.d (enc t), .u, .u] = .ok (ps.map enc) := by
    unfold eSplit
    simp [hr, hs]
  have sl : sliceR (.lst (ps.map enc)) none (some (-1)) = .ok (.lst (ps.dropLast.map enc)) := by
    show R.ok (D.lst (cutL (ps.map enc) none (some (-(1 : Int))))) = _
    rw [cut_but51, List.map_dropLast]
  have o1 : optR (.int (-1)) = .ok (some (-1)) := rfl
  have ng : negR (.int 1) = .ok (.int (-1)) := rfl
  have is : ∀ xs : List D, itemsR (.lst xs) = .ok xs := fun _ => rfl
  have hc : compEx (nameT 2) (eUn den_box_in_k51 (aCons (getD' 2) aNil)) [.d (enc t), .u, .u] (ps.dropLast.map enc) = match allP (lineP 3) ps.dropLast with | some bs => .ok (bs.map enc) | none => .exc "NoText" :=
    (compEx_opt (n := 2) (env := [.d (enc t), .u, .u]) (F := eUn den_box_in_k51 (aCons (getD' 2) aNil)) (lineP 3) (enc : Box → D) (enc : Str → D) "NoText" ps.dropLast fun x hx => by
      show den_box_in_k51 [.str x] = _
      rw [box_eq (hp x (List.dropLast_subset _ hx)) hn]
      cases lineP 3 x <;> rfl).trans (by cases allP (lineP 3) ps.dropLast <;> rfl)
  have tt : ∀ xs : List D, tupleR [.lst xs] = .ok (.tup xs) := fun _ => rfl
  clear hp
  generalize ps.dropLast = L at sl hc ⊢
  unfold runB g_read_k51
  cases hS : allP (lineP 3) L with
  | none =>
    rw [hS] at hc
    simp [h1, sl, o1, ng, is, hc, wipeE, eCompX]
  | some S =>
    rw [hS] at hc
    have hc : compEx (nameT 2) (eUn den_box_in_k51 (aCons (getD' 2) aNil)) [.d (enc t), .u, .u] (L.map enc) = .ok (S.map enc) := hc
    show _ = (if scB (scT S) = true ∧ txtB S = t then R.ok (scT S) else R.exc "NoText")
    have sc := m_scene S
    rw [scT_eq] at sc
    cases hb : scB (scT S) with
    | false =>
      rw [if_neg fun z => by cases z.1]
      rw [scT_eq] at hb
      rw [hb] at sc
      simp [h1, sl, o1, ng, is, hc, wipeE, eCompX, tt, sc]
      try rfl
    | true =>
      obtain ⟨o, hl⟩ := sc_bx hb
      have wr := m_written o hl
      rw [scT_eq] at wr hb
      rw [hb] at sc
      have ne : neR (.str (txtB S)) (enc t) = .ok (.bl (!decide (txtB S = t))) := op_ne (α := Str) (by decide) (txtB S) t
      by_cases z : txtB S = t
      · rw [if_pos ⟨rfl, z⟩]
        rw [decide_eq_true z] at ne
        simp [h1, sl, o1, ng, is, hc, wipeE, eCompX, tt, sc, wr, ne]
        try rfl
      · rw [if_neg fun y => z y.2]
        rw [decide_eq_false z] at ne
        simp [h1, sl, o1, ng, is, hc, wipeE, eCompX, tt, sc, wr, ne]
        try rfl
theorem told_eq {n : Nat} {t : Str} (h : TOk n t) (hn : n ≤ 10000000) : g_told51 t = .ok (tellP 3 t) := by
  have hr := read_eq h hn
  unfold g_told51 tellP
  unfold readP at hr
  cases hp : parseP 3 t with
  | none =>
    rw [hp] at hr
    have hr : den_read_k51 [.str t] = .exc "NoText" := hr
    unfold den__law_told_k51 toD denE__law_told_k51 defE runE g__law_told_k51 xsSeq xsTrySu
    simp [hr, xsRet, lf]
    rfl
  | some S =>
    rw [hp] at hr
    simp only at hr ⊢
    by_cases z : scB (scT S) = true ∧ txtB S = t
    · rw [if_pos z] at hr ⊢
      unfold den__law_told_k51 toD denE__law_told_k51 defE runE g__law_told_k51 xsSeq xsTrySu
      simp [hr, xsRet, lf]
      rfl
    · rw [if_neg z] at hr ⊢
      unfold den__law_told_k51 toD denE__law_told_k51 defE runE g__law_told_k51 xsSeq xsTrySu
      simp [hr, xsRet, lf]
      rfl
end
end Ty

namespace Ty
open PySem Dx Dn Fo
open Enc (enc)
open TL (tl tl_append ext_tl len_tl joinL tl_join join_eq)
noncomputable section
theorem nums51 : ∀ (ws : List Str) (ns : List Int), ns.length + ws.length < 100 → forT (fun (numbers : (List Int)) (word : Str) => t_law_due_k51_b2 numbers word) ws ns = match allP (numP 4) ws with | some is => .nx (ns ++ is) | none => .rt .non
  | [], ns, _ => by show OT.nx ns = OT.nx (ns ++ []); rw [List.append_nil]
  | w :: ws, ns, h => by
    rw [List.length_cons] at h
    unfold forT
    rw [due_b2 ns w (by omega), allP_cons, show numP 4 w = if figOk 4 w = true then some (numW w) else none from rfl]
    by_cases z : figOk 4 w = true
    · rw [if_pos z, if_pos z]
      simp only
      rw [nums51 ws (ns ++ [numW w]) (by rw [List.length_append, List.length_singleton]; omega)]
      cases allP (numP 4) ws with
      | none => rfl
      | some is => simp
    · rw [if_neg z, if_neg z]
theorem ends51 (a b c d e f g : Str) : compR (fun (at1 : Int) => R.ok true) (fun (at1 : Int) => (((ixL [a, b, c, d, e, f, g] at1) >>= fun v5 => (.ok [("" : Str), v5])) >>= fun v8 => ((((ixL [a, b, c, d, e, f, g] at1) >>= fun v6 => (.ok (!decide (v6 = ("-" : Str))))) >>= fun v7 => (.ok (b2i v7))) >>= fun v9 => (ixL v8 v9)))) ((Co.f ((1 : Int), (6 : Int)) : (Tu Int))).l = .ok [t_text_in b, t_text_in g] := by
  have pick : ∀ w : Str, ixL [("" : Str), w] (b2i (!decide (w = ("-" : Str)))) = .ok (t_text_in w) := fun w => by
    unfold t_text_in
    by_cases z : w = "-"
    · rw [decide_eq_true z]; rfl
    · rw [decide_eq_false z]; rfl
  have e1 : ixL [a, b, c, d, e, f, g] (1 : Int) = .ok b := rfl
  have e6 : ixL [a, b, c, d, e, f, g] (6 : Int) = .ok g := rfl
  show compR _ _ [(1 : Int), 6] = _
  unfold compR compR compR
  simp only [e1, e6, R.ok_bind, pick]
theorem due_b1 {n : Nat} {line : Str} (h : TOk n line) (hn : n ≤ 10000000) (S : List Box) (hS : S.length ≤ 10000001) : t_law_due_k51_b1 (scT S) line = match lineP 4 line with | some b => .nx (scT (S ++ [b])) | none => .rt .non := by
  unfold t_law_due_k51_b1
  rw [(sp_split h hn).1]
  simp only [OT.bd]
  unfold lineP
  generalize Txt.split line " " = ws
  by_cases hl : ws.length = 7
  · match ws, hl with
    | [a, b, c, d, e, f, g], _ =>
      have e7 : decide ((([a, b, c, d, e, f, g] : List Str).length : Int) = (7 : Int)) = true := rfl
      rw [e7]
      simp only [Bool.not_true, Bool.false_eq_true, if_false, letT]
      have cl : cutL [a, b, c, d, e, f, g] (some (2 : Int)) (some (6 : Int)) = [c, d, e, f] := rfl
      rw [cl, nums51 [c, d, e, f] [] (by show 0 + 4 < 100; decide), boxP_7]
      rcases four_map (k := 4) (c := c) (d := d) (e := e) (f := f) with hn4 | ⟨l, t, w, hh, hn4⟩
      · rw [hn4]; rfl
      · rw [hn4]
        simp only [List.nil_append, OT.sq]
        rw [ends51]
        simp only [OT.bd]
        have x0 : ixL [a, b, c, d, e, f, g] (0 : Int) = .ok a := rfl
        have y0 : ixL [t_text_in b, t_text_in g] (0 : Int) = .ok (t_text_in b) := rfl
        have y1 : ixL [t_text_in b, t_text_in g] (1 : Int) = .ok (t_text_in g) := rfl
        rw [x0, y0, y1]
        simp only [R.ok_bind]
        have a1 : addR (Co.f (a, t_text_in b) : D) (Co.f (Tu.mk [l, t, w, hh]) : D) = .ok (.tup [.str a, .str (t_text_in b), .int l, .int t, .int w, .int hh]) := rfl
        rw [a1]
        simp only [R.ok_bind]
        have a2 : addR (.tup [.str a, .str (t_text_in b), .int l, .int t, .int w, .int hh]) (Co.f (T1.mk (t_text_in g)) : D) = .ok (enc (⟨a, t_text_in b, l, t, w, hh, t_text_in g⟩ : Box)) := rfl
        rw [a2]
        simp only [R.ok_bind]
        have a3 : addR (scT S) (Co.f (T1.mk (enc (⟨a, t_text_in b, l, t, w, hh, t_text_in g⟩ : Box))) : D) = .ok (scT (S ++ [⟨a, t_text_in b, l, t, w, hh, t_text_in g⟩])) := by
          rw [scT_eq, scT_eq]
          show (if (S.map (enc : Box → D)).length + 1 ≤ sizeLine then R.ok (D.tup (S.map enc ++ [enc (⟨a, t_text_in b, l, t, w, hh, t_text_in g⟩ : Box)])) else .bad) = _
          rw [if_pos (by rw [List.length_map, sizeLine_eq]; omega), List.map_append]; rfl
        rw [a3]
  · have hb : boxP 4 ws = none := by
      unfold boxP
      split
      · exact absurd rfl hl
      · rfl
    rw [hb, decide_eq_false (show ¬ ((ws.length : Int) = (7 : Int)) by omega)]
    rfl
theorem lines51 {n : Nat} (hn : n ≤ 10000000) : ∀ (ls : List Str) (S : List Box), (∀ l ∈ ls, TOk n l) → S.length + ls.length ≤ 10000001 → forT (fun (found : D) (line : Str) => t_law_due_k51_b1 found line) ls (scT S) = match allP (lineP 4) ls with | some bs => .nx (scT (S ++ bs)) | none => .rt .non
  | [], S, _, _ => by show OT.nx (scT S) = OT.nx (scT (S ++ [])); rw [List.append_nil]
  | l :: ls, S, h, hl => by
    rw [List.length_cons] at hl
    unfold forT
    rw [due_b1 (h l List.mem_cons_self) hn S (by omega), allP_cons]
    cases lineP 4 l with
    | none => rfl
    | some b =>
      simp only
      rw [lines51 hn ls (S ++ [b]) (fun x hx => h x (List.mem_cons_of_mem _ hx)) (by rw [List.length_append, List.length_singleton]; omega)]
      cases allP (lineP 4) ls with
      | none => rfl
      | some bs => simp
theorem due_eq51 {n : Nat} {t : Str} (h : TOk n t) (hn : n ≤ 10000000) : t_law_due_k51 t = .ok (tellP 4 t) := by
  obtain ⟨e1, e2, hp⟩ := nl_split h hn
  unfold t_law_due_k51 letT
  rw [e1]
  simp only [R.ok_bind, OT.bd]
  rw [cut_but51]
  have e0 : (Co.f (Tu.mk ([] : (List Unit))) : D) = scT [] := rfl
  rw [e0, lines51 hn _ [] (fun l hl => hp l (List.dropLast_subset _ hl)) (by
    rw [List.length_dropLast, List.length_nil]; omega)]
  unfold tellP parseP
  cases hS : allP (lineP 4) (Txt.split t "\n").dropLast with
  | none => rfl
  | some S =>
    simp only [List.nil_append, OT.thn]
    have sc : isScD (scT S) = .ok (scB (scT S)) := by unfold isScD; rw [m_scene]
    rw [sc]
    simp only [R.ok_bind]
    by_cases hb : scB (scT S) = true
    · obtain ⟨o, hl⟩ := sc_bx hb
      have wr : wrD (scT S) = .ok (txtB S) := by unfold wrD; rw [m_written o hl]
      by_cases z : txtB S = t
      · have er : (if scB (scT S) = true ∧ txtB S = t then scT S else D.non) = scT S := if_pos ⟨hb, z⟩
        rw [er, hb, wr]
        simp only [Bool.not_true, Bool.false_eq_true, if_false, R.ok_bind]
        rw [decide_eq_true z]; rfl
      · have er : (if scB (scT S) = true ∧ txtB S = t then scT S else D.non) = .non := if_neg fun y => z y.2
        rw [er, hb, wr]
        simp only [Bool.not_true, Bool.false_eq_true, if_false, R.ok_bind]
        rw [decide_eq_false z]; rfl
    · have er : (if scB (scT S) = true ∧ txtB S = t then scT S else D.non) = .non := if_neg fun y => hb y.1
      have hf : scB (scT S) = false := by simpa using hb
      rw [er, hf]
      rfl
theorem eqDG_refl51 {d : D} (h1 : dle 64 d = true) (h2 : eqD d d = true) : eqDG d d = .ok true := by
  unfold eqDG; rw [h1, if_pos (by rfl), h2]
theorem tell_self (t : Str) : eqDG (tellP 4 t) (tellP 4 t) = .ok true := by
  have hs : ∀ S : List Box, eqDG (scT S) (scT S) = .ok true := fun S => eqDG_refl51 (dle_le (show EncE.dep (Tu Box) ≤ 64 by decide) (EncE.hdle (⟨S⟩ : Tu Box))) ((EncE.heq (⟨S⟩ : Tu Box) ⟨S⟩).mpr rfl)
  unfold tellP
  cases parseP 4 t with
  | none => rfl
  | some S =>
    simp only
    split
    · exact hs S
    · rfl
theorem law_b1 {n : Nat} {t : Str} (h : TOk n t) (hn : n ≤ 10000000) : t_law_k51_b1 t = .nx () := by
  unfold t_law_k51_b1
  rw [told_eq h hn, due_eq51 h hn, tell_eq]
  simp only [R.ok_bind]
  rw [tell_self]
  rfl
theorem all_b1 {n : Nat} (hn : n ≤ 10000000) : ∀ ts : List Str, (∀ t ∈ ts, TOk n t) → forT (fun (_ : Unit) (other : Str) => t_law_k51_b1 other) ts () = .nx ()
  | [], _ => rfl
  | t :: ts, h => by
    unfold forT
    rw [law_b1 (h t List.mem_cons_self) hn]
    exact all_b1 hn ts fun x hx => h x (List.mem_cons_of_mem _ hx)
end
end Ty

namespace Ty
open PySem Dx Dn Fo
open Enc (enc)
open TL (tl tl_append ext_tl len_tl joinL tl_join join_eq)
noncomputable section
theorem TOk.mono {n m : Nat} {t : Str} (h : TOk n t) (hm : n ≤ m) : TOk m t := ⟨Nat.le_trans h.len hm, h.lt⟩
theorem cutL_mem {α : Type} {xs : List α} {lo hi : Option Int} {x : α} (h : x ∈ cutL xs lo hi) : x ∈ xs := List.mem_of_mem_drop (List.mem_of_mem_take h)
theorem cutL_le {α : Type} (xs : List α) (lo hi : Option Int) : (cutL xs lo hi).length ≤ xs.length := by
  unfold cutL
  rw [List.length_take, List.length_drop]; omega
theorem TOk.cut {n : Nat} {t : Str} (h : TOk n t) (lo hi : Option Int) : TOk n (L2.cutS t lo hi) := by
  have e : tl (L2.cutS t lo hi) = ((tl t).drop (HT.sIx t.length 0 lo)).take (HT.sIx t.length t.length hi - HT.sIx t.length 0 lo) := rfl
  refine ⟨?_, fun c hc => ?_⟩
  · rw [e, List.length_take, List.length_drop]
    have := h.len; omega
  · rw [e] at hc
    exact h.lt c (List.mem_of_mem_drop (List.mem_of_mem_take hc))
def tokB (n : Nat) (t : Str) : Bool := decide ((tl t).length ≤ n) && (tl t).all fun c => decide (c < 0x110000)
theorem tok_of {n : Nat} {t : Str} (h : tokB n t = true) : TOk n t := by
  unfold tokB at h
  rw [Bool.and_eq_true, decide_eq_true_eq] at h
  exact ⟨h.1, fun c hc => of_decide_eq_true (List.all_eq_true.mp h.2 c hc)⟩
def WS (ws : List Str) : Prop := (∀ w ∈ ws, TOk 600 w) ∧ ws.length ≤ 600
theorem WS.cut {ws : List Str} (h : WS ws) (lo hi : Option Int) : WS (cutL ws lo hi) := ⟨fun w hw => h.1 w (cutL_mem hw), Nat.le_trans (cutL_le _ _ _) h.2⟩
theorem join51 {sep : Str} {s : Nat} (ey : tl sep = [s]) (hs : s < 0x110000) {ws : List Str} (h : ∀ w ∈ ws, TOk 600 w) (hl : ws.length ≤ 2000) : ∃ t, joinG sep ws = .ok t ∧ TOk 2000000 t := by
  have et : tl (Txt.join sep ws) = joinL [s] (ws.map tl) := by rw [join_eq, tl_join, ey]
  have ok : TOk 2000000 (Txt.join sep ws) := by
    refine ⟨?_, fun c hc => ?_⟩
    · rw [et]
      have := joinL_len (S := [s]) (k := 600) (ps := ws.map tl) fun p hp => by
        obtain ⟨w, hw, rfl⟩ := List.mem_map.mp hp
        exact (h w hw).len
      rw [List.length_map] at this
      have h2 : ws.length * (600 + [s].length) ≤ 2000 * 601 := Nat.mul_le_mul hl (Nat.le_refl _)
      omega
    · rw [et] at hc
      rcases joinL_mem hc with z | ⟨p, hp, z⟩
      · rw [List.mem_singleton.mp z]; exact hs
      · obtain ⟨w, hw, rfl⟩ := List.mem_map.mp hp
        exact (h w hw).lt c z
  refine ⟨_, if_pos ⟨?_, ok.sok (by decide)⟩, ok⟩
  have h1 := sum_le (k := 600) fun w hw => by rw [len_tl]; exact (h w hw).len
  have h2 : sep.length = 1 := by rw [len_tl, ey]; rfl
  have h3 : ws.length * 600 ≤ 2000 * 600 := Nat.mul_le_mul hl (Nat.le_refl _)
  rw [h2]; omega
theorem spl_ne (s : Nat) : ∀ (l acc : List Nat), TL.spl [s] 0 acc l ≠ []
  | [], acc => by rw [TL.spl_nil]; simp
  | x :: l, acc => by
    by_cases h : x = s
    · subst h
      rw [TL.spl_hit (show TL.pre [x] (x :: l) = true from TL.pre_self [x] l)]; simp
    · rw [TL.spl_miss (TL.pre_of_head [] l h)]; exact spl_ne s l _
theorem split_ne {t y : Str} {s : Nat} (ey : tl y = [s]) (hk : y.cps.all (· < 256) = true) : Txt.split t y ≠ [] := fun z => by
  have e := TL.split_spl t y (by rw [ey]; simp) (TL.kind_ok hk)
  rw [ey, z] at e
  exact spl_ne s (tl t) [] e.symm
theorem pos_of {α : Type} {xs : List α} (h : xs ≠ []) : (0 : Int) < (xs.length : Int) := by
  cases xs with
  | nil => exact absurd rfl h
  | cons a l => simp only [List.length_cons]; omega
theorem app51 {a b : List Str} (ha : ∀ w ∈ a, TOk 600 w) (hb : ∀ w ∈ b, TOk 600 w) : ∀ w ∈ a ++ b, TOk 600 w := fun w hw => (List.mem_append.mp hw).elim (ha w) (hb w)
theorem law51 (ns : Fz) (h : ns.l.length ≤ 63) : t_law_k51 ns = .ok true := by
  have hl := scene_len h 0
  have o := scene_B h
  unfold t_law_k51
  rw [g_scene_ok h]
  simp only [R.ok_bind]
  rw [written_ok o (by omega)]
  simp only [R.ok_bind]
  have tk : TOk 600 (txtB (scene ns.l 0)) := by
    refine ⟨?_, sOk_lt (txt_sok o (by omega))⟩
    have := txt_len o; omega
  generalize txtB (scene ns.l 0) = text at tk
  obtain ⟨s1, s2, s3⟩ := sp_split tk (by decide)
  obtain ⟨n1, n2, n3⟩ := nl_split tk (by decide)
  have wp := pos_of (split_ne (t := text) tl_sp (by decide +kernel))
  have lp := pos_of (split_ne (t := text) tl_nl (by decide +kernel))
  rw [s1, n1]
  simp only [R.ok_bind]
  generalize Txt.split text " " = words at s2 s3 wp
  generalize Txt.split text "\n" = lines at n2 n3 lp
  rw [g_drawn_ok h _ wp, g_drawn_ok h _ (by decide), g_drawn_ok h _ lp]
  simp only [R.ok_bind, letT]
  generalize drawn ns.l 100 (words.length : Int) = at1
  generalize drawn ns.l 102 (lines.length : Int) = to
  have dw := drawn_in h (101 : Int) (show (0 : Int) < 12 by decide)
  obtain ⟨w, hw1, hw2, _⟩ := ixL_ok (xs := [("-" : Str), ("" : Str), ("a" : Str), ("21" : Str), ("-0" : Str), ("05" : Str), ("-3" : Str), ("c" : Str), ("fc" : Str), ("zz" : Str), ("0" : Str), ("1000" : Str)]) dw.1 (by show _ < ((12 : Nat) : Int); exact dw.2)
  have hwk : TOk 600 w := by
    have all : ([("-" : Str), ("" : Str), ("a" : Str), ("21" : Str), ("-0" : Str), ("05" : Str), ("-3" : Str), ("c" : Str), ("fc" : Str), ("zz" : Str), ("0" : Str), ("1000" : Str)].all (tokB 600)) = true := by decide +kernel
    exact tok_of (List.all_eq_true.mp all w hw2)
  rw [hw1]
  simp only [R.ok_bind]
  have wc : ∀ lo hi, ∀ x ∈ cutL words lo hi, TOk 600 x := fun lo hi x hx => s3 x (cutL_mem hx)
  have lc : ∀ lo hi, ∀ x ∈ cutL lines lo hi, TOk 600 x := fun lo hi x hx => n3 x (cutL_mem hx)
  have wl : ∀ lo hi, (cutL words lo hi).length ≤ 601 := fun lo hi => Nat.le_trans (cutL_le _ _ _) s2
  have ll : ∀ lo hi, (cutL lines lo hi).length ≤ 601 := fun lo hi => Nat.le_trans (cutL_le _ _ _) n2
  have one : ∀ x ∈ [w], TOk 600 x := fun x hx => by rw [List.mem_singleton.mp hx]; exact hwk
  generalize hA : cutL words none (some at1) = A
  generalize hB : cutL words (some (at1 + (1 : Int))) none = B
  generalize hC : cutL words none (some (at1 + (1 : Int))) = C
  generalize hD : cutL words (some at1) none = E
  have kA : (∀ x ∈ A, TOk 600 x) ∧ A.length ≤ 601 := by rw [← hA]; exact ⟨wc _ _, wl _ _⟩
  have kB : (∀ x ∈ B, TOk 600 x) ∧ B.length ≤ 601 := by rw [← hB]; exact ⟨wc _ _, wl _ _⟩
  have kC : (∀ x ∈ C, TOk 600 x) ∧ C.length ≤ 601 := by rw [← hC]; exact ⟨wc _ _, wl _ _⟩
  have kE : (∀ x ∈ E, TOk 600 x) ∧ E.length ≤ 601 := by rw [← hD]; exact ⟨wc _ _, wl _ _⟩
  have hA1 : (A ++ [w]).length ≤ 602 := by rw [List.length_append, List.length_singleton]; omega
  rw [catL_ok (by omega), catL_ok (by omega), catL_ok (show A.length + [w].length ≤ 16777216 by simp only [List.length_singleton]; omega)]
  simp only [R.ok_bind]
  rw [catL_ok (by omega)]
  simp only [R.ok_bind]
  obtain ⟨j1, e1, t1⟩ := join51 tl_sp (by decide) (app51 kA.1 kB.1) (by rw [List.length_append]; omega)
  obtain ⟨j2, e2, t2⟩ := join51 tl_sp (by decide) (app51 kC.1 kE.1) (by rw [List.length_append]; omega)
  obtain ⟨j3, e3, t3⟩ := join51 tl_sp (by decide) (app51 (app51 kA.1 one) kB.1) (by rw [List.length_append]; omega)
  have ec : compR (fun (row : (List Str)) => R.ok true) (fun (row : (List Str)) => (joinG (" " : Str) row)) [A ++ B, C ++ E, A ++ [w] ++ B] = .ok [j1, j2, j3] := by
    unfold compR compR compR compR
    simp only [e1, e2, e3, R.ok_bind]
  rw [ec]
  simp only [R.ok_bind]
  have tle : text.length ≤ 600 := by rw [len_tl]; exact tk.len
  rw [catS_ok (by rw [nl_len]; omega)]
  simp only [R.ok_bind]
  have tnl : TOk 2000000 (text ++ ("\n" : Str)) := by
    refine ⟨?_, fun c hc => ?_⟩
    · rw [tl_append, tl_nl, List.length_append]
      have := tk.len
      simp only [List.length_singleton]; omega
    · rw [tl_append, tl_nl] at hc
      rcases List.mem_append.mp hc with z | z
      · exact tk.lt c z
      · rw [List.mem_singleton.mp z]; decide
  have lit : ∀ x ∈ [("" : Str), ("a - 0 0 1 1 -\n" : Str), ("a b 0 0 1 1 -\n" : Str), ("a - -20 12 0 20 c\n" : Str), ("a - 10 -10 10 11 -\n" : Str), ("a - 010 0 1 1 -\n" : Str), ("a - 100 0 1 1 -\n" : Str)], TOk 2000000 x := fun x hx => by
    have all : ([("" : Str), ("a - 0 0 1 1 -\n" : Str), ("a b 0 0 1 1 -\n" : Str), ("a - -20 12 0 20 c\n" : Str), ("a - 10 -10 10 11 -\n" : Str), ("a - 010 0 1 1 -\n" : Str), ("a - 100 0 1 1 -\n" : Str)].all (tokB 600)) = true := by decide +kernel
    exact (tok_of (List.all_eq_true.mp all x hx)).mono (by decide)
  rw [catL_ok (by show 3 + 6 ≤ 16777216; decide)]
  simp only [R.ok_bind]
  generalize hF : cutL lines none (some to) = F
  generalize hG : cutL lines (some (to + (1 : Int))) none = G
  generalize hH : cutL lines none (some (to + (1 : Int))) = H
  generalize hI : cutL lines (some to) none = I
  generalize hJ : cutL lines (some to) (some (to + (2 : Int))) = J
  generalize hK : cutL lines (some (to + (2 : Int))) none = K
  have kF : (∀ x ∈ F, TOk 600 x) ∧ F.length ≤ 601 := by rw [← hF]; exact ⟨lc _ _, ll _ _⟩
  have kG : (∀ x ∈ G, TOk 600 x) ∧ G.length ≤ 601 := by rw [← hG]; exact ⟨lc _ _, ll _ _⟩
  have kH : (∀ x ∈ H, TOk 600 x) ∧ H.length ≤ 601 := by rw [← hH]; exact ⟨lc _ _, ll _ _⟩
  have kI : (∀ x ∈ I, TOk 600 x) ∧ I.length ≤ 601 := by rw [← hI]; exact ⟨lc _ _, ll _ _⟩
  have kJ : (∀ x ∈ J.reverse, TOk 600 x) ∧ J.reverse.length ≤ 601 := by rw [← hJ]; exact ⟨fun x hx => lc _ _ x (List.mem_reverse.mp hx), by rw [List.length_reverse]; exact ll _ _⟩
  have kK : (∀ x ∈ K, TOk 600 x) ∧ K.length ≤ 601 := by rw [← hK]; exact ⟨lc _ _, ll _ _⟩
  have hFJ : (F ++ J.reverse).length ≤ 1202 := by rw [List.length_append]; omega
  rw [catL_ok (by omega)]
  simp only [R.ok_bind]
  obtain ⟨j4, e4, t4⟩ := join51 tl_nl (by decide) (app51 kF.1 kG.1) (by rw [List.length_append]; omega)
  obtain ⟨j5, e5, t5⟩ := join51 tl_nl (by decide) (app51 kH.1 kI.1) (by rw [List.length_append]; omega)
  obtain ⟨j6, e6, t6⟩ := join51 tl_nl (by decide) (app51 (app51 kF.1 kJ.1) kK.1) (by rw [List.length_append]; omega)
  rw [e4]
  simp only [R.ok_bind]
  rw [catL_ok (by omega)]
  simp only [R.ok_bind]
  rw [e5]
  simp only [R.ok_bind]
  rw [catL_ok (by show 9 + 2 ≤ 16777216; decide)]
  simp only [R.ok_bind]
  rw [catL_ok (by omega)]
  simp only [R.ok_bind]
  rw [catL_ok (by omega)]
  simp only [R.ok_bind]
  rw [e6]
  simp only [R.ok_bind]
  rw [pushL_ok (by show 11 < 16777216; decide)]
  simp only [R.ok_bind]
  rw [catL_ok (by show 12 + 4 ≤ 16777216; decide)]
  simp only [R.ok_bind]
  have tx : TOk 2000000 text := tk.mono (by decide)
  rw [all_b1 (n := 2000000) (by decide) _ (fun x hx => ?_)]
  · rfl
  · simp only [List.mem_append, List.mem_cons, List.not_mem_nil, or_false] at hx
    rcases hx with ((((rfl | rfl | rfl) | (rfl | rfl | rfl | rfl | rfl | rfl)) | (rfl | rfl)) | rfl) | (rfl | rfl | rfl | rfl)
    · exact t1
    · exact t2
    · exact t3
    · exact tx
    · exact tx.cut _ _
    · exact tnl
    · exact lit _ (by simp)
    · exact lit _ (by simp)
    · exact lit _ (by simp)
    · exact t4
    · exact t5
    · exact t6
    · exact lit _ (by simp)
    · exact lit _ (by simp)
    · exact lit _ (by simp)
    · exact lit _ (by simp)
theorem law51_true : ∀ ns : List Int, ns.length ≤ 63 → den_law_k51 [.frz ns] = .ok (.bl true) := fun ns h => rr_ok (k_law_k51 ⟨ns⟩) (law51 ⟨ns⟩ h)
end
end Ty

namespace K51
open PySem PySem.Spec PyProof.Rows L2 Dx Dn
def top (i : Nat) : Stmt := PySem.Challenge.pw_touchtree_k51_whole_read.main.body.getD i (.Pass ⟨0, 0, 0, 0⟩)
abbrev st_or_bar : Stmt := top 18
abbrev st_box_text : Stmt := top 19
abbrev st_written : Stmt := top 20
abbrev st__law_cell : Stmt := top 26
abbrev st__law_drawn : Stmt := top 27
abbrev st__law_scene : Stmt := top 28
abbrev st_text_in : Stmt := top 22
abbrev st_number_in : Stmt := top 21
abbrev st_box_in : Stmt := top 23
abbrev st_is_name : Stmt := top 12
abbrev st_are_marks : Stmt := top 13
abbrev st_is_within : Stmt := top 11
abbrev st_is_box : Stmt := top 14
abbrev st_is_scene : Stmt := top 15
abbrev st_read : Stmt := top 24
abbrev st__law_told : Stmt := top 32
abbrev st__law_due : Stmt := top 33
abbrev st_law : Stmt := top 34
structure Txt (K : PySem.W.Frag) (mg : Str → Option Value) where
  or_bar_ : FnF K mg "or_bar" st_or_bar ["text"]
  box_text_ : FnF K mg "box_text" st_box_text ["box"]
  written_ : FnF K mg "written" st_written ["scene"]
  _law_cell_ : FnF K mg "_law_cell" st__law_cell ["_law_script", "_law_k"]
  _law_drawn_ : FnF K mg "_law_drawn" st__law_drawn ["_law_script", "_law_k", "_law_many"]
  _law_scene_ : FnF K mg "_law_scene" st__law_scene ["_law_script", "_law_at"]
  text_in_ : FnF K mg "text_in" st_text_in ["word"]
  number_in_ : FnF K mg "number_in" st_number_in ["word"]
  box_in_ : FnF K mg "box_in" st_box_in ["line"]
  is_name_ : FnF K mg "is_name" st_is_name ["thing"]
  are_marks_ : FnF K mg "are_marks" st_are_marks ["thing"]
  is_within_ : FnF K mg "is_within" st_is_within ["thing", "low", "high"]
  is_box_ : FnF K mg "is_box" st_is_box ["thing"]
  is_scene_ : FnF K mg "is_scene" st_is_scene ["thing"]
  read_ : FnF K mg "read" st_read ["text"]
  _law_told_ : FnF K mg "_law_told" st__law_told ["_law_text"]
  _law_due_ : FnF K mg "_law_due" st__law_due ["_law_text"]
  law_ : FnF K mg "law" st_law ["_law_script"]
  NoBox_ : ExF K mg "NoBox"
  NoText_ : ExF K mg "NoText"
  Taken_ : ExF K mg "Taken"
  TouchError_ : ExF K mg "TouchError"
  NoBox_i : IxF K NoBox_.C
  NoText_i : IxF K NoText_.C
  Taken_i : IxF K Taken_.C
  TouchError_i : IxF K TouchError_.C
  s_NoBox_NoBox : PySem.W.subIn K (.ref NoBox_.C) (.ref NoBox_.C) = some (isaT "NoBox" "NoBox")
  s_NoBox_NoText : PySem.W.subIn K (.ref NoBox_.C) (.ref NoText_.C) = some (isaT "NoBox" "NoText")
  s_NoBox_Taken : PySem.W.subIn K (.ref NoBox_.C) (.ref Taken_.C) = some (isaT "NoBox" "Taken")
  s_NoBox_TouchError : PySem.W.subIn K (.ref NoBox_.C) (.ref TouchError_.C) = some (isaT "NoBox" "TouchError")
  s_Taken_NoBox : PySem.W.subIn K (.ref Taken_.C) (.ref NoBox_.C) = some (isaT "Taken" "NoBox")
  s_Taken_NoText : PySem.W.subIn K (.ref Taken_.C) (.ref NoText_.C) = some (isaT "Taken" "NoText")
  s_Taken_Taken : PySem.W.subIn K (.ref Taken_.C) (.ref Taken_.C) = some (isaT "Taken" "Taken")
  s_Taken_TouchError : PySem.W.subIn K (.ref Taken_.C) (.ref TouchError_.C) = some (isaT "Taken" "TouchError")
  s_NoText_NoBox : PySem.W.subIn K (.ref NoText_.C) (.ref NoBox_.C) = some (isaT "NoText" "NoBox")
  s_NoText_NoText : PySem.W.subIn K (.ref NoText_.C) (.ref NoText_.C) = some (isaT "NoText" "NoText")
  s_NoText_Taken : PySem.W.subIn K (.ref NoText_.C) (.ref Taken_.C) = some (isaT "NoText" "Taken")
  s_NoText_TouchError : PySem.W.subIn K (.ref NoText_.C) (.ref TouchError_.C) = some (isaT "NoText" "TouchError")
  ValueError_ : mg "ValueError" = none
  all_ : mg "all" = none
  bool_ : mg "bool" = none
  enumerate_ : mg "enumerate" = none
  int_ : mg "int" = none
  isinstance_ : mg "isinstance" = none
  len_ : mg "len" = none
  range_ : mg "range" = none
  set_ : mg "set" = none
  str_ : mg "str" = none
  tuple_ : mg "tuple" = none
  zip_ : mg "zip" = none
  FIGURES_ : ∃ t, mg "FIGURES" = some (.str "0123456789" t)
  LETTERS_ : ∃ t, mg "LETTERS" = some (.str "abcdefghijklmnopqrstuvwxyz" t)
  MARKS_ : ∃ t, mg "MARKS" = some (.str "cfhl" t)
  MOST_BOXES_ : ∃ t, mg "MOST_BOXES" = some (.int 12 t)
  MOST_PLACE_ : ∃ t, mg "MOST_PLACE" = some (.int 20 t)
  MOST_SIZE_ : ∃ t, mg "MOST_SIZE" = some (.int 20 t)
section
variable {P : Program} {w : World} {K : PySem.W.Frag} {mg : Str → Option Value} {base : Heap}
def Txt.xi (T : Txt K mg) : Str → Value := fun x => if x = "NoBox" then .ref T.NoBox_.C else if x = "NoText" then .ref T.NoText_.C else if x = "Taken" then .ref T.Taken_.C else if x = "TouchError" then .ref T.TouchError_.C else .none
theorem Txt.xi_NoBox (T : Txt K mg) : T.xi "NoBox" = .ref T.NoBox_.C := if_pos rfl
theorem Txt.xi_NoText (T : Txt K mg) : T.xi "NoText" = .ref T.NoText_.C := (if_neg (by decide +kernel)).trans (if_pos rfl)
theorem Txt.xi_Taken (T : Txt K mg) : T.xi "Taken" = .ref T.Taken_.C := (if_neg (by decide +kernel)).trans ((if_neg (by decide +kernel)).trans (if_pos rfl))
theorem Txt.hit_TouchError (T : Txt K mg) : ∀ y b, hitE ["NoBox", "Taken", "NoText"] "TouchError" y = some b → PySem.W.exmOne K (T.xi y) (.ref T.TouchError_.C) = some b := by
  intro y b h
  unfold hitE at h
  split at h
  case isFalse => cases h
  rename_i hm
  cases h
  simp only [List.mem_cons, List.not_mem_nil, or_false] at hm
  rcases hm with rfl | rfl | rfl
  · rw [T.xi_NoBox]; exact PySem.W.exm_ref T.TouchError_.s T.TouchError_i.ex.hd T.TouchError_.t T.s_NoBox_TouchError
  · rw [T.xi_Taken]; exact PySem.W.exm_ref T.TouchError_.s T.TouchError_i.ex.hd T.TouchError_.t T.s_Taken_TouchError
  · rw [T.xi_NoText]; exact PySem.W.exm_ref T.TouchError_.s T.TouchError_i.ex.hd T.TouchError_.t T.s_NoText_TouchError
theorem Txt.isx (T : Txt K mg) : ∀ x ∈ (["NoBox", "Taken", "NoText"] : List Str), ∃ D, T.xi x = .ref D ∧ IxF K D ∧ PySem.W.kitOne K (.ref D) (.ref T.NoBox_.C) = some (isaT x "NoBox") ∧ PySem.W.kitOne K (.ref D) (.ref T.NoText_.C) = some (isaT x "NoText") ∧ PySem.W.kitOne K (.ref D) (.ref T.Taken_.C) = some (isaT x "Taken") ∧ PySem.W.kitOne K (.ref D) (.type "ValueError") = some (isaT x "ValueError") := by
  intro x hm
  simp only [List.mem_cons, List.not_mem_nil, or_false] at hm
  rcases hm with rfl | rfl | rfl
  · exact ⟨_, T.xi_NoBox, T.NoBox_i, kit_ref T.NoBox_i T.s_NoBox_NoBox, kit_ref T.NoText_i T.s_NoBox_NoText, kit_ref T.Taken_i T.s_NoBox_Taken, (kit_ve T.NoBox_i).trans (congrArg some (by decide +kernel))⟩
  · exact ⟨_, T.xi_Taken, T.Taken_i, kit_ref T.NoBox_i T.s_Taken_NoBox, kit_ref T.NoText_i T.s_Taken_NoText, kit_ref T.Taken_i T.s_Taken_Taken, (kit_ve T.Taken_i).trans (congrArg some (by decide +kernel))⟩
  · exact ⟨_, T.xi_NoText, T.NoText_i, kit_ref T.NoBox_i T.s_NoText_NoBox, kit_ref T.NoText_i T.s_NoText_NoText, kit_ref T.Taken_i T.s_NoText_Taken, (kit_ve T.NoText_i).trans (congrArg some (by decide +kernel))⟩
theorem sc_or_bar : FnScope ["text"] ["text"] (defScope st_or_bar) := ⟨rfl, rfl, rfl, by decide +kernel, rfl, by decide +kernel, by decide +kernel⟩
theorem ok_or_bar (T : Txt K mg) : FnOk P w K mg base (L2.CX P w) 1 T.or_bar_.f T.or_bar_.fd ["text"] (spD K T.xi den_or_bar) := by
  refine fn_d (G := g_or_bar) T.or_bar_.Fn sc_or_bar (fun ds h => if_neg h) (fun ds h => if_pos h) fun cdv A outer s H E hr => ?_
  have tk := takes_of (X := cxOf (L2.CX P w) P w K mg base ["text"] "or_bar" (defScope st_or_bar) T.or_bar_.f cdv A outer s H E) rfl rfl rfl rfl
  have hp := passes_of (X := cxOf (L2.CX P w) P w K mg base ["text"] "or_bar" (defScope st_or_bar) T.or_bar_.f cdv A outer s H E) rfl
  exact (dss_one (ds_ret (de_if (dtC (cm_ne (roomU64 hr)) (de_v (pv 0)) de_str) (de_v (pv 0)) de_str)))
theorem sc_box_text : FnScope ["box", "number"] ["box"] (defScope st_box_text) := ⟨rfl, rfl, rfl, by decide +kernel, rfl, by decide +kernel, by decide +kernel⟩
theorem ok_box_text (T : Txt K mg) : FnOk P w K mg base (L2.CX P w) 2 T.box_text_.f T.box_text_.fd ["box"] (spD K T.xi den_box_text) := by
  refine fn_d (G := g_box_text) T.box_text_.Fn sc_box_text (fun ds h => if_neg h) (fun ds h => if_pos h) fun cdv A outer s H E hr => ?_
  have tk := takes_of (X := cxOf (L2.CX P w) P w K mg base ["box", "number"] "box_text" (defScope st_box_text) T.box_text_.f cdv A outer s H E) rfl rfl rfl rfl
  have hp := passes_of (X := cxOf (L2.CX P w) P w K mg base ["box", "number"] "box_text" (defScope st_box_text) T.box_text_.f cdv A outer s H E) rfl
  exact (dss_one (ds_ret (de_join de_str (de_add (de_add (de_ofF (df_lst (da_cons (de_ix (roomU1 hr) (fun _ _ => rfl) (de_v (pv 0)) de_int) (da_cons (de_call (ok_or_bar T) tk (hr.mono (by first | decide | omega)) T.or_bar_.m T.or_bar_.Fn.kp T.or_bar_.b (da_cons (de_ix (roomU1 hr) (fun _ _ => rfl) (de_v (pv 0)) de_int) da_nil)) da_nil)))) (de_ofF (df_lc (own := [("number", 1)]) (ts := [1]) sc_box_text.nd (di_seq (de_slice (de_v (pv 0)) (do_some de_int) (do_some de_int))) rfl (fun _ _ _ _ _ => (dg_name (i := 1) sc_box_text.nd)) (fun _ _ _ _ _ => dts_nil) (fun _ _ _ _ _ => (de_callTy cb_str1 T.str_ (by decide +kernel) (da_cons (de_v (pv 1)) da_nil)))))) (de_ofF (df_lst (da_cons (de_call (ok_or_bar T) tk (hr.mono (by first | decide | omega)) T.or_bar_.m T.or_bar_.Fn.kp T.or_bar_.b (da_cons (de_ix (roomU1 hr) (fun _ _ => rfl) (de_v (pv 0)) de_int) da_nil)) da_nil)))))))
theorem sc_written : FnScope ["scene", "box"] ["scene"] (defScope st_written) := ⟨rfl, rfl, rfl, by decide +kernel, rfl, by decide +kernel, by decide +kernel⟩
theorem ok_written (T : Txt K mg) : FnOk P w K mg base (L2.CX P w) 3 T.written_.f T.written_.fd ["scene"] (spD K T.xi den_written) := by
  refine fn_d (G := g_written) T.written_.Fn sc_written (fun ds h => if_neg h) (fun ds h => if_pos h) fun cdv A outer s H E hr => ?_
  have tk := takes_of (X := cxOf (L2.CX P w) P w K mg base ["scene", "box"] "written" (defScope st_written) T.written_.f cdv A outer s H E) rfl rfl rfl rfl
  have hp := passes_of (X := cxOf (L2.CX P w) P w K mg base ["scene", "box"] "written" (defScope st_written) T.written_.f cdv A outer s H E) rfl
  exact (dss_one (ds_ret (de_join de_str (de_ofF (df_lc (own := [("box", 1)]) (ts := [1]) sc_written.nd (di_seq (de_v (pv 0))) rfl (fun _ _ _ _ _ => (dg_name (i := 1) sc_written.nd)) (fun _ _ _ _ _ => dts_nil) (fun _ _ _ _ _ => (de_add (de_call (ok_box_text T) takes0 (hr.mono (by first | decide | omega)) T.box_text_.m T.box_text_.Fn.kp T.box_text_.b (da_cons (de_v (pv 1)) da_nil)) de_str)))))))
theorem sc__law_cell : FnScope ["_law_script", "_law_k"] ["_law_script", "_law_k"] (defScope st__law_cell) := ⟨rfl, rfl, rfl, by decide +kernel, rfl, by decide +kernel, by decide +kernel⟩
theorem ok__law_cell (T : Txt K mg) : FnOk P w K mg base (L2.CX P w) 1 T._law_cell_.f T._law_cell_.fd ["_law_script", "_law_k"] (spD K T.xi den__law_cell) := by
  refine fn_d (G := g__law_cell) T._law_cell_.Fn sc__law_cell (fun ds h => if_neg h) (fun ds h => if_pos h) fun cdv A outer s H E hr => ?_
  have tk := takes_of (X := cxOf (L2.CX P w) P w K mg base ["_law_script", "_law_k"] "_law_cell" (defScope st__law_cell) T._law_cell_.f cdv A outer s H E) rfl rfl rfl rfl
  have hp := passes_of (X := cxOf (L2.CX P w) P w K mg base ["_law_script", "_law_k"] "_law_cell" (defScope st__law_cell) T._law_cell_.f cdv A outer s H E) rfl
  exact (dss_cons (ds_if (dtC (cm_eq (roomU64 hr)) (de_v (pv 0)) (de_ofF (df_lst da_nil)))
  (dss_one (ds_ret (de_mul de_int (de_v (pv 1)))))
  dss_nil)
  (dss_one (ds_ret (de_add (de_ix (roomU1 hr) (fun _ _ => rfl) (de_v (pv 0)) (de_mod (de_v (pv 1)) (de_callB cb_len T.len_ (by decide +kernel) (da_cons (de_v (pv 0)) da_nil)))) (de_mul de_int (de_div (de_v (pv 1)) (de_callB cb_len T.len_ (by decide +kernel) (da_cons (de_v (pv 0)) da_nil))))))))
theorem sc__law_drawn : FnScope ["_law_script", "_law_k", "_law_many", "_law_cell_here"] ["_law_script", "_law_k", "_law_many"] (defScope st__law_drawn) := ⟨rfl, rfl, rfl, by decide +kernel, rfl, by decide +kernel, by decide +kernel⟩
theorem ok__law_drawn (T : Txt K mg) : FnOk P w K mg base (L2.CX P w) 2 T._law_drawn_.f T._law_drawn_.fd ["_law_script", "_law_k", "_law_many"] (spD K T.xi den__law_drawn) := by
  refine fn_d (G := g__law_drawn) T._law_drawn_.Fn sc__law_drawn (fun ds h => if_neg h) (fun ds h => if_pos h) fun cdv A outer s H E hr => ?_
  have tk := takes_of (X := cxOf (L2.CX P w) P w K mg base ["_law_script", "_law_k", "_law_many", "_law_cell_here"] "_law_drawn" (defScope st__law_drawn) T._law_drawn_.f cdv A outer s H E) rfl rfl rfl rfl
  have hp := passes_of (X := cxOf (L2.CX P w) P w K mg base ["_law_script", "_law_k", "_law_many", "_law_cell_here"] "_law_drawn" (defScope st__law_drawn) T._law_drawn_.f cdv A outer s H E) rfl
  exact (dss_cons (ds_set (i := 3) sc__law_drawn.nd (de_mod (de_add (de_mul (de_mod (de_call (ok__law_cell T) tk (hr.mono (by first | decide | omega)) T._law_cell_.m T._law_cell_.Fn.kp T._law_cell_.b (da_cons (de_v (pv 0)) (da_cons (de_v (pv 1)) da_nil))) de_int) de_int) (de_mul de_int (de_add (de_v (pv 1)) de_int))) de_int))
  (dss_cons (ds_set (i := 3) sc__law_drawn.nd (de_mod (de_add (de_mul (de_v (pv 3)) (de_v (pv 3))) (de_div (de_v (pv 3)) de_int)) de_int))
  (dss_one (ds_ret (de_mod (de_div (de_mod (de_add (de_mul (de_v (pv 3)) (de_v (pv 3))) (de_div (de_v (pv 3)) de_int)) de_int) de_int) (de_v (pv 2)))))))
theorem sc__law_scene : FnScope ["_law_script", "_law_at", "_law_found", "_law_turn", "_law_k", "_law_here", "_law_around", "_law_places", "_law_sizes", "_law_marks", "_law_j", "_law_sign", "_law_name", "_law_box_here"] ["_law_script", "_law_at"] (defScope st__law_scene) := ⟨rfl, rfl, rfl, by decide +kernel, rfl, by decide +kernel, by decide +kernel⟩
theorem ok__law_scene (T : Txt K mg) : FnOk P w K mg base (L2.CX P w) 3 T._law_scene_.f T._law_scene_.fd ["_law_script", "_law_at"] (spD K T.xi den__law_scene) := by
  refine fn_d (G := g__law_scene) T._law_scene_.Fn sc__law_scene (fun ds h => if_neg h) (fun ds h => if_pos h) fun cdv A outer s H E hr => ?_
  have tk := takes_of (X := cxOf (L2.CX P w) P w K mg base ["_law_script", "_law_at", "_law_found", "_law_turn", "_law_k", "_law_here", "_law_around", "_law_places", "_law_sizes", "_law_marks", "_law_j", "_law_sign", "_law_name", "_law_box_here"] "_law_scene" (defScope st__law_scene) T._law_scene_.f cdv A outer s H E) rfl rfl rfl rfl
  have hp := passes_of (X := cxOf (L2.CX P w) P w K mg base ["_law_script", "_law_at", "_law_found", "_law_turn", "_law_k", "_law_here", "_law_around", "_law_places", "_law_sizes", "_law_marks", "_law_j", "_law_sign", "_law_name", "_law_box_here"] "_law_scene" (defScope st__law_scene) T._law_scene_.f cdv A outer s H E) rfl
  exact (dss_cons (ds_set (i := 2) sc__law_scene.nd (de_tup da_nil))
  (dss_cons (ds_set (i := 3) sc__law_scene.nd (de_call (ok__law_drawn T) tk (hr.mono (by first | decide | omega)) T._law_drawn_.m T._law_drawn_.Fn.kp T._law_drawn_.b (da_cons (de_v (pv 0)) (da_cons (de_add (de_v (pv 1)) de_int) (da_cons de_int da_nil)))))
  (dss_cons (ds_for hp (di_range1 (c := true) T.range_ (de_call (ok__law_drawn T) tk (hr.mono (by first | decide | omega)) T._law_drawn_.m T._law_drawn_.Fn.kp T._law_drawn_.b (da_cons (de_v (pv 0)) (da_cons (de_v (pv 1)) (da_cons de_int da_nil))))) (dg_name (i := 4) sc__law_scene.nd) (dss_end [4, 5, 6, 7, 8, 9, 10, 11, 12] (dss_cons (ds_set (i := 5) sc__law_scene.nd (de_add (de_add (de_v (pv 1)) de_int) (de_mul de_int (de_v (pv 4)))))
  (dss_cons (ds_set (i := 6) sc__law_scene.nd (de_ix (roomU1 hr) (fun _ _ => rfl) (de_add (de_ofF (df_lst (da_cons de_str da_nil))) (de_ofF (df_lc (own := [("_law_box_here", 13)]) (ts := [13]) sc__law_scene.nd (di_seq (de_v (pv 2))) rfl (fun _ _ _ _ _ => (dg_name (i := 13) sc__law_scene.nd)) (fun _ _ _ _ _ => dts_nil) (fun _ _ _ _ _ => (de_ix (roomU1 hr) (fun _ _ => rfl) (de_v (pv 13)) de_int))))) (de_call (ok__law_drawn T) tk (hr.mono (by first | decide | omega)) T._law_drawn_.m T._law_drawn_.Fn.kp T._law_drawn_.b (da_cons (de_v (pv 0)) (da_cons (de_v (pv 5)) (da_cons (de_add (de_v (pv 4)) de_int) da_nil))))))
  (dss_cons (ds_setFDG (ds_lcG (i := 7) (own := [("_law_j", 10)]) (ts := [10]) sc__law_scene.nd (di_range1 (c := true) T.range_ de_int) rfl (fun _ _ _ _ _ => (dg_name (i := 10) sc__law_scene.nd)) (fun _ _ _ _ _ => dts_nil) (fun _ _ _ _ _ => (de_sub (de_call (ok__law_drawn T) takes0 (hr.mono (by first | decide | omega)) T._law_drawn_.m T._law_drawn_.Fn.kp T._law_drawn_.b (da_cons (de_v (pv 0)) (da_cons (de_add (de_add (de_v (pv 5)) de_int) (de_v (pv 10))) (da_cons de_int da_nil)))) de_int))))
  (dss_cons (ds_setFDG (ds_lcG (i := 8) (own := [("_law_j", 10)]) (ts := [10]) sc__law_scene.nd (di_range1 (c := true) T.range_ de_int) rfl (fun _ _ _ _ _ => (dg_name (i := 10) sc__law_scene.nd)) (fun _ _ _ _ _ => dts_nil) (fun _ _ _ _ _ => (de_call (ok__law_drawn T) takes0 (hr.mono (by first | decide | omega)) T._law_drawn_.m T._law_drawn_.Fn.kp T._law_drawn_.b (da_cons (de_v (pv 0)) (da_cons (de_add (de_add (de_v (pv 5)) de_int) (de_v (pv 10))) (da_cons de_int da_nil)))))))
  (dss_cons (ds_set (i := 9) sc__law_scene.nd de_str)
  (dss_cons (ds_for hp (di_enumT T.enumerate_ de_str) (dg_tup (ts := [10, 11]) rfl (dgs_cons (i := 10) sc__law_scene.nd (dgs_cons (i := 11) sc__law_scene.nd dgs_nil))) (dss_end [10, 11] (dss_one (ds_if (dtC (cm_eq (roomU64 hr)) (de_call (ok__law_drawn T) tk (hr.mono (by first | decide | omega)) T._law_drawn_.m T._law_drawn_.Fn.kp T._law_drawn_.b (da_cons (de_v (pv 0)) (da_cons (de_add (de_add (de_v (pv 5)) de_int) (de_v (pv 10))) (da_cons (de_ix (roomU1 hr) (fun _ _ => rfl) (de_ofF (df_lst (da_cons de_int (da_cons de_int (da_cons de_int (da_cons de_int da_nil)))))) (de_v (pv 10))) da_nil)))) de_int)
  (dss_one (ds_set (i := 9) sc__law_scene.nd (de_add (de_v (pv 9)) (de_v (pv 11)))))
  dss_nil))))
  (dss_cons (ds_set (i := 12) sc__law_scene.nd (de_ix (roomU1 hr) (fun _ _ => rfl) de_str (de_mod (de_add (de_v (pv 4)) (de_v (pv 3))) de_int)))
  (dss_one (ds_set (i := 2) sc__law_scene.nd (de_add (de_v (pv 2)) (de_tup (da_cons (de_add (de_add (de_tup (da_cons (de_v (pv 12)) (da_cons (de_v (pv 6)) da_nil))) (de_callTy cb_tuple T.tuple_ (by decide +kernel) (da_cons (de_add (de_v (pv 7)) (de_v (pv 8))) da_nil))) (de_tup (da_cons (de_v (pv 9)) da_nil))) da_nil))))))))))))))
  (dss_one (ds_ret (de_v (pv 2)))))))
theorem sc_text_in : FnScope ["word"] ["word"] (defScope st_text_in) := ⟨rfl, rfl, rfl, by decide +kernel, rfl, by decide +kernel, by decide +kernel⟩
theorem ok_text_in (T : Txt K mg) : FnOk P w K mg base (L2.CX P w) 1 T.text_in_.f T.text_in_.fd ["word"] (spD K T.xi den_text_in) := by
  refine fn_d (G := g_text_in) T.text_in_.Fn sc_text_in (fun ds h => if_neg h) (fun ds h => if_pos h) fun cdv A outer s H E hr => ?_
  have tk := takes_of (X := cxOf (L2.CX P w) P w K mg base ["word"] "text_in" (defScope st_text_in) T.text_in_.f cdv A outer s H E) rfl rfl rfl rfl
  have hp := passes_of (X := cxOf (L2.CX P w) P w K mg base ["word"] "text_in" (defScope st_text_in) T.text_in_.f cdv A outer s H E) rfl
  exact (dss_one (ds_ret (de_if (dtC (cm_eq (roomU64 hr)) (de_v (pv 0)) de_str) de_str (de_v (pv 0)))))
theorem sc_number_in : FnScope ["word", "figures", "sign"] ["word"] (defScope st_number_in) := ⟨rfl, rfl, rfl, by decide +kernel, rfl, by decide +kernel, by decide +kernel⟩
theorem ok_number_in (T : Txt K mg) : FnOk P w K mg base (L2.CX P w) 1 T.number_in_.f T.number_in_.fd ["word"] (spD K T.xi den_number_in) := by
  refine fn_d (G := g_number_in) T.number_in_.Fn sc_number_in (fun ds h => if_neg h) (fun ds h => if_pos h) fun cdv A outer s H E hr => ?_
  have tk := takes_of (X := cxOf (L2.CX P w) P w K mg base ["word", "figures", "sign"] "number_in" (defScope st_number_in) T.number_in_.f cdv A outer s H E) rfl rfl rfl rfl
  have hp := passes_of (X := cxOf (L2.CX P w) P w K mg base ["word", "figures", "sign"] "number_in" (defScope st_number_in) T.number_in_.f cdv A outer s H E) rfl
  exact (dss_cons (ds_set (i := 1) sc_number_in.nd (de_if (dtC (cm_eq (roomU64 hr)) (de_slice (de_v (pv 0)) do_none (do_some de_int)) de_str) (de_slice (de_v (pv 0)) (do_some de_int) do_none) (de_v (pv 0))))
  (dss_cons (ds_if (dt_w (dw_or (dt_not (dtChain cm_le cm_le de_int (de_callB cb_len T.len_ (by decide +kernel) (da_cons (de_v (pv 1)) da_nil)) de_int)) (dw_or1 (dt_not (dt_val (de_callB cb_all T.all_ (by decide +kernel) (da_cons (de_ofF (df_lc (own := [("sign", 2)]) (ts := [2]) sc_number_in.nd (di_seq (de_v (pv 1))) rfl (fun _ _ _ _ _ => (dg_name (i := 2) sc_number_in.nd)) (fun _ _ _ _ _ => dts_nil) (fun _ _ _ _ _ => (deC (cm_in (roomU65 hr)) (de_v (pv 2)) (de_gstr T.FIGURES_))))) da_nil)))))))
  (dss_one (ds_raise tk (pmk_own PySem.F.excBase_ValueError T.NoText_.q T.NoText_.m T.NoText_.k (raises_own T.NoText_.s T.NoText_.t) (by exact rfl)) (T.xi_NoText)))
  dss_nil)
  (dss_one (ds_ret (de_callTy cb_intT T.int_ (by decide +kernel) (da_cons (de_v (pv 0)) da_nil))))))
theorem sc_box_in : FnScope ["line", "words", "word"] ["line"] (defScope st_box_in) := ⟨rfl, rfl, rfl, by decide +kernel, rfl, by decide +kernel, by decide +kernel⟩
theorem ok_box_in (T : Txt K mg) : FnOk P w K mg base (L2.CX P w) 2 T.box_in_.f T.box_in_.fd ["line"] (spD K T.xi den_box_in_k51) := by
  refine fn_d (G := g_box_in_k51) T.box_in_.Fn sc_box_in (fun ds h => if_neg h) (fun ds h => if_pos h) fun cdv A outer s H E hr => ?_
  have tk := takes_of (X := cxOf (L2.CX P w) P w K mg base ["line", "words", "word"] "box_in" (defScope st_box_in) T.box_in_.f cdv A outer s H E) rfl rfl rfl rfl
  have hp := passes_of (X := cxOf (L2.CX P w) P w K mg base ["line", "words", "word"] "box_in" (defScope st_box_in) T.box_in_.f cdv A outer s H E) rfl
  exact (dss_cons (ds_set (i := 1) sc_box_in.nd (de_ofF (df_split (de_v (pv 0)) de_str)))
  (dss_cons (ds_if (dtC (cm_ne (roomU64 hr)) (de_callB cb_len T.len_ (by decide +kernel) (da_cons (de_v (pv 1)) da_nil)) de_int)
  (dss_one (ds_raise tk (pmk_own PySem.F.excBase_ValueError T.NoText_.q T.NoText_.m T.NoText_.k (raises_own T.NoText_.s T.NoText_.t) (by exact rfl)) (T.xi_NoText)))
  dss_nil)
  (dss_one (ds_ret (de_add (de_add (de_tup (da_cons (de_ix (roomU1 hr) (fun _ _ => rfl) (de_v (pv 1)) de_int) (da_cons (de_call (ok_text_in T) tk (hr.mono (by first | decide | omega)) T.text_in_.m T.text_in_.Fn.kp T.text_in_.b (da_cons (de_ix (roomU1 hr) (fun _ _ => rfl) (de_v (pv 1)) de_int) da_nil)) da_nil))) (de_callTy cb_tuple T.tuple_ (by decide +kernel) (da_cons (de_ofF (df_lcX (own := [("word", 2)]) (ts := [2]) tk sc_box_in.nd (di_seq (de_slice (de_v (pv 1)) (do_some de_int) (do_some de_int))) rfl (fun _ _ _ _ _ => (dg_name (i := 2) sc_box_in.nd)) (fun _ _ _ _ _ _ _ hx => (de_callP (ok_number_in T) hx (hr.mono (by first | decide | omega)) T.number_in_.m T.number_in_.Fn.kp T.number_in_.b (da_cons (de_v (pv 2)) da_nil))))) da_nil))) (de_tup (da_cons (de_call (ok_text_in T) tk (hr.mono (by first | decide | omega)) T.text_in_.m T.text_in_.Fn.kp T.text_in_.b (da_cons (de_ix (roomU1 hr) (fun _ _ => rfl) (de_v (pv 1)) de_int) da_nil)) da_nil)))))))
theorem sc_is_name : FnScope ["thing", "sign"] ["thing"] (defScope st_is_name) := ⟨rfl, rfl, rfl, by decide +kernel, rfl, by decide +kernel, by decide +kernel⟩
theorem ok_is_name (T : Txt K mg) : FnOk P w K mg base (L2.CX P w) 1 T.is_name_.f T.is_name_.fd ["thing"] (spD K T.xi den_is_name) := by
  refine fn_d (G := g_is_name) T.is_name_.Fn sc_is_name (fun ds h => if_neg h) (fun ds h => if_pos h) fun cdv A outer s H E hr => ?_
  have tk := takes_of (X := cxOf (L2.CX P w) P w K mg base ["thing", "sign"] "is_name" (defScope st_is_name) T.is_name_.f cdv A outer s H E) rfl rfl rfl rfl
  have hp := passes_of (X := cxOf (L2.CX P w) P w K mg base ["thing", "sign"] "is_name" (defScope st_is_name) T.is_name_.f cdv A outer s H E) rfl
  exact (dss_one (ds_ret (de_and (de_isi T.isinstance_ T.str_ (by decide +kernel) (de_v (pv 0))) (de_and (deChain cm_le cm_le de_int (de_callB cb_len T.len_ (by decide +kernel) (da_cons (de_v (pv 0)) da_nil)) de_int) (de_one (de_callB cb_all T.all_ (by decide +kernel) (da_cons (de_ofF (df_lc (own := [("sign", 1)]) (ts := [1]) sc_is_name.nd (di_seq (de_v (pv 0))) rfl (fun _ _ _ _ _ => (dg_name (i := 1) sc_is_name.nd)) (fun _ _ _ _ _ => dts_nil) (fun _ _ _ _ _ => (deC (cm_in (roomU65 hr)) (de_v (pv 1)) (de_gstr T.LETTERS_))))) da_nil)))))))
theorem sc_are_marks : FnScope ["thing", "sign", "one", "other"] ["thing"] (defScope st_are_marks) := ⟨rfl, rfl, rfl, by decide +kernel, rfl, by decide +kernel, by decide +kernel⟩
theorem ok_are_marks (T : Txt K mg) : FnOk P w K mg base (L2.CX P w) 1 T.are_marks_.f T.are_marks_.fd ["thing"] (spD K T.xi den_are_marks) := by
  refine fn_d (G := g_are_marks) T.are_marks_.Fn sc_are_marks (fun ds h => if_neg h) (fun ds h => if_pos h) fun cdv A outer s H E hr => ?_
  have tk := takes_of (X := cxOf (L2.CX P w) P w K mg base ["thing", "sign", "one", "other"] "are_marks" (defScope st_are_marks) T.are_marks_.f cdv A outer s H E) rfl rfl rfl rfl
  have hp := passes_of (X := cxOf (L2.CX P w) P w K mg base ["thing", "sign", "one", "other"] "are_marks" (defScope st_are_marks) T.are_marks_.f cdv A outer s H E) rfl
  exact (dss_cons (ds_if (dt_w (dw_or (dt_not (dt_val (de_isi T.isinstance_ T.str_ (by decide +kernel) (de_v (pv 0))))) (dw_or1 (dt_not (dt_val (de_callB cb_all T.all_ (by decide +kernel) (da_cons (de_ofF (df_lc (own := [("sign", 1)]) (ts := [1]) sc_are_marks.nd (di_seq (de_v (pv 0))) rfl (fun _ _ _ _ _ => (dg_name (i := 1) sc_are_marks.nd)) (fun _ _ _ _ _ => dts_nil) (fun _ _ _ _ _ => (deC (cm_in (roomU65 hr)) (de_v (pv 1)) (de_gstr T.MARKS_))))) da_nil)))))))
  (dss_one (ds_ret de_bl))
  dss_nil)
  (dss_one (ds_ret (de_callB cb_all T.all_ (by decide +kernel) (da_cons (de_ofF (df_lc (own := [("one", 2), ("other", 3)]) (ts := [2, 3]) sc_are_marks.nd (di_zip T.zip_ (de_v (pv 0)) (de_slice (de_v (pv 0)) (do_some de_int) do_none)) rfl (fun _ _ _ _ _ => (dg_tup (ts := [2, 3]) rfl (dgs_cons (i := 2) sc_are_marks.nd (dgs_cons (i := 3) sc_are_marks.nd dgs_nil)))) (fun _ _ _ _ _ => dts_nil) (fun _ _ _ _ _ => (deC cm_lt (de_v (pv 2)) (de_v (pv 3)))))) da_nil)))))
theorem sc_is_within : FnScope ["thing", "low", "high"] ["thing", "low", "high"] (defScope st_is_within) := ⟨rfl, rfl, rfl, by decide +kernel, rfl, by decide +kernel, by decide +kernel⟩
theorem ok_is_within (T : Txt K mg) : FnOk P w K mg base (L2.CX P w) 1 T.is_within_.f T.is_within_.fd ["thing", "low", "high"] (spD K T.xi den_is_within) := by
  refine fn_d (G := g_is_within) T.is_within_.Fn sc_is_within (fun ds h => if_neg h) (fun ds h => if_pos h) fun cdv A outer s H E hr => ?_
  have tk := takes_of (X := cxOf (L2.CX P w) P w K mg base ["thing", "low", "high"] "is_within" (defScope st_is_within) T.is_within_.f cdv A outer s H E) rfl rfl rfl rfl
  have hp := passes_of (X := cxOf (L2.CX P w) P w K mg base ["thing", "low", "high"] "is_within" (defScope st_is_within) T.is_within_.f cdv A outer s H E) rfl
  exact (dss_one (ds_ret (de_and (de_isi T.isinstance_ T.int_ (by decide +kernel) (de_v (pv 0))) (de_and (de_not (de_isi T.isinstance_ T.bool_ (by decide +kernel) (de_v (pv 0)))) (de_one (deChain cm_le cm_le (de_v (pv 1)) (de_v (pv 0)) (de_v (pv 2))))))))
theorem sc_is_box : FnScope ["thing", "at", "size"] ["thing"] (defScope st_is_box) := ⟨rfl, rfl, rfl, by decide +kernel, rfl, by decide +kernel, by decide +kernel⟩
theorem ok_is_box (T : Txt K mg) : FnOk P w K mg base (L2.CX P w) 2 T.is_box_.f T.is_box_.fd ["thing"] (spD K T.xi den_is_box) := by
  refine fn_d (G := g_is_box) T.is_box_.Fn sc_is_box (fun ds h => if_neg h) (fun ds h => if_pos h) fun cdv A outer s H E hr => ?_
  have tk := takes_of (X := cxOf (L2.CX P w) P w K mg base ["thing", "at", "size"] "is_box" (defScope st_is_box) T.is_box_.f cdv A outer s H E) rfl rfl rfl rfl
  have hp := passes_of (X := cxOf (L2.CX P w) P w K mg base ["thing", "at", "size"] "is_box" (defScope st_is_box) T.is_box_.f cdv A outer s H E) rfl
  exact (dss_cons (ds_if (dt_w (dw_or (dt_not (dt_val (de_isi T.isinstance_ T.tuple_ (by decide +kernel) (de_v (pv 0))))) (dw_or (dtC (cm_ne (roomU64 hr)) (de_callB cb_len T.len_ (by decide +kernel) (da_cons (de_v (pv 0)) da_nil)) de_int) (dw_or (dt_not (dt_val (de_call (ok_is_name T) tk (hr.mono (by first | decide | omega)) T.is_name_.m T.is_name_.Fn.kp T.is_name_.b (da_cons (de_ix (roomU1 hr) (fun _ _ => rfl) (de_v (pv 0)) de_int) da_nil)))) (dw_or1 (dt_not (dt_val (de_call (ok_are_marks T) tk (hr.mono (by first | decide | omega)) T.are_marks_.m T.are_marks_.Fn.kp T.are_marks_.b (da_cons (de_ix (roomU1 hr) (fun _ _ => rfl) (de_v (pv 0)) de_int) da_nil)))))))))
  (dss_one (ds_ret de_bl))
  dss_nil)
  (dss_cons (ds_if (dt_w (dw_or (dt_not (dt_val (de_isi T.isinstance_ T.str_ (by decide +kernel) (de_ix (roomU1 hr) (fun _ _ => rfl) (de_v (pv 0)) de_int)))) (dw_or1 (dt_not (dt_val (de_callB cb_all T.all_ (by decide +kernel) (da_cons (de_ofF (df_lc (own := [("at", 1)]) (ts := [1]) sc_is_box.nd (di_seq (de_slice (de_v (pv 0)) (do_some de_int) (do_some de_int))) rfl (fun _ _ _ _ _ => (dg_name (i := 1) sc_is_box.nd)) (fun _ _ _ _ _ => dts_nil) (fun _ _ _ _ _ => (de_call (ok_is_within T) takes0 (hr.mono (by first | decide | omega)) T.is_within_.m T.is_within_.Fn.kp T.is_within_.b (da_cons (de_v (pv 1)) (da_cons (de_sub de_int (de_gint T.MOST_PLACE_)) (da_cons (de_gint T.MOST_PLACE_) da_nil))))))) da_nil)))))))
  (dss_one (ds_ret de_bl))
  dss_nil)
  (dss_one (ds_ret (de_callB cb_all T.all_ (by decide +kernel) (da_cons (de_ofF (df_lc (own := [("size", 2)]) (ts := [2]) sc_is_box.nd (di_seq (de_slice (de_v (pv 0)) (do_some de_int) (do_some de_int))) rfl (fun _ _ _ _ _ => (dg_name (i := 2) sc_is_box.nd)) (fun _ _ _ _ _ => dts_nil) (fun _ _ _ _ _ => (de_call (ok_is_within T) takes0 (hr.mono (by first | decide | omega)) T.is_within_.m T.is_within_.Fn.kp T.is_within_.b (da_cons (de_v (pv 2)) (da_cons de_int (da_cons (de_gint T.MOST_SIZE_) da_nil))))))) da_nil))))))
theorem sc_is_scene : FnScope ["thing", "names", "box", "at"] ["thing"] (defScope st_is_scene) := ⟨rfl, rfl, rfl, by decide +kernel, rfl, by decide +kernel, by decide +kernel⟩
theorem ok_is_scene (T : Txt K mg) : FnOk P w K mg base (L2.CX P w) 3 T.is_scene_.f T.is_scene_.fd ["thing"] (spD K T.xi den_is_scene) := by
  refine fn_d (G := g_is_scene) T.is_scene_.Fn sc_is_scene (fun ds h => if_neg h) (fun ds h => if_pos h) fun cdv A outer s H E hr => ?_
  have tk := takes_of (X := cxOf (L2.CX P w) P w K mg base ["thing", "names", "box", "at"] "is_scene" (defScope st_is_scene) T.is_scene_.f cdv A outer s H E) rfl rfl rfl rfl
  have hp := passes_of (X := cxOf (L2.CX P w) P w K mg base ["thing", "names", "box", "at"] "is_scene" (defScope st_is_scene) T.is_scene_.f cdv A outer s H E) rfl
  exact (dss_cons (ds_if (dt_w (dw_or (dt_not (dt_val (de_isi T.isinstance_ T.tuple_ (by decide +kernel) (de_v (pv 0))))) (dw_or (dtC cm_gt (de_callB cb_len T.len_ (by decide +kernel) (da_cons (de_v (pv 0)) da_nil)) (de_gint T.MOST_BOXES_)) (dw_or1 (dt_not (dt_val (de_callB cb_all T.all_ (by decide +kernel) (da_cons (de_ofF (df_lc (own := [("box", 2)]) (ts := [2]) sc_is_scene.nd (di_seq (de_v (pv 0))) rfl (fun _ _ _ _ _ => (dg_name (i := 2) sc_is_scene.nd)) (fun _ _ _ _ _ => dts_nil) (fun _ _ _ _ _ => (de_call (ok_is_box T) takes0 (hr.mono (by first | decide | omega)) T.is_box_.m T.is_box_.Fn.kp T.is_box_.b (da_cons (de_v (pv 2)) da_nil))))) da_nil))))))))
  (dss_one (ds_ret de_bl))
  dss_nil)
  (dss_cons (ds_set (i := 1) sc_is_scene.nd (de_ofF (df_lc (own := [("box", 2)]) (ts := [2]) sc_is_scene.nd (di_seq (de_v (pv 0))) rfl (fun _ _ _ _ _ => (dg_name (i := 2) sc_is_scene.nd)) (fun _ _ _ _ _ => dts_nil) (fun _ _ _ _ _ => (de_ix (roomU1 hr) (fun _ _ => rfl) (de_v (pv 2)) de_int)))))
  (dss_cons (ds_if (dtC cm_lt (de_lenSet T.len_ T.set_ (de_v (pv 1))) (de_callB cb_len T.len_ (by decide +kernel) (da_cons (de_v (pv 1)) da_nil)))
  (dss_one (ds_ret de_bl))
  dss_nil)
  (dss_one (ds_ret (de_callB cb_all T.all_ (by decide +kernel) (da_cons (de_ofF (df_lc (own := [("at", 3), ("box", 2)]) (ts := [3, 2]) sc_is_scene.nd (di_enumT T.enumerate_ (de_v (pv 0))) rfl (fun _ _ _ _ _ => (dg_tup (ts := [3, 2]) rfl (dgs_cons (i := 3) sc_is_scene.nd (dgs_cons (i := 2) sc_is_scene.nd dgs_nil)))) (fun _ _ _ _ _ => dts_nil) (fun _ _ _ _ _ => (de_or (deC (cm_eq (roomU64 hr)) (de_ix (roomU1 hr) (fun _ _ => rfl) (de_v (pv 2)) de_int) de_str) (de_one (deC (cm_in (roomU65 hr)) (de_ix (roomU1 hr) (fun _ _ => rfl) (de_v (pv 2)) de_int) (de_slice (de_v (pv 1)) do_none (do_some (de_v (pv 3)))))))))) da_nil)))))))
theorem sc_read : FnScope ["text", "found", "line"] ["text"] (defScope st_read) := ⟨rfl, rfl, rfl, by decide +kernel, rfl, by decide +kernel, by decide +kernel⟩
theorem ok_read (T : Txt K mg) : FnOk P w K mg base (L2.CX P w) 4 T.read_.f T.read_.fd ["text"] (spD K T.xi den_read_k51) := by
  refine fn_d (G := g_read_k51) T.read_.Fn sc_read (fun ds h => if_neg h) (fun ds h => if_pos h) fun cdv A outer s H E hr => ?_
  have tk := takes_of (X := cxOf (L2.CX P w) P w K mg base ["text", "found", "line"] "read" (defScope st_read) T.read_.f cdv A outer s H E) rfl rfl rfl rfl
  have hp := passes_of (X := cxOf (L2.CX P w) P w K mg base ["text", "found", "line"] "read" (defScope st_read) T.read_.f cdv A outer s H E) rfl
  exact (dss_cons (ds_set (i := 1) sc_read.nd (de_callTy cb_tuple T.tuple_ (by decide +kernel) (da_cons (de_ofF (df_lcX (own := [("line", 2)]) (ts := [2]) tk sc_read.nd (di_seq (de_slice (de_ofF (df_split (de_v (pv 0)) de_str)) do_none (do_some (de_neg de_int)))) rfl (fun _ _ _ _ _ => (dg_name (i := 2) sc_read.nd)) (fun _ _ _ _ _ _ _ hx => (de_callP (ok_box_in T) hx (hr.mono (by first | decide | omega)) T.box_in_.m T.box_in_.Fn.kp T.box_in_.b (da_cons (de_v (pv 2)) da_nil))))) da_nil)))
  (dss_cons (ds_if (dt_w (dw_or (dt_not (dt_val (de_call (ok_is_scene T) tk (hr.mono (by first | decide | omega)) T.is_scene_.m T.is_scene_.Fn.kp T.is_scene_.b (da_cons (de_v (pv 1)) da_nil)))) (dw_or1 (dtC (cm_ne (roomU64 hr)) (de_call (ok_written T) tk (hr.mono (by first | decide | omega)) T.written_.m T.written_.Fn.kp T.written_.b (da_cons (de_v (pv 1)) da_nil)) (de_v (pv 0))))))
  (dss_one (ds_raise tk (pmk_own PySem.F.excBase_ValueError T.NoText_.q T.NoText_.m T.NoText_.k (raises_own T.NoText_.s T.NoText_.t) (by exact rfl)) (T.xi_NoText)))
  dss_nil)
  (dss_one (ds_ret (de_v (pv 1))))))
theorem sc__law_told : FnScope ["_law_text", "_law_flags", "e"] ["_law_text"] (defScope st__law_told) := ⟨rfl, rfl, rfl, by decide +kernel, rfl, by decide +kernel, by decide +kernel⟩
theorem okE__law_told (T : Txt K mg) : FnOk P w K mg base (L2.CX P w) 5 T._law_told_.f T._law_told_.fd ["_law_text"] (spE K T.xi denE__law_told_k51) := by
  refine fn_e (G := g__law_told_k51) T._law_told_.Fn sc__law_told (fun ds h => if_neg h) (fun ds h => if_pos h) fun cdv A outer s H E hr => ?_
  have tk := takes_of (X := cxOf (L2.CX P w) P w K mg base ["_law_text", "_law_flags", "e"] "_law_told" (defScope st__law_told) T._law_told_.f cdv A outer s H E) rfl rfl rfl rfl
  have hp := passes_of (X := cxOf (L2.CX P w) P w K mg base ["_law_text", "_law_flags", "e"] "_law_told" (defScope st__law_told) T._law_told_.f cdv A outer s H E) rfl
  exact (sxs_cons (sx_trySu (i := 2) (hit := (hitE ["NoBox", "Taken", "NoText"] "TouchError")) (S := (fun x => (sSeq (sSet 1 (eOfF (eUn lstR (aCons (eIs 2 (isaT x "NoText")) (aCons (eIs 2 (isaT x "NoBox")) (aCons (eIs 2 (isaT x "Taken")) aNil))))))
  (sIf (tAnd (tVal (eIs 2 (isaT x "ValueError"))) (tBin eqR (getD' 1) (eOfF (eUn lstR (aCons (eC (.bl true)) (aCons (eC (.bl false)) (aCons (eC (.bl false)) aNil)))))))
  (sRet (eC .non))
  sNil)))) rfl rfl sc__law_told.nd rfl rfl ⟨rfl, by decide, Or.inl T.TouchError_.m⟩ tk T.hit_TouchError (fun W pn xe tk hp => (sxs_one (sx_ret (xe_d (de_call (ok_read T) tk (hr.mono (by first | decide | omega)) T.read_.m T.read_.Fn.kp T.read_.b (da_cons (de_v (pv 0)) da_nil)))))) (fun x hx p pn hz hf => by
    obtain ⟨D, hD, iD, iNoBox, iNoText, iTaken, iValueError⟩ := T.isx x (hit_mem hx)
    rw [hD] at hz
    exact (dss_cons (ds_set (i := 1) sc__law_told.nd (de_ofF (df_lst (da_cons (de_isE (i := 2) (a := p.1) (oe := p.2) (if_pos rfl) List.mem_cons_self iD.ex hz hf iNoText T.isinstance_ (pv 2) (pe_glob (v := .ref T.NoText_.C) rfl T.NoText_.m rfl) (fun u r => r)) (da_cons (de_isE (i := 2) (a := p.1) (oe := p.2) (if_pos rfl) List.mem_cons_self iD.ex hz hf iNoBox T.isinstance_ (pv 2) (pe_glob (v := .ref T.NoBox_.C) rfl T.NoBox_.m rfl) (fun u r => r)) (da_cons (de_isE (i := 2) (a := p.1) (oe := p.2) (if_pos rfl) List.mem_cons_self iD.ex hz hf iTaken T.isinstance_ (pv 2) (pe_glob (v := .ref T.Taken_.C) rfl T.Taken_.m rfl) (fun u r => r)) da_nil))))))
  (dss_one (ds_if (dt_w (dw_and (dt_val (de_isE (i := 2) (a := p.1) (oe := p.2) (if_pos rfl) List.mem_cons_self iD.ex hz hf iValueError T.isinstance_ (pv 2) (pe_bltn (v := .ty "ValueError") (u := .type "ValueError") rfl T.ValueError_ (by decide +kernel) rfl) (fun u r => r))) (dw_and1 (dtC (cm_eq (roomHU64 (room_suite hr p.1 (p :: pn)))) (de_v (pv 1)) (de_ofF (df_lst (da_cons de_bl (da_cons de_bl (da_cons de_bl da_nil)))))))))
  (dss_one (ds_ret de_non))
  dss_nil)))))
  (sxs_one (sx_ret (xe_d de_bl))))
theorem ok__law_told (T : Txt K mg) : FnOk P w K mg base (L2.CX P w) 5 T._law_told_.f T._law_told_.fd ["_law_text"] (spD K T.xi den__law_told_k51) := fn_toD (okE__law_told T)
theorem sc__law_due : FnScope ["_law_text", "_law_found", "_law_line", "_law_words", "_law_numbers", "_law_word", "_law_figures", "_law_ends", "_law_sign", "_law_at"] ["_law_text"] (defScope st__law_due) := ⟨rfl, rfl, rfl, by decide +kernel, rfl, by decide +kernel, by decide +kernel⟩
theorem ok__law_due (T : Txt K mg) : FnOk P w K mg base (L2.CX P w) 4 T._law_due_.f T._law_due_.fd ["_law_text"] (spD K T.xi den__law_due_k51) := by
  refine fn_d (G := g__law_due_k51) T._law_due_.Fn sc__law_due (fun ds h => if_neg h) (fun ds h => if_pos h) fun cdv A outer s H E hr => ?_
  have tk := takes_of (X := cxOf (L2.CX P w) P w K mg base ["_law_text", "_law_found", "_law_line", "_law_words", "_law_numbers", "_law_word", "_law_figures", "_law_ends", "_law_sign", "_law_at"] "_law_due" (defScope st__law_due) T._law_due_.f cdv A outer s H E) rfl rfl rfl rfl
  have hp := passes_of (X := cxOf (L2.CX P w) P w K mg base ["_law_text", "_law_found", "_law_line", "_law_words", "_law_numbers", "_law_word", "_law_figures", "_law_ends", "_law_sign", "_law_at"] "_law_due" (defScope st__law_due) T._law_due_.f cdv A outer s H E) rfl
  exact (dss_cons (ds_set (i := 1) sc__law_due.nd (de_tup da_nil))
  (dss_cons (ds_for hp (di_seq (de_slice (de_ofF (df_split (de_v (pv 0)) de_str)) do_none (do_some (de_neg de_int)))) (dg_name (i := 2) sc__law_due.nd) (dss_end [2, 3, 4, 5, 6, 7] (dss_cons (ds_set (i := 3) sc__law_due.nd (de_ofF (df_split (de_v (pv 2)) de_str)))
  (dss_cons (ds_if (dtC (cm_ne (roomU64 hr)) (de_callB cb_len T.len_ (by decide +kernel) (da_cons (de_v (pv 3)) da_nil)) de_int)
  (dss_one (ds_ret de_non))
  dss_nil)
  (dss_cons (ds_setF (i := 4) sc__law_due.nd (df_lst da_nil))
  (dss_cons (ds_for hp (di_seq (de_slice (de_v (pv 3)) (do_some de_int) (do_some de_int))) (dg_name (i := 5) sc__law_due.nd) (dss_end [5, 6] (dss_cons (ds_set (i := 6) sc__law_due.nd (de_slice (de_v (pv 5)) (do_some (de_callTy cb_int1 T.int_ (by decide +kernel) (da_cons (deC (cm_eq (roomU64 hr)) (de_slice (de_v (pv 5)) do_none (do_some de_int)) de_str) da_nil))) do_none))
  (dss_cons (ds_if (dt_w (dw_or (dt_not (dtChain cm_lt cm_lt de_int (de_callB cb_len T.len_ (by decide +kernel) (da_cons (de_v (pv 6)) da_nil)) de_int)) (dw_or1 (dtC (cm_ne (roomU64 hr)) (de_ofF (df_lc (own := [("_law_sign", 8)]) (ts := [8]) sc__law_due.nd (di_seq (de_v (pv 6))) rfl (fun _ _ _ _ _ => (dg_name (i := 8) sc__law_due.nd)) (fun _ _ _ _ _ => (dts_one (dtC (cm_notIn (roomU65 hr)) (de_v (pv 8)) de_str))) (fun _ _ _ _ _ => (de_v (pv 8))))) (de_ofF (df_lst da_nil))))))
  (dss_one (ds_ret de_non))
  dss_nil)
  (dss_one (ds_append (pv 4) (de_callTy cb_intT T.int_ (by decide +kernel) (da_cons (de_v (pv 5)) da_nil))))))))
  (dss_cons (ds_setFDG (ds_lcG (i := 7) (own := [("_law_at", 9)]) (ts := [9]) sc__law_due.nd (di_seq (de_tup (da_cons de_int (da_cons de_int da_nil)))) rfl (fun _ _ _ _ _ => (dg_name (i := 9) sc__law_due.nd)) (fun _ _ _ _ _ => dts_nil) (fun _ _ _ _ _ => (de_ix (roomU1 hr) (fun _ _ => rfl) (de_ofF (df_lst (da_cons de_str (da_cons (de_ix (roomU1 hr) (fun _ _ => rfl) (de_v (pv 3)) (de_v (pv 9))) da_nil)))) (de_callTy cb_int1 T.int_ (by decide +kernel) (da_cons (deC (cm_ne (roomU64 hr)) (de_ix (roomU1 hr) (fun _ _ => rfl) (de_v (pv 3)) (de_v (pv 9))) de_str) da_nil))))))
  (dss_one (ds_set (i := 1) sc__law_due.nd (de_add (de_v (pv 1)) (de_tup (da_cons (de_add (de_add (de_tup (da_cons (de_ix (roomU1 hr) (fun _ _ => rfl) (de_v (pv 3)) de_int) (da_cons (de_ix (roomU1 hr) (fun _ _ => rfl) (de_v (pv 7)) de_int) da_nil))) (de_callTy cb_tuple T.tuple_ (by decide +kernel) (da_cons (de_vb (pv 4)) da_nil))) (de_tup (da_cons (de_ix (roomU1 hr) (fun _ _ => rfl) (de_v (pv 7)) de_int) da_nil))) da_nil))))))))))))
  (dss_cons (ds_if (dt_w (dw_or (dt_not (dt_val (de_call (ok_is_scene T) tk (hr.mono (by first | decide | omega)) T.is_scene_.m T.is_scene_.Fn.kp T.is_scene_.b (da_cons (de_v (pv 1)) da_nil)))) (dw_or1 (dtC (cm_ne (roomU64 hr)) (de_call (ok_written T) tk (hr.mono (by first | decide | omega)) T.written_.m T.written_.Fn.kp T.written_.b (da_cons (de_v (pv 1)) da_nil)) (de_v (pv 0))))))
  (dss_one (ds_ret de_non))
  dss_nil)
  (dss_one (ds_ret (de_v (pv 1)))))))
theorem sc_law : FnScope ["_law_script", "_law_text", "_law_words", "_law_at", "_law_odd", "_law_word", "_law_some", "_law_texts", "_law_lines", "_law_to", "_law_other", "_law_row"] ["_law_script"] (defScope st_law) := ⟨rfl, rfl, rfl, by decide +kernel, rfl, by decide +kernel, by decide +kernel⟩
theorem ok_law (T : Txt K mg) : FnOk P w K mg base (L2.CX P w) 6 T.law_.f T.law_.fd ["_law_script"] (spD K T.xi den_law_k51) := by
  refine fn_d (G := g_law_k51) T.law_.Fn sc_law (fun ds h => if_neg h) (fun ds h => if_pos h) fun cdv A outer s H E hr => ?_
  have tk := takes_of (X := cxOf (L2.CX P w) P w K mg base ["_law_script", "_law_text", "_law_words", "_law_at", "_law_odd", "_law_word", "_law_some", "_law_texts", "_law_lines", "_law_to", "_law_other", "_law_row"] "law" (defScope st_law) T.law_.f cdv A outer s H E) rfl rfl rfl rfl
  have hp := passes_of (X := cxOf (L2.CX P w) P w K mg base ["_law_script", "_law_text", "_law_words", "_law_at", "_law_odd", "_law_word", "_law_some", "_law_texts", "_law_lines", "_law_to", "_law_other", "_law_row"] "law" (defScope st_law) T.law_.f cdv A outer s H E) rfl
  exact (dss_cons (ds_set (i := 1) sc_law.nd (de_call (ok_written T) tk (hr.mono (by first | decide | omega)) T.written_.m T.written_.Fn.kp T.written_.b (da_cons (de_call (ok__law_scene T) tk (hr.mono (by first | decide | omega)) T._law_scene_.m T._law_scene_.Fn.kp T._law_scene_.b (da_cons (de_v (pv 0)) (da_cons de_int da_nil))) da_nil)))
  (dss_cons (ds_set (i := 2) sc_law.nd (de_ofF (df_split (de_v (pv 1)) de_str)))
  (dss_cons (ds_set (i := 3) sc_law.nd (de_call (ok__law_drawn T) tk (hr.mono (by first | decide | omega)) T._law_drawn_.m T._law_drawn_.Fn.kp T._law_drawn_.b (da_cons (de_v (pv 0)) (da_cons de_int (da_cons (de_callB cb_len T.len_ (by decide +kernel) (da_cons (de_v (pv 2)) da_nil)) da_nil)))))
  (dss_cons (ds_set (i := 4) sc_law.nd (de_ofF (df_lst (da_cons de_str (da_cons de_str (da_cons de_str (da_cons de_str (da_cons de_str (da_cons de_str (da_cons de_str (da_cons de_str (da_cons de_str (da_cons de_str (da_cons de_str (da_cons de_str da_nil)))))))))))))))
  (dss_cons (ds_set (i := 5) sc_law.nd (de_ix (roomU1 hr) (fun _ _ => rfl) (de_v (pv 4)) (de_call (ok__law_drawn T) tk (hr.mono (by first | decide | omega)) T._law_drawn_.m T._law_drawn_.Fn.kp T._law_drawn_.b (da_cons (de_v (pv 0)) (da_cons de_int (da_cons de_int da_nil))))))
  (dss_cons (ds_set (i := 6) sc_law.nd (de_ofF (df_lst (da_cons (de_add (de_slice (de_v (pv 2)) do_none (do_some (de_v (pv 3)))) (de_slice (de_v (pv 2)) (do_some (de_add (de_v (pv 3)) de_int)) do_none)) (da_cons (de_add (de_slice (de_v (pv 2)) do_none (do_some (de_add (de_v (pv 3)) de_int))) (de_slice (de_v (pv 2)) (do_some (de_v (pv 3))) do_none)) (da_cons (de_add (de_add (de_slice (de_v (pv 2)) do_none (do_some (de_v (pv 3)))) (de_ofF (df_lst (da_cons (de_v (pv 5)) da_nil)))) (de_slice (de_v (pv 2)) (do_some (de_add (de_v (pv 3)) de_int)) do_none)) da_nil))))))
  (dss_cons (ds_setF (i := 7) sc_law.nd (df_cat (de_ofF (df_lc (own := [("_law_row", 11)]) (ts := [11]) sc_law.nd (di_seq (de_v (pv 6))) rfl (fun _ _ _ _ _ => (dg_name (i := 11) sc_law.nd)) (fun _ _ _ _ _ => dts_nil) (fun _ _ _ _ _ => (de_join de_str (de_v (pv 11)))))) (de_ofF (df_lst (da_cons (de_v (pv 1)) (da_cons (de_slice (de_v (pv 1)) do_none (do_some (de_neg de_int))) (da_cons (de_add (de_v (pv 1)) de_str) (da_cons de_str (da_cons de_str (da_cons de_str da_nil))))))))))
  (dss_cons (ds_set (i := 8) sc_law.nd (de_ofF (df_split (de_v (pv 1)) de_str)))
  (dss_cons (ds_set (i := 9) sc_law.nd (de_call (ok__law_drawn T) tk (hr.mono (by first | decide | omega)) T._law_drawn_.m T._law_drawn_.Fn.kp T._law_drawn_.b (da_cons (de_v (pv 0)) (da_cons de_int (da_cons (de_callB cb_len T.len_ (by decide +kernel) (da_cons (de_v (pv 8)) da_nil)) da_nil)))))
  (dss_cons (ds_setF (i := 7) sc_law.nd (df_cat (de_vb (pv 7)) (de_ofF (df_lst (da_cons (de_join de_str (de_add (de_slice (de_v (pv 8)) do_none (do_some (de_v (pv 9)))) (de_slice (de_v (pv 8)) (do_some (de_add (de_v (pv 9)) de_int)) do_none))) (da_cons (de_join de_str (de_add (de_slice (de_v (pv 8)) do_none (do_some (de_add (de_v (pv 9)) de_int))) (de_slice (de_v (pv 8)) (do_some (de_v (pv 9))) do_none))) da_nil))))))
  (dss_cons (ds_set (i := 10) sc_law.nd (de_add (de_add (de_slice (de_v (pv 8)) do_none (do_some (de_v (pv 9)))) (de_ofF (df_rev (de_slice (de_v (pv 8)) (do_some (de_v (pv 9))) (do_some (de_add (de_v (pv 9)) de_int)))))) (de_slice (de_v (pv 8)) (do_some (de_add (de_v (pv 9)) de_int)) do_none)))
  (dss_cons (ds_append (pv 7) (de_join de_str (de_v (pv 10))))
  (dss_cons (ds_setF (i := 7) sc_law.nd (df_cat (de_vb (pv 7)) (de_ofF (df_lst (da_cons de_str (da_cons de_str (da_cons de_str (da_cons de_str da_nil))))))))
  (dss_cons (ds_frz 7 (ds_for hp (di_seq (de_v (pv 7))) (dg_name (i := 10) sc_law.nd) (dss_end [10] (dss_one (ds_if (dtC (cm_ne (roomU64 hr)) (de_call (ok__law_told T) tk (hr.mono (by first | decide | omega)) T._law_told_.m T._law_told_.Fn.kp T._law_told_.b (da_cons (de_v (pv 10)) da_nil)) (de_call (ok__law_due T) tk (hr.mono (by first | decide | omega)) T._law_due_.m T._law_due_.Fn.kp T._law_due_.b (da_cons (de_v (pv 10)) da_nil)))
  (dss_one (ds_ret de_bl))
  dss_nil)))))
  (dss_one (ds_ret de_bl))))))))))))))))
end
theorem all_mk (hlaw : ∀ ns : List Int, ns.length ≤ 63 → den_law_k51 [.frz ns] = .ok (.bl true)) {l : PySem.W.OpenLaw} {w : World} {K : PySem.W.Frag} {h : Heap} {mg : Str → Option Value} {fa f0 f1 f2 f3 f4 f5 f6 f7 f8 f9 f10 f11 f12 f13 f14 f15 f16 f17 C0 C1 C2 C3 : Addr} {od0 an0 od1 an1 od2 an2 od3 an3 od4 an4 od5 an5 od6 an6 od7 an7 od8 an8 od9 an9 od10 an10 od11 an11 od12 an12 od13 an13 od14 an14 od15 an15 od16 an16 od17 an17 : Option Addr} {sl0 sl1 sl2 sl3 sl4 sl5 sl6 sl7 sl8 sl9 sl10 sl11 sl12 sl13 sl14 sl15 sl16 sl17 : Array (Option Value)} {oc0 kV0 dc0 pm0 cd0 ct0 oc1 kV1 dc1 pm1 cd1 ct1 oc2 kV2 dc2 pm2 cd2 ct2 oc3 kV3 dc3 pm3 cd3 ct3 oc4 kV4 dc4 pm4 cd4 ct4 oc5 kV5 dc5 pm5 cd5 ct5 oc6 kV6 dc6 pm6 cd6 ct6 oc7 kV7 dc7 pm7 cd7 ct7 oc8 kV8 dc8 pm8 cd8 ct8 oc9 kV9 dc9 pm9 cd9 ct9 oc10 kV10 dc10 pm10 cd10 ct10 oc11 kV11 dc11 pm11 cd11 ct11 oc12 kV12 dc12 pm12 cd12 ct12 oc13 kV13 dc13 pm13 cd13 ct13 oc14 kV14 dc14 pm14 cd14 ct14 oc15 kV15 dc15 pm15 cd15 ct15 oc16 kV16 dc16 pm16 cd16 ct16 oc17 kV17 dc17 pm17 cd17 ct17 : Value} {t0 t1 t2 t3 t4 t5 : Tok} (X : K.In h) (G : h.Ns mainGlobals mg) (hfa : mg "law" = some (.ref fa))
    (a0 : PySem.W.nsIn K mainGlobals "or_bar" = some (some (.ref f0)))
    (l0 : K.lookup f0 = some ⟨oc0, od0, .func (PySem.W.fnOf "or_bar" "or_bar" (defArgs st_or_bar) (defBody st_or_bar) (defScope st_or_bar) .none kV0 dc0 pm0 an0 cd0 ct0), sl0⟩) (c0 : PySem.W.codeIn K cd0 "or_bar" = true) (k0 : PySem.W.keepIn K (.ref f0) = true)
    (a1 : PySem.W.nsIn K mainGlobals "box_text" = some (some (.ref f1)))
    (l1 : K.lookup f1 = some ⟨oc1, od1, .func (PySem.W.fnOf "box_text" "box_text" (defArgs st_box_text) (defBody st_box_text) (defScope st_box_text) .none kV1 dc1 pm1 an1 cd1 ct1), sl1⟩) (c1 : PySem.W.codeIn K cd1 "box_text" = true) (k1 : PySem.W.keepIn K (.ref f1) = true)
    (a2 : PySem.W.nsIn K mainGlobals "written" = some (some (.ref f2)))
    (l2 : K.lookup f2 = some ⟨oc2, od2, .func (PySem.W.fnOf "written" "written" (defArgs st_written) (defBody st_written) (defScope st_written) .none kV2 dc2 pm2 an2 cd2 ct2), sl2⟩) (c2 : PySem.W.codeIn K cd2 "written" = true) (k2 : PySem.W.keepIn K (.ref f2) = true)
    (a3 : PySem.W.nsIn K mainGlobals "_law_cell" = some (some (.ref f3)))
    (l3 : K.lookup f3 = some ⟨oc3, od3, .func (PySem.W.fnOf "_law_cell" "_law_cell" (defArgs st__law_cell) (defBody st__law_cell) (defScope st__law_cell) .none kV3 dc3 pm3 an3 cd3 ct3), sl3⟩) (c3 : PySem.W.codeIn K cd3 "_law_cell" = true) (k3 : PySem.W.keepIn K (.ref f3) = true)
    (a4 : PySem.W.nsIn K mainGlobals "_law_drawn" = some (some (.ref f4)))
    (l4 : K.lookup f4 = some ⟨oc4, od4, .func (PySem.W.fnOf "_law_drawn" "_law_drawn" (defArgs st__law_drawn) (defBody st__law_drawn) (defScope st__law_drawn) .none kV4 dc4 pm4 an4 cd4 ct4), sl4⟩) (c4 : PySem.W.codeIn K cd4 "_law_drawn" = true) (k4 : PySem.W.keepIn K (.ref f4) = true)
    (a5 : PySem.W.nsIn K mainGlobals "_law_scene" = some (some (.ref f5)))
    (l5 : K.lookup f5 = some ⟨oc5, od5, .func (PySem.W.fnOf "_law_scene" "_law_scene" (defArgs st__law_scene) (defBody st__law_scene) (defScope st__law_scene) .none kV5 dc5 pm5 an5 cd5 ct5), sl5⟩) (c5 : PySem.W.codeIn K cd5 "_law_scene" = true) (k5 : PySem.W.keepIn K (.ref f5) = true)
    (a6 : PySem.W.nsIn K mainGlobals "text_in" = some (some (.ref f6)))
    (l6 : K.lookup f6 = some ⟨oc6, od6, .func (PySem.W.fnOf "text_in" "text_in" (defArgs st_text_in) (defBody st_text_in) (defScope st_text_in) .none kV6 dc6 pm6 an6 cd6 ct6), sl6⟩) (c6 : PySem.W.codeIn K cd6 "text_in" = true) (k6 : PySem.W.keepIn K (.ref f6) = true)
    (a7 : PySem.W.nsIn K mainGlobals "number_in" = some (some (.ref f7)))
    (l7 : K.lookup f7 = some ⟨oc7, od7, .func (PySem.W.fnOf "number_in" "number_in" (defArgs st_number_in) (defBody st_number_in) (defScope st_number_in) .none kV7 dc7 pm7 an7 cd7 ct7), sl7⟩) (c7 : PySem.W.codeIn K cd7 "number_in" = true) (k7 : PySem.W.keepIn K (.ref f7) = true)
    (a8 : PySem.W.nsIn K mainGlobals "box_in" = some (some (.ref f8)))
    (l8 : K.lookup f8 = some ⟨oc8, od8, .func (PySem.W.fnOf "box_in" "box_in" (defArgs st_box_in) (defBody st_box_in) (defScope st_box_in) .none kV8 dc8 pm8 an8 cd8 ct8), sl8⟩) (c8 : PySem.W.codeIn K cd8 "box_in" = true) (k8 : PySem.W.keepIn K (.ref f8) = true)
    (a9 : PySem.W.nsIn K mainGlobals "is_name" = some (some (.ref f9)))
    (l9 : K.lookup f9 = some ⟨oc9, od9, .func (PySem.W.fnOf "is_name" "is_name" (defArgs st_is_name) (defBody st_is_name) (defScope st_is_name) .none kV9 dc9 pm9 an9 cd9 ct9), sl9⟩) (c9 : PySem.W.codeIn K cd9 "is_name" = true) (k9 : PySem.W.keepIn K (.ref f9) = true)
    (a10 : PySem.W.nsIn K mainGlobals "are_marks" = some (some (.ref f10)))
    (l10 : K.lookup f10 = some ⟨oc10, od10, .func (PySem.W.fnOf "are_marks" "are_marks" (defArgs st_are_marks) (defBody st_are_marks) (defScope st_are_marks) .none kV10 dc10 pm10 an10 cd10 ct10), sl10⟩) (c10 : PySem.W.codeIn K cd10 "are_marks" = true) (k10 : PySem.W.keepIn K (.ref f10) = true)
    (a11 : PySem.W.nsIn K mainGlobals "is_within" = some (some (.ref f11)))
    (l11 : K.lookup f11 = some ⟨oc11, od11, .func (PySem.W.fnOf "is_within" "is_within" (defArgs st_is_within) (defBody st_is_within) (defScope st_is_within) .none kV11 dc11 pm11 an11 cd11 ct11), sl11⟩) (c11 : PySem.W.codeIn K cd11 "is_within" = true) (k11 : PySem.W.keepIn K (.ref f11) = true)
    (a12 : PySem.W.nsIn K mainGlobals "is_box" = some (some (.ref f12)))
    (l12 : K.lookup f12 = some ⟨oc12, od12, .func (PySem.W.fnOf "is_box" "is_box" (defArgs st_is_box) (defBody st_is_box) (defScope st_is_box) .none kV12 dc12 pm12 an12 cd12 ct12), sl12⟩) (c12 : PySem.W.codeIn K cd12 "is_box" = true) (k12 : PySem.W.keepIn K (.ref f12) = true)
    (a13 : PySem.W.nsIn K mainGlobals "is_scene" = some (some (.ref f13)))
    (l13 : K.lookup f13 = some ⟨oc13, od13, .func (PySem.W.fnOf "is_scene" "is_scene" (defArgs st_is_scene) (defBody st_is_scene) (defScope st_is_scene) .none kV13 dc13 pm13 an13 cd13 ct13), sl13⟩) (c13 : PySem.W.codeIn K cd13 "is_scene" = true) (k13 : PySem.W.keepIn K (.ref f13) = true)
    (a14 : PySem.W.nsIn K mainGlobals "read" = some (some (.ref f14)))
    (l14 : K.lookup f14 = some ⟨oc14, od14, .func (PySem.W.fnOf "read" "read" (defArgs st_read) (defBody st_read) (defScope st_read) .none kV14 dc14 pm14 an14 cd14 ct14), sl14⟩) (c14 : PySem.W.codeIn K cd14 "read" = true) (k14 : PySem.W.keepIn K (.ref f14) = true)
    (a15 : PySem.W.nsIn K mainGlobals "_law_told" = some (some (.ref f15)))
    (l15 : K.lookup f15 = some ⟨oc15, od15, .func (PySem.W.fnOf "_law_told" "_law_told" (defArgs st__law_told) (defBody st__law_told) (defScope st__law_told) .none kV15 dc15 pm15 an15 cd15 ct15), sl15⟩) (c15 : PySem.W.codeIn K cd15 "_law_told" = true) (k15 : PySem.W.keepIn K (.ref f15) = true)
    (a16 : PySem.W.nsIn K mainGlobals "_law_due" = some (some (.ref f16)))
    (l16 : K.lookup f16 = some ⟨oc16, od16, .func (PySem.W.fnOf "_law_due" "_law_due" (defArgs st__law_due) (defBody st__law_due) (defScope st__law_due) .none kV16 dc16 pm16 an16 cd16 ct16), sl16⟩) (c16 : PySem.W.codeIn K cd16 "_law_due" = true) (k16 : PySem.W.keepIn K (.ref f16) = true)
    (a17 : PySem.W.nsIn K mainGlobals "law" = some (some (.ref f17)))
    (l17 : K.lookup f17 = some ⟨oc17, od17, .func (PySem.W.fnOf "law" "law" (defArgs st_law) (defBody st_law) (defScope st_law) .none kV17 dc17 pm17 an17 cd17 ct17), sl17⟩) (c17 : PySem.W.codeIn K cd17 "law" = true) (k17 : PySem.W.keepIn K (.ref f17) = true)
    (ea0 : PySem.W.nsIn K mainGlobals "NoBox" = some (some (.ref C0))) (eq0 : PySem.W.excIn K C0 [.type "ValueError", .type "Exception", .type "BaseException", .type "object"] "ValueError.__new__" = true) (ek0 : PySem.W.keepIn K (.ref C0) = true) (eb0 : PySem.W.subIn K (.ref C0) (.type "BaseException") = some true) (et0 : PySem.W.typeIn K (.ref C0) = some (.type "type"))
    (ea1 : PySem.W.nsIn K mainGlobals "NoText" = some (some (.ref C1))) (eq1 : PySem.W.excIn K C1 [.type "ValueError", .type "Exception", .type "BaseException", .type "object"] "ValueError.__new__" = true) (ek1 : PySem.W.keepIn K (.ref C1) = true) (eb1 : PySem.W.subIn K (.ref C1) (.type "BaseException") = some true) (et1 : PySem.W.typeIn K (.ref C1) = some (.type "type"))
    (ea2 : PySem.W.nsIn K mainGlobals "Taken" = some (some (.ref C2))) (eq2 : PySem.W.excIn K C2 [.type "ValueError", .type "Exception", .type "BaseException", .type "object"] "ValueError.__new__" = true) (ek2 : PySem.W.keepIn K (.ref C2) = true) (eb2 : PySem.W.subIn K (.ref C2) (.type "BaseException") = some true) (et2 : PySem.W.typeIn K (.ref C2) = some (.type "type"))
    (ea3 : PySem.W.nsIn K mainGlobals "TouchError" = some (some (.ref C3))) (eq3 : PySem.W.excIn K C3 [.type "ValueError", .type "Exception", .type "BaseException", .type "object"] "ValueError.__new__" = true) (ek3 : PySem.W.keepIn K (.ref C3) = true) (eb3 : PySem.W.subIn K (.ref C3) (.type "BaseException") = some true) (et3 : PySem.W.typeIn K (.ref C3) = some (.type "type"))
    (xn : PySem.W.specialIn K (.builtin "object.__class__") "__get__" = some (some (.builtin "getset_descriptor.__get__"))) (xt : PySem.W.takesIn K (.builtin "object.__class__") = some true)
    (xg0 : PySem.W.findIn K (.ref C0) "__getattribute__" = some (some (.builtin "BaseException.__getattribute__"))) (xa0 : PySem.W.findIn K (.ref C0) "__getattr__" = some none) (xd0 : PySem.W.hasDictIn K C0 = true) (xc0 : PySem.W.findIn K (.ref C0) "__class__" = some (some (.builtin "object.__class__"))) (xm0 : PySem.W.mroIn K C0 (.type "object") = some true) (xl0 : PySem.W.isClsIn K C0 = true) (xs0 : PySem.W.subIn K (.ref C0) (.ref C0) = some true) (xv0 : PySem.W.subIn K (.ref C0) (.type "ValueError") = some true)
    (xg1 : PySem.W.findIn K (.ref C1) "__getattribute__" = some (some (.builtin "BaseException.__getattribute__"))) (xa1 : PySem.W.findIn K (.ref C1) "__getattr__" = some none) (xd1 : PySem.W.hasDictIn K C1 = true) (xc1 : PySem.W.findIn K (.ref C1) "__class__" = some (some (.builtin "object.__class__"))) (xm1 : PySem.W.mroIn K C1 (.type "object") = some true) (xl1 : PySem.W.isClsIn K C1 = true) (xs1 : PySem.W.subIn K (.ref C1) (.ref C1) = some true) (xv1 : PySem.W.subIn K (.ref C1) (.type "ValueError") = some true)
    (xg2 : PySem.W.findIn K (.ref C2) "__getattribute__" = some (some (.builtin "BaseException.__getattribute__"))) (xa2 : PySem.W.findIn K (.ref C2) "__getattr__" = some none) (xd2 : PySem.W.hasDictIn K C2 = true) (xc2 : PySem.W.findIn K (.ref C2) "__class__" = some (some (.builtin "object.__class__"))) (xm2 : PySem.W.mroIn K C2 (.type "object") = some true) (xl2 : PySem.W.isClsIn K C2 = true) (xs2 : PySem.W.subIn K (.ref C2) (.ref C2) = some true) (xv2 : PySem.W.subIn K (.ref C2) (.type "ValueError") = some true)
    (xg3 : PySem.W.findIn K (.ref C3) "__getattribute__" = some (some (.builtin "BaseException.__getattribute__"))) (xa3 : PySem.W.findIn K (.ref C3) "__getattr__" = some none) (xd3 : PySem.W.hasDictIn K C3 = true) (xc3 : PySem.W.findIn K (.ref C3) "__class__" = some (some (.builtin "object.__class__"))) (xm3 : PySem.W.mroIn K C3 (.type "object") = some true) (xl3 : PySem.W.isClsIn K C3 = true) (xs3 : PySem.W.subIn K (.ref C3) (.ref C3) = some true) (xv3 : PySem.W.subIn K (.ref C3) (.type "ValueError") = some true)
    (p0_0 : PySem.W.subIn K (.ref C0) (.ref C0) = some true)
    (p0_1 : PySem.W.subIn K (.ref C0) (.ref C1) = some false)
    (p0_2 : PySem.W.subIn K (.ref C0) (.ref C2) = some false)
    (p0_3 : PySem.W.subIn K (.ref C0) (.ref C3) = some true)
    (p2_0 : PySem.W.subIn K (.ref C2) (.ref C0) = some false)
    (p2_1 : PySem.W.subIn K (.ref C2) (.ref C1) = some false)
    (p2_2 : PySem.W.subIn K (.ref C2) (.ref C2) = some true)
    (p2_3 : PySem.W.subIn K (.ref C2) (.ref C3) = some true)
    (p1_0 : PySem.W.subIn K (.ref C1) (.ref C0) = some false)
    (p1_1 : PySem.W.subIn K (.ref C1) (.ref C1) = some true)
    (p1_2 : PySem.W.subIn K (.ref C1) (.ref C2) = some false)
    (p1_3 : PySem.W.subIn K (.ref C1) (.ref C3) = some true)
    (z0 : PySem.W.nsIn K mainGlobals "ValueError" = some none)
    (z1 : PySem.W.nsIn K mainGlobals "all" = some none)
    (z2 : PySem.W.nsIn K mainGlobals "bool" = some none)
    (z3 : PySem.W.nsIn K mainGlobals "enumerate" = some none)
    (z4 : PySem.W.nsIn K mainGlobals "int" = some none)
    (z5 : PySem.W.nsIn K mainGlobals "isinstance" = some none)
    (z6 : PySem.W.nsIn K mainGlobals "len" = some none)
    (z7 : PySem.W.nsIn K mainGlobals "range" = some none)
    (z8 : PySem.W.nsIn K mainGlobals "set" = some none)
    (z9 : PySem.W.nsIn K mainGlobals "str" = some none)
    (z10 : PySem.W.nsIn K mainGlobals "tuple" = some none)
    (z11 : PySem.W.nsIn K mainGlobals "zip" = some none)
    (gcn0 : PySem.W.nsIn K mainGlobals "FIGURES" = some (some (.str "0123456789" t0)))
    (gcn1 : PySem.W.nsIn K mainGlobals "LETTERS" = some (some (.str "abcdefghijklmnopqrstuvwxyz" t1)))
    (gcn2 : PySem.W.nsIn K mainGlobals "MARKS" = some (some (.str "cfhl" t2)))
    (gcn3 : PySem.W.nsIn K mainGlobals "MOST_BOXES" = some (some (.int 12 t3)))
    (gcn4 : PySem.W.nsIn K mainGlobals "MOST_PLACE" = some (some (.int 20 t4)))
    (gcn5 : PySem.W.nsIn K mainGlobals "MOST_SIZE" = some (some (.int 20 t5))) :
    ∃ fd : FuncData, (∀ (s : Shared) (v : Value), BindsTo s fd ⟨[v], []⟩ [("_law_script", v)]) ∧ ∀ base : Heap, K.In base → base.Ns mainGlobals mg → FnOk l.prog w K mg base (L2.CX l.prog w) 6 fa fd ["_law_script"] (spLaw K) := by
  have e := hfa.symm.trans (PySem.W.mg_of X G a17)
  cases e
  have T : Σ' T : Txt K mg, T.law_.f = fa ∧ T.law_.fd = PySem.W.fnOf "law" "law" (defArgs st_law) (defBody st_law) (defScope st_law) .none kV17 dc17 pm17 an17 cd17 ct17 := ⟨{
    or_bar_ := ⟨_, _, fun_mk (st := st_or_bar) l0 c0 k0, PySem.W.mg_of X G a0, (fun_mk (st := st_or_bar) l0 c0 k0).binds (ps := ["text"]) fun _ _ _ _ _ _ us hl => match us, hl with | [_], _ => rfl⟩,
    box_text_ := ⟨_, _, fun_mk (st := st_box_text) l1 c1 k1, PySem.W.mg_of X G a1, (fun_mk (st := st_box_text) l1 c1 k1).binds (ps := ["box"]) fun _ _ _ _ _ _ us hl => match us, hl with | [_], _ => rfl⟩,
    written_ := ⟨_, _, fun_mk (st := st_written) l2 c2 k2, PySem.W.mg_of X G a2, (fun_mk (st := st_written) l2 c2 k2).binds (ps := ["scene"]) fun _ _ _ _ _ _ us hl => match us, hl with | [_], _ => rfl⟩,
    _law_cell_ := ⟨_, _, fun_mk (st := st__law_cell) l3 c3 k3, PySem.W.mg_of X G a3, (fun_mk (st := st__law_cell) l3 c3 k3).binds (ps := ["_law_script", "_law_k"]) fun _ _ _ _ _ _ us hl => match us, hl with | [_, _], _ => rfl⟩,
    _law_drawn_ := ⟨_, _, fun_mk (st := st__law_drawn) l4 c4 k4, PySem.W.mg_of X G a4, (fun_mk (st := st__law_drawn) l4 c4 k4).binds (ps := ["_law_script", "_law_k", "_law_many"]) fun _ _ _ _ _ _ us hl => match us, hl with | [_, _, _], _ => rfl⟩,
    _law_scene_ := ⟨_, _, fun_mk (st := st__law_scene) l5 c5 k5, PySem.W.mg_of X G a5, (fun_mk (st := st__law_scene) l5 c5 k5).binds (ps := ["_law_script", "_law_at"]) fun _ _ _ _ _ _ us hl => match us, hl with | [_, _], _ => rfl⟩,
    text_in_ := ⟨_, _, fun_mk (st := st_text_in) l6 c6 k6, PySem.W.mg_of X G a6, (fun_mk (st := st_text_in) l6 c6 k6).binds (ps := ["word"]) fun _ _ _ _ _ _ us hl => match us, hl with | [_], _ => rfl⟩,
    number_in_ := ⟨_, _, fun_mk (st := st_number_in) l7 c7 k7, PySem.W.mg_of X G a7, (fun_mk (st := st_number_in) l7 c7 k7).binds (ps := ["word"]) fun _ _ _ _ _ _ us hl => match us, hl with | [_], _ => rfl⟩,
    box_in_ := ⟨_, _, fun_mk (st := st_box_in) l8 c8 k8, PySem.W.mg_of X G a8, (fun_mk (st := st_box_in) l8 c8 k8).binds (ps := ["line"]) fun _ _ _ _ _ _ us hl => match us, hl with | [_], _ => rfl⟩,
    is_name_ := ⟨_, _, fun_mk (st := st_is_name) l9 c9 k9, PySem.W.mg_of X G a9, (fun_mk (st := st_is_name) l9 c9 k9).binds (ps := ["thing"]) fun _ _ _ _ _ _ us hl => match us, hl with | [_], _ => rfl⟩,
    are_marks_ := ⟨_, _, fun_mk (st := st_are_marks) l10 c10 k10, PySem.W.mg_of X G a10, (fun_mk (st := st_are_marks) l10 c10 k10).binds (ps := ["thing"]) fun _ _ _ _ _ _ us hl => match us, hl with | [_], _ => rfl⟩,
    is_within_ := ⟨_, _, fun_mk (st := st_is_within) l11 c11 k11, PySem.W.mg_of X G a11, (fun_mk (st := st_is_within) l11 c11 k11).binds (ps := ["thing", "low", "high"]) fun _ _ _ _ _ _ us hl => match us, hl with | [_, _, _], _ => rfl⟩,
    is_box_ := ⟨_, _, fun_mk (st := st_is_box) l12 c12 k12, PySem.W.mg_of X G a12, (fun_mk (st := st_is_box) l12 c12 k12).binds (ps := ["thing"]) fun _ _ _ _ _ _ us hl => match us, hl with | [_], _ => rfl⟩,
    is_scene_ := ⟨_, _, fun_mk (st := st_is_scene) l13 c13 k13, PySem.W.mg_of X G a13, (fun_mk (st := st_is_scene) l13 c13 k13).binds (ps := ["thing"]) fun _ _ _ _ _ _ us hl => match us, hl with | [_], _ => rfl⟩,
    read_ := ⟨_, _, fun_mk (st := st_read) l14 c14 k14, PySem.W.mg_of X G a14, (fun_mk (st := st_read) l14 c14 k14).binds (ps := ["text"]) fun _ _ _ _ _ _ us hl => match us, hl with | [_], _ => rfl⟩,
    _law_told_ := ⟨_, _, fun_mk (st := st__law_told) l15 c15 k15, PySem.W.mg_of X G a15, (fun_mk (st := st__law_told) l15 c15 k15).binds (ps := ["_law_text"]) fun _ _ _ _ _ _ us hl => match us, hl with | [_], _ => rfl⟩,
    _law_due_ := ⟨_, _, fun_mk (st := st__law_due) l16 c16 k16, PySem.W.mg_of X G a16, (fun_mk (st := st__law_due) l16 c16 k16).binds (ps := ["_law_text"]) fun _ _ _ _ _ _ us hl => match us, hl with | [_], _ => rfl⟩,
    law_ := ⟨_, _, fun_mk (st := st_law) l17 c17 k17, PySem.W.mg_of X G a17, (fun_mk (st := st_law) l17 c17 k17).binds (ps := ["_law_script"]) fun _ _ _ _ _ _ us hl => match us, hl with | [_], _ => rfl⟩,
    NoBox_ := ⟨C0, eq0, PySem.W.mg_of X G ea0, ek0, eb0, et0⟩,
    NoText_ := ⟨C1, eq1, PySem.W.mg_of X G ea1, ek1, eb1, et1⟩,
    Taken_ := ⟨C2, eq2, PySem.W.mg_of X G ea2, ek2, eb2, et2⟩,
    TouchError_ := ⟨C3, eq3, PySem.W.mg_of X G ea3, ek3, eb3, et3⟩,
    NoBox_i := ⟨⟨xg0, xa0, eb0, xd0, xc0, xn, xt, xm0⟩, xl0, et0, xs0, xv0⟩,
    NoText_i := ⟨⟨xg1, xa1, eb1, xd1, xc1, xn, xt, xm1⟩, xl1, et1, xs1, xv1⟩,
    Taken_i := ⟨⟨xg2, xa2, eb2, xd2, xc2, xn, xt, xm2⟩, xl2, et2, xs2, xv2⟩,
    TouchError_i := ⟨⟨xg3, xa3, eb3, xd3, xc3, xn, xt, xm3⟩, xl3, et3, xs3, xv3⟩,
    s_NoBox_NoBox := p0_0.trans (congrArg some (by decide +kernel)),
    s_NoBox_NoText := p0_1.trans (congrArg some (by decide +kernel)),
    s_NoBox_Taken := p0_2.trans (congrArg some (by decide +kernel)),
    s_NoBox_TouchError := p0_3.trans (congrArg some (by decide +kernel)),
    s_Taken_NoBox := p2_0.trans (congrArg some (by decide +kernel)),
    s_Taken_NoText := p2_1.trans (congrArg some (by decide +kernel)),
    s_Taken_Taken := p2_2.trans (congrArg some (by decide +kernel)),
    s_Taken_TouchError := p2_3.trans (congrArg some (by decide +kernel)),
    s_NoText_NoBox := p1_0.trans (congrArg some (by decide +kernel)),
    s_NoText_NoText := p1_1.trans (congrArg some (by decide +kernel)),
    s_NoText_Taken := p1_2.trans (congrArg some (by decide +kernel)),
    s_NoText_TouchError := p1_3.trans (congrArg some (by decide +kernel)),
    ValueError_ := PySem.W.mg_none_of X G z0,
    all_ := PySem.W.mg_none_of X G z1,
    bool_ := PySem.W.mg_none_of X G z2,
    enumerate_ := PySem.W.mg_none_of X G z3,
    int_ := PySem.W.mg_none_of X G z4,
    isinstance_ := PySem.W.mg_none_of X G z5,
    len_ := PySem.W.mg_none_of X G z6,
    range_ := PySem.W.mg_none_of X G z7,
    set_ := PySem.W.mg_none_of X G z8,
    str_ := PySem.W.mg_none_of X G z9,
    tuple_ := PySem.W.mg_none_of X G z10,
    zip_ := PySem.W.mg_none_of X G z11,
    FIGURES_ := ⟨_, PySem.W.mg_of X G gcn0⟩,
    LETTERS_ := ⟨_, PySem.W.mg_of X G gcn1⟩,
    MARKS_ := ⟨_, PySem.W.mg_of X G gcn2⟩,
    MOST_BOXES_ := ⟨_, PySem.W.mg_of X G gcn3⟩,
    MOST_PLACE_ := ⟨_, PySem.W.mg_of X G gcn4⟩,
    MOST_SIZE_ := ⟨_, PySem.W.mg_of X G gcn5⟩
  }, rfl, rfl⟩
  obtain ⟨T, h1, h2⟩ := T
  refine ⟨PySem.W.fnOf "law" "law" (defArgs st_law) (defBody st_law) (defScope st_law) .none kV17 dc17 pm17 an17 cd17 ct17, fun s v => .of_eq rfl, fun base _ _ => ?_⟩
  have q := (ok_law (P := l.prog) (w := w) (base := base) T).imp (law_imp hlaw)
  rw [h1, h2] at q
  exact q
theorem walk {l : PySem.W.OpenLaw} {q : Program} {loose : List Str} {XP : (Str → Option Value) → Heap → Prop} {YP : World → Heap → Prop} {d : DefRec} {K : Params → PySem.W.Frag} (hn : l.most = some 63) (hdf : d.params.defaults = [])
    (hY : ∀ (w : World) (h : Heap), YP w h → (K w.params).In h)
    (F : ∀ (w : World) (mg : Str → Option Value) (fa : Addr) (h : Heap), (K w.params).In h → h.Ns mainGlobals mg → mg d.name = some (.ref fa) →
      ∃ fd : FuncData, (∀ (s : Shared) (u : Value), BindsTo s fd ⟨[u], []⟩ [("_law_script", u)]) ∧ ∀ base : Heap, (K w.params).In base → base.Ns mainGlobals mg → FnOk l.prog w (K w.params) mg base (L2.CX l.prog w) 6 fa fd ["_law_script"] (spLaw (K w.params))) :
    PySem.W.WalkO q loose XP YP l.row.toRowW d [] (fun f vs => PySem.call f vs) :=
  L2.walk_of (n := 63) (k := 6) (x := "_law_script") (CX := fun w => L2.CX l.prog w) (sp := fun w => spLaw (K w.params)) hn (by decide) hdf ⟨rfl, by decide, by decide⟩ hY F (fun _ _ a ns hl _ hS => ⟨a, ns, rfl, hS, hl, fun _ => rfl⟩)
    fun _ _ _ _ _ z => by obtain ⟨_, _, _, _, _, _, _, _, _, _, _, _, z⟩ := z; exact z
end K51

theorem K51.law_true : ∀ ns : List Int, ns.length ≤ 63 → Dn.den_law_k51 [.frz ns] = .ok (.bl true) := Ty.law51_true

open PySem PySem.W PyProof.Rows in
set_option maxRecDepth 100000 in
set_option maxHeartbeats 0 in
theorem PySem.Challenge.cw_touchtree_k51_whole_read_holds : PySem.Challenge.rw_touchtree_k51_whole_read.Holds := by
  w_on; o_law; k_head; (case hw => w_witness2)
  k_fill
  refine K51.walk (l := PySem.Challenge.rw_touchtree_k51_whole_read) rfl rfl (fun w h Y => PySem.W.kIn_of Y) ?F
  case F =>
    intro w mg fa h KX G hmg
    refine' K51.all_mk K51.law_true KX G hmg ?a0 ?l0 ?c0 ?k0 ?a1 ?l1 ?c1 ?k1 ?a2 ?l2 ?c2 ?k2 ?a3 ?l3 ?c3 ?k3 ?a4 ?l4 ?c4 ?k4 ?a5 ?l5 ?c5 ?k5 ?a6 ?l6 ?c6 ?k6 ?a7 ?l7 ?c7 ?k7 ?a8 ?l8 ?c8 ?k8 ?a9 ?l9 ?c9 ?k9 ?a10 ?l10 ?c10 ?k10 ?a11 ?l11 ?c11 ?k11 ?a12 ?l12 ?c12 ?k12 ?a13 ?l13 ?c13 ?k13 ?a14 ?l14 ?c14 ?k14 ?a15 ?l15 ?c15 ?k15 ?a16 ?l16 ?c16 ?k16 ?a17 ?l17 ?c17 ?k17 ?ea0 ?eq0 ?ek0 ?eb0 ?et0 ?ea1 ?eq1 ?ek1 ?eb1 ?et1 ?ea2 ?eq2 ?ek2 ?eb2 ?et2 ?ea3 ?eq3 ?ek3 ?eb3 ?et3 ?xn ?xt ?xg0 ?xa0 ?xd0 ?xc0 ?xm0 ?xl0 ?xs0 ?xv0 ?xg1 ?xa1 ?xd1 ?xc1 ?xm1 ?xl1 ?xs1 ?xv1 ?xg2 ?xa2 ?xd2 ?xc2 ?xm2 ?xl2 ?xs2 ?xv2 ?xg3 ?xa3 ?xd3 ?xc3 ?xm3 ?xl3 ?xs3 ?xv3 ?p0_0 ?p0_1 ?p0_2 ?p0_3 ?p2_0 ?p2_1 ?p2_2 ?p2_3 ?p1_0 ?p1_1 ?p1_2 ?p1_3 ?z0 ?z1 ?z2 ?z3 ?z4 ?z5 ?z6 ?z7 ?z8 ?z9 ?z10 ?z11 ?gcn0 ?gcn1 ?gcn2 ?gcn3 ?gcn4 ?gcn5
    (case a0 => k_is)
    (case l0 => k_is)
    (case c0 => k_is)
    (case k0 => k_is)
    (case a1 => k_is)
    (case l1 => k_is)
    (case c1 => k_is)
    (case k1 => k_is)
    (case a2 => k_is)
    (case l2 => k_is)
    (case c2 => k_is)
    (case k2 => k_is)
    (case a3 => k_is)
    (case l3 => k_is)
    (case c3 => k_is)
    (case k3 => k_is)
    (case a4 => k_is)
    (case l4 => k_is)
    (case c4 => k_is)
    (case k4 => k_is)
    (case a5 => k_is)
    (case l5 => k_is)
    (case c5 => k_is)
    (case k5 => k_is)
    (case a6 => k_is)
    (case l6 => k_is)
    (case c6 => k_is)
    (case k6 => k_is)
    (case a7 => k_is)
    (case l7 => k_is)
    (case c7 => k_is)
    (case k7 => k_is)
    (case a8 => k_is)
    (case l8 => k_is)
    (case c8 => k_is)
    (case k8 => k_is)
    (case a9 => k_is)
    (case l9 => k_is)
    (case c9 => k_is)
    (case k9 => k_is)
    (case a10 => k_is)
    (case l10 => k_is)
    (case c10 => k_is)
    (case k10 => k_is)
    (case a11 => k_is)
    (case l11 => k_is)
    (case c11 => k_is)
    (case k11 => k_is)
    (case a12 => k_is)
    (case l12 => k_is)
    (case c12 => k_is)
    (case k12 => k_is)
    (case a13 => k_is)
    (case l13 => k_is)
    (case c13 => k_is)
    (case k13 => k_is)
    (case a14 => k_is)
    (case l14 => k_is)
    (case c14 => k_is)
    (case k14 => k_is)
    (case a15 => k_is)
    (case l15 => k_is)
    (case c15 => k_is)
    (case k15 => k_is)
    (case a16 => k_is)
    (case l16 => k_is)
    (case c16 => k_is)
    (case k16 => k_is)
    (case a17 => k_is)
    (case l17 => k_is)
    (case c17 => k_is)
    (case k17 => k_is)
    (case ea0 => k_is)
    (case eq0 => k_exc)
    (case ek0 => k_is)
    (case eb0 => k_is)
    (case et0 => k_is)
    (case ea1 => k_is)
    (case eq1 => k_exc)
    (case ek1 => k_is)
    (case eb1 => k_is)
    (case et1 => k_is)
    (case ea2 => k_is)
    (case eq2 => k_exc)
    (case ek2 => k_is)
    (case eb2 => k_is)
    (case et2 => k_is)
    (case ea3 => k_is)
    (case eq3 => k_exc)
    (case ek3 => k_is)
    (case eb3 => k_is)
    (case et3 => k_is)
    (case xn => k_is)
    (case xt => k_is)
    (case xg0 => k_is)
    (case xa0 => k_is)
    (case xd0 => k_is)
    (case xc0 => k_is)
    (case xm0 => k_is)
    (case xl0 => k_is)
    (case xs0 => first | rfl | k_is)
    (case xv0 => k_is)
    (case xg1 => k_is)
    (case xa1 => k_is)
    (case xd1 => k_is)
    (case xc1 => k_is)
    (case xm1 => k_is)
    (case xl1 => k_is)
    (case xs1 => first | rfl | k_is)
    (case xv1 => k_is)
    (case xg2 => k_is)
    (case xa2 => k_is)
    (case xd2 => k_is)
    (case xc2 => k_is)
    (case xm2 => k_is)
    (case xl2 => k_is)
    (case xs2 => first | rfl | k_is)
    (case xv2 => k_is)
    (case xg3 => k_is)
    (case xa3 => k_is)
    (case xd3 => k_is)
    (case xc3 => k_is)
    (case xm3 => k_is)
    (case xl3 => k_is)
    (case xs3 => first | rfl | k_is)
    (case xv3 => k_is)
    (case p0_0 => k_is)
    (case p0_1 => k_is)
    (case p0_2 => k_is)
    (case p0_3 => k_is)
    (case p2_0 => k_is)
    (case p2_1 => k_is)
    (case p2_2 => k_is)
    (case p2_3 => k_is)
    (case p1_0 => k_is)
    (case p1_1 => k_is)
    (case p1_2 => k_is)
    (case p1_3 => k_is)
    (case z0 => k_is)
    (case z1 => k_is)
    (case z2 => k_is)
    (case z3 => k_is)
    (case z4 => k_is)
    (case z5 => k_is)
    (case z6 => k_is)
    (case z7 => k_is)
    (case z8 => k_is)
    (case z9 => k_is)
    (case z10 => k_is)
    (case z11 => k_is)
    (case gcn0 => k_is)
    (case gcn1 => k_is)
    (case gcn2 => k_is)
    (case gcn3 => k_is)
    (case gcn4 => k_is)
    (case gcn5 => k_is)
#print axioms PySem.Challenge.cw_touchtree_k51_whole_read_holds

