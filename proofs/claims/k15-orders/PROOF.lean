import PyProof.Rows.All
import Wide.All
import OpenK.AllK
import Wide.FinOn
import HandS.ForMost
import HandS.ForExc
import HandS.Deep
import HandS.Flow
import HandS.Zip
import HandS.TryMany
import HandS.TupAny
import HandS.IsInst
import HandS.Codes
import HandS.Style
import KE.SortData
import HandS.More
import HandS.Set
import HandS.SetFor
import HandS.Defaults
import HandS.HeadHook1
import HandS.HeadHook2
import HandS.Head0
import HandS.Head1
import HandS.Head2
import HandS.HeadEnd
import PyProof.P3Eq
import PySem.Challenge.RW_latebring_k15_orders
set_option Elab.async false
set_option linter.all false
set_option maxRecDepth 100000
/-! DL1: data trees over the heap; an environment of trees. -/
namespace DL
open PySem L2

/-- a datum as a tree -/
inductive D where
  | non | bl (b : Bool) | int (i : Int) | str (x : Str) | ty (n : String)
  | tup (ds : List D) | lst (ds : List D) | fz (ds : List D)
  | dK (ks : List Key) (ds : List D) | dT (ks : List (List Key)) (ds : List D)
  | ins (c : Str) (ns : List Str) (ds : List D)

structure Ctx where
  K : PySem.W.Frag
  H0 : Hp
  io : List Addr
  iov : Option V
  cls : Str → Addr

/-- the list at a: given and never changed -/
def FzL (C : Ctx) (H : Hp) (a : Addr) (vs : List V) : Prop := (∃ o, H a = some (.frz o (.lst vs))) ∨
  ∃ (o : Obj) (its : Array Value) (n : Nat), C.K.lookup a = some o ∧ o.cls = .type "list" ∧ o.dict = none ∧ o.data = .seq its n ∧ its.size ≤ sizeLine ∧ Vals vs its.toList
mutual
/-- v stands for the datum; M: its lists, dicts, instances -/
def Rep (C : Ctx) (H : Hp) : D → V → List Addr → Prop
  | .non, v, M => v = .non ∧ M = []
  | .bl b, v, M => v = .bl b ∧ M = []
  | .int i, v, M => v = .int i ∧ M = []
  | .str x, v, M => v = .str x ∧ M = []
  | .ty n, v, M => v = .ty n ∧ M = []
  | .tup ds, v, M => ∃ a vs, v = .ref a ∧ H a = some (.tup vs) ∧ ds.length ≤ sizeLine ∧ RepL C H ds vs M
  | .lst ds, v, M => ∃ a vs M', v = .ref a ∧ H a = some (.lst vs) ∧ ds.length ≤ sizeLine ∧ RepL C H ds vs M' ∧ M = a :: M'
  | .fz ds, v, M => ∃ a vs, v = .ref a ∧ FzL C H a vs ∧ ds.length ≤ sizeLine ∧ RepL C H ds vs [] ∧ M = []
  | .dK ks ds, v, M => ∃ a kvs M', v = .ref a ∧ Rd H a (.dK kvs) ∧ ks = kvs.map (·.1) ∧ ds.length ≤ sizeLine ∧ RepL C H ds (kvs.map (·.2)) M' ∧ M = a :: M'
  | .dT ks ds, v, M => ∃ a kvs M', v = .ref a ∧ Rd H a (.dT kvs) ∧ ks = kvs.map (·.1) ∧ ds.length ≤ sizeLine ∧ RepL C H ds (kvs.map (·.2)) M' ∧ M = a :: M'
  | .ins c ns ds, v, M => ∃ a dx fs M', v = .ref a ∧ H a = some (.ins (C.cls c) dx fs) ∧ ns = fs.map (·.1) ∧ RepL C H ds (fs.map (·.2)) M' ∧ M = a :: M'
def RepL (C : Ctx) (H : Hp) : List D → List V → List Addr → Prop
  | [], vs, M => vs = [] ∧ M = []
  | d :: ds, vs, M => ∃ v r M1 M2, vs = v :: r ∧ Rep C H d v M1 ∧ RepL C H ds r M2 ∧ M = M1 ++ M2
end

def isTup : HO → Bool
  | .tup _ => true
  | _ => false

/-- the cells that a tree leans on are kept -/
def KeepOn (M : List Addr) (H H' : Hp) : Prop := (∀ a o, a ∈ M → H a = some o → H' a = some o) ∧ (∀ a vs, H a = some (.tup vs) → H' a = some (.tup vs)) ∧ ∀ a o vs, H a = some (.frz o (.lst vs)) → H' a = some (.frz o (.lst vs))
theorem KeepOn.sub {M N : List Addr} {H H' : Hp} (k : KeepOn M H H') (h : ∀ a ∈ N, a ∈ M) : KeepOn N H H' := ⟨fun a o m e => k.1 a o (h a m) e, k.2⟩
theorem KeepOn.rd {M : List Addr} {H H' : Hp} (k : KeepOn M H H') {a : Addr} {u : HO} (h : a ∈ M) (r : Rd H a u) : Rd H' a u := by
  rcases r with r | ⟨o, r⟩
  · exact .inl (k.1 a _ h r)
  · exact .inr ⟨o, k.1 a _ h r⟩
theorem KeepOn.same {M : List Addr} {H H' : Hp} (s : Same H H') : KeepOn M H H' := ⟨fun a o _ e => s a o e, fun a vs e => s a _ e, fun a o vs e => s a _ e⟩

theorem FzL.sq {C : Ctx} {H : Hp} {a : Addr} {vs : List V} (h : FzL C H a vs) : SqL C.K H a vs := h.imp (fun ⟨o, e⟩ => .inr ⟨o, e⟩) id
mutual
theorem Rep.keep {C : Ctx} {H H' : Hp} : ∀ {d : D} {v : V} {M : List Addr}, Rep C H d v M → KeepOn M H H' → Rep C H' d v M
  | .non, _, _, h, _ => h
  | .bl _, _, _, h, _ => h
  | .int _, _, _, h, _ => h
  | .str _, _, _, h, _ => h
  | .ty _, _, _, h, _ => h
  | .tup ds, v, M, h, k => by
    obtain ⟨a, vs, rfl, e, z, r⟩ := h
    exact ⟨a, vs, rfl, k.2.1 a vs e, z, RepL.keep r k⟩
  | .lst ds, v, M, h, k => by
    obtain ⟨a, vs, M', rfl, e, z, r, rfl⟩ := h
    exact ⟨a, vs, M', rfl, k.1 a _ (by simp) e, z, RepL.keep r (k.sub fun b hb => List.mem_cons_of_mem _ hb), rfl⟩
  | .fz ds, v, M, h, k => by
    obtain ⟨a, vs, rfl, e, z, r, rfl⟩ := h
    exact ⟨a, vs, rfl, e.imp (fun ⟨o, e⟩ => ⟨o, k.2.2 a o vs e⟩) id, z, RepL.keep r k, rfl⟩
  | .dK ks ds, v, M, h, k => by
    obtain ⟨a, kvs, M', rfl, e, q, z, r, rfl⟩ := h
    exact ⟨a, kvs, M', rfl, k.rd (by simp) e, q, z, RepL.keep r (k.sub fun b hb => List.mem_cons_of_mem _ hb), rfl⟩
  | .dT ks ds, v, M, h, k => by
    obtain ⟨a, kvs, M', rfl, e, q, z, r, rfl⟩ := h
    exact ⟨a, kvs, M', rfl, k.rd (by simp) e, q, z, RepL.keep r (k.sub fun b hb => List.mem_cons_of_mem _ hb), rfl⟩
  | .ins c ns ds, v, M, h, k => by
    obtain ⟨a, dx, fs, M', rfl, e, q, r, rfl⟩ := h
    exact ⟨a, dx, fs, M', rfl, k.1 a _ (by simp) e, q, RepL.keep r (k.sub fun b hb => List.mem_cons_of_mem _ hb), rfl⟩
theorem RepL.keep {C : Ctx} {H H' : Hp} : ∀ {ds : List D} {vs : List V} {M : List Addr}, RepL C H ds vs M → KeepOn M H H' → RepL C H' ds vs M
  | [], _, _, h, _ => h
  | d :: ds, vs, M, h, k => by
    obtain ⟨v, r, M1, M2, rfl, h1, h2, rfl⟩ := h
    exact ⟨v, r, M1, M2, rfl, Rep.keep h1 (k.sub fun b hb => List.mem_append_left _ hb), RepL.keep h2 (k.sub fun b hb => List.mem_append_right _ hb), rfl⟩
end
theorem Rep.same {C : Ctx} {H H' : Hp} {d : D} {v : V} {M : List Addr} (h : Rep C H d v M) (s : Same H H') : Rep C H' d v M := h.keep (.same s)
theorem RepL.same {C : Ctx} {H H' : Hp} {ds : List D} {vs : List V} {M : List Addr} (h : RepL C H ds vs M) (s : Same H H') : RepL C H' ds vs M := h.keep (.same s)

theorem Rd.uniqL {H : Hp} {a : Addr} {xs ys : List V} (h : Rd H a (.lst xs)) (k : Rd H a (.lst ys)) : xs = ys := by
  rcases h with h | ⟨o, h⟩ <;> rcases k with k | ⟨o', k⟩ <;> rw [h] at k <;> cases k <;> rfl
theorem Rd.uniqK {H : Hp} {a : Addr} {xs ys : List (Key × V)} (h : Rd H a (.dK xs)) (k : Rd H a (.dK ys)) : xs = ys := by
  rcases h with h | ⟨o, h⟩ <;> rcases k with k | ⟨o', k⟩ <;> rw [h] at k <;> cases k <;> rfl
theorem Rd.uniqT {H : Hp} {a : Addr} {xs ys : List (List Key × V)} (h : Rd H a (.dT xs)) (k : Rd H a (.dT ys)) : xs = ys := by
  rcases h with h | ⟨o, h⟩ <;> rcases k with k | ⟨o', k⟩ <;> rw [h] at k <;> cases k <;> rfl

mutual
theorem Rep.uniq {C : Ctx} {H : Hp} : ∀ {d : D} {v : V} {M N : List Addr}, Rep C H d v M → Rep C H d v N → M = N
  | .non, _, _, _, h, k => h.2.trans k.2.symm
  | .bl _, _, _, _, h, k => h.2.trans k.2.symm
  | .int _, _, _, _, h, k => h.2.trans k.2.symm
  | .str _, _, _, _, h, k => h.2.trans k.2.symm
  | .ty _, _, _, _, h, k => h.2.trans k.2.symm
  | .tup ds, v, M, N, h, k => by
    obtain ⟨a, vs, rfl, e, _, r⟩ := h
    obtain ⟨a', vs', e1, e', _, r'⟩ := k
    cases e1
    rw [e] at e'; cases e'
    exact RepL.uniq r r'
  | .lst ds, v, M, N, h, k => by
    obtain ⟨a, vs, M', rfl, e, _, r, rfl⟩ := h
    obtain ⟨a', vs', N', e1, e', _, r', rfl⟩ := k
    cases e1
    rw [e] at e'; cases e'
    rw [RepL.uniq r r']
  | .fz ds, v, M, N, h, k => by
    obtain ⟨_, _, _, _, _, _, rfl⟩ := h
    obtain ⟨_, _, _, _, _, _, rfl⟩ := k
    rfl
  | .dK ks ds, v, M, N, h, k => by
    obtain ⟨a, vs, M', rfl, e, _, _, r, rfl⟩ := h
    obtain ⟨a', vs', N', e1, e', _, _, r', rfl⟩ := k
    cases e1
    rw [Rd.uniqK e e'] at r
    rw [RepL.uniq r r']
  | .dT ks ds, v, M, N, h, k => by
    obtain ⟨a, vs, M', rfl, e, _, _, r, rfl⟩ := h
    obtain ⟨a', vs', N', e1, e', _, _, r', rfl⟩ := k
    cases e1
    rw [Rd.uniqT e e'] at r
    rw [RepL.uniq r r']
  | .ins c ns ds, v, M, N, h, k => by
    obtain ⟨a, dx, fs, M', rfl, e, _, r, rfl⟩ := h
    obtain ⟨a', dx', fs', N', e1, e', _, r', rfl⟩ := k
    cases e1
    rw [e] at e'; cases e'
    rw [RepL.uniq r r']
theorem RepL.uniq {C : Ctx} {H : Hp} : ∀ {ds : List D} {vs : List V} {M N : List Addr}, RepL C H ds vs M → RepL C H ds vs N → M = N
  | [], _, _, _, h, k => h.2.trans k.2.symm
  | d :: ds, vs, M, N, h, k => by
    obtain ⟨v, r, M1, M2, rfl, h1, h2, rfl⟩ := h
    obtain ⟨v', r', N1, N2, e, k1, k2, rfl⟩ := k
    cases e
    rw [Rep.uniq h1 k1, RepL.uniq h2 k2]
end

theorem rdSome {H : Hp} {a : Addr} {u : HO} (h : Rd H a u) : ∃ o, H a = some o := by
  rcases h with h | ⟨o, h⟩ <;> exact ⟨_, h⟩
mutual
/-- every node is tracked -/
theorem Rep.dom {C : Ctx} {H : Hp} : ∀ {d : D} {v : V} {M : List Addr}, Rep C H d v M → ∀ a ∈ M, ∃ o, H a = some o
  | .non, _, _, h => by intro a m; rw [h.2] at m; cases m
  | .bl _, _, _, h => by intro a m; rw [h.2] at m; cases m
  | .int _, _, _, h => by intro a m; rw [h.2] at m; cases m
  | .str _, _, _, h => by intro a m; rw [h.2] at m; cases m
  | .ty _, _, _, h => by intro a m; rw [h.2] at m; cases m
  | .tup ds, v, M, h => by
    obtain ⟨a, vs, rfl, e, _, r⟩ := h
    exact RepL.dom r
  | .lst ds, v, M, h => by
    obtain ⟨a, vs, M', rfl, e, _, r, rfl⟩ := h
    intro b m
    rcases List.mem_cons.mp m with rfl | m
    · exact ⟨_, e⟩
    · exact RepL.dom r b m
  | .fz ds, v, M, h => by
    obtain ⟨_, _, _, _, _, _, rfl⟩ := h
    exact fun b m => nomatch m
  | .dK ks ds, v, M, h => by
    obtain ⟨a, vs, M', rfl, e, _, _, r, rfl⟩ := h
    intro b m
    rcases List.mem_cons.mp m with rfl | m
    · exact rdSome e
    · exact RepL.dom r b m
  | .dT ks ds, v, M, h => by
    obtain ⟨a, vs, M', rfl, e, _, _, r, rfl⟩ := h
    intro b m
    rcases List.mem_cons.mp m with rfl | m
    · exact rdSome e
    · exact RepL.dom r b m
  | .ins c ns ds, v, M, h => by
    obtain ⟨a, dx, fs, M', rfl, e, _, r, rfl⟩ := h
    intro b m
    rcases List.mem_cons.mp m with rfl | m
    · exact ⟨_, e⟩
    · exact RepL.dom r b m
theorem RepL.dom {C : Ctx} {H : Hp} : ∀ {ds : List D} {vs : List V} {M : List Addr}, RepL C H ds vs M → ∀ a ∈ M, ∃ o, H a = some o
  | [], _, _, h => by intro a m; rw [h.2] at m; cases m
  | d :: ds, vs, M, h => by
    obtain ⟨v, r, M1, M2, rfl, h1, h2, rfl⟩ := h
    intro a m
    rcases List.mem_append.mp m with m | m
    · exact Rep.dom h1 a m
    · exact RepL.dom h2 a m
end
mutual
/-- no list, dict, instance within -/
def imm : D → Bool
  | .tup ds => immL ds
  | .fz ds => immL ds
  | .lst _ => false
  | .dK _ _ => false
  | .dT _ _ => false
  | .ins _ _ _ => false
  | _ => true
def immL : List D → Bool
  | [] => true
  | d :: ds => imm d && immL ds
end
mutual
theorem Rep.imm {C : Ctx} {H : Hp} : ∀ {d : D} {v : V} {M : List Addr}, Rep C H d v M → DL.imm d = true → M = []
  | .non, _, _, h, _ => h.2
  | .bl _, _, _, h, _ => h.2
  | .int _, _, _, h, _ => h.2
  | .str _, _, _, h, _ => h.2
  | .ty _, _, _, h, _ => h.2
  | .tup ds, v, M, h, i => by
    obtain ⟨a, vs, rfl, e, _, r⟩ := h
    exact RepL.imm r (by simpa [DL.imm] using i)
  | .lst ds, v, M, h, i => by simp [DL.imm] at i
  | .fz ds, v, M, h, i => by
    obtain ⟨_, _, _, _, _, _, rfl⟩ := h
    rfl
  | .dK _ _, v, M, h, i => by simp [DL.imm] at i
  | .dT _ _, v, M, h, i => by simp [DL.imm] at i
  | .ins _ _ _, v, M, h, i => by simp [DL.imm] at i
theorem RepL.imm {C : Ctx} {H : Hp} : ∀ {ds : List D} {vs : List V} {M : List Addr}, RepL C H ds vs M → immL ds = true → M = []
  | [], _, _, h, _ => h.2
  | d :: ds, vs, M, h, i => by
    obtain ⟨v, r, M1, M2, rfl, h1, h2, rfl⟩ := h
    have i' : DL.imm d = true ∧ immL ds = true := by simpa [immL] using i
    rw [Rep.imm h1 i'.1, RepL.imm h2 i'.2]
    rfl
end
theorem RepL.length {C : Ctx} {H : Hp} : ∀ {ds : List D} {vs : List V} {M : List Addr}, RepL C H ds vs M → ds.length = vs.length
  | [], _, _, h => by rw [h.1]; rfl
  | d :: ds, vs, M, h => by
    obtain ⟨v, r, M1, M2, rfl, h1, h2, rfl⟩ := h
    rw [List.length_cons, List.length_cons, RepL.length h2]
theorem RepL.get {C : Ctx} {H : Hp} : ∀ {ds : List D} {vs : List V} {M : List Addr} {i : Nat} {d : D}, RepL C H ds vs M → ds[i]? = some d → ∃ v M', vs[i]? = some v ∧ Rep C H d v M' ∧ M'.Sublist M
  | [], _, _, _, _, _, e => by simp at e
  | d :: ds, vs, M, 0, d', h, e => by
    obtain ⟨v, r, M1, M2, rfl, h1, h2, rfl⟩ := h
    simp at e; subst e
    exact ⟨v, M1, rfl, h1, List.sublist_append_left _ _⟩
  | d :: ds, vs, M, i + 1, d', h, e => by
    obtain ⟨v, r, M1, M2, rfl, h1, h2, rfl⟩ := h
    obtain ⟨v', M', e1, r', s⟩ := RepL.get (i := i) h2 (by simpa using e)
    exact ⟨v', M', by simpa using e1, r', s.trans (List.sublist_append_right _ _)⟩
theorem RepL.append {C : Ctx} {H : Hp} : ∀ {ds es : List D} {vs ws : List V} {M N : List Addr}, RepL C H ds vs M → RepL C H es ws N → RepL C H (ds ++ es) (vs ++ ws) (M ++ N)
  | [], _, _, _, _, _, h, k => by rw [h.1, h.2]; exact k
  | d :: ds, es, vs, ws, M, N, h, k => by
    obtain ⟨v, r, M1, M2, rfl, h1, h2, rfl⟩ := h
    exact ⟨v, r ++ ws, M1, M2 ++ N, rfl, h1, RepL.append h2 k, by rw [List.append_assoc]⟩
theorem RepL.one {C : Ctx} {H : Hp} {d : D} {v : V} {M : List Addr} (h : Rep C H d v M) : RepL C H [d] [v] M := ⟨v, [], M, [], rfl, h, ⟨rfl, rfl⟩, by simp⟩
theorem RepL.split {C : Ctx} {H : Hp} : ∀ {ds es : List D} {vs : List V} {M : List Addr}, RepL C H (ds ++ es) vs M → ∃ vs1 vs2 M1 M2, vs = vs1 ++ vs2 ∧ M = M1 ++ M2 ∧ RepL C H ds vs1 M1 ∧ RepL C H es vs2 M2
  | [], es, vs, M, h => ⟨[], vs, [], M, rfl, rfl, ⟨rfl, rfl⟩, h⟩
  | d :: ds, es, vs, M, h => by
    obtain ⟨v, r, M1, M2, rfl, h1, h2, rfl⟩ := h
    obtain ⟨vs1, vs2, N1, N2, rfl, rfl, k1, k2⟩ := RepL.split h2
    exact ⟨v :: vs1, vs2, M1 ++ N1, N2, rfl, by rw [List.append_assoc], ⟨v, vs1, M1, N1, rfl, h1, k1, rfl⟩, k2⟩
end DL
/-! DL2: the environment, values with flags, readings over trees. -/
namespace DL
open PySem L2

inductive Res (α : Type) where
  | ok (a : α) | ex (c : Str) | bad
def Res.bind {α β : Type} (r : Res α) (f : α → Res β) : Res β := match r with
  | .ok a => f a
  | .ex c => .ex c
  | .bad => .bad
@[simp] theorem Res.ok_bind {α β : Type} (a : α) (f : α → Res β) : (Res.ok a).bind f = f a := rfl
@[simp] theorem Res.ex_bind {α β : Type} (c : Str) (f : α → Res β) : (Res.ex c : Res α).bind f = .ex c := rfl
@[simp] theorem Res.bad_bind {α β : Type} (f : α → Res β) : (Res.bad : Res α).bind f = .bad := rfl

/-- whose a slot's datum is: shared, the def's own, the caller's (handed in to be changed) -/
inductive Ow where
  | sh | loc | io | lk
def Ow.own : Ow → Bool
  | .sh => false
  | .lk => false
  | _ => true
/-- a value's flag: new; apart from all own slots; the def's own; any -/
inductive Fl where
  | fr | sf | mv | bo
  deriving DecidableEq
abbrev Env := List (Option (Ow × D))
abbrev FD := Fl × D

def Apart (C : Ctx) (H : Hp) (σ : St) (ρ : Env) (M : List Addr) : Prop :=
  ∀ (i : Nat) (o : Ow) (d : D) (w : V) (N : List Addr), ρ[i]? = some (some (o, d)) → o.own = true → σ[i]? = some (some w) → Rep C H d w N → ∀ a ∈ M, a ∉ N
/-- what is walked meanwhile: a value, a locked object -/
abbrev Pt := (V × D) ⊕ (Addr × Obj × HO)
def PRep (C : Ctx) (H : Hp) : Pt → List Addr → Prop
  | .inl p, N => Rep C H p.2 p.1 N
  | .inr q, N => H q.1 = some (.frz q.2.1 q.2.2) ∧ N = []
/-- the def's frame and its heap hold the environment; P: what is walked meanwhile -/
structure EnvOk (C : Ctx) (P : List Pt) (H : Hp) (σ : St) (ρ : Env) : Prop where
  len : σ.length = ρ.length
  at_ : ∀ (i : Nat) (o : Ow) (d : D), ρ[i]? = some (some (o, d)) → ∃ (v : V) (M : List Addr), σ[i]? = some (some v) ∧ Rep C H d v M ∧
    (o.own = true → M.Nodup ∧ (∀ a ∈ M, Mut (H a)) ∧
      (∀ (j : Nat) (o' : Ow) (d' : D) (w : V) (N : List Addr), j ≠ i → ρ[j]? = some (some (o', d')) → σ[j]? = some (some w) → Rep C H d' w N → ∀ a ∈ M, a ∉ N) ∧
      (∀ p ∈ P, ∀ N, PRep C H p N → ∀ a ∈ M, a ∉ N)) ∧
    (o = .loc → ∀ a ∈ M, C.H0 a = none) ∧ (o = .io → (∀ a ∈ M, a ∈ C.io ∨ C.H0 a = none) ∧ C.iov = some v) ∧ (o = .lk → ∃ a od u, v = .ref a ∧ Sum.inr (a, od, u) ∈ P)
  prot : ∀ p ∈ P, ∃ N, PRep C H p N
  kept : ∀ a o, C.H0 a = some o → a ∉ C.io → H a = some o ∨ ∃ od, .inr (a, od, o) ∈ P
  keptd : ∀ a, H a = none → C.H0 a = none

section
variable {C : Ctx} {P : List Pt} {H H' H'' : Hp} {σ : St} {ρ : Env} {d : D} {v : V} {M N : List Addr} {fl : Fl}

theorem Rep.back {N0 : List Addr} (h : Rep C H d v N0) (s : Same H H') (k : Rep C H' d v N) : Rep C H d v N := by
  rw [(h.same s).uniq k] at h
  exact h
theorem PRep.same {p : Pt} (h : PRep C H p N) (s : Same H H') : PRep C H' p N := by
  cases p with
  | inl p => exact Rep.same h s
  | inr q => exact ⟨s _ _ h.1, h.2⟩
theorem PRep.uniq {p : Pt} (h : PRep C H p M) (k : PRep C H p N) : M = N := by
  cases p with
  | inl p => exact Rep.uniq h k
  | inr q => exact h.2.trans k.2.symm
theorem PRep.back {p : Pt} {N0 : List Addr} (h : PRep C H p N0) (s : Same H H') (k : PRep C H' p N) : PRep C H p N := by
  rw [(h.same s).uniq k] at h
  exact h
theorem mut_some {o : Option HO} (m : Mut o) : ∃ u, o = some u := by
  cases o with
  | none => exact (show False from m).elim
  | some u => exact ⟨u, rfl⟩
theorem mut_same (s : Same H H') {a : Addr} (m : Mut (H a)) : Mut (H' a) := by
  obtain ⟨u, e⟩ := mut_some m
  rw [s a u e, ← e]
  exact m
theorem EnvOk.same (E : EnvOk C P H σ ρ) (s : Same H H') : EnvOk C P H' σ ρ := by
  refine ⟨E.len, fun i o d e => ?_, fun p hp => ?_, fun a o e n => (E.kept a o e n).imp_left (s a o), fun a e => E.keptd a (s.free e)⟩
  · obtain ⟨v, M, e1, r, ow, lo, io⟩ := E.at_ i o d e
    refine ⟨v, M, e1, r.same s, fun hw => ?_, lo, io⟩
    obtain ⟨nd, mu, ap, pr⟩ := ow hw
    refine ⟨nd, fun a m => mut_same s (mu a m), fun j o' d' w N ne ej sj rj => ?_, fun p hp N rp => ?_⟩
    · obtain ⟨w', N', e', r', _⟩ := E.at_ j o' d' ej
      rw [sj] at e'; cases e'
      exact ap j o' d' w N ne ej sj (r'.back s rj)
    · obtain ⟨N', r'⟩ := E.prot p hp
      exact pr p hp N (r'.back s rp)
  · obtain ⟨N, r⟩ := E.prot p hp
    exact ⟨N, r.same s⟩
theorem Apart.back (E : EnvOk C P H σ ρ) (s : Same H H') (h : Apart C H σ ρ M) : Apart C H' σ ρ M := fun i o d w N e ow e1 r => by
  obtain ⟨w', N', e', r', _⟩ := E.at_ i o d e
  rw [e1] at e'; cases e'
  exact h i o d w N e ow e1 (r'.back s r)

/-- what a flag tells of the value's nodes; H: ahead of it, H': behind -/
def FlOk (C : Ctx) (H : Hp) (σ : St) (ρ : Env) (H' : Hp) : Fl → List Addr → Prop
  | .fr, M => M.Nodup ∧ (∀ a ∈ M, H a = none) ∧ ∀ a ∈ M, Mut (H' a)
  | .sf, M => Apart C H σ ρ M
  | .mv, M => M.Nodup ∧ (∀ a ∈ M, C.H0 a = none) ∧ ∀ a ∈ M, Mut (H' a)
  | .bo, _ => True
theorem FlOk.nil : FlOk C H σ ρ H' fl [] := by
  cases fl with
  | fr => exact ⟨List.nodup_nil, (fun a m => nomatch m), (fun a m => nomatch m)⟩
  | sf => exact fun _ _ _ _ _ _ _ _ _ a m => nomatch m
  | mv => exact ⟨List.nodup_nil, (fun a m => nomatch m), (fun a m => nomatch m)⟩
  | bo => trivial
theorem FlOk.sub (h : FlOk C H σ ρ H' fl M) (s : N.Sublist M) : FlOk C H σ ρ H' fl N := by
  cases fl with
  | fr => exact ⟨h.1.sublist s, fun a m => h.2.1 a (s.subset m), fun a m => h.2.2 a (s.subset m)⟩
  | sf => exact fun i o d w L e ow e1 r a m => h i o d w L e ow e1 r a (s.subset m)
  | mv => exact ⟨h.1.sublist s, fun a m => h.2.1 a (s.subset m), fun a m => h.2.2 a (s.subset m)⟩
  | bo => trivial
/-- a value further on -/
theorem FlOk.on (s : Same H' H'') (h : FlOk C H σ ρ H' fl M) : FlOk C H σ ρ H'' fl M := by
  cases fl with
  | fr => exact ⟨h.1, h.2.1, fun a m => mut_same s (h.2.2 a m)⟩
  | sf => exact h
  | mv => exact ⟨h.1, h.2.1, fun a m => mut_same s (h.2.2 a m)⟩
  | bo => trivial
/-- told from an earlier heap -/
theorem FlOk.early {H0 : Hp} (E : EnvOk C P H0 σ ρ) (s : Same H0 H) (h : FlOk C H σ ρ H' fl M) : FlOk C H0 σ ρ H' fl M := by
  cases fl with
  | fr => exact ⟨h.1, fun a m => s.free (h.2.1 a m), h.2.2⟩
  | sf => exact fun i o d w N e ow e1 r a m => h i o d w N e ow e1 (r.same s) a m
  | mv => exact h
  | bo => trivial
def up (fl : Fl) (d : D) : FD := (if imm d = true then .fr else fl, d)
theorem FlOk.up (r : Rep C H' d v M) (h : FlOk C H σ ρ H' fl M) : FlOk C H σ ρ H' (DL.up fl d).1 M := by
  unfold DL.up
  by_cases i : imm d = true
  · rw [if_pos i, r.imm i]
    exact .nil
  · rw [if_neg i]
    exact h
def VOk (C : Ctx) (H : Hp) (σ : St) (ρ : Env) (H' : Hp) (fd : FD) (v : V) : Prop := Same H H' ∧ ∃ M, Rep C H' fd.2 v M ∧ FlOk C H σ ρ H' fd.1 M

/-- a new list, dict, tuple, text, number: its nodes are new -/
def New (C : Ctx) (H H' : Hp) (d : D) (v : V) : Prop := Same H H' ∧ ∃ M, Rep C H' d v M ∧ M.Nodup ∧ (∀ a ∈ M, H a = none) ∧ ∀ a ∈ M, Mut (H' a)
theorem New.vok (h : New C H H' d v) : VOk C H σ ρ H' (.fr, d) v := ⟨h.1, h.2.elim fun M x => ⟨M, x.1, x.2⟩⟩
theorem New.imm (s : Same H H') (r : Rep C H' d v []) : New C H H' d v := ⟨s, [], r, List.nodup_nil, (fun a m => nomatch m), (fun a m => nomatch m)⟩

/-- an expression's reading over trees -/
def RV (C : Ctx) (W : WX) (f : Env → Res FD) : TE := fun σ H Q => ∃ ρ P, EnvOk C P H σ ρ ∧ match f ρ with
  | .ok fd => ∀ v H', VOk C H σ ρ H' fd v → Q v H'
  | .ex c => ∀ H', Same H H' → W (.ref (C.cls c)) none σ H'
  | .bad => False
/-- a test's -/
def RT (C : Ctx) (W : WX) (f : Env → Res Bool) : TT := fun σ H Q => ∃ ρ P, EnvOk C P H σ ρ ∧ match f ρ with
  | .ok b => ∀ H', Same H H' → Q b H'
  | .ex c => ∀ H', Same H H' → W (.ref (C.cls c)) none σ H'
  | .bad => False
/-- an argument list's; the items' flags are kept -/
def RA (C : Ctx) (W : WX) (f : Env → Res (List FD)) : TA := fun σ H Q => ∃ ρ P, EnvOk C P H σ ρ ∧ match f ρ with
  | .ok fds => ∀ vs H', Same H H' → (∃ Ms : List (List Addr), RepL C H' (fds.map (·.2)) vs Ms.flatten ∧ Ms.length = fds.length ∧
      (∀ (i : Nat) (fd : FD) (M : List Addr), fds[i]? = some fd → Ms[i]? = some M → FlOk C H σ ρ H' fd.1 M) ∧ (fds.all (fun fd => fd.1 == .fr) = true → Ms.flatten.Nodup)) → Q vs H'
  | .ex c => ∀ H', Same H H' → W (.ref (C.cls c)) none σ H'
  | .bad => False
end

theorem _root_.L2.PE.imp {X : Cx} {e : Expr} {t t' : TE} (h : PE X e t) (i : ∀ σ H Q, t' σ H Q → t σ H Q) : PE X e t' := ⟨fun pins s σ H Q I q => h.run pins s σ H Q I (i σ H Q q)⟩
theorem _root_.L2.PT.imp {X : Cx} {e : Expr} {t t' : TT} (h : PT X e t) (i : ∀ σ H Q, t' σ H Q → t σ H Q) : PT X e t' := ⟨fun pins s σ H Q I q => h.run pins s σ H Q I (i σ H Q q)⟩
theorem _root_.L2.PA.imp {X : Cx} {e : List Expr} {t t' : TA} (h : PA X e t) (i : ∀ σ H Q, t' σ H Q → t σ H Q) : PA X e t' := ⟨fun pos pins s σ H Q I q => h.run pos pins s σ H Q I (i σ H Q q)⟩
theorem _root_.L2.PS.imp {X : Cx} {e : Stmt} {t t' : TS} (h : PS X e t) (i : ∀ D σ H, t' D σ H → t D σ H) : PS X e t' := ⟨fun pins s σ H Q I q => h.run pins s σ H Q I (i Q σ H q)⟩
theorem _root_.L2.PSs.imp {X : Cx} {e : List Stmt} {t t' : TS} (h : PSs X e t) (i : ∀ D σ H, t' D σ H → t D σ H) : PSs X e t' := ⟨fun pins s σ H Q I q => h.run pins s σ H Q I (i Q σ H q)⟩

/-- what the rules lean on -/
structure Fx (R : Nat) (C : Ctx) (X : Cx) (W : WX) : Prop where
  hK : X.K = C.K
  tk : Takes X W
  ps : PassesOwn (model X.prog X.w) X.A X.env X.xe
  calm : X.calm = true
  hu : X.A.units + 200 < cLine
  nd : X.N.Nodup
  room : Room R X.A

section
variable {C : Ctx} {X : Cx} {W : WX} {pos : Pos}
/-- a name's datum -/
def dVar (i : Nat) : Env → Res FD := fun ρ => match ρ[i]? with
  | some (some (.sh, d)) => .ok (up .sf d)
  | some (some (.loc, d)) => .ok (up .mv d)
  | some (some (.io, d)) => .ok (up .bo d)
  | some (some (.lk, d)) => .ok (up .sf d)
  | _ => .bad
theorem rv_var {i : Nat} {σ : St} {H : Hp} {Q : VK} (h : RV C W (dVar i) σ H Q) : tVar i σ H Q := by
  obtain ⟨ρ, P, E, h⟩ := h
  unfold dVar at h
  cases e : ρ[i]? with
  | none => rw [e] at h; exact h.elim
  | some s =>
    cases s with
    | none => rw [e] at h; exact h.elim
    | some p =>
      obtain ⟨o, d⟩ := p
      obtain ⟨v, M, e1, r, ow, lo, io⟩ := E.at_ i o d e
      rw [e] at h
      refine ⟨v, e1, ?_⟩
      cases o with
      | sh =>
        refine h v H ⟨Same.refl H, M, r, FlOk.up r ?_⟩
        intro j o' d' w N ej oj sj rj a ma na
        obtain ⟨w', N', e', r', ow', _⟩ := E.at_ j o' d' ej
        rw [sj] at e'; cases e'
        rw [r'.uniq rj] at ow'
        refine (ow' oj).2.2.1 i .sh d v M (fun z => ?_) e e1 r a na ma
        subst z
        rw [e] at ej; cases ej; cases oj
      | loc => exact h v H ⟨Same.refl H, M, r, FlOk.up r ⟨(ow rfl).1, lo rfl, (ow rfl).2.1⟩⟩
      | io => exact h v H ⟨Same.refl H, M, r, FlOk.up r trivial⟩
      | lk =>
        refine h v H ⟨Same.refl H, M, r, FlOk.up r ?_⟩
        intro j o' d' w N ej oj sj rj a ma na
        obtain ⟨w', N', e', r', ow', _⟩ := E.at_ j o' d' ej
        rw [sj] at e'; cases e'
        rw [r'.uniq rj] at ow'
        refine (ow' oj).2.2.1 i .lk d v M (fun z => ?_) e e1 r a na ma
        subst z
        rw [e] at ej; cases ej; cases oj
theorem pd_var (i : Nat) {x : Str} (hN : X.N[i]? = some x := by rfl) (hv : Vis X.env.scope x := by first | exact Or.inl rfl | exact Or.inr (Or.inl rfl) | exact Or.inr (Or.inr rfl)) (hd : (x == ("__debug__" : Str)) = false := by decide)
    (hcd : (x == ("__classdict__" : Str)) = false := by decide) : PE X (.Name x pos) (RV C W (dVar i)) := (pe_var hN hv hd hcd).imp fun _ _ _ => rv_var

/-- a constant -/
def dC (d : D) : Env → Res FD := fun _ => .ok (.fr, d)
theorem rv_c {d : D} {v : V} (hd : ∀ (C : Ctx) (H : Hp), Rep C H d v []) {σ : St} {H : Hp} {Q : VK} (h : RV C W (dC d) σ H Q) : tC v σ H Q := by
  obtain ⟨ρ, P, E, h⟩ := h
  exact h v H ⟨Same.refl H, [], hd C H, .nil⟩
theorem pd_int {i j} : PE X (.Constant (.int i) j pos) (RV C W (dC (.int i))) := pe_int.imp fun _ _ _ => rv_c (d := .int i) (v := .int i) fun _ _ => ⟨rfl, rfl⟩
theorem pd_bl {b j} : PE X (.Constant (.bool b) j pos) (RV C W (dC (.bl b))) := pe_bl.imp fun _ _ _ => rv_c (d := .bl b) (v := .bl b) fun _ _ => ⟨rfl, rfl⟩
theorem pd_non {j} : PE X (.Constant .none j pos) (RV C W (dC .non)) := pe_non.imp fun _ _ _ => rv_c (d := .non) (v := .non) fun _ _ => ⟨rfl, rfl⟩
theorem pd_str {x j} : PE X (.Constant (.str x) j pos) (RV C W (dC (.str x))) := pe_str.imp fun _ _ _ => rv_c (d := .str x) (v := .str x) fun _ _ => ⟨rfl, rfl⟩
theorem pd_gint {x : Str} {i : Int} {t : Tok} (hg : Gl X x) (hm : X.mg x = some (.int i t)) (hd : (x == ("__debug__" : Str)) = false := by decide) : PE X (.Name x pos) (RV C W (dC (.int i))) :=
  (pe_glob hg hm (v := .int i) ⟨_, rfl⟩ hd).imp fun _ _ _ => rv_c (d := .int i) (v := .int i) fun _ _ => ⟨rfl, rfl⟩
theorem pd_gstr {x y : Str} {t : Tok} (hg : Gl X x) (hm : X.mg x = some (.str y t)) (hd : (x == ("__debug__" : Str)) = false := by decide) : PE X (.Name x pos) (RV C W (dC (.str y))) :=
  (pe_glob hg hm (v := .str y) ⟨_, rfl⟩ hd).imp fun _ _ _ => rv_c (d := .str y) (v := .str y) fun _ _ => ⟨rfl, rfl⟩
/-- a built-in class's name -/
theorem pd_ty {x : Str} {n : String} (hg : Gl X x) (hm : X.mg x = none) (hv : bootBuiltins x = some (.type n)) (hn : x ≠ "__name__" := by decide) (hd : (x == ("__debug__" : Str)) = false := by decide) : PE X (.Name x pos) (RV C W (dC (.ty n))) :=
  (pe_bltn hg hm hv (v := .ty n) rfl hn hd).imp fun _ _ _ => rv_c (d := .ty n) (v := .ty n) fun _ _ => ⟨rfl, rfl⟩

/-! ### one, two operands -/
def bind1 (f : Env → Res FD) (k : FD → Res FD) : Env → Res FD := fun ρ => (f ρ).bind k
def bind2 (f g : Env → Res FD) (k : FD → FD → Res FD) : Env → Res FD := fun ρ => (f ρ).bind fun x => (g ρ).bind fun y => k x y
/-- an operation on values by trees: the answer new, or a part of the left one -/
def Op1 (C : Ctx) (r : V → Hp → VK → Prop) (k : FD → Res FD) : Prop :=
  ∀ (H : Hp) (x : V) (fx : FD) (M : List Addr) (Q : VK) (z : FD), Rep C H fx.2 x M → k fx = .ok z →
    ((∀ v H', New C H H' z.2 v → z.1 = .fr → Q v H') ∧ (∀ v N, Rep C H z.2 v N → N.Sublist M → z.1 = (up fx.1 z.2).1 → Q v H)) → r x H Q
def Op2 (C : Ctx) (r : R2) (k : FD → FD → Res FD) : Prop :=
  ∀ (H : Hp) (x y : V) (fx fy : FD) (M N : List Addr) (Q : VK) (z : FD), Rep C H fx.2 x M → Rep C H fy.2 y N → k fx fy = .ok z →
    ((∀ v H', New C H H' z.2 v → z.1 = .fr → Q v H') ∧ (∀ v L, Rep C H z.2 v L → L.Sublist M → z.1 = (up fx.1 z.2).1 → Q v H)) → r x y H Q
theorem New.early {H0 H H' : Hp} {d : D} {v : V} (s : Same H0 H) (h : New C H H' d v) : New C H0 H' d v := by
  obtain ⟨s', M, r, nd, nw, mu⟩ := h
  exact ⟨s.trans s', M, r, nd, fun a m => s.free (nw a m), mu⟩
theorem rv1 {r : V → Hp → VK → Prop} {f : Env → Res FD} {k : FD → Res FD} (hk : Op1 C r k) (hx : ∀ x c, k x ≠ .ex c) {σ : St} {H : Hp} {Q : VK} (h : RV C W (bind1 f k) σ H Q) : RV C W f σ H fun x H1 => r x H1 Q := by
  obtain ⟨ρ, P, E, h⟩ := h
  refine ⟨ρ, P, E, ?_⟩
  unfold bind1 at h
  cases e : f ρ with
  | bad => rw [e] at h; exact h
  | ex c => rw [e] at h; exact h
  | ok fx =>
    rw [e] at h
    intro x H1 ⟨s1, M, r1, f1⟩
    simp only [Res.ok_bind] at h
    cases ek : k fx with
    | bad => rw [ek] at h; exact h.elim
    | ex c => exact absurd ek (hx _ c)
    | ok z =>
      rw [ek] at h
      refine hk H1 x fx M Q z r1 ek ⟨fun v H' n ez => h v H' ?_, fun v N rz sub ez => h v H1 ⟨s1, N, rz, ?_⟩⟩
      · obtain ⟨fl, z⟩ := z
        cases ez
        exact (n.early s1).vok
      · rw [ez]
        exact FlOk.up rz (f1.sub sub)
theorem rv2 {r : R2} {f g : Env → Res FD} {k : FD → FD → Res FD} (hk : Op2 C r k) (hx : ∀ x y c, k x y ≠ .ex c) {σ : St} {H : Hp} {Q : VK} (h : RV C W (bind2 f g k) σ H Q) : tOp r (RV C W f) (RV C W g) σ H Q := by
  obtain ⟨ρ, P, E, h⟩ := h
  refine ⟨ρ, P, E, ?_⟩
  unfold bind2 at h
  cases e : f ρ with
  | bad => rw [e] at h; exact h
  | ex c => rw [e] at h; exact h
  | ok fx =>
    rw [e] at h
    simp only [Res.ok_bind] at h
    intro x H1 ⟨s1, M, r1, f1⟩
    refine ⟨ρ, P, E.same s1, ?_⟩
    cases e2 : g ρ with
    | bad => rw [e2] at h; exact h
    | ex c => rw [e2] at h; exact fun H' s' => h H' (s1.trans s')
    | ok fy =>
      rw [e2] at h
      simp only [Res.ok_bind] at h
      intro y H2 ⟨s2, N, r2, f2⟩
      cases ek : k fx fy with
      | bad => rw [ek] at h; exact h.elim
      | ex c => exact absurd ek (hx _ _ c)
      | ok z =>
        rw [ek] at h
        have s12 := s1.trans s2
        refine hk H2 x y fx fy M N Q z (r1.same s2) r2 ek ⟨fun v H' n ez => h v H' ?_, fun v L rz sub ez => h v H2 ⟨s12, L, rz, ?_⟩⟩
        · obtain ⟨fl, z⟩ := z
          cases ez
          exact (n.early s12).vok
        · rw [ez]
          exact FlOk.up rz ((f1.on s2).sub sub)
theorem pd_bin {op : Operator} {r : R2} {k : FD → FD → Res FD} {a b : Expr} {f g : Env → Res FD} (ho : OpR X (binaryOp op) r) (hk : Op2 C r k) (hx : ∀ x y c, k x y ≠ .ex c) (ha : PE X a (RV C W f)) (hb : PE X b (RV C W g)) :
    PE X (.BinOp a op b pos) (RV C W (bind2 f g k)) := (pe_op ho ha hb).imp fun _ _ _ => rv2 hk hx
theorem pd_cmp {op : CmpOp} {r : R2} {k : FD → FD → Res FD} {a b : Expr} {f g : Env → Res FD} (ho : OpR X (compareOp op) r) (hk : Op2 C r k) (hx : ∀ x y c, k x y ≠ .ex c) (ha : PE X a (RV C W f)) (hb : PE X b (RV C W g)) (hm : behindInMarks op b = false) :
    PE X (.Compare a [op] [b] pos) (RV C W (bind2 f g k)) := (pe_cmpR ho ha hb hm).imp fun _ _ _ => rv2 hk hx
end
end DL
/-! DL3: operators on trees. -/
namespace DL
open PySem L2

mutual
/-- a tree as the model's data -/
def toP : D → PyData
  | .non => .none
  | .bl b => .bool b
  | .int i => .int i
  | .str x => .str x
  | .tup ds => .tuple (toPL ds)
  | .lst ds => .list (toPL ds)
  | _ => .dict []
def toPL : List D → List PyData
  | [] => []
  | d :: ds => toP d :: toPL ds
end
theorem toPL_map : ∀ ds : List D, toPL ds = ds.map toP
  | [] => by rw [toPL]; rfl
  | d :: ds => by rw [toPL, toPL_map ds]; rfl
mutual
theorem Rep.dp {C : Ctx} {H : Hp} : ∀ {d : D} {v : V} {M : List Addr}, Rep C H d v M → (toP d).canLay0 = true → Dp C.K H v (toP d)
  | .non, v, M, h, _ => by rw [h.1, toP]; exact .non
  | .bl b, v, M, h, _ => by rw [h.1, toP]; exact .bl b
  | .int i, v, M, h, _ => by rw [h.1, toP]; exact .int i
  | .str x, v, M, h, _ => by rw [h.1, toP]; exact .str x
  | .ty n, v, M, h, c => by simp [toP, PyData.canLay0] at c
  | .tup ds, v, M, h, c => by
    obtain ⟨a, vs, rfl, e, _, r⟩ := h
    rw [toP]
    exact .tup (.inl (.inl e)) (RepL.dp r (by simpa [toP, PyData.canLay0] using c))
  | .lst ds, v, M, h, c => by
    obtain ⟨a, vs, M', rfl, e, _, r, rfl⟩ := h
    rw [toP]
    exact .lst (.inl (.inl e)) (RepL.dp r (by simpa [toP, PyData.canLay0] using c))
  | .fz _, v, M, h, c => by simp [toP, PyData.canLay0] at c
  | .dK _ _, v, M, h, c => by simp [toP, PyData.canLay0] at c
  | .dT _ _, v, M, h, c => by simp [toP, PyData.canLay0] at c
  | .ins _ _ _, v, M, h, c => by simp [toP, PyData.canLay0] at c
theorem RepL.dp {C : Ctx} {H : Hp} : ∀ {ds : List D} {vs : List V} {M : List Addr}, RepL C H ds vs M → PyData.canLayAll0 (toPL ds) = true → DpAll C.K H vs (toPL ds)
  | [], vs, M, h, _ => by rw [h.1, toPL]; exact .nil
  | d :: ds, vs, M, h, c => by
    obtain ⟨v, r, M1, M2, rfl, h1, h2, rfl⟩ := h
    have c' : (toP d).canLay0 = true ∧ PyData.canLayAll0 (toPL ds) = true := by simpa [toPL, PyData.canLayAll0] using c
    rw [toPL]
    exact .cons (Rep.dp h1 c'.1) (RepL.dp h2 c'.2)
end
/-- what can be compared -/
def okP (d : D) : Bool := SeqAt.shaped (toP d)
def eqvD (a b : D) : Bool := PyData.eqv (toP a) (toP b)
theorem layOk {d : D} (h : okP d = true) : (toP d).canLay0 = true := SeqAt.canLay_of_shaped h

section
variable {C : Ctx} {X : Cx} {W : WX}
def isOk {α : Type} : Res α → Bool
  | .ok _ => true
  | _ => false
/-- the answer True or False -/
theorem bl_new {H : Hp} {b : Bool} : New C H H (.bl b) (.bl b) := .imm (Same.refl H) ⟨rfl, rfl⟩
theorem int_new {H : Hp} {i : Int} : New C H H (.int i) (.int i) := .imm (Same.refl H) ⟨rfl, rfl⟩
theorem str_new {H : Hp} {x : Str} : New C H H (.str x) (.str x) := .imm (Same.refl H) ⟨rfl, rfl⟩
theorem non_new {H : Hp} : New C H H .non .non := .imm (Same.refl H) ⟨rfl, rfl⟩

/-! ### == and != -/
def eqD (neg : Bool) : FD → FD → Res FD := fun x y => if (okP x.2 && okP y.2) = true then .ok (.fr, .bl (if neg then !eqvD x.2 y.2 else eqvD x.2 y.2)) else .bad
theorem eqD_nx {neg : Bool} : ∀ x y c, eqD neg x y ≠ .ex c := fun x y c e => by
  unfold eqD at e
  split at e <;> cases e
theorem eqD_op (hK : X.K = C.K) : Op2 C (rEqD X.K) (eqD false) := by
  intro H x y fx fy M N Q z r1 r2 e h
  unfold eqD at e
  split at e
  · rename_i o
    cases e
    rw [Bool.and_eq_true] at o
    rw [hK]
    exact ⟨toP fx.2, toP fy.2, r1.dp (layOk o.1), r2.dp (layOk o.2), o.1, o.2, h.1 _ H bl_new rfl⟩
  · cases e
theorem neD_op (hK : X.K = C.K) : Op2 C (rNeD X.K) (eqD true) := by
  intro H x y fx fy M N Q z r1 r2 e h
  unfold eqD at e
  split at e
  · rename_i o
    cases e
    rw [Bool.and_eq_true] at o
    rw [hK]
    exact ⟨toP fx.2, toP fy.2, r1.dp (layOk o.1), r2.dp (layOk o.2), o.1, o.2, h.1 _ H bl_new rfl⟩
  · cases e
variable {a b : Expr} {f g : Env → Res FD} {pos : Pos}
theorem pd_eq (F : Fx R C X W) (ha : PE X a (RV C W f)) (hb : PE X b (RV C W g)) : PE X (.Compare a [.Eq] [b] pos) (RV C W (bind2 f g (eqD false))) :=
  pd_cmp (op_eqD (by have := F.hu; omega)) (eqD_op F.hK) eqD_nx ha hb (nomark _)
theorem pd_ne (F : Fx R C X W) (ha : PE X a (RV C W f)) (hb : PE X b (RV C W g)) : PE X (.Compare a [.NotEq] [b] pos) (RV C W (bind2 f g (eqD true))) :=
  pd_cmp (op_neD (by have := F.hu; omega)) (neD_op F.hK) eqD_nx ha hb (nomark _)

/-! ### is None -/
def isNonD : D → Bool
  | .non => true
  | _ => false
def isND (neg : Bool) : FD → FD → Res FD := fun x y => match y.2 with
  | .non => .ok (.fr, .bl (if neg then !isNonD x.2 else isNonD x.2))
  | _ => .bad
theorem isND_nx {neg : Bool} : ∀ x y c, isND neg x y ≠ .ex c := fun x y c e => by
  unfold isND at e
  split at e <;> cases e
theorem rep_non {H : Hp} {d : D} {v : V} {M : List Addr} (r : Rep C H d v M) : decide (v = .non) = isNonD d := by
  cases d with
  | non => rw [r.1]; rfl
  | bl b => rw [r.1]; rfl
  | int i => rw [r.1]; rfl
  | str x => rw [r.1]; rfl
  | ty n => rw [r.1]; rfl
  | tup ds => obtain ⟨a, _, rfl, _⟩ := r; rfl
  | lst ds => obtain ⟨a, _, _, rfl, _⟩ := r; rfl
  | fz ds => obtain ⟨a, _, rfl, _⟩ := r; rfl
  | dK _ _ => obtain ⟨a, _, _, rfl, _⟩ := r; rfl
  | dT _ _ => obtain ⟨a, _, _, rfl, _⟩ := r; rfl
  | ins _ _ _ => obtain ⟨a, _, _, _, rfl, _⟩ := r; rfl
theorem isND_op : Op2 C (fun x y H Q => y = .non ∧ Q (.bl (decide (x = .non))) H) (isND false) := by
  intro H x y fx fy M N Q z r1 r2 e h
  obtain ⟨fl, dy⟩ := fy
  cases dy <;> first | (cases e; done) | skip
  cases e
  refine ⟨r2.1, ?_⟩
  rw [rep_non r1]
  exact h.1 _ H bl_new rfl
theorem isNND_op : Op2 C (fun x y H Q => y = .non ∧ Q (.bl (!decide (x = .non))) H) (isND true) := by
  intro H x y fx fy M N Q z r1 r2 e h
  obtain ⟨fl, dy⟩ := fy
  cases dy <;> first | (cases e; done) | skip
  cases e
  refine ⟨r2.1, ?_⟩
  rw [rep_non r1]
  exact h.1 _ H bl_new rfl
theorem pd_isN (ha : PE X a (RV C W f)) (hb : PE X b (RV C W g)) : PE X (.Compare a [.Is] [b] pos) (RV C W (bind2 f g (isND false))) := pd_cmp op_isN isND_op isND_nx ha hb (nomark _)
theorem pd_isNN (ha : PE X a (RV C W f)) (hb : PE X b (RV C W g)) : PE X (.Compare a [.IsNot] [b] pos) (RV C W (bind2 f g (isND true))) := pd_cmp op_notN isNND_op isND_nx ha hb (nomark _)

/-! ### the order of ints -/
def ordD (p : Int → Int → Bool) : FD → FD → Res FD := fun x y => match x.2, y.2 with
  | .int i, .int j => .ok (.fr, .bl (p i j))
  | _, _ => .bad
theorem ordD_nx {p : Int → Int → Bool} : ∀ x y c, ordD p x y ≠ .ex c := fun x y c e => by
  unfold ordD at e
  split at e <;> cases e
theorem ordD_op {p : Int → Int → Bool} : Op2 C (rI0 fun i j => .bl (p i j)) (ordD p) := by
  intro H x y fx fy M N Q z r1 r2 e h
  obtain ⟨fl, dx⟩ := fx
  obtain ⟨fl', dy⟩ := fy
  cases dx <;> first | (cases e; done) | skip
  cases dy <;> first | (cases e; done) | skip
  cases e
  exact ⟨_, _, r1.1, r2.1, h.1 _ H bl_new rfl⟩
abbrev ltI (i j : Int) : Bool := decide (i < j)
abbrev leI (i j : Int) : Bool := decide (i ≤ j)
abbrev gtI (i j : Int) : Bool := decide (j < i)
abbrev geI (i j : Int) : Bool := decide (j ≤ i)
theorem pd_lt (ha : PE X a (RV C W f)) (hb : PE X b (RV C W g)) : PE X (.Compare a [.Lt] [b] pos) (RV C W (bind2 f g (ordD ltI))) := pd_cmp op_lt ordD_op ordD_nx ha hb (nomark _)
theorem pd_le (ha : PE X a (RV C W f)) (hb : PE X b (RV C W g)) : PE X (.Compare a [.LtE] [b] pos) (RV C W (bind2 f g (ordD leI))) := pd_cmp op_le ordD_op ordD_nx ha hb (nomark _)
theorem pd_gt (ha : PE X a (RV C W f)) (hb : PE X b (RV C W g)) : PE X (.Compare a [.Gt] [b] pos) (RV C W (bind2 f g (ordD gtI))) := pd_cmp op_gt ordD_op ordD_nx ha hb (nomark _)
theorem pd_ge (ha : PE X a (RV C W f)) (hb : PE X b (RV C W g)) : PE X (.Compare a [.GtE] [b] pos) (RV C W (bind2 f g (ordD geI))) := pd_cmp op_ge ordD_op ordD_nx ha hb (nomark _)

/-! ### arithmetic -/
def arI (p : Int → Int → Bool) (k : Int → Int → Int) : FD → FD → Res FD := fun x y => match x.2, y.2 with
  | .int i, .int j => if p i j = true then .ok (.fr, .int (k i j)) else .bad
  | _, _ => .bad
theorem arI_nx {p : Int → Int → Bool} {k : Int → Int → Int} : ∀ x y c, arI p k x y ≠ .ex c := fun x y c e => by
  unfold arI at e
  split at e
  · split at e <;> cases e
  · cases e
theorem arI_op {p : Int → Int → Bool} {k : Int → Int → Int} {c : Int → Int → Prop} (hp : ∀ i j, p i j = true → c i j) : Op2 C (rI c fun i j => .int (k i j)) (arI p k) := by
  intro H x y fx fy M N Q z r1 r2 e h
  obtain ⟨fl, dx⟩ := fx
  obtain ⟨fl', dy⟩ := fy
  cases dx <;> first | (cases e; done) | skip
  cases dy <;> first | (cases e; done) | skip
  rename_i i j
  unfold arI at e
  dsimp only at e
  split at e
  · rename_i q
    cases e
    exact ⟨i, j, r1.1, r2.1, hp _ _ q, h.1 _ H int_new rfl⟩
  · cases e
def divP (i j : Int) : Bool := decide (0 < j) && decide (j < 1073741824)
def modP (i j : Int) : Bool := decide (0 < j)
def powP (i j : Int) : Bool := decide (0 ≤ j) && decide (j ≤ 1000000) && decide (i.natAbs < 2 ^ 64)
theorem pd_fdiv (ha : PE X a (RV C W f)) (hb : PE X b (RV C W g)) : PE X (.BinOp a .FloorDiv b pos) (RV C W (bind2 f g (arI divP fun i j => i / j))) :=
  pd_bin op_fdiv (arI_op fun i j h => by simp only [divP, Bool.and_eq_true, decide_eq_true_eq] at h; exact h) arI_nx ha hb
theorem pd_mod (ha : PE X a (RV C W f)) (hb : PE X b (RV C W g)) : PE X (.BinOp a .Mod b pos) (RV C W (bind2 f g (arI modP fun i j => i % j))) :=
  pd_bin op_mod (arI_op fun i j h => by simp only [modP, decide_eq_true_eq] at h; exact h) arI_nx ha hb
theorem pd_pow (ha : PE X a (RV C W f)) (hb : PE X b (RV C W g)) : PE X (.BinOp a .Pow b pos) (RV C W (bind2 f g (arI powP fun i j => i ^ j.toNat))) :=
  pd_bin op_pow (arI_op fun i j h => by simp only [powP, Bool.and_eq_true, decide_eq_true_eq] at h; exact ⟨h.1.1, h.1.2, h.2⟩) arI_nx ha hb
theorem pd_sub (ha : PE X a (RV C W f)) (hb : PE X b (RV C W g)) : PE X (.BinOp a .Sub b pos) (RV C W (bind2 f g (arI (fun _ _ => true) fun i j => i - j))) :=
  pd_bin (r := rI (fun _ _ => True) fun i j => .int (i - j)) (fun pins s σ H x y v u Q I rx ry h => op_sub pins s σ H x y v u Q I rx ry (by obtain ⟨i, j, e1, e2, _, q⟩ := h; exact ⟨i, j, e1, e2, q⟩)) (arI_op fun _ _ _ => trivial) arI_nx ha hb
/-- a new list of immutable items -/
theorem lst_new {H : Hp} {p : Addr} {ds : List D} {vs : List V} (hp : H p = none) (hz : ds.length ≤ sizeLine) (r : RepL C H ds vs []) : New C H (upd H p (.lst vs)) (.lst ds) (.ref p) := by
  have s : Same H (upd H p (.lst vs)) := fun b o e => by rw [upd_ne (ne_of_none e hp)]; exact e
  refine ⟨s, [p], ⟨p, vs, [], rfl, upd_same, hz, r.same s, rfl⟩, by simp, fun a m => ?_, fun a m => ?_⟩
  · obtain rfl : a = p := by simpa using m
    exact hp
  · obtain rfl : a = p := by simpa using m
    rw [upd_same]; exact trivial
theorem tup_new {H : Hp} {p : Addr} {ds : List D} {vs : List V} (hp : H p = none) (hz : ds.length ≤ sizeLine) (r : RepL C H ds vs []) : New C H (upd H p (.tup vs)) (.tup ds) (.ref p) := by
  have s : Same H (upd H p (.tup vs)) := fun b o e => by rw [upd_ne (ne_of_none e hp)]; exact e
  exact .imm s ⟨p, vs, rfl, upd_same, hz, r.same s⟩
/-- + -/
def addD : FD → FD → Res FD := fun x y => match x.2, y.2 with
  | .int i, .int j => .ok (.fr, .int (i + j))
  | .str s, .str t => if s.length + t.length ≤ sizeLine then .ok (.fr, .str (s ++ t)) else .bad
  | .lst xs, .lst ys => if (immL xs && immL ys) = true ∧ xs.length + ys.length ≤ sizeLine then .ok (.fr, .lst (xs ++ ys)) else .bad
  | .tup xs, .tup ys => if (immL xs && immL ys) = true ∧ xs.length + ys.length ≤ sizeLine then .ok (.fr, .tup (xs ++ ys)) else .bad
  | _, _ => .bad
theorem addD_nx : ∀ x y c, addD x y ≠ .ex c := fun x y c e => by
  unfold addD at e
  split at e <;> first | cases e | (split at e <;> cases e)
theorem RepL.nil0 {H : Hp} {ds : List D} {vs : List V} {M : List Addr} (r : RepL C H ds vs M) (i : immL ds = true) : RepL C H ds vs [] := by
  have e := r.imm i
  rw [e] at r
  exact r
theorem addD_op (hK : X.K = C.K) : Op2 C (fun x y H Q => (rI0 (fun i j => .int (i + j)) x y H Q) ∨ (∃ i j, x = .str i ∧ y = .str j ∧ i.length + j.length ≤ sizeLine ∧ Q (.str (i ++ j)) H) ∨ rCat x y H Q ∨ rCatA X.K x y H Q) addD := by
  intro H x y fx fy M N Q z r1 r2 e h
  obtain ⟨fl, dx⟩ := fx
  obtain ⟨fl', dy⟩ := fy
  cases dx with
  | int i =>
    cases dy <;> first | (cases e; done) | skip
    cases e
    exact .inl ⟨_, _, r1.1, r2.1, h.1 _ H int_new rfl⟩
  | str i =>
    cases dy <;> first | (cases e; done) | skip
    unfold addD at e
    dsimp only at e
    split at e
    · rename_i q
      cases e
      exact .inr (.inl ⟨_, _, r1.1, r2.1, q, h.1 _ H str_new rfl⟩)
    · cases e
  | lst xs =>
    cases dy <;> first | (cases e; done) | skip
    rename_i ys
    unfold addD at e
    dsimp only at e
    split at e
    · rename_i q
      cases e
      rw [Bool.and_eq_true] at q
      obtain ⟨a, vs, M', rfl, e1, z1, k1, rfl⟩ := r1
      obtain ⟨b, ws, N', rfl, e2, z2, k2, rfl⟩ := r2
      refine .inr (.inr (.inl ⟨a, b, vs, ws, rfl, rfl, e1, e2, by rw [← k1.length, ← k2.length]; exact q.2, fun p hp => h.1 _ _ (lst_new hp (by rw [List.length_append]; exact q.2) ?_) rfl⟩))
      exact (k1.nil0 q.1.1).append (k2.nil0 q.1.2)
    · cases e
  | tup xs =>
    cases dy <;> first | (cases e; done) | skip
    rename_i ys
    unfold addD at e
    dsimp only at e
    split at e
    · rename_i q
      cases e
      rw [Bool.and_eq_true] at q
      have r1' := r1
      have r2' := r2
      obtain ⟨a, vs, rfl, e1, z1, k1⟩ := r1
      obtain ⟨b, ws, rfl, e2, z2, k2⟩ := r2
      refine .inr (.inr (.inr ⟨a, b, vs, ws, rfl, rfl, .inl (.inl e1), .inl (.inl e2), by rw [← k1.length, ← k2.length]; exact q.2, fun n => ?_, fun _ n => ?_, fun _ _ p hp => h.1 _ _ (tup_new hp (by rw [List.length_append]; exact q.2) ?_) rfl⟩))
      · have z0 : xs = [] := List.length_eq_zero_iff.mp (by rw [k1.length, n]; rfl)
        refine h.1 _ H (.imm (Same.refl H) ?_) rfl
        rw [z0, List.nil_append]
        exact ⟨b, ws, rfl, e2, z2, k2.nil0 q.1.2⟩
      · have z0 : ys = [] := List.length_eq_zero_iff.mp (by rw [k2.length, n]; rfl)
        refine h.1 _ H (.imm (Same.refl H) ?_) rfl
        rw [z0, List.append_nil]
        exact ⟨a, vs, rfl, e1, z1, k1.nil0 q.1.1⟩
      · exact (k1.nil0 q.1.1).append (k2.nil0 q.1.2)
    · cases e
  | _ => cases dy <;> cases e
theorem pd_add (F : Fx R C X W) (ha : PE X a (RV C W f)) (hb : PE X b (RV C W g)) : PE X (.BinOp a .Add b pos) (RV C W (bind2 f g addD)) :=
  pd_bin (op_add.or (op_add_str.or (op_cat.or op_catA))) (addD_op F.hK) addD_nx ha hb
/-- *: numbers; a list so many times -/
def mulD : FD → FD → Res FD := fun x y => match x.2, y.2 with
  | .int i, .int j => if ((decide (-(2 ^ 64) < i) && decide (i < 2 ^ 64)) || (decide (-(2 ^ 64) < j) && decide (j < 2 ^ 64))) = true then .ok (.fr, .int (i * j)) else .bad
  | .lst xs, .int k => if immL xs = true ∧ -(2 ^ 63) ≤ k ∧ k < 2 ^ 63 ∧ xs.length * k.toNat ≤ sizeLine then .ok (.fr, .lst (List.replicate k.toNat xs).flatten) else .bad
  | _, _ => .bad
theorem mulD_nx : ∀ x y c, mulD x y ≠ .ex c := fun x y c e => by
  unfold mulD at e
  split at e <;> first | cases e | (split at e <;> cases e)
theorem RepL.rep {H : Hp} {ds : List D} {vs : List V} (r : RepL C H ds vs []) : ∀ n : Nat, RepL C H (List.replicate n ds).flatten (List.replicate n vs).flatten []
  | 0 => ⟨rfl, rfl⟩
  | n + 1 => by
    rw [List.replicate_succ, List.flatten_cons, List.replicate_succ, List.flatten_cons]
    exact r.append (RepL.rep r n)
theorem rep_len {α : Type} (xs : List α) : ∀ n : Nat, (List.replicate n xs).flatten.length = xs.length * n
  | 0 => rfl
  | n + 1 => by rw [List.replicate_succ, List.flatten_cons, List.length_append, rep_len xs n, Nat.mul_succ, Nat.add_comm]
theorem mulD_op : Op2 C (fun x y H Q => (rI CMul (fun i j => .int (i * j)) x y H Q) ∨ rRep x y H Q) mulD := by
  intro H x y fx fy M N Q z r1 r2 e h
  obtain ⟨fl, dx⟩ := fx
  obtain ⟨fl', dy⟩ := fy
  cases dx with
  | int i =>
    cases dy <;> first | (cases e; done) | skip
    unfold mulD at e
    dsimp only at e
    split at e
    · rename_i q
      cases e
      simp only [Bool.or_eq_true, Bool.and_eq_true, decide_eq_true_eq] at q
      exact .inl ⟨_, _, r1.1, r2.1, q, h.1 _ H int_new rfl⟩
    · cases e
  | lst xs =>
    cases dy <;> first | (cases e; done) | skip
    rename_i k
    unfold mulD at e
    dsimp only at e
    split at e
    · rename_i q
      cases e
      obtain ⟨a, vs, M', rfl, e1, z1, k1, rfl⟩ := r1
      refine .inr ⟨a, k, vs, rfl, r2.1, e1, q.2.1, q.2.2.1, by rw [← k1.length]; exact q.2.2.2, fun p hp => h.1 _ _ (lst_new hp (by rw [rep_len]; exact q.2.2.2) ?_) rfl⟩
      exact (k1.nil0 q.1).rep _
    · cases e
  | _ => cases dy <;> cases e
theorem pd_mul (ha : PE X a (RV C W f)) (hb : PE X b (RV C W g)) : PE X (.BinOp a .Mult b pos) (RV C W (bind2 f g mulD)) :=
  pd_bin (op_mul.or op_rep) mulD_op mulD_nx ha hb
/-- -n -/
def negD : FD → Res FD := fun x => match x.2 with
  | .int i => .ok (.fr, .int (-i))
  | _ => .bad
theorem negD_nx : ∀ x c, negD x ≠ .ex c := fun x c e => by
  unfold negD at e
  split at e <;> cases e
theorem negD_op : Op1 C (rU fun i => .int (-i)) negD := by
  intro H x fx M Q z r1 e h
  obtain ⟨fl, dx⟩ := fx
  cases dx <;> first | (cases e; done) | skip
  cases e
  exact ⟨_, r1.1, h.1 _ H int_new rfl⟩
theorem pd_neg (ha : PE X a (RV C W f)) : PE X (.UnaryOp .USub a pos) (RV C W (bind1 f negD)) := (pe_un un_neg ha).imp fun _ _ _ => rv1 negD_op negD_nx
end
end DL
/-! DL4: in, items, slices, displays, truth, tests. -/
namespace DL
open PySem L2

/-! ### keys -/
def keyOf : D → Option Key
  | .int i => some (.inl i)
  | .str x => some (.inr x)
  | _ => none
def keysOf : List D → Option (List Key)
  | [] => some []
  | d :: ds => match keyOf d, keysOf ds with
    | some k, some ks => some (k :: ks)
    | _, _ => none
def lookD {κ : Type} [DecidableEq κ] : List κ → List D → κ → Option D
  | k' :: ks, d :: ds, k => if k' = k then some d else lookD ks ds k
  | _, _, _ => none
def kD : Key → D
  | .inl i => .int i
  | .inr x => .str x
section
variable {C : Ctx} {H : Hp}
theorem key_rep {d : D} {v : V} {M : List Addr} {k : Key} (r : Rep C H d v M) (e : keyOf d = some k) : v = kV k := by
  cases d <;> cases e <;> exact r.1
theorem keys_rep : ∀ {ds : List D} {vs : List V} {M : List Addr} {ks : List Key}, RepL C H ds vs M → keysOf ds = some ks → vs = ks.map kV
  | [], vs, M, ks, r, e => by cases e; exact r.1
  | d :: ds, vs, M, ks, r, e => by
    obtain ⟨v, w, M1, M2, rfl, r1, r2, rfl⟩ := r
    unfold keysOf at e
    split at e
    · rename_i k ks' e1 e2
      cases e
      rw [key_rep r1 e1, keys_rep r2 e2]
      rfl
    · cases e
theorem look_rep {κ : Type} [DecidableEq κ] : ∀ {kvs : List (κ × V)} {ds : List D} {M : List Addr} {k : κ}, RepL C H ds (kvs.map (·.2)) M →
    (lookD (kvs.map (·.1)) ds k = none → valV kvs k = none) ∧ ∀ d, lookD (kvs.map (·.1)) ds k = some d → ∃ v N, valV kvs k = some v ∧ Rep C H d v N ∧ N.Sublist M
  | [], ds, M, k, r => by
    refine ⟨fun _ => rfl, fun d e => ?_⟩
    cases ds <;> cases e
  | p :: kvs, [], M, k, r => by
    have := r.1
    cases this
  | p :: kvs, d :: ds, M, k, r => by
    obtain ⟨v, w, M1, M2, e, r1, r2, rfl⟩ := r
    cases e
    have ih := look_rep (k := k) r2
    rw [List.map_cons]
    unfold lookD
    by_cases h : p.1 = k
    · rw [if_pos h, valV_pos h]
      refine ⟨(fun z => by cases z), fun d' e => ?_⟩
      cases e
      exact ⟨p.2, M1, rfl, r1, List.sublist_append_left _ _⟩
    · rw [if_neg h, valV_neg h]
      refine ⟨ih.1, fun d' e => ?_⟩
      obtain ⟨v, N, e1, r', s⟩ := ih.2 d' e
      exact ⟨v, N, e1, r', s.trans (List.sublist_append_right _ _)⟩
/-- what a dict tells of a key -/
def dGet (d k : D) : Option (Option D) := match d with
  | .dK ks ds => (keyOf k).map fun q => lookD ks ds q
  | .dT ks ds => match k with
    | .tup es => (keysOf es).map fun q => lookD ks ds q
    | _ => none
  | _ => none
theorem dGet_ok {d k : D} {v w : V} {M N : List Addr} {o : Option D} (r : Rep C H d v M) (q : Rep C H k w N) (e : dGet d k = some o) :
    ∃ a ov, v = .ref a ∧ DGet H a w ov ∧ (o = none → ov = none) ∧ ∀ z, o = some z → ∃ u L, ov = some u ∧ Rep C H z u L ∧ L.Sublist M := by
  cases d with
  | dK ks ds =>
    obtain ⟨a, kvs, M', rfl, ea, rfl, z, rr, rfl⟩ := r
    unfold dGet at e
    dsimp only at e
    cases ek : keyOf k with
    | none => rw [ek] at e; cases e
    | some kk =>
      rw [ek] at e
      cases e
      refine ⟨a, _, rfl, .inl ⟨kvs, kk, ea, key_rep q ek, rfl⟩, (look_rep rr).1, fun z e => ?_⟩
      obtain ⟨v, N, e1, r', s⟩ := (look_rep rr).2 z e
      exact ⟨v, N, e1, r', List.Sublist.cons _ s⟩
  | dT ks ds =>
    obtain ⟨a, kvs, M', rfl, ea, rfl, z, rr, rfl⟩ := r
    unfold dGet at e
    dsimp only at e
    cases k <;> first | (cases e; done) | skip
    rename_i es
    obtain ⟨b, vs, rfl, eb, _, rb⟩ := q
    dsimp only at e
    cases ek : keysOf es with
    | none => rw [ek] at e; cases e
    | some kk =>
      rw [ek] at e
      cases e
      refine ⟨a, _, rfl, .inr ⟨kvs, kk, b, ea, rfl, by rw [← keys_rep rb ek]; exact eb, rfl⟩, (look_rep rr).1, fun z e => ?_⟩
      obtain ⟨v, N, e1, r', s⟩ := (look_rep rr).2 z e
      exact ⟨v, N, e1, r', List.Sublist.cons _ s⟩
  | _ => cases e
end

section
variable {C : Ctx} {X : Cx} {W : WX} {a b : Expr} {f g : Env → Res FD} {pos : Pos}

/-! ### in -/
def rInP (K : PySem.W.Frag) (neg : Bool) : R2 := fun x y H Q => ∃ d ds, Dp K H x d ∧ (Dp K H y (.list ds) ∨ Dp K H y (.tuple ds)) ∧ SeqAt.shaped d = true ∧ PyData.canLayAll0 ds = true ∧ Q (.bl (if neg then !(ds.any fun z => PyData.eqv z d) else ds.any fun z => PyData.eqv z d)) H
theorem op_inP (hu : X.A.units + 65 < cLine) : OpR X (compareOp .In) (rInP X.K false) := by
  intro pins s σ H x y v u Q I rx ry h
  obtain ⟨d, ds, hd, he, sd, se, q⟩ := h
  obtain ⟨as, r1⟩ := Dp.reads I d x v hd rx
  rcases he with he | he
  · obtain ⟨bs, r2⟩ := Dp.reads I (.list ds) y u he ry
    exact SeqAt.in_list_reads r2 r1 se (SeqAt.canLay_of_shaped sd) (PyProof.Rows.room_in_shaped sd hu) ⟨.bl _, H, I, rfl, q⟩
  · obtain ⟨bs, r2⟩ := Dp.reads I (.tuple ds) y u he ry
    exact SeqAt.in_tuple_reads r2 r1 se (SeqAt.canLay_of_shaped sd) (PyProof.Rows.room_in_shaped sd hu) ⟨.bl _, H, I, rfl, q⟩
theorem op_notInP (hu : X.A.units + 65 < cLine) : OpR X (compareOp .NotIn) (rInP X.K true) := by
  intro pins s σ H x y v u Q I rx ry h
  obtain ⟨d, ds, hd, he, sd, se, q⟩ := h
  obtain ⟨as, r1⟩ := Dp.reads I d x v hd rx
  rcases he with he | he
  · obtain ⟨bs, r2⟩ := Dp.reads I (.list ds) y u he ry
    exact SeqAt.notIn_list_reads r2 r1 se (SeqAt.canLay_of_shaped sd) (PyProof.Rows.room_in_shaped sd hu) ⟨.bl _, H, I, rfl, q⟩
  · obtain ⟨bs, r2⟩ := Dp.reads I (.tuple ds) y u he ry
    exact SeqAt.notIn_tuple_reads r2 r1 se (SeqAt.canLay_of_shaped sd) (PyProof.Rows.room_in_shaped sd hu) ⟨.bl _, H, I, rfl, q⟩
def rInDict (neg : Bool) : R2 := fun x y H Q => ∃ a o, y = .ref a ∧ DGet H a x o ∧ Q (.bl (if neg then !o.isSome else o.isSome)) H
theorem op_inDict (hu : X.A.units + 1 < cLine) : OpR X (compareOp .In) (rInDict false) := by
  intro pins s σ H x y v u Q I rx ry h
  obtain ⟨a, o, rfl, g, q⟩ := h
  cases (show u = Value.ref a from ry)
  exact d_in hu I g rx fun s3 I3 => ⟨.bl o.isSome, H, I3, rfl, q⟩
theorem op_notInDict (hu : X.A.units + 1 < cLine) : OpR X (compareOp .NotIn) (rInDict true) := by
  intro pins s σ H x y v u Q I rx ry h
  obtain ⟨a, o, rfl, g, q⟩ := h
  cases (show u = Value.ref a from ry)
  exact d_notIn hu I g rx fun s3 I3 => ⟨.bl (!o.isSome), H, I3, rfl, q⟩
/-- one text within another -/
def within (x y : Str) : Bool := !(Builtin.Str.occurrences y x 0 y.length 1).isEmpty
def inD (x y : D) : Option Bool := match y with
  | .lst ds => if (okP x && PyData.canLayAll0 (toPL ds)) = true then some (ds.any fun z => eqvD z x) else none
  | .tup ds => if (okP x && PyData.canLayAll0 (toPL ds)) = true then some (ds.any fun z => eqvD z x) else none
  | .str t => match x with
    | .str s => some (within s t)
    | _ => none
  | _ => (dGet y x).map (·.isSome)
def inF (neg : Bool) : FD → FD → Res FD := fun x y => match inD x.2 y.2 with
  | some k => .ok (.fr, .bl (if neg then !k else k))
  | none => .bad
theorem inF_nx {neg : Bool} : ∀ x y c, inF neg x y ≠ .ex c := fun x y c e => by
  unfold inF at e
  split at e <;> cases e
theorem any_map_eqv (d : D) (ds : List D) : ((toPL ds).any fun z => PyData.eqv z (toP d)) = ds.any fun z => eqvD z d := by
  rw [toPL_map, List.any_map]
  rfl
def rInAll (K : PySem.W.Frag) (neg : Bool) : R2 := fun x y H Q => rInP K neg x y H Q ∨ rInDict neg x y H Q ∨ (∃ i j, x = .str i ∧ y = .str j ∧ Q (.bl (if neg then !(within i j) else within i j)) H)
theorem inF_op (hK : X.K = C.K) {neg : Bool} : Op2 C (rInAll X.K neg) (inF neg) := by
  intro H x y fx fy M N Q z r1 r2 e h
  obtain ⟨fl, dx⟩ := fx
  obtain ⟨fl', dy⟩ := fy
  unfold inF at e
  cases ei : inD dx dy with
  | none => rw [ei] at e; cases e
  | some k =>
    rw [ei] at e
    cases e
    have q := h.1 _ H (bl_new (b := if neg then !k else k)) rfl
    have seq : ∀ ds : List D, (toP dy = .list (toPL ds) ∨ toP dy = .tuple (toPL ds)) → (okP dx && PyData.canLayAll0 (toPL ds)) = true → k = (ds.any fun z => eqvD z dx) → rInAll X.K neg x y H Q := by
      intro ds hd hc hk
      rw [Bool.and_eq_true] at hc
      rw [hK]
      refine .inl ⟨toP dx, toPL ds, r1.dp (layOk hc.1), ?_, hc.1, hc.2, ?_⟩
      · rcases hd with hd | hd
        · refine .inl ?_
          rw [← hd]
          exact Rep.dp r2 (by rw [hd]; simpa [PyData.canLay0] using hc.2)
        · refine .inr ?_
          rw [← hd]
          exact Rep.dp r2 (by rw [hd]; simpa [PyData.canLay0] using hc.2)
      · rw [any_map_eqv, ← hk]
        exact q
    have dct : (dGet dy dx).map (·.isSome) = some k → rInAll X.K neg x y H Q := by
      intro ed
      obtain ⟨o, eo, ek⟩ := Option.map_eq_some_iff.mp ed
      obtain ⟨a, ov, rfl, g, n0, n1⟩ := dGet_ok r2 r1 eo
      refine .inr (.inl ⟨a, ov, rfl, g, ?_⟩)
      have ek2 : ov.isSome = k := by
        rw [← ek]
        cases o with
        | none => rw [n0 rfl]; rfl
        | some z => obtain ⟨u, L, e1, _⟩ := n1 z rfl; rw [e1]; rfl
      rw [ek2]
      exact q
    cases dy with
    | lst ds =>
      unfold inD at ei
      dsimp only at ei
      split at ei
      · rename_i hc
        cases ei
        exact seq ds (.inl (by rw [toP])) hc rfl
      · cases ei
    | tup ds =>
      unfold inD at ei
      dsimp only at ei
      split at ei
      · rename_i hc
        cases ei
        exact seq ds (.inr (by rw [toP])) hc rfl
      · cases ei
    | str t =>
      cases dx <;> first | (cases ei; done) | skip
      cases ei
      exact .inr (.inr ⟨_, _, r1.1, r2.1, q⟩)
    | dK ks ds => exact dct ei
    | dT ks ds => exact dct ei
    | _ => cases ei
theorem pd_in (F : Fx R C X W) (ha : PE X a (RV C W f)) (hb : PE X b (RV C W g)) (hm : behindInMarks .In b = false) : PE X (.Compare a [.In] [b] pos) (RV C W (bind2 f g (inF false))) :=
  pd_cmp ((op_inP (by have := F.hu; omega)).or ((op_inDict (by have := F.hu; omega)).or op_in_str)) (inF_op F.hK) inF_nx ha hb hm
theorem pd_notIn (F : Fx R C X W) (ha : PE X a (RV C W f)) (hb : PE X b (RV C W g)) (hm : behindInMarks .NotIn b = false) : PE X (.Compare a [.NotIn] [b] pos) (RV C W (bind2 f g (inF true))) :=
  pd_cmp ((op_notInP (by have := F.hu; omega)).or ((op_notInDict (by have := F.hu; omega)).or op_notin_str)) (inF_op F.hK) inF_nx ha hb hm

/-! ### items -/
theorem ix_dict (hu : X.A.units + 1 < cLine) : IxR X (fun x y H Q => ∃ a v, x = .ref a ∧ DGet H a y (some v) ∧ Q v H) := by
  intro value slice pins s σ H x y v u Q I rx ry h hs
  obtain ⟨a, z, rfl, g, q⟩ := h
  cases (show v = Value.ref a from rx)
  exact PyProof.Rows.tail_any (dict_typeIs I g) PySem.F.slot_dict_getitem.lookup (d_getItem hu I g ry fun w' s3 I3 rw' => ⟨z, H, I3, rw', q⟩) hs
def ixF : FD → FD → Res FD := fun x y => match x.2, y.2 with
  | .lst ds, .int i => match atI ds i with
    | some d => .ok (up x.1 d)
    | none => .bad
  | .tup ds, .int i => match atI ds i with
    | some d => .ok (up x.1 d)
    | none => .bad
  | .fz ds, .int i => match atI ds i with
    | some d => .ok (up x.1 d)
    | none => .bad
  | .str s, .int i => match atI s.cps.toList i with
    | some c => if s.length ≤ sizeLine then .ok (.fr, .str ⟨#[c]⟩) else .bad
    | none => .bad
  | d, k => match dGet d k with
    | some (some z) => .ok (up x.1 z)
    | _ => .bad
theorem ixF_nx : ∀ x y c, ixF x y ≠ .ex c := fun x y c e => by
  unfold ixF at e
  split at e <;> (split at e <;> first | cases e | (split at e <;> cases e))
theorem at_rep {H : Hp} {ds : List D} {vs : List V} {M : List Addr} {i : Int} {d : D} (r : RepL C H ds vs M) (e : atI ds i = some d) : ∃ v N, atI vs i = some v ∧ Rep C H d v N ∧ N.Sublist M := by
  unfold atI at e ⊢
  obtain ⟨j, e1, e2⟩ := Option.bind_eq_some_iff.mp e
  rw [r.length] at e1
  obtain ⟨v, N, e3, r', s⟩ := r.get e2
  exact ⟨v, N, by rw [e1]; exact e3, r', s⟩
theorem ixF_op (hK : X.K = C.K) : Op2 C (fun x y H Q => rIx X.K x y H Q ∨ ∃ a v, x = .ref a ∧ DGet H a y (some v) ∧ Q v H) ixF := by
  intro H x y fx fy M N Q z r1 r2 e h
  obtain ⟨fl, dx⟩ := fx
  obtain ⟨fl', dy⟩ := fy
  have dct : (match dGet dx dy with | some (some z) => .ok (up fl z) | _ => .bad) = Res.ok z → (rIx X.K x y H Q ∨ ∃ a v, x = .ref a ∧ DGet H a y (some v) ∧ Q v H) := by
    intro e
    split at e
    · rename_i w ew
      cases e
      obtain ⟨a, ov, rfl, g, n0, n1⟩ := dGet_ok r1 r2 ew
      obtain ⟨u, L, e1, r', s⟩ := n1 w rfl
      subst e1
      exact .inr ⟨a, u, rfl, g, h.2 u L r' s rfl⟩
    · cases e
  cases dx with
  | lst ds =>
    cases dy <;> first | (cases e; done) | skip
    unfold ixF at e
    dsimp only at e
    split at e
    · rename_i d ed
      cases e
      obtain ⟨p, vs, M', rfl, e1, z1, k1, rfl⟩ := r1
      obtain ⟨v, L, e2, r', s⟩ := at_rep k1 ed
      exact .inl (.inl ⟨p, vs, _, v, rfl, r2.1, SqL.of e1, e2, h.2 v L r' (List.Sublist.cons _ s) rfl⟩)
    · cases e
  | tup ds =>
    cases dy <;> first | (cases e; done) | skip
    unfold ixF at e
    dsimp only at e
    split at e
    · rename_i d ed
      cases e
      obtain ⟨p, vs, rfl, e1, z1, k1⟩ := r1
      obtain ⟨v, L, e2, r', s⟩ := at_rep k1 ed
      exact .inl (.inr (.inl ⟨p, vs, _, v, rfl, r2.1, SqT.of e1, e2, h.2 v L r' s rfl⟩))
    · cases e
  | fz ds =>
    cases dy <;> first | (cases e; done) | skip
    unfold ixF at e
    dsimp only at e
    split at e
    · rename_i d ed
      cases e
      obtain ⟨p, vs, rfl, e1, z1, k1, rfl⟩ := r1
      obtain ⟨v, L, e2, r', s⟩ := at_rep k1 ed
      exact .inl (.inl ⟨p, vs, _, v, rfl, r2.1, by rw [hK]; exact FzL.sq e1, e2, h.2 v L r' s rfl⟩)
    · cases e
  | str t =>
    cases dy <;> first | (cases e; done) | skip
    unfold ixF at e
    dsimp only at e
    split at e
    · rename_i c ec
      split at e
      · rename_i hl
        cases e
        exact .inl (.inr (.inr ⟨t, _, c, r1.1, r2.1, hl, ec, h.1 _ H str_new rfl⟩))
      · cases e
    · cases e
  | dK ks ds => cases dy <;> exact dct e
  | dT ks ds => cases dy <;> exact dct e
  | _ => cases dy <;> cases e
theorem pd_ix (F : Fx R C X W) (ha : PE X a (RV C W f)) (hb : PE X b (RV C W g)) (hs : PlainIx b := by exact fun _ _ => rfl) : PE X (.Subscript a b pos) (RV C W (bind2 f g ixF)) :=
  (pe_ix (ix_seq.or (ix_dict (by have := F.hu; omega))) ha hb hs).imp fun _ _ _ => rv2 (ixF_op F.hK) ixF_nx

/-! ### truth -/
def truD : D → Option Bool
  | .non => some false
  | .bl b => some b
  | .int i => some (i != 0)
  | .str y => if y.length ≤ sizeLine then some ((y.length : Int) != 0) else none
  | .tup ds => some (!ds.isEmpty)
  | .lst ds => some (!ds.isEmpty)
  | .dK ks _ => some (!ks.isEmpty)
  | _ => none
def TruV2 (K : PySem.W.Frag) (x : V) (H : Hp) (k : Bool) : Prop := TruV K x H k ∨ ∃ a kvs, x = .ref a ∧ Rd H a (.dK kvs) ∧ k = !kvs.isEmpty
theorem tru2_ok : TruR X (fun x H Q => ∃ k, TruV2 X.K x H k ∧ Q k H) := by
  intro pins s σ H x v Q I rx h
  obtain ⟨k, e, q⟩ := h
  rcases e with e | ⟨a, kvs, rfl, e, rfl⟩
  · exact tru_ok pins s σ H x v Q I rx ⟨k, e, q⟩
  · cases (show v = Value.ref a from rx)
    exact d_truth I e fun s' I' => ⟨H, I', q⟩
theorem len_empty {α β : Type} {xs : List α} {ys : List β} (h : xs.length = ys.length) : xs.isEmpty = ys.isEmpty := by
  cases xs <;> cases ys <;> first | rfl | cases h
theorem tru_rep (K : PySem.W.Frag) {H : Hp} {d : D} {v : V} {M : List Addr} {k : Bool} (r : Rep C H d v M) (e : truD d = some k) : TruV2 K v H k := by
  cases d with
  | non => rw [r.1]; cases e; exact .inl rfl
  | bl b => rw [r.1]; cases e; exact .inl rfl
  | int i => rw [r.1]; cases e; exact .inl rfl
  | str y =>
    rw [r.1]
    unfold truD at e
    dsimp only at e
    split at e
    · rename_i h; cases e; exact .inl ⟨h, rfl⟩
    · cases e
  | tup ds =>
    obtain ⟨p, vs, rfl, e1, z1, k1⟩ := r
    cases e
    exact .inl (.inr (.inl ⟨vs, SqT.of e1, by rw [len_empty k1.length]⟩))
  | lst ds =>
    obtain ⟨p, vs, M', rfl, e1, z1, k1, rfl⟩ := r
    cases e
    exact .inl (.inl ⟨vs, SqL.of e1, by rw [len_empty k1.length]⟩)
  | dK ks ds =>
    obtain ⟨p, kvs, M', rfl, e1, rfl, z1, k1, rfl⟩ := r
    cases e
    exact .inr ⟨p, kvs, rfl, e1, by rw [len_empty (List.length_map ..)]⟩
  | _ => cases e
def tru1 (f : Env → Res FD) : Env → Res Bool := fun ρ => (f ρ).bind fun x => match truD x.2 with
  | some k => .ok k
  | none => .bad
theorem pt_truth2 {ta : TE} (ha : PE X a ta) (he : ∀ whole, isTrue a X.env whole = (do let v ← whole; standAt a.pos; holding [v] (truthy v))) :
    PT X a (fun σ H Q => ta σ H fun x H' => ∃ k, TruV2 X.K x H' k ∧ Q k H') := by
  refine ⟨fun pins s σ H Q I h => ?_⟩
  exact PyProof.Rows.isTrue_plain (thn (ha.run pins s σ H _ I h) fun v s1 ⟨x, H1, I1, r1, q1⟩ => tru2_ok pins s1 σ H1 x v Q I1 r1 q1) (he _)
theorem rt_tru {σ : St} {H : Hp} {Q : Bool → Hp → Prop} {K : PySem.W.Frag} (h : RT C W (tru1 f) σ H Q) : RV C W f σ H fun x H' => ∃ k, TruV2 K x H' k ∧ Q k H' := by
  obtain ⟨ρ, P, E, h⟩ := h
  refine ⟨ρ, P, E, ?_⟩
  unfold tru1 at h
  cases e : f ρ with
  | bad => rw [e] at h; exact h
  | ex c => rw [e] at h; exact h
  | ok fx =>
    rw [e] at h
    simp only [Res.ok_bind] at h
    intro x H1 ⟨s1, M, r1, f1⟩
    cases ek : truD fx.2 with
    | none => rw [ek] at h; exact h.elim
    | some k => rw [ek] at h; exact ⟨k, tru_rep K r1 ek, h H1 s1⟩
/-- an expression as a test -/
theorem pt_of (ha : PE X a (RV C W f)) (he : ∀ whole, isTrue a X.env whole = (do let v ← whole; standAt a.pos; holding [v] (truthy v)) := by exact fun _ => rfl) : PT X a (RT C W (tru1 f)) :=
  (pt_truth2 ha he).imp fun _ _ _ => rt_tru
/-- a comparison as a test: the value is a truth -/
def blOf (f : Env → Res FD) : Env → Res Bool := fun ρ => (f ρ).bind fun x => match x.2 with
  | .bl k => .ok k
  | _ => .bad
theorem rt_bl {σ : St} {H : Hp} {Q : Bool → Hp → Prop} (h : RT C W (blOf f) σ H Q) : RV C W f σ H fun x H' => ∃ k, x = .bl k ∧ Q k H' := by
  obtain ⟨ρ, P, E, h⟩ := h
  refine ⟨ρ, P, E, ?_⟩
  unfold blOf at h
  cases e : f ρ with
  | bad => rw [e] at h; exact h
  | ex c => rw [e] at h; exact h
  | ok fx =>
    rw [e] at h
    simp only [Res.ok_bind] at h
    intro x H1 ⟨s1, M, r1, f1⟩
    obtain ⟨fl, d⟩ := fx
    cases d <;> first | exact h.elim | skip
    exact ⟨_, r1.1, h H1 s1⟩
/-- PE of a comparison gives PT: a comparison is tested by its value's truth -/
theorem pt_ofCmp {op : CmpOp} {r : R2} {k : FD → FD → Res FD} (ho : OpR X (compareOp op) r) (hk : Op2 C r k) (hx : ∀ x y c, k x y ≠ .ex c) (ha : PE X a (RV C W f)) (hb : PE X b (RV C W g)) (hm : behindInMarks op b = false) :
    PT X (.Compare a [op] [b] pos) (RT C W (blOf (bind2 f g k))) := (pt_cmpR ho ha hb hm).imp fun σ H Q h => rv2 hk hx (rt_bl h)
def notT (f : Env → Res Bool) : Env → Res Bool := fun ρ => (f ρ).bind fun k => .ok (!k)
theorem rt_not {f : Env → Res Bool} {σ : St} {H : Hp} {Q : Bool → Hp → Prop} (h : RT C W (notT f) σ H Q) : tNot (RT C W f) σ H Q := by
  obtain ⟨ρ, P, E, h⟩ := h
  refine ⟨ρ, P, E, ?_⟩
  unfold notT at h
  cases e : f ρ with
  | bad => rw [e] at h; exact h
  | ex c => rw [e] at h; exact h
  | ok k => rw [e] at h; exact h
theorem td_not {f : Env → Res Bool} (ha : PT X a (RT C W f)) : PT X (.UnaryOp .Not a pos) (RT C W (notT f)) := (pt_not ha).imp fun _ _ _ => rt_not
def andT (f g : Env → Res Bool) : Env → Res Bool := fun ρ => (f ρ).bind fun k => if k = true then g ρ else .ok false
def orT (f g : Env → Res Bool) : Env → Res Bool := fun ρ => (f ρ).bind fun k => if k = true then .ok true else g ρ
theorem RT.early {f : Env → Res Bool} {ρ : Env} {P : List Pt} {σ : St} {H H1 : Hp} {Q : Bool → Hp → Prop} (E : EnvOk C P H σ ρ) (s : Same H H1)
    (h : match f ρ with | .ok b => ∀ H', Same H H' → Q b H' | .ex c => ∀ H', Same H H' → W (.ref (C.cls c)) none σ H' | .bad => False) : RT C W f σ H1 Q := by
  refine ⟨ρ, P, E.same s, ?_⟩
  cases e : f ρ with
  | bad => rw [e] at h; exact h
  | ex c => rw [e] at h; exact fun H' s' => h H' (s.trans s')
  | ok k => rw [e] at h; exact fun H' s' => h H' (s.trans s')
theorem rt_and {f g : Env → Res Bool} {σ : St} {H : Hp} {Q : Bool → Hp → Prop} (h : RT C W (andT f g) σ H Q) : tAnd (RT C W f) (RT C W g) σ H Q := by
  obtain ⟨ρ, P, E, h⟩ := h
  refine ⟨ρ, P, E, ?_⟩
  unfold andT at h
  cases e : f ρ with
  | bad => rw [e] at h; exact h
  | ex c => rw [e] at h; exact h
  | ok k =>
    rw [e] at h
    simp only [Res.ok_bind] at h
    intro H1 s1
    cases k with
    | true => rw [if_pos rfl] at h ⊢; exact RT.early E s1 h
    | false => rw [if_neg Bool.false_ne_true] at h ⊢; exact h H1 s1
theorem rt_or {f g : Env → Res Bool} {σ : St} {H : Hp} {Q : Bool → Hp → Prop} (h : RT C W (orT f g) σ H Q) : tOr (RT C W f) (RT C W g) σ H Q := by
  obtain ⟨ρ, P, E, h⟩ := h
  refine ⟨ρ, P, E, ?_⟩
  unfold orT at h
  cases e : f ρ with
  | bad => rw [e] at h; exact h
  | ex c => rw [e] at h; exact h
  | ok k =>
    rw [e] at h
    simp only [Res.ok_bind] at h
    intro H1 s1
    cases k with
    | true => rw [if_pos rfl] at h ⊢; exact h H1 s1
    | false => rw [if_neg Bool.false_ne_true] at h ⊢; exact RT.early E s1 h
theorem _root_.L2.PW.imp {X : Cx} {e : Expr} {t t' : TT} (h : PW X e t) (i : ∀ σ H Q, t' σ H Q → t σ H Q) : PW X e t' := ⟨fun wh pins s σ H Q I q => h.run wh pins s σ H Q I (i σ H Q q)⟩
variable {rest : List Expr}
theorem tw_and1 {f : Env → Res Bool} (ha : PT X a (RT C W f)) : PW X (.BoolOp .And [a] pos) (RT C W f) := pw_and1 ha
theorem tw_or1 {f : Env → Res Bool} (ha : PT X a (RT C W f)) : PW X (.BoolOp .Or [a] pos) (RT C W f) := pw_or1 ha
theorem tw_and {f g : Env → Res Bool} (ha : PT X a (RT C W f)) (hb : PW X (.BoolOp .And (b :: rest) pos) (RT C W g)) : PW X (.BoolOp .And (a :: b :: rest) pos) (RT C W (andT f g)) := (pw_and ha hb).imp fun _ _ _ => rt_and
theorem tw_or {f g : Env → Res Bool} (ha : PT X a (RT C W f)) (hb : PW X (.BoolOp .Or (b :: rest) pos) (RT C W g)) : PW X (.BoolOp .Or (a :: b :: rest) pos) (RT C W (orT f g)) := (pw_or ha hb).imp fun _ _ _ => rt_or
end
end DL
/-! DL5: and, or, if as values; displays; slices; calls of the text's own defs. -/
namespace DL
open PySem L2

theorem RV.early {C : Ctx} {W : WX} {f : Env → Res FD} {ρ : Env} {P : List Pt} {σ : St} {H H1 : Hp} {Q : VK} (E : EnvOk C P H σ ρ) (s : Same H H1)
    (h : match f ρ with | .ok fd => ∀ v H', VOk C H σ ρ H' fd v → Q v H' | .ex c => ∀ H', Same H H' → W (.ref (C.cls c)) none σ H' | .bad => False) : RV C W f σ H1 Q := by
  refine ⟨ρ, P, E.same s, ?_⟩
  cases e : f ρ with
  | bad => rw [e] at h; exact h
  | ex c => rw [e] at h; exact fun H' s' => h H' (s.trans s')
  | ok fx =>
    rw [e] at h
    exact fun v H' ⟨s', M, r, q⟩ => h v H' ⟨s.trans s', M, r, FlOk.early E s q⟩

section
variable {C : Ctx} {X : Cx} {W : WX} {a b c : Expr} {f g : Env → Res FD} {ft : Env → Res Bool} {rest : List Expr} {pos p2 : Pos}

/-! ### and, or as values, by truth -/
def truD1 (d : D) : Option Bool := match d with
  | .dK _ _ => none
  | d => truD d
theorem tru_rep1 (K : PySem.W.Frag) {H : Hp} {d : D} {v : V} {M : List Addr} {k : Bool} (r : Rep C H d v M) (e : truD1 d = some k) : TruV K v H k := by
  have h : truD d = some k := by
    cases d <;> first | exact e | cases e
  rcases tru_rep K r h with q | ⟨p, kvs, rfl, e1, _⟩
  · exact q
  · cases d with
    | dK ks ds => cases e
    | non => cases r.1
    | bl _ => cases r.1
    | int _ => cases r.1
    | str _ => cases r.1
    | ty _ => cases r.1
    | tup ds =>
      obtain ⟨a, vs, e0, e2, _⟩ := r
      cases e0
      rcases e1 with e1 | ⟨o, e1⟩ <;> rw [e2] at e1 <;> cases e1
    | lst ds =>
      obtain ⟨a, vs, _, e0, e2, _⟩ := r
      cases e0
      rcases e1 with e1 | ⟨o, e1⟩ <;> rw [e2] at e1 <;> cases e1
    | fz ds => cases e
    | dT _ _ => cases h
    | ins _ _ _ => cases h
def andV (f g : Env → Res FD) : Env → Res FD := fun ρ => (f ρ).bind fun x => match truD1 x.2 with
  | some k => if k = true then g ρ else .ok x
  | none => .bad
def orV (f g : Env → Res FD) : Env → Res FD := fun ρ => (f ρ).bind fun x => match truD1 x.2 with
  | some k => if k = true then .ok x else g ρ
  | none => .bad
theorem rv_and {σ : St} {H : Hp} {Q : VK} {K : PySem.W.Frag} (h : RV C W (andV f g) σ H Q) : tAndT K (RV C W f) (RV C W g) σ H Q := by
  obtain ⟨ρ, P, E, h⟩ := h
  refine ⟨ρ, P, E, ?_⟩
  unfold andV at h
  cases e : f ρ with
  | bad => rw [e] at h; exact h
  | ex c => rw [e] at h; exact h
  | ok fx =>
    rw [e] at h
    simp only [Res.ok_bind] at h
    intro x H1 vo
    obtain ⟨s1, M, r1, f1⟩ := id vo
    cases ek : truD1 fx.2 with
    | none => rw [ek] at h; exact h.elim
    | some k =>
      rw [ek] at h
      refine ⟨k, tru_rep1 K r1 ek, ?_⟩
      cases k with
      | true =>
        simp only [if_true] at h ⊢
        exact RV.early E s1 h
      | false =>
        simp only [Bool.false_eq_true, if_false] at h ⊢
        exact h x H1 vo
theorem rv_or {σ : St} {H : Hp} {Q : VK} {K : PySem.W.Frag} (h : RV C W (orV f g) σ H Q) : tOrT K (RV C W f) (RV C W g) σ H Q := by
  obtain ⟨ρ, P, E, h⟩ := h
  refine ⟨ρ, P, E, ?_⟩
  unfold orV at h
  cases e : f ρ with
  | bad => rw [e] at h; exact h
  | ex c => rw [e] at h; exact h
  | ok fx =>
    rw [e] at h
    simp only [Res.ok_bind] at h
    intro x H1 vo
    obtain ⟨s1, M, r1, f1⟩ := id vo
    cases ek : truD1 fx.2 with
    | none => rw [ek] at h; exact h.elim
    | some k =>
      rw [ek] at h
      refine ⟨k, tru_rep1 K r1 ek, ?_⟩
      cases k with
      | true =>
        simp only [if_true] at h ⊢
        exact h x H1 vo
      | false =>
        simp only [Bool.false_eq_true, if_false] at h ⊢
        exact RV.early E s1 h
theorem pd_and (ha : PE X a (RV C W f)) (hb : PE X (.BoolOp .And (b :: rest) pos) (RV C W g)) : PE X (.BoolOp .And (a :: b :: rest) pos) (RV C W (andV f g)) := (pe_andT ha hb).imp fun _ _ _ => rv_and
theorem pd_or (ha : PE X a (RV C W f)) (hb : PE X (.BoolOp .Or (b :: rest) pos) (RV C W g)) : PE X (.BoolOp .Or (a :: b :: rest) pos) (RV C W (orV f g)) := (pe_orT ha hb).imp fun _ _ _ => rv_or
theorem pd_one {op} (ha : PE X a (RV C W f)) : PE X (.BoolOp op [a] pos) (RV C W f) := pe_one ha
/-- not e as a value -/
def notV (f : Env → Res FD) : Env → Res FD := fun ρ => (f ρ).bind fun x => match truD1 x.2 with
  | some k => .ok (.fr, .bl (!k))
  | none => .bad
theorem rv_notV {σ : St} {H : Hp} {Q : VK} {K : PySem.W.Frag} (h : RV C W (notV f) σ H Q) : tNotT K (RV C W f) σ H Q := by
  obtain ⟨ρ, P, E, h⟩ := h
  refine ⟨ρ, P, E, ?_⟩
  unfold notV at h
  cases e : f ρ with
  | bad => rw [e] at h; exact h
  | ex c => rw [e] at h; exact h
  | ok fx =>
    rw [e] at h
    simp only [Res.ok_bind] at h
    intro x H1 ⟨s1, M, r1, f1⟩
    cases ek : truD1 fx.2 with
    | none => rw [ek] at h; exact h.elim
    | some k =>
      rw [ek] at h
      exact ⟨k, tru_rep1 K r1 ek, h _ H1 ⟨s1, [], ⟨rfl, rfl⟩, .nil⟩⟩
theorem pd_not (ha : PE X a (RV C W f)) : PE X (.UnaryOp .Not a pos) (RV C W (notV f)) := (pe_notT ha).imp fun _ _ _ => rv_notV
/-- a if t else b -/
def ifV (t : Env → Res Bool) (f g : Env → Res FD) : Env → Res FD := fun ρ => (t ρ).bind fun k => if k = true then f ρ else g ρ
theorem rv_if {σ : St} {H : Hp} {Q : VK} (h : RV C W (ifV ft f g) σ H Q) : tIf (RT C W ft) (RV C W f) (RV C W g) σ H Q := by
  obtain ⟨ρ, P, E, h⟩ := h
  refine ⟨ρ, P, E, ?_⟩
  unfold ifV at h
  cases e : ft ρ with
  | bad => rw [e] at h; exact h
  | ex c => rw [e] at h; exact h
  | ok k =>
    rw [e] at h
    simp only [Res.ok_bind] at h
    intro H1 s1
    cases k with
    | true =>
      simp only [if_true] at h ⊢
      exact RV.early E s1 h
    | false =>
      simp only [Bool.false_eq_true, if_false] at h ⊢
      exact RV.early E s1 h
theorem pd_if (hc : PT X c (RT C W ft)) (ha : PE X a (RV C W f)) (hb : PE X b (RV C W g)) : PE X (.IfExp c a b pos) (RV C W (ifV ft f g)) := (pe_ifExp hc ha hb).imp fun _ _ _ => rv_if
/-- what is never come to -/
theorem pd_never {e : Expr} : PE X e (RV C W fun _ => .bad) := ⟨fun _ _ _ _ _ _ h => by obtain ⟨_, _, _, h⟩ := h; exact h.elim⟩
theorem td_never {e : Expr} : PT X e (RT C W fun _ => .bad) := ⟨fun _ _ _ _ _ _ h => by obtain ⟨_, _, _, h⟩ := h; exact h.elim⟩

/-! ### lists of expressions -/
/-- all new?, the data -/
abbrev AD := Bool × List D
def RL (C : Ctx) (W : WX) (f : Env → Res AD) : TA := fun σ H Q => ∃ ρ P, EnvOk C P H σ ρ ∧ match f ρ with
  | .ok bd => ∀ vs H', Same H H' → (∃ M, RepL C H' bd.2 vs M ∧ (bd.1 = true → M.Nodup ∧ (∀ a ∈ M, H a = none) ∧ ∀ a ∈ M, Mut (H' a))) → Q vs H'
  | .ex c => ∀ H', Same H H' → W (.ref (C.cls c)) none σ H'
  | .bad => False
def nilA : Env → Res AD := fun _ => .ok (true, [])
def consA (f : Env → Res FD) (g : Env → Res AD) : Env → Res AD := fun ρ => (f ρ).bind fun x => (g ρ).bind fun y => .ok (decide (x.1 = .fr) && y.1, x.2 :: y.2)
theorem rl_nil {σ : St} {H : Hp} {Q : List V → Hp → Prop} (h : RL C W nilA σ H Q) : tNil σ H Q := by
  obtain ⟨ρ, P, E, h⟩ := h
  exact h [] H (Same.refl H) ⟨[], ⟨rfl, rfl⟩, fun _ => ⟨List.nodup_nil, (fun a m => nomatch m), (fun a m => nomatch m)⟩⟩
theorem rl_cons {fa : Env → Res AD} {σ : St} {H : Hp} {Q : List V → Hp → Prop} (h : RL C W (consA f fa) σ H Q) : tCons (RV C W f) (RL C W fa) σ H Q := by
  obtain ⟨ρ, P, E, h⟩ := h
  refine ⟨ρ, P, E, ?_⟩
  unfold consA at h
  cases e : f ρ with
  | bad => rw [e] at h; exact h
  | ex c => rw [e] at h; exact h
  | ok fx =>
    rw [e] at h
    simp only [Res.ok_bind] at h
    intro x H1 ⟨s1, M, r1, f1⟩
    refine ⟨ρ, P, E.same s1, ?_⟩
    cases e2 : fa ρ with
    | bad => rw [e2] at h; exact h
    | ex c => rw [e2] at h; exact fun H' s' => h H' (s1.trans s')
    | ok y =>
      rw [e2] at h
      simp only [Res.ok_bind] at h
      intro vs H2 s2 ⟨N, r2, q2⟩
      refine h (x :: vs) H2 (s1.trans s2) ⟨M ++ N, ⟨x, vs, M, N, rfl, r1.same s2, r2, rfl⟩, fun hb => ?_⟩
      simp only [Bool.and_eq_true, decide_eq_true_eq] at hb
      rw [hb.1] at f1
      obtain ⟨n1, w1, u1⟩ := f1
      obtain ⟨n2, w2, u2⟩ := q2 hb.2
      refine ⟨List.nodup_append.mpr ⟨n1, n2, fun z hz y hy e => ?_⟩, fun z hz => ?_, fun z hz => ?_⟩
      · subst e
        obtain ⟨o, ho⟩ := r1.dom z hz
        rw [w2 z hy] at ho; cases ho
      · rcases List.mem_append.mp hz with m | m
        · exact w1 z m
        · exact s1.free (w2 z m)
      · rcases List.mem_append.mp hz with m | m
        · exact mut_same s2 (u1 z m)
        · exact u2 z m
variable {e : Expr} {es : List Expr} {fa : Env → Res AD}
theorem pl_nil : PA X [] (RL C W nilA) := pa_nil.imp fun _ _ _ => rl_nil
theorem pl_cons (ha : PE X e (RV C W f)) (hr : PA X es (RL C W fa)) (hs : starEach (e :: es) X.env = (false, eval e X.env) :: starEach es X.env := by rfl) : PA X (e :: es) (RL C W (consA f fa)) := (pa_cons ha hr hs).imp fun _ _ _ => rl_cons

/-! ### displays -/
def tupF (fa : Env → Res AD) : Env → Res FD := fun ρ => (fa ρ).bind fun y => if y.2.length ≤ sizeLine then .ok (up (if y.1 = true then .fr else .bo) (.tup y.2)) else .bad
def lstF (fa : Env → Res AD) : Env → Res FD := fun ρ => (fa ρ).bind fun y => if y.2.length ≤ sizeLine then .ok (if (y.1 || immL y.2) = true then .fr else .bo, .lst y.2) else .bad
theorem upd_sameH {H : Hp} {p : Addr} {o : HO} (hp : H p = none) : Same H (upd H p o) := fun b u e => by rw [upd_ne (ne_of_none e hp)]; exact e
theorem rv_tup {σ : St} {H : Hp} {Q : VK} (h : RV C W (tupF fa) σ H Q) : tTup (RL C W fa) σ H Q := by
  obtain ⟨ρ, P, E, h⟩ := h
  refine ⟨ρ, P, E, ?_⟩
  unfold tupF at h
  cases e : fa ρ with
  | bad => rw [e] at h; exact h
  | ex c => rw [e] at h; exact h
  | ok y =>
    rw [e] at h
    simp only [Res.ok_bind] at h
    by_cases hz : y.2.length ≤ sizeLine
    · rw [if_pos hz] at h
      intro vs H1 s1 ⟨M, r, q⟩
      refine ⟨by rw [← r.length]; exact hz, fun p hp => ?_⟩
      have s2 := upd_sameH (o := .tup vs) hp
      have rr : Rep C (upd H1 p (.tup vs)) (.tup y.2) (.ref p) M := ⟨p, vs, rfl, upd_same, hz, r.same s2⟩
      refine h _ _ ⟨s1.trans s2, M, rr, FlOk.up rr ?_⟩
      by_cases hb : y.1 = true
      · rw [if_pos hb]
        obtain ⟨n1, w1, u1⟩ := q hb
        exact ⟨n1, w1, fun a m => mut_same s2 (u1 a m)⟩
      · rw [if_neg hb]; trivial
    · rw [if_neg hz] at h; exact h.elim
theorem rv_lst {σ : St} {H : Hp} {Q : VK} (h : RV C W (lstF fa) σ H Q) : tLst (RL C W fa) σ H Q := by
  obtain ⟨ρ, P, E, h⟩ := h
  refine ⟨ρ, P, E, ?_⟩
  unfold lstF at h
  cases e : fa ρ with
  | bad => rw [e] at h; exact h
  | ex c => rw [e] at h; exact h
  | ok y =>
    rw [e] at h
    simp only [Res.ok_bind] at h
    by_cases hz : y.2.length ≤ sizeLine
    · rw [if_pos hz] at h
      intro vs H1 s1 ⟨M, r, q⟩
      refine ⟨by rw [← r.length]; exact hz, fun p hp => ?_⟩
      have s2 := upd_sameH (o := .lst vs) hp
      have rr : Rep C (upd H1 p (.lst vs)) (.lst y.2) (.ref p) (p :: M) := ⟨p, vs, M, rfl, upd_same, hz, r.same s2, rfl⟩
      refine h _ _ ⟨s1.trans s2, p :: M, rr, ?_⟩
      by_cases hb : (y.1 || immL y.2) = true
      · show FlOk _ _ _ _ _ (if (y.1 || immL y.2) = true then Fl.fr else Fl.bo) _
        rw [if_pos hb]
        have q' : M.Nodup ∧ (∀ a ∈ M, H a = none) ∧ ∀ a ∈ M, Mut (H1 a) := by
          rcases Bool.or_eq_true_iff.mp hb with hb | hb
          · exact q hb
          · rw [r.imm hb]
            exact ⟨List.nodup_nil, (fun a m => nomatch m), (fun a m => nomatch m)⟩
        obtain ⟨n1, w1, u1⟩ := q'
        refine ⟨List.nodup_cons.mpr ⟨fun m => ?_, n1⟩, fun a m => ?_, fun a m => ?_⟩
        · obtain ⟨o, ho⟩ := r.dom p m
          rw [hp] at ho; cases ho
        · rcases List.mem_cons.mp m with rfl | m
          · exact s1.free hp
          · exact w1 a m
        · rcases List.mem_cons.mp m with rfl | m
          · rw [upd_same]; trivial
          · exact mut_same s2 (u1 a m)
      · show FlOk _ _ _ _ _ (if (y.1 || immL y.2) = true then Fl.fr else Fl.bo) _
        rw [if_neg hb]; trivial
    · rw [if_neg hz] at h; exact h.elim
theorem pd_tup {k} (h : PA X es (RL C W fa)) : PE X (.Tuple es k pos) (RV C W (tupF fa)) := (pe_tup h).imp fun _ _ _ => rv_tup
theorem pd_lst (h : PA X es (RL C W fa)) : PE X (.List es pos) (RV C W (lstF fa)) := (pe_lst h).imp fun _ _ _ => rv_lst
def newK : Env → Res FD := fun _ => .ok (.fr, .dK [] [])
def newT : Env → Res FD := fun _ => .ok (.fr, .dT [] [])
theorem pd_dnewK : PE X (.Dict [] [] pos) (RV C W newK) := pe_dnewK.imp fun σ H Q h p hp => by
  obtain ⟨ρ, P, E, h⟩ := h
  refine h _ _ ⟨upd_sameH hp, [p], ⟨p, [], [], rfl, .inl upd_same, rfl, Nat.zero_le _, ⟨rfl, rfl⟩, rfl⟩, by simp, fun a m => ?_, fun a m => ?_⟩
  · obtain rfl : a = p := by simpa using m
    exact hp
  · obtain rfl : a = p := by simpa using m
    rw [upd_same]; trivial
theorem pd_dnewT : PE X (.Dict [] [] pos) (RV C W newT) := pe_dnewT.imp fun σ H Q h p hp => by
  obtain ⟨ρ, P, E, h⟩ := h
  refine h _ _ ⟨upd_sameH hp, [p], ⟨p, [], [], rfl, .inl upd_same, rfl, Nat.zero_le _, ⟨rfl, rfl⟩, rfl⟩, by simp, fun a m => ?_, fun a m => ?_⟩
  · obtain rfl : a = p := by simpa using m
    exact hp
  · obtain rfl : a = p := by simpa using m
    rw [upd_same]; trivial

/-! ### slices -/
def cutL {α : Type} (xs : List α) (lo hi : Option Int) : List α := (xs.drop (HT.sIx xs.length 0 lo)).take (HT.sIx xs.length xs.length hi - HT.sIx xs.length 0 lo)
theorem cutL_length {α : Type} (xs : List α) (lo hi : Option Int) : (cutL xs lo hi).length ≤ xs.length := by
  unfold cutL
  rw [List.length_take, List.length_drop]
  omega
theorem RepL.take {H : Hp} : ∀ {ds : List D} {vs : List V} (n : Nat), RepL C H ds vs [] → RepL C H (ds.take n) (vs.take n) []
  | [], _, n, r => by rw [r.1]; simp only [List.take_nil]; exact ⟨rfl, rfl⟩
  | d :: ds, _, 0, r => ⟨rfl, rfl⟩
  | d :: ds, _, n + 1, r => by
    obtain ⟨v, w, M1, M2, rfl, r1, r2, e⟩ := r
    obtain ⟨rfl, rfl⟩ := List.append_eq_nil_iff.mp e.symm
    exact ⟨v, w.take n, [], [], rfl, r1, RepL.take n r2, rfl⟩
theorem RepL.drop {H : Hp} : ∀ {ds : List D} {vs : List V} (n : Nat), RepL C H ds vs [] → RepL C H (ds.drop n) (vs.drop n) []
  | [], _, n, r => by rw [r.1]; simp only [List.drop_nil]; exact ⟨rfl, rfl⟩
  | d :: ds, _, 0, r => r
  | d :: ds, _, n + 1, r => by
    obtain ⟨v, w, M1, M2, rfl, r1, r2, e⟩ := r
    obtain ⟨rfl, rfl⟩ := List.append_eq_nil_iff.mp e.symm
    exact RepL.drop n r2
theorem RepL.cut {H : Hp} {ds : List D} {vs : List V} {lo hi : Option Int} (r : RepL C H ds vs []) : RepL C H (cutL ds lo hi) (cutV vs lo hi) [] := by
  unfold cutL cutV
  rw [r.length]
  exact RepL.take _ (RepL.drop _ r)
def sliceD (x : FD) (lo hi : Option Int) : Res FD := match x.2 with
  | .lst ds => if immL ds = true then .ok (.fr, .lst (cutL ds lo hi)) else .bad
  | .tup ds => if immL ds = true then .ok (.fr, .tup (cutL ds lo hi)) else .bad
  | .str s => if s.length ≤ sizeLine then .ok (.fr, .str (Txt.slice s lo hi)) else .bad
  | _ => .bad
def rSlD (K : PySem.W.Frag) : V → Option Int → Option Int → Hp → VK → Prop := fun x lo hi H Q => rSlL K x lo hi H Q ∨ rSlA K x lo hi H Q ∨ C8.rSlX x lo hi H Q
theorem slice_op (hK : X.K = C.K) {H : Hp} {x : V} {fx : FD} {M : List Addr} {lo hi : Option Int} {Q : VK} {z : FD} (r : Rep C H fx.2 x M) (e : sliceD fx lo hi = .ok z) (h : ∀ v H', New C H H' z.2 v → z.1 = .fr → Q v H') : rSlD X.K x lo hi H Q := by
  obtain ⟨fl, dx⟩ := fx
  cases dx with
  | lst ds =>
    unfold sliceD at e
    dsimp only at e
    split at e
    · rename_i i
      cases e
      obtain ⟨p, vs, M', rfl, e1, z1, k1, rfl⟩ := r
      refine .inl ⟨p, vs, rfl, SqL.of e1, fun q hq => h _ _ (lst_new hq (Nat.le_trans (cutL_length _ _ _) z1) ?_) rfl⟩
      exact RepL.cut (k1.nil0 i)
    · cases e
  | tup ds =>
    unfold sliceD at e
    dsimp only at e
    split at e
    · rename_i i
      cases e
      obtain ⟨p, vs, rfl, e1, z1, k1⟩ := r
      have k0 := k1.nil0 i
      refine .inr (.inl ⟨p, vs, rfl, SqT.of e1, fun w => ?_, fun _ q hq => h _ _ (tup_new hq (Nat.le_trans (cutL_length _ _ _) z1) (RepL.cut k0)) rfl⟩)
      have ec : cutL ds lo hi = ds := by
        unfold cutL
        rw [k1.length, w.1, w.2]
        simp only [List.drop_zero, Nat.sub_zero]
        rw [← k1.length, List.take_length]
      refine h _ H (.imm (Same.refl H) ?_) rfl
      show Rep C H (.tup (cutL ds lo hi)) _ _
      rw [ec]
      exact ⟨p, vs, rfl, e1, z1, k0⟩
    · cases e
  | str s =>
    unfold sliceD at e
    dsimp only at e
    split at e
    · rename_i i
      cases e
      exact .inr (.inr ⟨s, r.1, i, h _ H str_new rfl⟩)
    · cases e
  | _ => cases e
/-- a slice's part -/
def RO (C : Ctx) (W : WX) (f : Env → Res (Option Int)) : TO := fun σ H Q => ∃ ρ P, EnvOk C P H σ ρ ∧ match f ρ with
  | .ok o => ∀ H', Same H H' → Q o H'
  | .ex c => ∀ H', Same H H' → W (.ref (C.cls c)) none σ H'
  | .bad => False
def partF (f : Env → Res FD) : Env → Res (Option Int) := fun ρ => (f ρ).bind fun x => match x.2 with
  | .int i => .ok (some i)
  | _ => .bad
def noPart : Env → Res (Option Int) := fun _ => .ok none
theorem _root_.L2.PO.imp {X : Cx} {e : Option Expr} {t t' : TO} (h : PO X e t) (i : ∀ σ H Q, t' σ H Q → t σ H Q) : PO X e t' := ⟨fun pins s σ H Q I q => h.run pins s σ H Q I (i σ H Q q)⟩
theorem po_no : PO X none (RO C W noPart) := po_none.imp fun σ H Q h => by
  obtain ⟨ρ, P, E, h⟩ := h
  exact h H (Same.refl H)
theorem po_yes (ha : PE X a (RV C W f)) : PO X (some a) (RO C W (partF f)) := (po_some ha).imp fun σ H Q h => by
  obtain ⟨ρ, P, E, h⟩ := h
  refine ⟨ρ, P, E, ?_⟩
  unfold partF at h
  cases e : f ρ with
  | bad => rw [e] at h; exact h
  | ex c => rw [e] at h; exact h
  | ok fx =>
    rw [e] at h
    simp only [Res.ok_bind] at h
    intro x H1 ⟨s1, M, r1, f1⟩
    obtain ⟨fl, d⟩ := fx
    cases d <;> first | exact h.elim | skip
    exact ⟨_, r1.1, h H1 s1⟩
def slF (f : Env → Res FD) (l u : Env → Res (Option Int)) : Env → Res FD := fun ρ => (f ρ).bind fun x => (l ρ).bind fun lo => (u ρ).bind fun hi => sliceD x lo hi
theorem sliceD_nx : ∀ x lo hi c, sliceD x lo hi ≠ .ex c := fun x lo hi c e => by
  unfold sliceD at e
  split at e <;> first | cases e | (split at e <;> cases e)
theorem rv_slice (hK : X.K = C.K) {l u : Env → Res (Option Int)} {σ : St} {H : Hp} {Q : VK} (h : RV C W (slF f l u) σ H Q) : tSl (rSlD X.K) (RV C W f) (RO C W l) (RO C W u) σ H Q := by
  obtain ⟨ρ, P, E, h⟩ := h
  refine ⟨ρ, P, E, ?_⟩
  unfold slF at h
  cases e : f ρ with
  | bad => rw [e] at h; exact h
  | ex c => rw [e] at h; exact h
  | ok fx =>
    rw [e] at h
    simp only [Res.ok_bind] at h
    intro x H1 ⟨s1, M, r1, f1⟩
    refine ⟨ρ, P, E.same s1, ?_⟩
    cases e2 : l ρ with
    | bad => rw [e2] at h; exact h
    | ex c => rw [e2] at h; exact fun H' s' => h H' (s1.trans s')
    | ok lo =>
      rw [e2] at h
      simp only [Res.ok_bind] at h
      intro H2 s2
      refine ⟨ρ, P, E.same (s1.trans s2), ?_⟩
      cases e3 : u ρ with
      | bad => rw [e3] at h; exact h
      | ex c => rw [e3] at h; exact fun H' s' => h H' ((s1.trans s2).trans s')
      | ok hi =>
        rw [e3] at h
        simp only [Res.ok_bind] at h
        intro H3 s3
        cases ek : sliceD fx lo hi with
        | bad => rw [ek] at h; exact h.elim
        | ex c => exact absurd ek (sliceD_nx _ _ _ c)
        | ok z =>
          rw [ek] at h
          refine slice_op hK (r1.same (s2.trans s3)) ek fun v H' n ez => h v H' ?_
          obtain ⟨fl, z⟩ := z
          cases ez
          exact (n.early ((s1.trans s2).trans s3)).vok
theorem pd_slice (F : Fx R C X W) {lo hi : Option Expr} {l u : Env → Res (Option Int)} (ha : PE X a (RV C W f)) (hl : PO X lo (RO C W l)) (hu : PO X hi (RO C W u)) : PE X (.Subscript a (.Slice lo hi none p2) pos) (RV C W (slF f l u)) :=
  (pe_slice (sl_list.or (sl_tupA.or C8.sl_txt)) ha hl hu).imp fun _ _ _ => rv_slice F.hK
end
end DL
/-! DL6: the environment changed; targets; what is walked; list comprehensions. -/
namespace DL
open PySem L2

section
variable {C : Ctx} {P : List Pt} {H H' : Hp} {σ σ' : St} {ρ ρ' : Env} {d : D} {v : V} {M N : List Addr} {i : Nat} {o : Ow}

theorem set_get {α : Type} {l : List α} {i j : Nat} {x y : α} (h : (l.set i x)[j]? = some y) : (j = i ∧ y = x ∧ i < l.length) ∨ (j ≠ i ∧ l[j]? = some y) := by
  by_cases e : j = i
  · subst e
    by_cases hl : j < l.length
    · rw [List.getElem?_set_self hl] at h
      cases h
      exact .inl ⟨rfl, rfl, hl⟩
    · rw [List.getElem?_eq_none (by simpa using hl)] at h
      cases h
  · rw [List.getElem?_set_ne (Ne.symm e)] at h
    exact .inr ⟨e, h⟩
/-- a slot takes a value -/
theorem EnvOk.setG (E : EnvOk C P H σ ρ) (r : Rep C H d v M) (hi : i < ρ.length)
    (h1 : ∀ (j : Nat) (o' : Ow) (d' : D) (w : V) (N : List Addr), j ≠ i → ρ[j]? = some (some (o', d')) → σ[j]? = some (some w) → Rep C H d' w N → (o.own = true ∨ o'.own = true) → ∀ a ∈ M, a ∉ N)
    (h2 : o.own = true → M.Nodup ∧ (∀ a ∈ M, Mut (H a)) ∧ ∀ p ∈ P, ∀ N, PRep C H p N → ∀ a ∈ M, a ∉ N) (h3 : o = .loc → ∀ a ∈ M, C.H0 a = none) (h4 : (o = .io → (∀ a ∈ M, a ∈ C.io ∨ C.H0 a = none) ∧ C.iov = some v) ∧ (o = .lk → ∃ a od u, v = .ref a ∧ Sum.inr (a, od, u) ∈ P)) :
    EnvOk C P H (σ.set i (some v)) (ρ.set i (some (o, d))) := by
  refine ⟨by simpa using E.len, fun j oj dj e => ?_, E.prot, E.kept, E.keptd⟩
  rcases set_get e with ⟨rfl, e, _⟩ | ⟨hj, e3⟩
  · cases e
    refine ⟨v, M, List.getElem?_set_self (by rw [E.len]; exact hi), r, fun hw => ?_, h3, h4⟩
    obtain ⟨q1, q2, q3⟩ := h2 hw
    refine ⟨q1, q2, fun k o' d' w N hk ek sk rk => ?_, q3⟩
    rw [List.getElem?_set_ne (Ne.symm hk)] at ek sk
    exact h1 k o' d' w N hk ek sk rk (.inl hw)
  · obtain ⟨w, L, e1, rj, ow, lo, io⟩ := E.at_ j oj dj e3
    refine ⟨w, L, by rw [List.getElem?_set_ne (Ne.symm hj)]; exact e1, rj, fun hw => ?_, lo, io⟩
    obtain ⟨q1, q2, q3, q4⟩ := ow hw
    refine ⟨q1, q2, fun k o' d' w' N hk ek sk rk a ma na => ?_, q4⟩
    rcases set_get ek with ⟨rfl, ek, _⟩ | ⟨hki, ek⟩
    · cases ek
      rw [List.getElem?_set_self (by rw [E.len]; exact hi)] at sk
      cases sk
      rw [rk.uniq r] at na
      exact h1 j oj dj w L (Ne.symm hk) e3 e1 rj (.inr hw) a na ma
    · rw [List.getElem?_set_ne (Ne.symm hki)] at sk
      exact q3 k o' d' w' N hk ek sk rk a ma na
theorem EnvOk.setSh (E : EnvOk C P H σ ρ) (r : Rep C H d v M) (ap : Apart C H σ ρ M) (hi : i < ρ.length) : EnvOk C P H (σ.set i (some v)) (ρ.set i (some (.sh, d))) :=
  E.setG r hi (fun j o' d' w N _ ej sj rj h a ma => by
    rcases h with h | h
    · cases h
    · exact ap j o' d' w N ej h sj rj a ma) (fun h => by cases h) (fun h => by cases h) ⟨(fun h => by cases h), (fun h => by cases h)⟩
/-- new nodes are apart from all that stood -/
theorem EnvOk.newApart {H0 : Hp} (E : EnvOk C P H0 σ ρ) (nw : ∀ a ∈ M, H0 a = none) {j : Nat} {o' : Ow} {d' : D} {w : V} (ej : ρ[j]? = some (some (o', d'))) (sj : σ[j]? = some (some w)) (s : Same H0 H) (rj : Rep C H d' w N) : ∀ a ∈ M, a ∉ N := by
  obtain ⟨w', N', e', r', _⟩ := E.at_ j o' d' ej
  rw [sj] at e'; cases e'
  have r0 := r'.back s rj
  intro a ma na
  obtain ⟨u, hu⟩ := r0.dom a na
  rw [nw a ma] at hu
  cases hu
theorem EnvOk.newApartP {H0 : Hp} (E : EnvOk C P H0 σ ρ) (nw : ∀ a ∈ M, H0 a = none) (s : Same H0 H) : ∀ p ∈ P, ∀ N, PRep C H p N → ∀ a ∈ M, a ∉ N := by
  intro p hp N rp a ma na
  obtain ⟨N', r'⟩ := E.prot p hp
  have r0 := r'.back s rp
  cases p with
  | inl p =>
    obtain ⟨u, hu⟩ := Rep.dom r0 a na
    rw [nw a ma] at hu
    cases hu
  | inr q =>
    rw [r0.2] at na
    cases na
/-- name = a value, by its flag -/
theorem EnvOk.assign {fd : FD} (E : EnvOk C P H σ ρ) (vo : VOk C H σ ρ H' fd v) (hi : i < ρ.length) (hf : fd.1 = .fr ∨ fd.1 = .sf) :
    EnvOk C P H' (σ.set i (some v)) (ρ.set i (some (if fd.1 = .fr then .loc else .sh, fd.2))) := by
  obtain ⟨s, M, r, f⟩ := vo
  have E' := E.same s
  rcases hf with hf | hf
  · rw [if_pos hf]
    rw [hf] at f
    obtain ⟨nd, nw, mu⟩ := f
    refine E'.setG r hi (fun j o' d' w N _ ej sj rj _ => E.newApart nw ej sj s rj) (fun _ => ⟨nd, mu, E.newApartP nw s⟩) (fun _ a m => E.keptd a (nw a m)) ⟨(fun h => by cases h), (fun h => by cases h)⟩
  · rw [if_neg (by rw [hf]; exact fun h => by cases h)]
    rw [hf] at f
    exact E'.setSh r (Apart.back E s f) hi
/-- slots forgotten, shared -/
theorem EnvOk.weak (E : EnvOk C P H σ ρ) (hl : σ'.length = ρ'.length) (h : ∀ (i : Nat) (o : Ow) (d : D), ρ'[i]? = some (some (o, d)) → ∃ o', ρ[i]? = some (some (o', d)) ∧ (o = o' ∨ o = .sh) ∧ σ'[i]? = σ[i]?) : EnvOk C P H σ' ρ' := by
  refine ⟨hl, fun i o d e => ?_, E.prot, E.kept, E.keptd⟩
  obtain ⟨o', e', ho, es⟩ := h i o d e
  obtain ⟨v, M, e1, r, ow, lo, io⟩ := E.at_ i o' d e'
  refine ⟨v, M, es.trans e1, r, fun hw => ?_, fun q => ?_, fun q => ?_, fun q => ?_⟩
  · have : o = o' := ho.elim id fun z => by subst z; cases hw
    subst this
    obtain ⟨q1, q2, q3, q4⟩ := ow hw
    refine ⟨q1, q2, fun j oj dj w N hj ej sj rj => ?_, q4⟩
    obtain ⟨oj', ej', _, esj⟩ := h j oj dj ej
    exact q3 j oj' dj w N hj ej' (esj ▸ sj) rj
  · rcases ho with rfl | rfl
    · exact lo q
    · cases q
  · rcases ho with rfl | rfl
    · exact io.1 q
    · cases q
  · rcases ho with rfl | rfl
    · exact io.2 q
    · cases q
def fzE (ρ : Env) : Env := ρ.map fun s => s.map fun p => (Ow.sh, p.2)
theorem EnvOk.frozen (E : EnvOk C P H σ ρ) : EnvOk C P H σ (fzE ρ) := E.weak (by unfold fzE; rw [List.length_map]; exact E.len) fun i o d e => by
  unfold fzE at e
  rw [List.getElem?_map] at e
  cases q : ρ[i]? with
  | none => rw [q] at e; cases e
  | some s =>
    rw [q] at e
    cases s with
    | none => cases e
    | some p => cases e; exact ⟨p.1, rfl, .inr rfl, rfl⟩
theorem fzE_own {i : Nat} {o : Ow} {d : D} (e : (fzE ρ)[i]? = some (some (o, d))) : o = .sh := by
  unfold fzE at e
  rw [List.getElem?_map] at e
  cases q : ρ[i]? with
  | none => rw [q] at e; cases e
  | some s =>
    rw [q] at e
    cases s with
    | none => cases e
    | some p => cases e; rfl
def wipeE (ρ : Env) : List Nat → Env
  | [] => ρ
  | v :: vs => (wipeE ρ vs).set v none
theorem wipeE_len (ρ : Env) : ∀ vs, (wipeE ρ vs).length = ρ.length
  | [] => rfl
  | v :: vs => by unfold wipeE; rw [List.length_set, wipeE_len ρ vs]
theorem wipeE_get {ρ : Env} {i : Nat} {p : Ow × D} : ∀ {vs : List Nat}, (wipeE ρ vs)[i]? = some (some p) → ρ[i]? = some (some p) ∧ i ∉ vs
  | [], h => ⟨h, by simp⟩
  | v :: vs, h => by
    unfold wipeE at h
    rcases set_get h with ⟨_, e, _⟩ | ⟨hi, h⟩
    · cases e
    · obtain ⟨h1, h2⟩ := wipeE_get h
      exact ⟨h1, by simp only [List.mem_cons, not_or]; exact ⟨hi, h2⟩⟩
theorem wipe_get (σ : St) (i : Nat) : ∀ vs : List Nat, (wipe σ vs)[i]? = if i ∈ vs ∧ i < σ.length then some none else σ[i]?
  | [] => by simp [wipe]
  | v :: vs => by
    unfold wipe
    by_cases e : i = v
    · subst e
      by_cases hl : i < σ.length
      · rw [List.getElem?_set_self (by rw [wipe_length]; exact hl), if_pos ⟨List.mem_cons_self, hl⟩]
      · rw [List.getElem?_eq_none (by rw [List.length_set, wipe_length]; omega), if_neg (fun z => hl z.2), List.getElem?_eq_none (by omega)]
    · rw [List.getElem?_set_ne (Ne.symm e), wipe_get σ i vs]
      have : (i ∈ v :: vs ∧ i < σ.length) ↔ (i ∈ vs ∧ i < σ.length) := by simp [e]
      by_cases h : i ∈ vs ∧ i < σ.length
      · rw [if_pos h, if_pos (this.mpr h)]
      · rw [if_neg h, if_neg fun z => h (this.mp z)]
theorem EnvOk.wipe (E : EnvOk C P H σ ρ) (vs : List Nat) : EnvOk C P H (L2.wipe σ vs) (wipeE ρ vs) := E.weak (by rw [wipe_length, wipeE_len]; exact E.len) fun i o d e => by
  obtain ⟨e1, e2⟩ := wipeE_get e
  refine ⟨o, e1, .inl rfl, ?_⟩
  rw [wipe_get, if_neg fun z => e2 z.1]
theorem wipe_agree {σ σ2 : St} {vs : List Nat} (hl : σ2.length = σ.length) (h : ∀ i, i ∉ vs → σ2[i]? = (L2.wipe σ vs)[i]?) : L2.wipe σ2 vs = L2.wipe σ vs := by
  refine List.ext_getElem? fun i => ?_
  by_cases hi : i ∈ vs
  · rw [wipe_get, wipe_get, hl]
    by_cases hl2 : i < σ.length
    · rw [if_pos ⟨hi, hl2⟩, if_pos ⟨hi, hl2⟩]
    · rw [if_neg fun z => hl2 z.2, if_neg fun z => hl2 z.2, List.getElem?_eq_none (by omega), List.getElem?_eq_none (by omega)]
  · rw [wipe_get, if_neg fun z => hi z.1]
    exact h i hi
theorem EnvOk.push {Ps : List Pt} (E : EnvOk C P H σ ρ) (h : ∀ p ∈ Ps, ∃ N, PRep C H p N ∧ Apart C H σ ρ N) : EnvOk C (Ps ++ P) H σ ρ := by
  refine ⟨E.len, fun i o d e => ?_, fun p hp => ?_, fun a o e n => (E.kept a o e n).imp_right fun ⟨od, m⟩ => ⟨od, List.mem_append_right _ m⟩, E.keptd⟩
  · obtain ⟨v, M, e1, r, ow, lo, io⟩ := E.at_ i o d e
    refine ⟨v, M, e1, r, fun hw => ?_, lo, io.1, fun q => let ⟨a, od, u, e, m⟩ := io.2 q; ⟨a, od, u, e, List.mem_append_right _ m⟩⟩
    obtain ⟨q1, q2, q3, q4⟩ := ow hw
    refine ⟨q1, q2, q3, fun p hp N rp a ma na => ?_⟩
    rcases List.mem_append.mp hp with m | m
    · obtain ⟨N', r', ap⟩ := h p m
      rw [rp.uniq r'] at na
      exact ap i o d v M e hw e1 r a na ma
    · exact q4 p m N rp a ma na
  · rcases List.mem_append.mp hp with m | m
    · obtain ⟨N, r, _⟩ := h p m
      exact ⟨N, r⟩
    · exact E.prot p m
def noLock : Pt → Prop
  | .inl _ => True
  | .inr _ => False
theorem EnvOk.pop {Ps : List Pt} (E : EnvOk C (Ps ++ P) H σ ρ) (h : ∀ p ∈ Ps, noLock p) : EnvOk C P H σ ρ := by
  refine ⟨E.len, fun i o d e => ?_, fun p hp => E.prot p (List.mem_append_right _ hp), fun a o e n => ?_, E.keptd⟩
  · obtain ⟨v, M, e1, r, ow, lo, io⟩ := E.at_ i o d e
    refine ⟨v, M, e1, r, fun hw => ?_, lo, io.1, fun q => let ⟨a, od, u, e, m⟩ := io.2 q; ⟨a, od, u, e, (List.mem_append.mp m).elim (fun m => (h _ m).elim) id⟩⟩
    obtain ⟨q1, q2, q3, q4⟩ := ow hw
    exact ⟨q1, q2, q3, fun p hp => q4 p (List.mem_append_right _ hp)⟩
  · rcases E.kept a o e n with q | ⟨od, m⟩
    · exact .inl q
    · rcases List.mem_append.mp m with m | m
      · exact (h _ m).elim
      · exact .inr ⟨od, m⟩
end

/-! ### targets -/
inductive Tg where
  | nm (i : Nat) | tp (ts : List Tg)
mutual
def Tg.ix : Tg → List Nat
  | .nm i => [i]
  | .tp ts => Tg.ixL ts
def Tg.ixL : List Tg → List Nat
  | [] => []
  | t :: ts => t.ix ++ Tg.ixL ts
end
mutual
def asg (o : Ow) : Tg → D → Env → Option Env
  | .nm i, d, ρ => if i < ρ.length then some (ρ.set i (some (o, d))) else none
  | .tp ts, .tup ds, ρ => asgL o ts ds ρ
  | .tp _, _, _ => none
def asgL (o : Ow) : List Tg → List D → Env → Option Env
  | [], [], ρ => some ρ
  | t :: ts, d :: ds, ρ => (asg o t d ρ).bind (asgL o ts ds)
  | _, _, _ => none
end
mutual
def gOf (K : PySem.W.Frag) : Tg → TG
  | .nm i => gName i
  | .tp ts => gTup K ts.length (gOfL K ts)
def gOfL (K : PySem.W.Frag) : List Tg → TGs
  | [] => gNil
  | t :: ts => gCons (gOf K t) (gOfL K ts)
end
section
variable {C : Ctx} {P : List Pt} {H : Hp}
theorem apart_set {σ : St} {ρ : Env} {i : Nat} {v : V} {d : D} {M : List Addr} (ap : Apart C H σ ρ M) : Apart C H (σ.set i (some v)) (ρ.set i (some (.sh, d))) M := fun j o d' w N e ow e1 r => by
  rcases set_get e with ⟨_, e, _⟩ | ⟨hj, e⟩
  · cases e; cases ow
  · rw [List.getElem?_set_ne (Ne.symm hj)] at e1
    exact ap j o d' w N e ow e1 r
/-- what a value must be to be stored so -/
def Cnd (C : Ctx) (P : List Pt) (H : Hp) (σ : St) (ρ : Env) : Ow → List Addr → Prop
  | .sh, M => Apart C H σ ρ M
  | .loc, M => M.Nodup ∧ (∀ a ∈ M, Mut (H a) ∧ C.H0 a = none) ∧ (∀ (j : Nat) (o : Ow) (d : D) (w : V) (N : List Addr), ρ[j]? = some (some (o, d)) → σ[j]? = some (some w) → Rep C H d w N → ∀ a ∈ M, a ∉ N) ∧ ∀ p ∈ P, ∀ N, PRep C H p N → ∀ a ∈ M, a ∉ N
  | _, _ => False
theorem Cnd.sub {σ : St} {ρ : Env} {o : Ow} {M N : List Addr} (h : Cnd C P H σ ρ o M) (s : N.Sublist M) : Cnd C P H σ ρ o N := by
  cases o with
  | sh => exact fun i o d w L a b c d' x m => h i o d w L a b c d' x (s.subset m)
  | loc => exact ⟨h.1.sublist s, fun a m => h.2.1 a (s.subset m), fun j o d w L e e1 r a m => h.2.2.1 j o d w L e e1 r a (s.subset m), fun p hp L r a m => h.2.2.2 p hp L r a (s.subset m)⟩
  | io => exact h
  | lk => exact h
theorem Cnd.setOk {σ : St} {ρ : Env} {o : Ow} {M : List Addr} {v : V} {d : D} {i : Nat} (E : EnvOk C P H σ ρ) (c : Cnd C P H σ ρ o M) (r : Rep C H d v M) (hi : i < ρ.length) : EnvOk C P H (σ.set i (some v)) (ρ.set i (some (o, d))) := by
  cases o with
  | sh => exact E.setSh r c hi
  | loc => exact E.setG r hi (fun j o' d' w N _ ej sj rj _ => c.2.2.1 j o' d' w N ej sj rj) (fun _ => ⟨c.1, fun a m => (c.2.1 a m).1, c.2.2.2⟩) (fun _ a m => (c.2.1 a m).2) ⟨(fun h => by cases h), (fun h => by cases h)⟩
  | io => exact c.elim
  | lk => exact c.elim
theorem Cnd.keep {σ : St} {ρ : Env} {o : Ow} {M N : List Addr} {v : V} {d : D} {i : Nat} (E : EnvOk C P H σ ρ) (hi : i < ρ.length) (c : Cnd C P H σ ρ o N) (r : Rep C H d v M) (dj : o = .loc → ∀ a ∈ N, a ∉ M) : Cnd C P H (σ.set i (some v)) (ρ.set i (some (o, d))) o N := by
  cases o with
  | sh => exact apart_set c
  | loc =>
    refine ⟨c.1, c.2.1, fun j o' d' w L e e1 rj a ma na => ?_, c.2.2.2⟩
    rcases set_get e with ⟨rfl, e, _⟩ | ⟨hj, e⟩
    · cases e
      rw [List.getElem?_set_self (by rw [E.len]; exact hi)] at e1
      cases e1
      rw [rj.uniq r] at na
      exact dj rfl a ma na
    · rw [List.getElem?_set_ne (Ne.symm hj)] at e1
      exact c.2.2.1 j o' d' w L e e1 rj a ma na
  | io => exact c.elim
  | lk => exact c.elim
mutual
theorem asg_ok (K : PySem.W.Frag) (o : Ow) : ∀ (t : Tg) (d : D) (v : V) (M : List Addr) (σ : St) (ρ ρ' : Env) (Q : St → Hp → Prop), asg o t d ρ = some ρ' → EnvOk C P H σ ρ → Rep C H d v M → Cnd C P H σ ρ o M →
    (∀ σ', EnvOk C P H σ' ρ' → σ'.length = σ.length → (∀ i, i ∉ t.ix → σ'[i]? = σ[i]?) → (∀ N, Cnd C P H σ ρ o N → (o = .loc → ∀ a ∈ N, a ∉ M) → Cnd C P H σ' ρ' o N) → Q σ' H) → gOf K t v σ H Q
  | .nm i, d, v, M, σ, ρ, ρ', Q, e, E, r, ap, h => by
    unfold asg at e
    split at e
    · rename_i hi
      cases e
      show Q _ H
      refine h _ (ap.setOk E r hi) (by simp) (fun j hj => ?_) fun N a dj => a.keep E hi r dj
      rw [List.getElem?_set_ne (fun z => hj (by simp [Tg.ix, z]))]
    · cases e
  | .tp ts, d, v, M, σ, ρ, ρ', Q, e, E, r, ap, h => by
    cases d <;> first | (simp [asg] at e; done) | skip
    rename_i ds
    obtain ⟨a, vs, rfl, ea, _, rr⟩ := r
    have e' : asgL o ts ds ρ = some ρ' := by simpa [asg] using e
    obtain ⟨hl, hg⟩ := asgL_ok K o ts ds vs M σ ρ ρ' Q e' E rr ap (fun σ' E' h1 h2 h3 => h σ' E' h1 (by simpa [Tg.ix] using h2) h3)
    exact ⟨a, vs, rfl, SqT.of ea, hl, hg⟩
theorem asgL_ok (K : PySem.W.Frag) (o : Ow) : ∀ (ts : List Tg) (ds : List D) (vs : List V) (M : List Addr) (σ : St) (ρ ρ' : Env) (Q : St → Hp → Prop), asgL o ts ds ρ = some ρ' → EnvOk C P H σ ρ → RepL C H ds vs M → Cnd C P H σ ρ o M →
    (∀ σ', EnvOk C P H σ' ρ' → σ'.length = σ.length → (∀ i, i ∉ Tg.ixL ts → σ'[i]? = σ[i]?) → (∀ N, Cnd C P H σ ρ o N → (o = .loc → ∀ a ∈ N, a ∉ M) → Cnd C P H σ' ρ' o N) → Q σ' H) → vs.length = ts.length ∧ gOfL K ts vs σ H Q
  | [], ds, vs, M, σ, ρ, ρ', Q, e, E, r, ap, h => by
    cases ds with
    | nil =>
      simp only [asgL, Option.some.injEq] at e
      subst e
      rw [r.1]
      exact ⟨rfl, rfl, h σ E rfl (fun _ _ => rfl) fun _ a _ => a⟩
    | cons d ds => simp [asgL] at e
  | t :: ts, ds, vs, M, σ, ρ, ρ', Q, e, E, r, ap, h => by
    cases ds with
    | nil => simp [asgL] at e
    | cons d ds =>
      simp only [asgL] at e
      obtain ⟨ρ1, e1, e2⟩ := Option.bind_eq_some_iff.mp e
      obtain ⟨v, w, M1, M2, rfl, r1, r2, rfl⟩ := r
      have ap1 := ap.sub (List.sublist_append_left M1 M2)
      have ap2 := ap.sub (List.sublist_append_right M1 M2)
      have dj12 : o = .loc → ∀ a ∈ M2, a ∉ M1 := fun z a m2 m1 => by
        subst z
        exact (List.nodup_append.mp ap.1).2.2 a m1 a m2 rfl
      have hlen : w.length = ts.length := by
        have : ∀ (ts : List Tg) (ds : List D) (ρ : Env), asgL o ts ds ρ = some ρ' → ds.length = ts.length := by
          intro ts
          induction ts with
          | nil => intro ds ρ e; cases ds with
            | nil => rfl
            | cons => simp [asgL] at e
          | cons t ts ih => intro ds ρ e; cases ds with
            | nil => simp [asgL] at e
            | cons d ds =>
              simp only [asgL] at e
              obtain ⟨ρ1, _, e2⟩ := Option.bind_eq_some_iff.mp e
              rw [List.length_cons, List.length_cons, ih ds ρ1 e2]
        rw [← r2.length, this ts ds ρ1 e2]
      refine ⟨by rw [List.length_cons, List.length_cons, hlen], v, w, rfl, asg_ok K o t d v M1 σ ρ ρ1 _ e1 E r1 ap1 fun σ1 E1 l1 a1 k1 => ?_⟩
      exact (asgL_ok K o ts ds w M2 σ1 ρ1 ρ' Q e2 E1 r2 (k1 _ ap2 dj12) fun σ' E' l' a' k' => h σ' E' (l'.trans l1) (fun i hi => by
        have hi' : i ∉ t.ix ∧ i ∉ Tg.ixL ts := by simpa [Tg.ixL, List.mem_append, not_or] using hi
        rw [a' i hi'.2, a1 i hi'.1]) fun N a dj => k' N (k1 N a fun z b nb m => dj z b nb (List.mem_append_left _ m)) fun z b nb m => dj z b nb (List.mem_append_right _ m)).2
end
end

/-! ### what is walked -/
def ItOk (C : Ctx) (J : It) (items : List D) (Ps : List Pt) : Prop := ∀ (i : Nat) (H : Hp), (∀ p ∈ Ps, ∃ N, PRep C H p N) →
  (∀ d, items[i]? = some d → J.go i H ∧ ∀ x H', J.yld i H x H' → Same H H' ∧ ∃ M, Rep C H' d x M ∧ ∀ a ∈ M, ∃ p ∈ Ps, ∃ N, PRep C H p N ∧ a ∈ N) ∧ (items.length ≤ i → J.stop i H)
/-- the values walked, each with its flag, and the items -/
abbrev ID := List FD × List D
def PsOk (C : Ctx) (H : Hp) (σ : St) (ρ : Env) (H' : Hp) : List FD → List Pt → Prop
  | [], Ps => Ps = []
  | fd :: r, Ps => ∃ v Pr, Ps = .inl (v, fd.2) :: Pr ∧ (∃ M, Rep C H' fd.2 v M ∧ FlOk C H σ ρ H' fd.1 M) ∧ PsOk C H σ ρ H' r Pr
def RI (C : Ctx) (W : WX) (f : Env → Res ID) : TI := fun σ H R => ∃ ρ P, EnvOk C P H σ ρ ∧ match f ρ with
  | .ok it => ∀ J H' Ps Ls, Same H H' → PsOk C H σ ρ H' it.1 Ps → (∀ p ∈ Ls, p ∈ P ∧ ∃ q, p = Sum.inr q) → ItOk C J it.2 (Ps ++ Ls) → R J H'
  | .ex c => ∀ H', Same H H' → W (.ref (C.cls c)) none σ H'
  | .bad => False
theorem _root_.L2.PI.imp {X : Cx} {tg e : Expr} {t t' : TI} (h : PI X tg e t) (i : ∀ σ H R, t' σ H R → t σ H R) : PI X tg e t' := ⟨fun pins s σ H Q I q => h.run pins s σ H Q I (i σ H Q q)⟩
theorem PsOk.rep {C : Ctx} {H H' : Hp} {σ : St} {ρ : Env} : ∀ {r : List FD} {Ps : List Pt}, PsOk C H σ ρ H' r Ps → ∀ p ∈ Ps, (∃ N, PRep C H' p N) ∧ noLock p
  | [], Ps, h => by rw [show Ps = [] from h]; exact fun p m => nomatch m
  | fd :: r, Ps, h => by
    obtain ⟨v, Pr, rfl, ⟨M, rr, _⟩, h2⟩ := h
    intro p m
    rcases List.mem_cons.mp m with rfl | m
    · exact ⟨⟨M, rr⟩, trivial⟩
    · exact PsOk.rep h2 p m
theorem PsOk.apart {C : Ctx} {P : List Pt} {H H' : Hp} {σ : St} {ρ : Env} (E : EnvOk C P H σ ρ) (s : Same H H') : ∀ {r : List FD} {Ps : List Pt}, PsOk C H σ ρ H' r Ps → (∀ fd ∈ r, fd.1 = .fr ∨ fd.1 = .sf) → ∀ p ∈ Ps, ∃ N, PRep C H' p N ∧ Apart C H' σ ρ N
  | [], Ps, h, _ => by rw [show Ps = [] from h]; exact fun p m => nomatch m
  | fd :: r, Ps, h, hf => by
    obtain ⟨v, Pr, rfl, ⟨M, rr, f⟩, h2⟩ := h
    intro p m
    rcases List.mem_cons.mp m with rfl | m
    · refine ⟨M, rr, ?_⟩
      rcases hf fd List.mem_cons_self with z | z
      · rw [z] at f
        exact fun i o d w N e ow e1 r => E.newApart f.2.1 e e1 s r
      · rw [z] at f
        exact Apart.back E s f
    · exact PsOk.apart E s h2 (fun fd m => hf fd (List.mem_cons_of_mem _ m)) p m

section
variable {C : Ctx} {X : Cx} {W : WX} {tg a b : Expr} {f g : Env → Res FD} {pos p p2 : Pos}
def iSeq (K : PySem.W.Frag) (tl : TE) : TI := fun σ H R => tl σ H fun x H1 => ∃ a, x = .ref a ∧ (((∃ xs, SqL K H1 a xs) ∧ R (Itl K a) H1) ∨ ((∃ xs, SqT K H1 a xs) ∧ R (Itt K a) H1))
theorem pi_seq {l : Expr} {tl : TE} (hl : PE X l tl) : PI X tg l (iSeq X.K tl) := by
  refine ⟨fun pins s σ H R I h => ?_⟩
  refine thn (hl.run pins s σ H _ I h) fun v s1 ⟨x, H1, I1, r1, q1⟩ => ?_
  obtain ⟨a, e, q⟩ := q1
  subst e
  cases r1
  rcases q with ⟨⟨xs, hq⟩, q⟩ | ⟨⟨xs, hq⟩, q⟩
  · obtain ⟨its, rv, p, hz⟩ := I1.list hq
    refine wpAny_pyIter_list p.isList ?_
    refine ⟨s1.heap.objs.size, [s1.heap.objs.size], _, _, H1, rfl, I1.kept (t' := s1.toks) fun b o e => Heap.get?_push_of_some _ e, turn_list a _, ⟨_, Heap.get?_push_size _ rfl, rfl, rfl⟩, fun b hb => ?_, q⟩
    have e : b = s1.heap.objs.size := by simpa using hb
    subst e
    exact I1.fpOk (Nat.le_refl _) (I1.hok.fresh (Nat.le_refl _))
  · obtain ⟨its, rv, p, hz⟩ := I1.tuple hq
    refine wpAny_pyIter_tuple (show s1.heap.IsTuple a its.toArray from p) ?_
    refine ⟨s1.heap.objs.size, [s1.heap.objs.size], _, _, H1, rfl, I1.kept (t' := s1.toks) fun b o e => Heap.get?_push_of_some _ e, turn_tuple a _, ⟨_, Heap.get?_push_size _ rfl, rfl, rfl⟩, fun b hb => ?_, q⟩
    have e : b = s1.heap.objs.size := by simpa using hb
    subst e
    exact I1.fpOk (Nat.le_refl _) (I1.hok.fresh (Nat.le_refl _))
def seqI (f : Env → Res FD) : Env → Res ID := fun ρ => (f ρ).bind fun x => match x.2 with
  | .lst ds => .ok ([x], ds)
  | .tup ds => .ok ([x], ds)
  | _ => .bad
theorem itok_lst (K : PySem.W.Frag) (a : Addr) (ds : List D) : ItOk C (Itl K a) ds [.inl (.ref a, .lst ds)] := by
  intro i H hp
  obtain ⟨N, a', vs, M', e0, e1, z, r, eN⟩ := hp _ (List.mem_singleton.mpr rfl)
  cases e0
  refine ⟨fun d e => ?_, fun hl => ⟨vs, SqL.of e1, by rw [← r.length]; exact hl⟩⟩
  obtain ⟨v, L, e2, r', s⟩ := r.get e
  refine ⟨⟨vs, v, SqL.of e1, e2⟩, fun x H' ⟨eH, q⟩ => ?_⟩
  subst eH
  have e3 := q vs (SqL.of e1)
  rw [e2] at e3
  cases e3
  exact ⟨Same.refl _, L, r', fun b m => ⟨_, List.mem_singleton.mpr rfl, N, ⟨a, vs, M', rfl, e1, z, r, eN⟩, by rw [eN]; exact List.mem_cons_of_mem _ (s.subset m)⟩⟩
theorem itok_tup (K : PySem.W.Frag) (a : Addr) (ds : List D) : ItOk C (Itt K a) ds [.inl (.ref a, .tup ds)] := by
  intro i H hp
  obtain ⟨N, a', vs, e0, e1, z, r⟩ := hp _ (List.mem_singleton.mpr rfl)
  cases e0
  refine ⟨fun d e => ?_, fun hl => ⟨vs, SqT.of e1, by rw [← r.length]; exact hl⟩⟩
  obtain ⟨v, L, e2, r', s⟩ := r.get e
  refine ⟨⟨vs, v, SqT.of e1, e2⟩, fun x H' ⟨eH, q⟩ => ?_⟩
  subst eH
  have e3 := q vs (SqT.of e1)
  rw [e2] at e3
  cases e3
  exact ⟨Same.refl _, L, r', fun b m => ⟨_, List.mem_singleton.mpr rfl, N, ⟨a, vs, rfl, e1, z, r⟩, s.subset m⟩⟩
theorem ri_seq {K : PySem.W.Frag} {σ : St} {H : Hp} {R : It → Hp → Prop} (h : RI C W (seqI f) σ H R) : iSeq K (RV C W f) σ H R := by
  obtain ⟨ρ, P, E, h⟩ := h
  refine ⟨ρ, P, E, ?_⟩
  unfold seqI at h
  cases e : f ρ with
  | bad => rw [e] at h; exact h
  | ex c => rw [e] at h; exact h
  | ok fx =>
    rw [e] at h
    simp only [Res.ok_bind] at h
    intro x H1 ⟨s1, M, r1, f1⟩
    obtain ⟨fl, d⟩ := fx
    cases d with
    | lst ds =>
      have r0 := r1
      obtain ⟨a, vs, M', rfl, e1, z, r, rfl⟩ := r1
      exact ⟨a, rfl, .inl ⟨⟨vs, SqL.of e1⟩, h _ H1 _ [] s1 ⟨_, _, rfl, ⟨_, r0, f1⟩, rfl⟩ (fun p m => nomatch m) (itok_lst K a ds)⟩⟩
    | tup ds =>
      have r0 := r1
      obtain ⟨a, vs, rfl, e1, z, r⟩ := r1
      exact ⟨a, rfl, .inr ⟨⟨vs, SqT.of e1⟩, h _ H1 _ [] s1 ⟨_, _, rfl, ⟨_, r0, f1⟩, rfl⟩ (fun p m => nomatch m) (itok_tup K a ds)⟩⟩
    | _ => exact h.elim
theorem di_seq (ha : PE X a (RV C W f)) : PI X tg a (RI C W (seqI f)) := (pi_seq ha).imp fun _ _ _ => ri_seq
/-! range -/
def rngD (lo hi : Int) : List D := (List.range (hi - lo).toNat).map fun i => .int (lo + (i : Nat))
def rng1I (f : Env → Res FD) : Env → Res ID := fun ρ => (f ρ).bind fun x => match x.2 with
  | .int j => if (decide (-(2 ^ 62) ≤ j) && decide (j < 2 ^ 62)) = true then .ok ([], rngD 0 j) else .bad
  | _ => .bad
def rng2I (f g : Env → Res FD) : Env → Res ID := fun ρ => (f ρ).bind fun x => (g ρ).bind fun y => match x.2, y.2 with
  | .int i, .int j => if (decide (-(2 ^ 62) ≤ i) && decide (i < 2 ^ 62) && decide (-(2 ^ 62) ≤ j) && decide (j < 2 ^ 62)) = true then .ok ([], rngD i j) else .bad
  | _, _ => .bad
theorem itok_rng (lo hi : Int) : ItOk C (Itr lo (hi - lo).toNat) (rngD lo hi) [] := by
  intro i H _
  unfold rngD
  refine ⟨fun d e => ?_, fun hl => by rw [List.length_map, List.length_range] at hl; exact hl⟩
  rw [List.getElem?_map] at e
  obtain ⟨k, e1, rfl⟩ := Option.map_eq_some_iff.mp e
  obtain ⟨hk, e2⟩ := List.getElem?_eq_some_iff.mp e1
  have hki : k = i := by rw [← e2]; simp
  subst hki
  refine ⟨by rw [List.length_range] at hk; exact hk, fun x H' ⟨eH, q⟩ => ?_⟩
  subst eH
  subst q
  exact ⟨Same.refl _, [], ⟨rfl, rfl⟩, fun b m => nomatch m⟩
theorem ri_rng1 {σ : St} {H : Hp} {R : It → Hp → Prop} (h : RI C W (rng1I f) σ H R) : iRng1 (tCons (RV C W f) tNil) σ H R := by
  obtain ⟨ρ, P, E, h⟩ := h
  refine ⟨ρ, P, E, ?_⟩
  unfold rng1I at h
  cases e : f ρ with
  | bad => rw [e] at h; exact h
  | ex c => rw [e] at h; exact h
  | ok fx =>
    rw [e] at h
    simp only [Res.ok_bind] at h
    intro x H1 ⟨s1, M, r1, f1⟩
    obtain ⟨fl, d⟩ := fx
    cases d <;> first | exact h.elim | skip
    rename_i j
    dsimp only at h
    by_cases hj : (decide (-(2 ^ 62) ≤ j) && decide (j < 2 ^ 62)) = true
    · rw [if_pos hj] at h
      simp only [Bool.and_eq_true, decide_eq_true_eq] at hj
      refine ⟨j, by rw [r1.1], hj.1, hj.2, ?_⟩
      have q := h (Itr 0 j.toNat) H1 [] [] s1 rfl (fun p m => nomatch m) (by have := itok_rng (C := C) 0 j; rwa [Int.sub_zero] at this)
      exact q
    · rw [if_neg hj] at h; exact h.elim
theorem ri_rng2 {σ : St} {H : Hp} {R : It → Hp → Prop} (h : RI C W (rng2I f g) σ H R) : iRng2 (tCons (RV C W f) (tCons (RV C W g) tNil)) σ H R := by
  obtain ⟨ρ, P, E, h⟩ := h
  refine ⟨ρ, P, E, ?_⟩
  unfold rng2I at h
  cases e : f ρ with
  | bad => rw [e] at h; exact h
  | ex c => rw [e] at h; exact h
  | ok fx =>
    rw [e] at h
    simp only [Res.ok_bind] at h
    intro x H1 ⟨s1, M, r1, f1⟩
    refine ⟨ρ, P, E.same s1, ?_⟩
    cases e2 : g ρ with
    | bad => rw [e2] at h; exact h
    | ex c => rw [e2] at h; exact fun H' s' => h H' (s1.trans s')
    | ok fy =>
      rw [e2] at h
      simp only [Res.ok_bind] at h
      intro y H2 ⟨s2, N, r2, f2⟩
      obtain ⟨fl, d⟩ := fx
      obtain ⟨fl', d'⟩ := fy
      cases d <;> first | exact h.elim | skip
      cases d' <;> first | exact h.elim | skip
      rename_i i j
      dsimp only at h
      by_cases hj : (decide (-(2 ^ 62) ≤ i) && decide (i < 2 ^ 62) && decide (-(2 ^ 62) ≤ j) && decide (j < 2 ^ 62)) = true
      · rw [if_pos hj] at h
        simp only [Bool.and_eq_true, decide_eq_true_eq] at hj
        exact ⟨i, j, by rw [r1.1, r2.1], ⟨hj.1.1.1, hj.1.1.2, hj.1.2, hj.2⟩, h _ H2 [] [] (s1.trans s2) rfl (fun p m => nomatch m) (itok_rng i j)⟩
      · rw [if_neg hj] at h; exact h.elim
theorem di_rng1 (hg : Gl X "range") (hm : X.mg "range" = none) (ha : PE X a (RV C W f)) (hs : starEach [a] X.env = (false, eval a X.env) :: starEach [] X.env := by rfl) : PI X tg (.Call (.Name "range" p) [a] [] pos) (RI C W (rng1I f)) := (pi_range1 hg hm (pa_cons ha pa_nil hs) hs).imp fun _ _ _ => ri_rng1
theorem di_rng2 (hg : Gl X "range") (hm : X.mg "range" = none) (ha : PE X a (RV C W f)) (hb : PE X b (RV C W g)) (hs : starEach [a, b] X.env = (false, eval a X.env) :: starEach [b] X.env := by rfl) (hs2 : starEach [b] X.env = (false, eval b X.env) :: starEach [] X.env := by rfl) :
    PI X tg (.Call (.Name "range" p) [a, b] [] pos) (RI C W (rng2I f g)) := (pi_range2 hg hm (pa_cons ha (pa_cons hb pa_nil hs2) hs) (by rw [hs, hs2]; rfl) (by rw [hs2]; rfl)).imp fun _ _ _ => ri_rng2

/-! ### list comprehensions -/
def compL (t : Tg) (tt : Env → Res Bool) (te : Env → Res FD) (ρ : Env) : List D → Res (List D)
  | [] => .ok []
  | x :: xs => match asg .sh t x ρ with
    | none => .bad
    | some ρ1 => match tt ρ1 with
      | .ok true => match te ρ1 with
        | .ok y => if y.1 = .fr then (compL t tt te ρ xs).bind fun ys => .ok (y.2 :: ys) else .bad
        | _ => .bad
      | .ok false => compL t tt te ρ xs
      | _ => .bad
def compF (fi : Env → Res ID) (t : Tg) (tt : Env → Res Bool) (te : Env → Res FD) (own : List Nat) : Env → Res FD := fun ρ => (fi ρ).bind fun it => if it.2.length ≤ sizeLine then (compL t tt te (wipeE (fzE ρ) own) it.2).bind fun ds => .ok (.fr, .lst ds) else .bad
theorem compL_nx {t : Tg} {tt : Env → Res Bool} {te : Env → Res FD} {ρ : Env} {c : Str} : ∀ xs, compL t tt te ρ xs ≠ .ex c
  | [] => fun e => by cases e
  | x :: xs => fun e => by
    unfold compL at e
    split at e
    · cases e
    · split at e
      · split at e
        · split at e
          · cases q : compL t tt te ρ xs with
            | ok ys => rw [q] at e; cases e
            | ex c' => exact compL_nx (c := c') xs q
            | bad => rw [q] at e; cases e
          · cases e
        · cases e
      · exact compL_nx xs e
      · cases e
theorem RepL.nodup_snoc {C : Ctx} {H : Hp} {ds : List D} {vs : List V} {d : D} {v : V} {M N : List Addr} (r : RepL C H ds vs M) (q : Rep C H d v N) : RepL C H (ds ++ [d]) (vs ++ [v]) (M ++ N) := r.append (RepL.one q)
def W0 : WX := fun _ _ _ _ => False
/-- the comprehension's reading -/
theorem rv_comp {fi : Env → Res ID} {t : Tg} {tt : Env → Res Bool} {te : Env → Res FD} {own : List Nat} {K : PySem.W.Frag} (ht : ∀ i ∈ t.ix, i ∈ own) {σ : St} {H : Hp} {Q : VK} (h : RV C W (compF fi t tt te own) σ H Q) :
    tLc (RI C W fi) (gOf K t) (RT C W0 tt) (RV C W0 te) own σ H Q := by
  obtain ⟨ρ, P, E, h⟩ := h
  refine ⟨ρ, P, E, ?_⟩
  unfold compF at h
  cases e : fi ρ with
  | bad => rw [e] at h; exact h
  | ex c => rw [e] at h; exact h
  | ok it =>
    rw [e] at h
    simp only [Res.ok_bind] at h
    intro J H1 Ps Ls s1 po lk ok D hD
    by_cases hz : it.2.length ≤ sizeLine
    · rw [if_pos hz] at h
      cases ec : compL t tt te (wipeE (fzE ρ) own) it.2 with
      | bad => rw [ec] at h; exact h.elim
      | ex c => exact absurd ec (compL_nx _)
      | ok ds =>
        rw [ec] at h
        simp only [Res.ok_bind] at h
        have E1 := E.same s1
        refine ⟨fun i m Hc => m = it.2.length - i ∧ i ≤ it.2.length ∧ Same H1 Hc ∧ ∃ acc da M rest, Hc D = some (.lst acc) ∧ RepL C Hc da acc M ∧ M.Nodup ∧ (∀ a ∈ M, H1 a = none ∧ a ≠ D) ∧ (∀ a ∈ M, Mut (Hc a)) ∧ da.length ≤ i ∧
            compL t tt te (wipeE (fzE ρ) own) (it.2.drop i) = .ok rest ∧ da ++ rest = ds, ⟨it.2.length, rfl, Nat.zero_le _, upd_sameH hD, [], [], [], ds, upd_same, ⟨rfl, rfl⟩, List.nodup_nil, (fun a m => nomatch m), (fun a m => nomatch m), Nat.zero_le _, ec, rfl⟩, ?_⟩
        rintro i m Hc ⟨rfl, hi, sc, acc, da, M, rest, eD, rr, nd, nw, mu, hl, ecr, eds⟩
        have hPs : ∀ p ∈ Ps ++ Ls, ∃ N, PRep C Hc p N := fun p m => by
          rcases List.mem_append.mp m with m | m
          · obtain ⟨⟨N, q⟩, _⟩ := po.rep p m
            exact ⟨N, q.same sc⟩
          · obtain ⟨N, q⟩ := E1.prot p (lk p m).1
            exact ⟨N, q.same sc⟩
        obtain ⟨go, stop⟩ := ok i Hc hPs
        by_cases hlt : i < it.2.length
        · have ed : it.2.drop i = it.2[i] :: it.2.drop (i + 1) := List.drop_eq_getElem_cons hlt
          rw [ed] at ecr
          obtain ⟨g1, g2⟩ := go it.2[i] (List.getElem?_eq_getElem hlt)
          refine .inr ⟨g1, fun H' => ∃ m', m' < it.2.length - i ∧ (m' = it.2.length - (i + 1) ∧ i + 1 ≤ it.2.length ∧ Same H1 H' ∧ ∃ acc da M rest, H' D = some (.lst acc) ∧ RepL C H' da acc M ∧ M.Nodup ∧ (∀ a ∈ M, H1 a = none ∧ a ≠ D) ∧ (∀ a ∈ M, Mut (H' a)) ∧ da.length ≤ i + 1 ∧
            compL t tt te (wipeE (fzE ρ) own) (it.2.drop (i + 1)) = .ok rest ∧ da ++ rest = ds), fun H' q => q, fun x H2 y => ?_⟩
          obtain ⟨s2, Mx, rx, _⟩ := g2 x H2 y
          have s12 := sc.trans s2
          have Eb : EnvOk C P H2 (L2.wipe σ own) (wipeE (fzE ρ) own) := ((E1.same s12).frozen).wipe own
          unfold compL at ecr
          cases ea : asg .sh t it.2[i] (wipeE (fzE ρ) own) with
          | none => rw [ea] at ecr; cases ecr
          | some ρ1 =>
            rw [ea] at ecr
            dsimp only at ecr
            have nap : Apart C H2 (L2.wipe σ own) (wipeE (fzE ρ) own) Mx := fun j o d w N e ow _ _ => by
              have := fzE_own (wipeE_get e).1
              rw [this] at ow
              cases ow
            refine asg_ok K .sh t _ x Mx _ _ ρ1 _ ea Eb rx nap fun σ2 E2 l2 a2 k2 => ?_
            have ag : L2.wipe σ2 own = L2.wipe σ own := wipe_agree (by rw [l2, wipe_length]) fun j hj => a2 j fun hm => hj (ht j hm)
            refine ⟨ag, ρ1, P, E2, ?_⟩
            cases et : tt ρ1 with
            | bad => rw [et] at ecr; cases ecr
            | ex c => rw [et] at ecr; cases ecr
            | ok k =>
              rw [et] at ecr
              intro H3 s3
              have s13 := s12.trans s3
              have eD3 : H3 D = some (.lst acc) := s3 _ _ (s2 _ _ eD)
              have rr3 := rr.same (s2.trans s3)
              have mu3 : ∀ a ∈ M, Mut (H3 a) := fun a m => mut_same (s2.trans s3) (mu a m)
              cases k with
              | false =>
                simp only [Bool.false_eq_true, if_false]
                exact ⟨_, by omega, rfl, hlt, s13, acc, da, M, rest, eD3, rr3, nd, nw, mu3, by omega, ecr, eds⟩
              | true =>
                simp only [if_true]
                dsimp only at ecr
                refine ⟨ρ1, P, E2.same s3, ?_⟩
                cases ee : te ρ1 with
                | bad => rw [ee] at ecr; cases ecr
                | ex c => rw [ee] at ecr; cases ecr
                | ok yd =>
                  rw [ee] at ecr
                  dsimp only at ecr
                  by_cases hfr : yd.1 = .fr
                  · rw [if_pos hfr] at ecr
                    cases er : compL t tt te (wipeE (fzE ρ) own) (it.2.drop (i + 1)) with
                    | bad => rw [er] at ecr; cases ecr
                    | ex c => exact absurd er (compL_nx _)
                    | ok rest' =>
                      rw [er] at ecr
                      simp only [Res.ok_bind, Res.ok.injEq] at ecr
                      intro v H4 ⟨s4, N, rv, fv⟩
                      rw [hfr] at fv
                      obtain ⟨nd2, nw2, mu2⟩ := fv
                      have eD4 : H4 D = some (.lst acc) := s4 _ _ eD3
                      have hacc : acc.length < sizeLine := by rw [← rr.length]; omega
                      refine ⟨acc, eD4, hacc, _, by omega, rfl, hlt, ?_, acc ++ [v], da ++ [yd.2], M ++ N, rest', upd_same, ?_, ?_, ?_, ?_, ?_, rfl, ?_⟩
                      · intro b o eb
                        rw [upd_ne (ne_of_none eb hD)]
                        exact s4 _ _ (s13 _ _ eb)
                      · have kD : KeepOn (M ++ N) H4 (upd H4 D (.lst (acc ++ [v]))) := by
                          refine ⟨fun b o mb eb => ?_, fun b vs eb => ?_, fun b o vs eb => ?_⟩
                          · refine (upd_ne fun z => ?_).trans eb
                            subst z
                            rcases List.mem_append.mp mb with mb | mb
                            · exact (nw b mb).2 rfl
                            · have := nw2 b mb
                              rw [eD3] at this; cases this
                          · exact (upd_ne fun z => by subst z; rw [eD4] at eb; cases eb).trans eb
                          · exact (upd_ne fun z => by subst z; rw [eD4] at eb; cases eb).trans eb
                        exact ((rr3.same s4).append (RepL.one rv)).keep kD
                      · refine List.nodup_append.mpr ⟨nd, nd2, fun a ma b mb e => ?_⟩
                        subst e
                        obtain ⟨u, hu⟩ := rr3.dom a ma
                        rw [nw2 a mb] at hu; cases hu
                      · intro a ma
                        rcases List.mem_append.mp ma with ma | ma
                        · exact nw a ma
                        · refine ⟨s13.free (nw2 a ma), fun z => ?_⟩
                          subst z
                          rw [nw2 a ma] at eD3; cases eD3
                      · intro a ma
                        rcases List.mem_append.mp ma with ma | ma
                        · rw [upd_ne (nw a ma).2]
                          exact mut_same s4 (mu3 a ma)
                        · rw [upd_ne fun z => by subst z; have := nw2 a ma; rw [eD3] at this; cases this]
                          exact mu2 a ma
                      · rw [List.length_append, List.length_singleton]; omega
                      · rw [List.append_assoc, ← eds, ← ecr]
                        rfl
                  · rw [if_neg hfr] at ecr; cases ecr
        · have ei : i = it.2.length := by omega
          subst ei
          refine .inl ⟨stop (Nat.le_refl _), ?_⟩
          rw [List.drop_length] at ecr
          cases ecr
          rw [List.append_nil] at eds
          subst eds
          refine h _ _ ⟨s1.trans sc, D :: M, ⟨D, acc, M, rfl, eD, by omega, rr, rfl⟩, List.nodup_cons.mpr ⟨fun m => (nw D m).2 rfl, nd⟩, fun a m => ?_, fun a m => ?_⟩
          · rcases List.mem_cons.mp m with rfl | m
            · exact s1.free hD
            · exact s1.free (nw a m).1
          · rcases List.mem_cons.mp m with rfl | m
            · rw [eD]; trivial
            · exact mu a m
    · rw [if_neg hz] at h; exact h.elim
end
end DL
/-! DL7: statements over trees; the contract of a def. -/
namespace DL
open PySem L2

/-- what is wanted behind a statement, over trees -/
structure EndsD where
  nx : Env → Prop
  rt : D → Env → Prop
  bk : Env → Prop := fun _ => False
  ct : Env → Prop := fun _ => False
  ex : Str → Env → Prop := fun _ _ => False
structure Imp (C : Ctx) (P : List Pt) (W : WX) (DD : EndsD) (D : Ends) : Prop where
  nx : ∀ σ H ρ, EnvOk C P H σ ρ → DD.nx ρ → D.nx σ H
  rt : ∀ σ H ρ d v M, EnvOk C P H σ ρ → Rep C H d v M → M.Nodup → (∀ a ∈ M, C.H0 a = none) → (∀ a ∈ M, Mut (H a)) → DD.rt d ρ → D.rt v H
  bk : ∀ σ H ρ, EnvOk C P H σ ρ → DD.bk ρ → D.bk σ H
  ct : ∀ σ H ρ, EnvOk C P H σ ρ → DD.ct ρ → D.ct σ H
  ex : ∀ σ H ρ c, EnvOk C P H σ ρ → DD.ex c ρ → W (.ref (C.cls c)) none σ H
abbrev TD := EndsD → Env → Prop
def RS (C : Ctx) (W : WX) (t : TD) : TS := fun D σ H => ∃ ρ P DD, EnvOk C P H σ ρ ∧ Imp C P W DD D ∧ t DD ρ

section
variable {C : Ctx} {X : Cx} {W : WX} {P : List Pt} {a b e : Expr} {f g : Env → Res FD} {ft : Env → Res Bool} {t u : TD} {st : Stmt} {sts rest : List Stmt} {pos pos' p : Pos}

/-! ### blocks -/
def dNext : TD := fun DD ρ => DD.nx ρ
def dSeq (t u : TD) : TD := fun DD ρ => t { DD with nx := fun ρ' => u DD ρ' } ρ
theorem rs_seq {D : Ends} {σ : St} {H : Hp} (h : RS C W (dSeq t u) D σ H) : tSeq (RS C W t) (RS C W u) D σ H := by
  obtain ⟨ρ, P, DD, E, I, h⟩ := h
  exact ⟨ρ, P, { DD with nx := fun ρ' => u DD ρ' }, E, ⟨fun σ H ρ' E' q => ⟨ρ', P, DD, E', I, q⟩, I.rt, I.bk, I.ct, I.ex⟩, h⟩
theorem rs_next {D : Ends} {σ : St} {H : Hp} (h : RS C W dNext D σ H) : tNext D σ H := by
  obtain ⟨ρ, P, DD, E, I, h⟩ := h
  exact I.nx σ H ρ E h
theorem ds_nil : PSs X [] (RS C W dNext) := pss_nil.imp fun _ _ _ => rs_next
theorem ds_cons (h1 : PS X st (RS C W t)) (h2 : PSs X rest (RS C W u)) : PSs X (st :: rest) (RS C W (dSeq t u)) := (pss_cons h1 h2).imp fun _ _ _ => rs_seq
theorem ds_one (h1 : PS X st (RS C W t)) : PSs X [st] (RS C W t) := pss_one h1
def dPass : TD := dNext
theorem ds_pass : PS X (.Pass pos) (RS C W dNext) := ps_pass.imp fun _ _ _ => rs_next
theorem ds_doc {x j} : PS X (.Expr (.Constant (.str x) j pos) pos') (RS C W dNext) := ps_doc.imp fun _ _ _ => rs_next
def dBreak : TD := fun DD ρ => DD.bk ρ
def dCont : TD := fun DD ρ => DD.ct ρ
theorem ds_break : PS X (.Break pos) (RS C W dBreak) := ps_break.imp fun _ _ _ ⟨_, _, _, E, I, h⟩ => I.bk _ _ _ E h
theorem ds_cont : PS X (.Continue pos) (RS C W dCont) := ps_continue.imp fun _ _ _ ⟨_, _, _, E, I, h⟩ => I.ct _ _ _ E h
def dNever : TD := fun _ _ => False
theorem ds_never : PS X st (RS C W dNever) := ⟨fun _ _ _ _ _ _ ⟨_, _, _, _, _, h⟩ => h.elim⟩
theorem dss_never : PSs X sts (RS C W dNever) := ⟨fun _ _ _ _ _ _ ⟨_, _, _, _, _, h⟩ => h.elim⟩

/-! ### an expression's value used -/
/-- the value is worked on by k -/
def dVal (f : Env → Res FD) (k : FD → EndsD → Env → Prop) : TD := fun DD ρ => match f ρ with
  | .ok x => k x DD ρ
  | .ex c => DD.ex c ρ
  | .bad => False
theorem rs_val {k : FD → EndsD → Env → Prop} {D : Ends} {σ : St} {H : Hp} {R : V → Hp → Prop} (h : RS C W (dVal f k) D σ H)
    (hk : ∀ ρ P DD x v H', EnvOk C P H σ ρ → Imp C P W DD D → k x DD ρ → VOk C H σ ρ H' x v → R v H') : RV C W f σ H R := by
  obtain ⟨ρ, P, DD, E, I, h⟩ := h
  refine ⟨ρ, P, E, ?_⟩
  unfold dVal at h
  cases e : f ρ with
  | bad => rw [e] at h; exact h
  | ex c => rw [e] at h; exact fun H' s => I.ex σ H' ρ c (E.same s) h
  | ok x => rw [e] at h; exact fun v H' vo => hk ρ P DD x v H' E I h vo
def dExpr (f : Env → Res FD) : TD := dVal f fun _ DD ρ => DD.nx ρ
theorem ds_expr (he : PE X e (RV C W f)) (hs : swapsWith e none pos.line X.env = pure false := by rfl) : PS X (.Expr e pos) (RS C W (dExpr f)) :=
  (ps_expr he hs).imp fun D σ H h => rs_val h fun ρ P DD x v H' E I k vo => I.nx σ H' ρ (E.same vo.1) k
/-- what may be handed back -/
def rtOk (x : FD) : Prop := x.1 = .fr ∨ x.1 = .mv
def dRet (f : Env → Res FD) : TD := dVal f fun x DD ρ => (x.1 = .fr ∨ x.1 = .mv) ∧ DD.rt x.2 ρ
theorem FlOk.ret {H H' : Hp} {σ : St} {ρ : Env} {fl : Fl} {M : List Addr} (E : EnvOk C P H σ ρ) (h : FlOk C H σ ρ H' fl M) (hf : fl = .fr ∨ fl = .mv) : M.Nodup ∧ (∀ a ∈ M, C.H0 a = none) ∧ ∀ a ∈ M, Mut (H' a) := by
  rcases hf with rfl | rfl
  · exact ⟨h.1, fun a m => E.keptd a (h.2.1 a m), h.2.2⟩
  · exact h
theorem ds_ret (he : PE X e (RV C W f)) : PS X (.Return (some e) pos) (RS C W (dRet f)) :=
  (ps_ret he).imp fun D σ H h => rs_val h fun ρ P DD x v H' E I k ⟨s, M, r, q⟩ => by
    obtain ⟨n, w, m⟩ := FlOk.ret E q k.1
    exact I.rt σ H' ρ x.2 v M (E.same s) r n w m k.2
def dRetN : TD := fun DD ρ => DD.rt .non ρ
theorem ds_retN : PS X (.Return none pos) (RS C W dRetN) := ps_retN.imp fun D σ H ⟨ρ, P, DD, E, I, h⟩ => I.rt σ H ρ .non .non [] E ⟨rfl, rfl⟩ List.nodup_nil (fun a m => nomatch m) (fun a m => nomatch m) h
/-- name = value -/
def ownOf : Fl → Ow
  | .fr => .loc
  | _ => .sh
def dSet (i : Nat) (f : Env → Res FD) : TD := dVal f fun x DD ρ => (x.1 = .fr ∨ x.1 = .sf) ∧ i < ρ.length ∧ DD.nx (ρ.set i (some (ownOf x.1, x.2)))
theorem assign_own {H H' : Hp} {σ : St} {ρ : Env} {fd : FD} {v : V} {i : Nat} (E : EnvOk C P H σ ρ) (vo : VOk C H σ ρ H' fd v) (hi : i < ρ.length) (hf : fd.1 = .fr ∨ fd.1 = .sf) : EnvOk C P H' (σ.set i (some v)) (ρ.set i (some (ownOf fd.1, fd.2))) := by
  have q := E.assign vo hi hf
  rcases hf with z | z <;> rw [z] at q ⊢ <;> exact q
theorem ds_set {i : Nat} {x : Str} (F : Fx R C X W) (hi : X.N[i]? = some x) (hx : Loc X.env.scope x) (he : PE X e (RV C W f)) (hs : swapsWith e (some (.Name x pos')) pos.line X.env = pure false := by rfl) (hf : X.fn x = true ∨ X.env.scope.names.lookup x = some .local := by first | exact .inl rfl | exact .inr rfl | assumption) :
    PS X (.Assign [.Name x pos'] e pos) (RS C W (dSet i f)) :=
  (ps_set F.nd hi hx he hs hf).imp fun D σ H h => rs_val h fun ρ P DD y v H' E I k vo => I.nx _ H' _ (assign_own E vo k.2.1 k.1) k.2.2
/-- a target of names = value -/
def dTgt (t : Tg) (f : Env → Res FD) : TD := dVal f fun x DD ρ => (x.1 = .fr ∨ x.1 = .sf) ∧ match asg (ownOf x.1) t x.2 ρ with
  | some ρ' => DD.nx ρ'
  | none => False
theorem cnd_of {H H' : Hp} {σ : St} {ρ : Env} {fl : Fl} {M : List Addr} (E : EnvOk C P H σ ρ) (s : Same H H') (q : FlOk C H σ ρ H' fl M) (hf : fl = .fr ∨ fl = .sf) : Cnd C P H' σ ρ (ownOf fl) M := by
  rcases hf with rfl | rfl
  · exact ⟨q.1, fun a m => ⟨q.2.2 a m, E.keptd a (q.2.1 a m)⟩, fun j o d w N e e1 r => E.newApart q.2.1 e e1 s r, E.newApartP q.2.1 s⟩
  · exact Apart.back E s q
theorem ds_tgt {tg : Expr} {t : Tg} (he : PE X e (RV C W f)) (hg : PG X tg (gOf X.K t)) (hs : swapsWithSole [tg] e pos.line X.env = pure false := by rfl) (hw : swappedStores [tg] e X.env = pure none := by rfl)
    (h1 : (assignEach [tg] X.env).map (·.2) = [assign tg X.env] := by rfl) : PS X (.Assign [tg] e pos) (RS C W (dTgt t f)) :=
  (ps_asg he hg hs hw h1).imp fun D σ H h => rs_val h fun ρ P DD x v H' E I k ⟨s, M, r, q⟩ => by
    obtain ⟨k1, k2⟩ := k
    cases ea : asg (ownOf x.1) t x.2 ρ with
    | none => rw [ea] at k2; exact k2.elim
    | some ρ' =>
      rw [ea] at k2
      exact asg_ok X.K (ownOf x.1) t x.2 v M σ ρ ρ' _ ea (E.same s) r (cnd_of E s q k1) fun σ' E' _ _ _ => I.nx σ' H' ρ' E' k2
theorem dg_name {i : Nat} {x : Str} (F : Fx R C X W) (hi : X.N[i]? = some x) (hx : Loc X.env.scope x) (hf : X.fn x = true ∨ X.env.scope.names.lookup x = some .local := by first | exact .inl rfl | exact .inr rfl | assumption) : PG X (.Name x pos) (gOf X.K (.nm i)) := pg_name F.nd hi hx hf
theorem dg_tup {es : List Expr} {k : Nat} {ts : List Tg} (F : Fx R C X W) (h : PGs X es (gOfL X.K ts)) (hn : (assignEach es X.env).length = ts.length := by rfl) (hst : (assignEach es X.env).findIdx? (·.1) = none := by rfl) : PG X (.Tuple es k pos) (gOf X.K (.tp ts)) := pg_tup F.calm h hn hst
theorem dgs_nil : PGs X [] (gOfL X.K []) := pgs_nil
theorem dgs_cons {e : Expr} {es : List Expr} {t : Tg} {ts : List Tg} (h1 : PG X e (gOf X.K t)) (h2 : PGs X es (gOfL X.K ts)) (hs : (assignEach (e :: es) X.env).map (·.2) = assign e X.env :: (assignEach es X.env).map (·.2) := by rfl) : PGs X (e :: es) (gOfL X.K (t :: ts)) := pgs_cons h1 h2 hs

/-! ### if, while, for -/
def dIf (c : Env → Res Bool) (t u : TD) : TD := fun DD ρ => match c ρ with
  | .ok k => if k = true then t DD ρ else u DD ρ
  | .ex c => DD.ex c ρ
  | .bad => False
theorem ds_if {ss us : List Stmt} {c : Expr} (hc : PT X c (RT C W ft)) (ha : PSs X ss (RS C W t)) (hb : PSs X us (RS C W u)) : PS X (.If c ss us pos) (RS C W (dIf ft t u)) :=
  (ps_if hc ha hb).imp fun D σ H ⟨ρ, P, DD, E, I, h⟩ => by
    refine ⟨ρ, P, E, ?_⟩
    unfold dIf at h
    cases e : ft ρ with
    | bad => rw [e] at h; exact h
    | ex c => rw [e] at h; exact fun H' s => I.ex σ H' ρ c (E.same s) h
    | ok k =>
      rw [e] at h
      intro H' s
      cases k with
      | true => simp only [if_true] at h ⊢; exact ⟨ρ, P, DD, E.same s, I, h⟩
      | false => simp only [Bool.false_eq_true, if_false] at h ⊢; exact ⟨ρ, P, DD, E.same s, I, h⟩
def dWhile (c : Env → Res Bool) (tb : TD) : TD := fun DD ρ => ∃ Wm : Nat → Env → Prop, (∃ m, Wm m ρ) ∧ ∀ m ρ, Wm m ρ → match c ρ with
  | .ok k => if k = true then tb { DD with nx := fun ρ' => ∃ m', m' < m ∧ Wm m' ρ', ct := fun ρ' => ∃ m', m' < m ∧ Wm m' ρ', bk := DD.nx } ρ else DD.nx ρ
  | .ex c => DD.ex c ρ
  | .bad => False
theorem ds_while {c : Expr} {body : List Stmt} {tb : TD} (F : Fx R C X W) (hc : PT X c (RT C W ft)) (hb : PSs X body (RS C W tb)) : PS X (.While c body [] pos) (RS C W (dWhile ft tb)) :=
  (ps_while F.ps hc hb).imp fun D σ H ⟨ρ, P, DD, E, I, Wm, ⟨m0, w0⟩, turn⟩ => by
    refine ⟨fun m σ H => ∃ ρ, EnvOk C P H σ ρ ∧ Wm m ρ, ⟨m0, ρ, E, w0⟩, fun m σ H ⟨ρ, E, w⟩ => ?_⟩
    have h := turn m ρ w
    refine ⟨ρ, P, E, ?_⟩
    cases e : ft ρ with
    | bad => rw [e] at h; exact h
    | ex c => rw [e] at h; exact fun H' s => I.ex σ H' ρ c (E.same s) h
    | ok k =>
      rw [e] at h
      intro H' s
      cases k with
      | true =>
        simp only [if_true] at h ⊢
        refine ⟨fun σ' H' => ∃ m', m' < m ∧ ∃ ρ, EnvOk C P H' σ' ρ ∧ Wm m' ρ, fun σ' H' q => q, ρ, P, { DD with nx := fun ρ' => ∃ m', m' < m ∧ Wm m' ρ', ct := fun ρ' => ∃ m', m' < m ∧ Wm m' ρ', bk := DD.nx }, E.same s, ⟨?_, I.rt, I.nx, ?_, I.ex⟩, h⟩
        · rintro σ' H' ρ' E' ⟨m', hm, w'⟩
          exact ⟨m', hm, ρ', E', w'⟩
        · rintro σ' H' ρ' E' ⟨m', hm, w'⟩
          exact ⟨m', hm, ρ', E', w'⟩
      | false => simp only [Bool.false_eq_true, if_false] at h ⊢; exact I.nx σ H' ρ (E.same s) h
/-- for: Wl by the turn -/
def dForW (wk : Env → Env) (fi : Env → Res ID) (t : Tg) (tb : TD) : TD := fun DD ρ => match fi ρ with
  | .ok it => (∀ fd ∈ it.1, fd.1 = .fr ∨ fd.1 = .sf) ∧ ∃ Wl : Nat → Env → Prop, Wl 0 (wk ρ) ∧ (∀ ρ, Wl it.2.length ρ → DD.nx ρ) ∧ ∀ i d ρ, it.2[i]? = some d → Wl i ρ → match asg .sh t d ρ with
    | some ρ' => tb { DD with nx := Wl (i + 1), ct := Wl (i + 1), bk := DD.nx } ρ'
    | none => False
  | .ex c => DD.ex c ρ
  | .bad => False
theorem Imp.pop {Ps : List Pt} {DD : EndsD} {D : Ends} (I : Imp C P W DD D) (h : ∀ p ∈ Ps, noLock p) : Imp C (Ps ++ P) W DD D :=
  ⟨fun σ H ρ E => I.nx σ H ρ (E.pop h), fun σ H ρ d v M E => I.rt σ H ρ d v M (E.pop h), fun σ H ρ E => I.bk σ H ρ (E.pop h), fun σ H ρ E => I.ct σ H ρ (E.pop h), fun σ H ρ c E => I.ex σ H ρ c (E.pop h)⟩
def dFor (fi : Env → Res ID) (t : Tg) (tb : TD) : TD := dForW id fi t tb
theorem ds_forW {wk : Env → Env} (hw : ∀ {C : Ctx} {P : List Pt} {H : Hp} {σ : St} {ρ : Env}, EnvOk C P H σ ρ → EnvOk C P H σ (wk ρ)) {tg iter : Expr} {body : List Stmt} {fi : Env → Res ID} {t : Tg} {tb : TD} (F : Fx R C X W) (hi : PI X tg iter (RI C W fi)) (hg : PG X tg (gOf X.K t)) (hb : PSs X body (RS C W tb)) (hs : ∀ x, foldedSetIterable iter X.env x = pure x := by exact fun _ => rfl) :
    PS X (.For tg iter body [] pos) (RS C W (dForW wk fi t tb)) :=
  (ps_for F.ps F.calm hi hg hb hs).imp fun D σ H ⟨ρ, P, DD, E, I, h⟩ => by
    refine ⟨ρ, P, E, ?_⟩
    unfold dForW at h
    cases e : fi ρ with
    | bad => rw [e] at h; exact h
    | ex c => rw [e] at h; exact fun H' s => I.ex σ H' ρ c (E.same s) h
    | ok it =>
      rw [e] at h
      obtain ⟨hfl, Wl, w0, wn, turn⟩ := h
      intro J H1 Ps Ls s1 po lk ok
      have E1 := hw ((E.same s1).push (po.apart E s1 hfl))
      have nl : ∀ p ∈ Ps, noLock p := fun p m => (po.rep p m).2
      have I1 := I.pop nl
      refine ⟨fun i m σ H => m = it.2.length - i ∧ i ≤ it.2.length ∧ ∃ ρ, EnvOk C (Ps ++ P) H σ ρ ∧ Wl i ρ, ⟨_, rfl, Nat.zero_le _, wk ρ, E1, w0⟩, ?_⟩
      rintro i m σ H ⟨rfl, hi, ρ, E, w⟩
      have into : ∀ p ∈ Ps ++ Ls, p ∈ Ps ++ P := fun p m => (List.mem_append.mp m).elim (fun m => List.mem_append_left _ m) fun m => List.mem_append_right _ (lk p m).1
      obtain ⟨go, stop⟩ := ok i H fun p m => E.prot p (into p m)
      by_cases hlt : i < it.2.length
      · obtain ⟨g1, g2⟩ := go it.2[i] (List.getElem?_eq_getElem hlt)
        have tn := turn i it.2[i] ρ (List.getElem?_eq_getElem hlt) w
        refine .inr ⟨g1, fun σ' H' => ∃ m', m' < it.2.length - i ∧ m' = it.2.length - (i + 1) ∧ i + 1 ≤ it.2.length ∧ ∃ ρ, EnvOk C (Ps ++ P) H' σ' ρ ∧ Wl (i + 1) ρ, fun σ' H' q => q, fun x H2 y => ?_⟩
        obtain ⟨s2, Mx, rx, sub⟩ := g2 x H2 y
        cases ea : asg .sh t it.2[i] ρ with
        | none => rw [ea] at tn; exact tn.elim
        | some ρ' =>
          rw [ea] at tn
          have ap : Apart C H2 σ ρ Mx := fun j o d w N ej ow ew rj b mb nb => by
            obtain ⟨pp, hp, N', rp, nb'⟩ := sub b mb
            obtain ⟨w', N2, e2, r2, own2, _⟩ := E.at_ j o d ej
            rw [ew] at e2; cases e2
            rw [(r2.same s2).uniq rj] at own2
            exact (own2 ow).2.2.2 pp (into pp hp) N' rp b nb nb'
          refine asg_ok X.K .sh t _ x Mx σ ρ ρ' _ ea (E.same s2) rx ap fun σ' E' _ _ _ => ?_
          refine ⟨ρ', Ps ++ P, { DD with nx := Wl (i + 1), ct := Wl (i + 1), bk := DD.nx }, E', ⟨?_, I1.rt, I1.nx, ?_, I1.ex⟩, tn⟩
          · intro σ'' H'' ρ'' E'' w''
            exact ⟨_, by omega, rfl, hlt, ρ'', E'', w''⟩
          · intro σ'' H'' ρ'' E'' w''
            exact ⟨_, by omega, rfl, hlt, ρ'', E'', w''⟩
      · have ei : i = it.2.length := by omega
        subst ei
        exact .inl ⟨stop (Nat.le_refl _), I1.nx σ H ρ E (wn ρ w)⟩
theorem ds_for {tg iter : Expr} {body : List Stmt} {fi : Env → Res ID} {t : Tg} {tb : TD} (F : Fx R C X W) (hi : PI X tg iter (RI C W fi)) (hg : PG X tg (gOf X.K t)) (hb : PSs X body (RS C W tb)) (hs : ∀ x, foldedSetIterable iter X.env x = pure x := by exact fun _ => rfl) :
    PS X (.For tg iter body [] pos) (RS C W (dFor fi t tb)) := ds_forW (wk := id) (fun E => E) F hi hg hb hs

/-! ### a slot's list, dict changed -/
/-- the object of an own slot is changed -/
theorem EnvOk.mutate {H0 H H' : Hp} {σ : St} {ρ : Env} {i : Nat} {o : Ow} {d d' : D} {v : V} {M M' : List Addr} (E : EnvOk C P H0 σ ρ) (s : Same H0 H) (ei : ρ[i]? = some (some (o, d))) (ow : o.own = true) (ev : σ[i]? = some (some v)) (r : Rep C H d v M)
    (r' : Rep C H' d' v M') (k : ∀ a u, a ∉ M → H a = some u → H' a = some u) (kd : ∀ a ∈ M, H' a ≠ none) (nd : M'.Nodup) (mu : ∀ a ∈ M', Mut (H' a)) (sub : ∀ a ∈ M', a ∈ M ∨ H0 a = none) : EnvOk C P H' σ (ρ.set i (some (o, d'))) := by
  have E1 := E.same s
  have hi : i < ρ.length := (List.getElem?_eq_some_iff.mp ei).1
  obtain ⟨w, M1, e1, r1, own1, lo1, io1⟩ := E1.at_ i o d ei
  rw [ev] at e1; cases e1
  rw [r1.uniq r] at own1 lo1 io1
  obtain ⟨q1, q2, q3, q4⟩ := own1 ow
  have ko : ∀ N : List Addr, (∀ a ∈ M, a ∉ N) → KeepOn N H H' := fun N dj => ⟨fun a u m e => k a u (fun z => dj a z m) e,
    fun a vs e => k a _ (fun z => by have := q2 a z; rw [e] at this; exact this) e, fun a ob vs e => k a _ (fun z => by have := q2 a z; rw [e] at this; exact this) e⟩
  have back : ∀ {d : D} {w : V} {N N0 : List Addr}, Rep C H d w N0 → (∀ a ∈ M, a ∉ N0) → Rep C H' d w N → N = N0 := fun h dj h' => h'.uniq (h.keep (ko _ dj))
  have fresh : ∀ {d : D} {w : V} {N : List Addr} {j : Nat} {oj : Ow}, ρ[j]? = some (some (oj, d)) → σ[j]? = some (some w) → Rep C H d w N → j ≠ i → ∀ a ∈ M', a ∉ N := fun {d w N j oj} ej sj rj hj a ma na => by
    rcases sub a ma with m | m
    · exact q3 j oj d w N hj ej sj rj a m na
    · exact E.newApart (M := [a]) (fun b hb => by rw [List.mem_singleton.mp hb]; exact m) ej sj s rj a (List.mem_singleton.mpr rfl) na
  refine ⟨by simpa using E.len, fun j oj dj e => ?_, fun p hp => ?_, fun a u e n => ?_, fun a e => ?_⟩
  · rcases set_get e with ⟨rfl, e, _⟩ | ⟨hj, ej⟩
    · cases e
      refine ⟨v, M', ev, r', fun hw => ⟨nd, mu, fun l o' dl w N hl el sl rl => ?_, fun p hp N rp => ?_⟩, fun z a ma => ?_, fun z => ⟨fun a ma => ?_, (io1.1 z).2⟩, io1.2⟩
      · rw [List.getElem?_set_ne (Ne.symm hl)] at el
        obtain ⟨w', N0, e', r0, _⟩ := E1.at_ l o' dl el
        rw [sl] at e'; cases e'
        rw [back r0 (q3 l o' dl w N0 hl el sl r0) rl]
        exact fresh el sl r0 hl
      · obtain ⟨N0, r0⟩ := E1.prot p hp
        have dj := q4 p hp N0 r0
        have eN : N = N0 := by
          cases p with
          | inl p => exact back r0 dj rp
          | inr q => exact rp.2.trans r0.2.symm
        rw [eN]
        intro a ma na
        rcases sub a ma with m | m
        · exact dj a m na
        · exact E.newApartP (M := [a]) (fun b hb => by rw [List.mem_singleton.mp hb]; exact m) s p hp N0 r0 a (List.mem_singleton.mpr rfl) na
      · rcases sub a ma with m | m
        · exact lo1 z a m
        · exact E.keptd a m
      · rcases sub a ma with m | m
        · exact (io1.1 z).1 a m
        · exact .inr (E.keptd a m)
    · obtain ⟨w, N0, e1, r0, own0, lo0, io0⟩ := E1.at_ j oj dj ej
      have dj := q3 j oj dj w N0 hj ej e1 r0
      refine ⟨w, N0, e1, r0.keep (ko _ dj), fun hw => ?_, lo0, io0⟩
      obtain ⟨p1, p2, p3, p4⟩ := own0 hw
      refine ⟨p1, fun a ma => ?_, fun l o' dl w' N hl el sl rl => ?_, fun p hp N rp => ?_⟩
      · obtain ⟨u, hu⟩ := r0.dom a ma
        rw [k a u (fun z => dj a z ma) hu, ← hu]
        exact p2 a ma
      · rcases set_get el with ⟨rfl, el, _⟩ | ⟨hli, el⟩
        · cases el
          rw [ev] at sl; cases sl
          rw [rl.uniq r']
          exact fun a ma na => fresh ej e1 r0 hj a na ma
        · obtain ⟨w2, N2, e2, r2, _⟩ := E1.at_ l o' dl el
          rw [sl] at e2; cases e2
          rw [back r2 (q3 l o' dl w' N2 hli el sl r2) rl]
          exact p3 l o' dl w' N2 hl el sl r2
      · obtain ⟨N2, r2⟩ := E1.prot p hp
        have eN : N = N2 := by
          cases p with
          | inl p => exact back r2 (q4 _ hp N2 r2) rp
          | inr q => exact rp.2.trans r2.2.symm
        rw [eN]
        exact p4 p hp N2 r2
  · obtain ⟨N0, r0⟩ := E1.prot p hp
    have dj := q4 p hp N0 r0
    cases p with
    | inl p => exact ⟨N0, Rep.keep r0 (ko _ dj)⟩
    | inr q => exact ⟨N0, k _ _ (fun z => by have := q2 _ z; rw [r0.1] at this; exact this) r0.1, r0.2⟩
  · rcases E1.kept a u e n with q | q
    · refine .inl (k a u (fun z => ?_) q)
      cases o with
      | sh => cases ow
      | loc => have := lo1 rfl a z; rw [e] at this; cases this
      | lk => cases ow
      | io =>
        rcases (io1.1 rfl).1 a z with m | m
        · exact n m
        · rw [e] at m; cases m
    · exact .inr q
  · refine E1.keptd a ?_
    cases q : H a with
    | none => rfl
    | some u =>
      by_cases z : a ∈ M
      · exact absurd e (kd a z)
      · rw [k a u z q] at e; cases e
end
end DL
/-! DL8: append, extend, d[k] = v; comprehensions; contracts, calls, raise. -/
namespace DL
open PySem L2

section
variable {R : Nat} {C : Ctx} {X : Cx} {W : WX} {P : List Pt} {a b e : Expr} {f g : Env → Res FD} {pos pos' p apos cpos : Pos}

/-- work on an own slot's list -/
def dMutL (i : Nat) (f : Env → Res FD) (k : List D → FD → Option (List D)) : TD := fun DD ρ => match ρ[i]? with
  | some (some (o, .lst ds)) => o.own = true ∧ match f ρ with
    | .ok x => match k ds x with
      | some ds' => DD.nx (ρ.set i (some (o, .lst ds')))
      | none => False
    | .ex c => DD.ex c ρ
    | .bad => False
  | _ => False
/-- x.append(e) -/
def appK (ds : List D) (x : FD) : Option (List D) := if x.1 = .fr ∧ ds.length < sizeLine then some (ds ++ [x.2]) else none
def dApp (i : Nat) (f : Env → Res FD) : TD := dMutL i f appK
/-- x.extend(e) -/
def extK (ds : List D) (x : FD) : Option (List D) := match x.2 with
  | .lst es => if (x.1 = .fr ∨ immL es = true) ∧ ds.length + es.length ≤ sizeLine then some (ds ++ es) else none
  | _ => none
def dExt (i : Nat) (f : Env → Res FD) : TD := dMutL i f extK
theorem list_upd {H2 : Hp} {l : Addr} {ds es : List D} {vs ws : List V} {M N : List Addr} (eL : H2 l = some (.lst vs)) (r : RepL C H2 ds vs M) (q : RepL C H2 es ws N) (lM : l ∉ M) (lN : l ∉ N) (hz : (ds ++ es).length ≤ sizeLine) :
    Rep C (upd H2 l (.lst (vs ++ ws))) (.lst (ds ++ es)) (.ref l) (l :: (M ++ N)) := by
  refine ⟨l, vs ++ ws, M ++ N, rfl, upd_same, hz, (r.append q).keep ⟨fun b o m eb => (upd_ne fun z => ?_).trans eb, fun b vs' eb => (upd_ne fun z => ?_).trans eb, fun b o vs' eb => (upd_ne fun z => ?_).trans eb⟩, rfl⟩
  · subst z
    exact (List.mem_append.mp m).elim lM lN
  · subst z; rw [eL] at eb; cases eb
  · subst z; rw [eL] at eb; cases eb
/-- the state behind x.append, x.extend -/
theorem app_env {H H2 : Hp} {σ : St} {ρ : Env} {i : Nat} {o : Ow} {ds es : List D} {l : Addr} {vs ws : List V} {M' N : List Addr} (E : EnvOk C P H σ ρ) (s : Same H H2) (ei : ρ[i]? = some (some (o, .lst ds))) (ow : o.own = true) (ev : σ[i]? = some (some (.ref l)))
    (eL : H l = some (.lst vs)) (z : ds.length ≤ sizeLine) (r : RepL C H ds vs M') (q : RepL C H2 es ws N) (nd : N.Nodup) (nw : ∀ a ∈ N, H a = none) (mu : ∀ a ∈ N, Mut (H2 a)) (hz : (ds ++ es).length ≤ sizeLine) :
    EnvOk C P (upd H2 l (.lst (vs ++ ws))) σ (ρ.set i (some (o, .lst (ds ++ es)))) := by
  have rH : Rep C H (.lst ds) (.ref l) (l :: M') := ⟨l, vs, M', rfl, eL, z, r, rfl⟩
  have rr : Rep C H2 (.lst ds) (.ref l) (l :: M') := rH.same s
  obtain ⟨w, M1, e1, r1, own1, _⟩ := E.at_ i o _ ei
  rw [ev] at e1; cases e1
  rw [r1.uniq rH] at own1
  obtain ⟨q1, q2, _⟩ := own1 ow
  obtain ⟨l1, l2⟩ := List.nodup_cons.mp q1
  have lN : l ∉ N := fun m => by have := nw l m; rw [eL] at this; cases this
  refine E.mutate s ei ow ev rr (list_upd (s _ _ eL) (r.same s) q l1 lN hz) (fun a u na e => (upd_ne fun z => na (by rw [z]; exact List.mem_cons_self)).trans e) (fun a m => ?_) (List.nodup_cons.mpr ⟨fun m => (List.mem_append.mp m).elim l1 lN, List.nodup_append.mpr ⟨l2, nd, fun a ma b mb e => ?_⟩⟩) (fun a m => ?_) fun a m => ?_
  · by_cases h : a = l
    · rw [h, upd_same]; exact fun z => by cases z
    · rw [upd_ne h]
      obtain ⟨u, hu⟩ := rr.dom a m
      rw [hu]; exact fun z => by cases z
  · subst e
    obtain ⟨u, hu⟩ := r.dom a ma
    rw [nw a mb] at hu; cases hu
  · rcases List.mem_cons.mp m with rfl | m'
    · rw [upd_same]; trivial
    · have m2 := List.mem_append.mp m'
      rw [upd_ne fun z => by subst z; exact m2.elim l1 lN]
      rcases m2 with m | m
      · exact mut_same s (q2 a (List.mem_cons_of_mem _ m))
      · exact mu a m
  · rcases List.mem_cons.mp m with rfl | m
    · exact .inl List.mem_cons_self
    · rcases List.mem_append.mp m with m | m
      · exact .inl (List.mem_cons_of_mem _ m)
      · exact .inr (nw a m)
/-- a slot's list, ahead of its method -/
theorem slot_list {i : Nat} {k : List D → FD → Option (List D)} {D' : Ends} {σ : St} {H : Hp} {Rr : V → List V → Hp → VK → Prop} (h : RS C W (dMutL i f k) D' σ H)
    (go : ∀ ρ P DD o ds x ds' l vs M' v H2, EnvOk C P H σ ρ → Imp C P W DD D' → ρ[i]? = some (some (o, .lst ds)) → o.own = true → σ[i]? = some (some (.ref l)) → H l = some (.lst vs) → ds.length ≤ sizeLine → RepL C H ds vs M' → k ds x = some ds' →
      DD.nx (ρ.set i (some (o, .lst ds'))) → VOk C H σ ρ H2 x v → Rr (.ref l) [v] H2 fun _ H1 => D'.nx σ H1) : tDrop (tBM X.K "list" Rr (tVar i) (tCons (RV C W f) tNil)) D' σ H := by
  obtain ⟨ρ, P, DD, E, I, h⟩ := h
  unfold dMutL at h
  split at h
  · rename_i o ds ei
    obtain ⟨ow, h⟩ := h
    obtain ⟨v, M, e1, r, own, _⟩ := E.at_ i o _ ei
    obtain ⟨l, vs, M', rfl, eL, z, rl, rfl⟩ := r
    refine ⟨_, e1, .inl ⟨rfl, _, SqL.of eL⟩, ρ, P, E, ?_⟩
    cases ef : f ρ with
    | bad => rw [ef] at h; exact h
    | ex c => rw [ef] at h; exact fun H' s => I.ex σ H' ρ c (E.same s) h
    | ok x =>
      rw [ef] at h
      dsimp only at h
      cases ek : k ds x with
      | none => rw [ek] at h; exact h.elim
      | some ds' =>
        rw [ek] at h
        exact fun v H2 vo => go ρ P DD o ds x ds' l vs M' v H2 E I ei ow e1 eL z rl ek h vo
  · exact h.elim
theorem rs_app {i : Nat} {D : Ends} {σ : St} {H : Hp} (h : RS C W (dApp i f) D σ H) : tDrop (tBM X.K "list" rAppend (tVar i) (tCons (RV C W f) tNil)) D σ H :=
  slot_list h fun ρ P DD o ds x ds' l vs M' v H2 E I ei ow e1 eL z rl ek hn ⟨s, N, rv, q⟩ => by
    unfold appK at ek
    split at ek
    · rename_i hc
      cases ek
      rw [hc.1] at q
      refine ⟨l, vs, v, rfl, rfl, s _ _ eL, by rw [← rl.length]; exact hc.2, I.nx _ _ _ (app_env E s ei ow e1 eL z rl (RepL.one rv) q.1 q.2.1 q.2.2 ?_) hn⟩
      rw [List.length_append, List.length_singleton]; exact hc.2
    · cases ek
theorem ds_app (i : Nat) {x : Str} (F : Fx R C X W) (he : PE X e (RV C W f)) (hN : X.N[i]? = some x := by rfl) (hv : Vis X.env.scope x := by first | exact Or.inl rfl | exact Or.inr (Or.inl rfl) | exact Or.inr (Or.inr rfl)) (hd : (x == ("__debug__" : Str)) = false := by decide)
    (hcd : (x == ("__classdict__" : Str)) = false := by decide) (hbase : attributeBase (.Name x p) "append" X.env (eval (.Name x p) X.env) = eval (.Name x p) X.env := by rfl)
    (hfew : ((backTo cpos (starEach [e] X.env)).all (fun x => !x.1) && (backToKw cpos (keywordEach [] X.env)).all (fun x => x.1.isSome)
      && decide ([e].length + ([] : List Keyword).length + (if ([] : List Keyword).isEmpty then 0 else 1) < 30)) = true := by rfl)
    (hline : (apos.endLine == cpos.line) = true := by rfl) (hs : starEach [e] X.env = (false, eval e X.env) :: starEach [] X.env := by rfl) (hplain : (backTo cpos (starEach [] X.env)).any (·.1) = false := by rfl) (hsw : swapsWith (.Call (.Attribute (.Name x p) "append" apos) [e] [] cpos) none pos.line X.env = pure false := by rfl) :
    PS X (.Expr (.Call (.Attribute (.Name x p) "append" apos) [e] [] cpos) pos) (RS C W (dApp i f)) :=
  (ps_expr (pe_bm PySem.F.plainAttrs_list PySem.F.slot_list_append PySem.F.type_list_append mt_append (pv i hN hv hd hcd) (pa_cons he pa_nil hs) hbase hfew hline hs hplain) hsw).imp fun _ _ _ => rs_app
theorem rs_ext {i : Nat} {D : Ends} {σ : St} {H : Hp} (h : RS C W (dExt i f) D σ H) : tDrop (tBM X.K "list" rExtend (tVar i) (tCons (RV C W f) tNil)) D σ H :=
  slot_list h fun ρ P DD o ds x ds' l vs M' v H2 E I ei ow e1 eL z rl ek hn ⟨s, N, rv, q⟩ => by
    unfold extK at ek
    obtain ⟨fl, d⟩ := x
    cases d <;> first | (cases ek; done) | skip
    rename_i es
    dsimp only at ek
    split at ek
    · rename_i hc
      cases ek
      obtain ⟨b, ws, N', rfl, eb, zb, rb, rfl⟩ := rv
      have hq : N'.Nodup ∧ (∀ a ∈ N', H a = none) ∧ ∀ a ∈ N', Mut (H2 a) := by
        rcases hc.1 with rfl | hi
        · exact ⟨(List.nodup_cons.mp q.1).2, fun a m => q.2.1 a (List.mem_cons_of_mem _ m), fun a m => q.2.2 a (List.mem_cons_of_mem _ m)⟩
        · rw [rb.imm hi]
          exact ⟨List.nodup_nil, (fun a m => nomatch m), (fun a m => nomatch m)⟩
      exact ⟨l, b, vs, ws, rfl, rfl, s _ _ eL, eb, by rw [← rl.length, ← rb.length]; exact hc.2, I.nx _ _ _ (app_env E s ei ow e1 eL z rl rb hq.1 hq.2.1 hq.2.2 (by rw [List.length_append]; exact hc.2)) hn⟩
    · cases ek
theorem ds_ext (i : Nat) {x : Str} (F : Fx R C X W) (he : PE X e (RV C W f)) (hN : X.N[i]? = some x := by rfl) (hv : Vis X.env.scope x := by first | exact Or.inl rfl | exact Or.inr (Or.inl rfl) | exact Or.inr (Or.inr rfl)) (hd : (x == ("__debug__" : Str)) = false := by decide)
    (hcd : (x == ("__classdict__" : Str)) = false := by decide) (hbase : attributeBase (.Name x p) "extend" X.env (eval (.Name x p) X.env) = eval (.Name x p) X.env := by rfl)
    (hfew : ((backTo cpos (starEach [e] X.env)).all (fun x => !x.1) && (backToKw cpos (keywordEach [] X.env)).all (fun x => x.1.isSome)
      && decide ([e].length + ([] : List Keyword).length + (if ([] : List Keyword).isEmpty then 0 else 1) < 30)) = true := by rfl)
    (hline : (apos.endLine == cpos.line) = true := by rfl) (hs : starEach [e] X.env = (false, eval e X.env) :: starEach [] X.env := by rfl) (hplain : (backTo cpos (starEach [] X.env)).any (·.1) = false := by rfl) (hsw : swapsWith (.Call (.Attribute (.Name x p) "extend" apos) [e] [] cpos) none pos.line X.env = pure false := by rfl) :
    PS X (.Expr (.Call (.Attribute (.Name x p) "extend" apos) [e] [] cpos) pos) (RS C W (dExt i f)) :=
  (ps_expr (pe_bm PySem.F.plainAttrs_list PySem.F.slot_list_extend PySem.F.type_list_extend mt_extend (pv i hN hv hd hcd) (pa_cons he pa_nil hs) hbase hfew hline hs hplain) hsw).imp fun _ _ _ => rs_ext

/-! ### d[k] = v -/
def replL {κ : Type} [DecidableEq κ] (k : κ) (d : D) : List κ → List D → List D
  | k' :: ks, x :: ds => (if k' = k then d else x) :: replL k d ks ds
  | _, ds => ds
/-- an entry put: in its place, or at the end -/
def putD {κ : Type} [DecidableEq κ] (ks : List κ) (ds : List D) (k : κ) (d : D) : List κ × List D := if k ∈ ks then (ks, replL k d ks ds) else (ks ++ [k], ds ++ [d])
theorem any_mem {κ : Type} [DecidableEq κ] (kvs : List (κ × V)) (k : κ) : ((kvs.any fun kv => decide (kv.1 = k)) = true) ↔ k ∈ kvs.map (·.1) := by
  simp [List.any_eq_true]
theorem repl_rep {κ : Type} [DecidableEq κ] {H : Hp} {k : κ} {d : D} {v : V} (rv : Rep C H d v []) : ∀ {kvs : List (κ × V)} {ds : List D} {M : List Addr}, RepL C H ds (kvs.map (·.2)) M → ∃ M', RepL C H (replL k d (kvs.map (·.1)) ds) ((kvs.map fun kv => if kv.1 = k then (kv.1, v) else kv).map (·.2)) M' ∧ M'.Sublist M
  | [], ds, M, r => by
    cases ds with
    | nil => exact ⟨M, r, List.Sublist.refl _⟩
    | cons x ds => obtain ⟨_, _, _, _, e, _⟩ := r; cases e
  | q :: kvs, [], M, r => by have := r.1; cases this
  | q :: kvs, x :: ds, M, r => by
    obtain ⟨w, ws, M1, M2, e, r1, r2, rfl⟩ := r
    cases e
    obtain ⟨M', r', s⟩ := repl_rep (k := k) rv r2
    by_cases h : q.1 = k
    · refine ⟨M', ⟨v, _, [], M', ?_, ?_, r', rfl⟩, s.trans (List.sublist_append_right _ _)⟩
      · simp only [List.map_cons, if_pos h]
      · show Rep C H (if q.1 = k then d else x) v []
        rw [if_pos h]; exact rv
    · refine ⟨M1 ++ M', ⟨q.2, _, M1, M', ?_, ?_, r', rfl⟩, List.Sublist.append (List.Sublist.refl _) s⟩
      · simp only [List.map_cons, if_neg h]
      · show Rep C H (if q.1 = k then d else x) q.2 M1
        rw [if_neg h]; exact r1
theorem repl_keys {κ : Type} [DecidableEq κ] (k : κ) (v : V) : ∀ kvs : List (κ × V), (kvs.map fun kv => if kv.1 = k then (kv.1, v) else kv).map (·.1) = kvs.map (·.1)
  | [] => rfl
  | q :: kvs => by
    rw [List.map_cons, List.map_cons, List.map_cons, repl_keys k v kvs]
    by_cases h : q.1 = k
    · rw [if_pos h]
    · rw [if_neg h]
theorem repl_len {κ : Type} [DecidableEq κ] (k : κ) (d : D) : ∀ (ks : List κ) (ds : List D), (replL k d ks ds).length = ds.length
  | [], ds => by cases ds <;> rfl
  | _ :: _, [] => rfl
  | k' :: ks, x :: ds => by unfold replL; rw [List.length_cons, List.length_cons, repl_len k d ks ds]
/-- a dict's entries behind a put: the same or fewer nodes, and the new value's -/
theorem put_rep {κ : Type} [DecidableEq κ] {H : Hp} {k : κ} {d : D} {v : V} {kvs : List (κ × V)} {ds : List D} {M N : List Addr} (r : RepL C H ds (kvs.map (·.2)) M) (rv : Rep C H d v N) (hk : k ∉ kvs.map (·.1) ∨ N = []) :
    (putD (kvs.map (·.1)) ds k d).1 = (putK kvs k v).map (·.1) ∧ ∃ M', RepL C H (putD (kvs.map (·.1)) ds k d).2 ((putK kvs k v).map (·.2)) M' ∧ M'.Sublist (M ++ N) := by
  unfold putD putK
  by_cases h : k ∈ kvs.map (·.1)
  · rw [if_pos h, if_pos ((any_mem kvs k).mpr h)]
    rcases hk with hk | rfl
    · exact absurd h hk
    · obtain ⟨M', r', s⟩ := repl_rep (k := k) rv r
      exact ⟨(repl_keys k v kvs).symm, M', r', s.trans (List.sublist_append_left _ _)⟩
  · rw [if_neg h, if_neg fun z => h ((any_mem kvs k).mp z)]
    refine ⟨by simp, M ++ N, ?_, List.Sublist.refl _⟩
    rw [List.map_append]
    exact r.append (RepL.one rv)
theorem put_len {κ : Type} [DecidableEq κ] {ks : List κ} {ds : List D} {k : κ} {d : D} : (putD ks ds k d).2.length ≤ ds.length + 1 := by
  unfold putD
  by_cases h : k ∈ ks
  · rw [if_pos h, repl_len]; omega
  · rw [if_neg h, List.length_append, List.length_singleton]; exact Nat.le_refl _
/-- what the dict is behind d[k] = v -/
def notIn {κ : Type} [DecidableEq κ] (q : κ) (ks : List κ) : Bool := decide (q ∉ ks)
def putF (d k : D) (x : FD) : Option D := match d with
  | .dK ks ds => match keyOf k with
    | some q => if ((x.1 = .fr ∧ notIn q ks = true) ∨ imm x.2 = true) ∧ ds.length < sizeLine then some (.dK (putD ks ds q x.2).1 (putD ks ds q x.2).2) else none
    | none => none
  | .dT ks ds => match k with
    | .tup es => match keysOf es with
      | some q => if ((x.1 = .fr ∧ notIn q ks = true) ∨ imm x.2 = true) ∧ ds.length < sizeLine then some (.dT (putD ks ds q x.2).1 (putD ks ds q x.2).2) else none
      | none => none
    | _ => none
  | _ => none
/-- slot[k] = v: v first, then k -/
def dPut (i : Nat) (fk fv : Env → Res FD) : TD := fun DD ρ => match fv ρ with
  | .ok x => match ρ[i]? with
    | some (some (o, d)) => o.own = true ∧ match fk ρ with
      | .ok k => match putF d k.2 x with
        | some d' => DD.nx (ρ.set i (some (o, d')))
        | none => False
      | .ex c => DD.ex c ρ
      | .bad => False
    | _ => False
  | .ex c => DD.ex c ρ
  | .bad => False
theorem mut_rd {H : Hp} {a : Addr} {u : HO} (m : Mut (H a)) (r : Rd H a u) : H a = some u := by
  rcases r with r | ⟨o, r⟩
  · exact r
  · rw [r] at m; exact m.elim
theorem upd_keep {H : Hp} {l : Addr} {u u' : HO} {M : List Addr} (el : H l = some u) (nt : ∀ vs, u ≠ .tup vs) (nf : ∀ o v, u ≠ .frz o v) (hl : l ∉ M) : KeepOn M H (upd H l u') :=
  ⟨fun b o m eb => (upd_ne fun z => by subst z; exact hl m).trans eb, fun b vs eb => (upd_ne fun z => by subst z; rw [el] at eb; cases eb; exact nt _ rfl).trans eb, fun b o vs eb => (upd_ne fun z => by subst z; rw [el] at eb; cases eb; exact nf _ _ rfl).trans eb⟩
theorem mut_not {H : Hp} {l : Addr} {u : HO} (m : Mut (H l)) (el : H l = some u) : (∀ vs, u ≠ .tup vs) ∧ ∀ o v, u ≠ .frz o v := by
  rw [el] at m
  exact ⟨fun vs e => by subst e; exact m, fun o v e => by subst e; exact m⟩
/-- the state behind a put -/
theorem put_env {H H3 : Hp} {σ : St} {ρ : Env} {i : Nat} {o : Ow} {d d' : D} {l : Addr} {M' M2 N : List Addr} {u u' : HO} (E : EnvOk C P H σ ρ) (s : Same H H3) (ei : ρ[i]? = some (some (o, d))) (ow : o.own = true) (ev : σ[i]? = some (some (.ref l)))
    (el : H3 l = some u) (mu' : Mut (some u')) (rd : Rep C H d (.ref l) (l :: M')) (rd' : Rep C (upd H3 l u') d' (.ref l) (l :: M2)) (sub : M2.Sublist (M' ++ N)) (nd : N.Nodup) (nw : ∀ a ∈ N, H a = none) (mu : ∀ a ∈ N, Mut (H3 a)) :
    EnvOk C P (upd H3 l u') σ (ρ.set i (some (o, d'))) := by
  obtain ⟨w, M1, e1, r1, own1, _⟩ := E.at_ i o _ ei
  rw [ev] at e1; cases e1
  rw [r1.uniq rd] at own1
  obtain ⟨q1, q2, _⟩ := own1 ow
  obtain ⟨l1, l2⟩ := List.nodup_cons.mp q1
  have rr := rd.same s
  have lN : l ∉ N := fun m => by
    obtain ⟨z, hz⟩ := rd.dom l List.mem_cons_self
    have := nw l m
    rw [hz] at this; cases this
  have nodupMN : (M' ++ N).Nodup := List.nodup_append.mpr ⟨l2, nd, fun a ma b mb e => by
    subst e
    obtain ⟨z, hz⟩ := rd.dom a (List.mem_cons_of_mem _ ma)
    rw [nw a mb] at hz; cases hz⟩
  refine E.mutate s ei ow ev rr rd' (fun a u na e => (upd_ne fun z => na (by rw [z]; exact List.mem_cons_self)).trans e) (fun a m => ?_) (List.nodup_cons.mpr ⟨fun m => (List.mem_append.mp (sub.subset m)).elim l1 lN, nodupMN.sublist sub⟩) (fun a m => ?_) fun a m => ?_
  · by_cases h : a = l
    · rw [h, upd_same]; exact fun z => by cases z
    · rw [upd_ne h]
      obtain ⟨z, hz⟩ := rr.dom a m
      rw [hz]; exact fun z => by cases z
  · rcases List.mem_cons.mp m with rfl | m
    · rw [upd_same]; exact mu'
    · have m' := List.mem_append.mp (sub.subset m)
      rw [upd_ne fun z => by subst z; exact m'.elim l1 lN]
      rcases m' with m | m
      · exact mut_same s (q2 a (List.mem_cons_of_mem _ m))
      · exact mu a m
  · rcases List.mem_cons.mp m with rfl | m
    · exact .inl List.mem_cons_self
    · rcases List.mem_append.mp (sub.subset m) with m | m
      · exact .inl (List.mem_cons_of_mem _ m)
      · exact .inr (nw a m)
theorem rs_put {i : Nat} {D : Ends} {σ : St} {H : Hp} (h : RS C W (dPut i f g) D σ H) : sDPut (tVar i) (RV C W f) (RV C W g) D σ H := by
  obtain ⟨ρ, P, DD, E, I, h⟩ := h
  refine ⟨ρ, P, E, ?_⟩
  unfold dPut at h
  cases eg : g ρ with
  | bad => rw [eg] at h; exact h
  | ex c => rw [eg] at h; exact fun H' s => I.ex σ H' ρ c (E.same s) h
  | ok x =>
    rw [eg] at h
    dsimp only at h
    intro v H1 ⟨s1, N, rv, qv⟩
    split at h
    · rename_i o d ei
      obtain ⟨ow, h⟩ := h
      obtain ⟨vd, M, e1, r, own, _⟩ := E.at_ i o _ ei
      refine ⟨vd, e1, ρ, P, E.same s1, ?_⟩
      cases ef : f ρ with
      | bad => rw [ef] at h; exact h
      | ex c => rw [ef] at h; exact fun H' s => I.ex σ H' ρ c (E.same (s1.trans s)) h
      | ok k =>
        rw [ef] at h
        dsimp only at h
        intro vk H2 ⟨s2, L, rk, qk⟩
        cases ep : putF d k.2 x with
        | none => rw [ep] at h; exact h.elim
        | some d' =>
          rw [ep] at h
          dsimp only at h
          have s12 := s1.trans s2
          obtain ⟨q1, q2, _⟩ := own ow
          have rv2 := rv.same s2
          have new : ∀ {κ : Type} [DecidableEq κ] {kk : κ} {ks : List κ}, ((x.1 = .fr ∧ notIn kk ks = true) ∨ imm x.2 = true) → (kk ∉ ks ∨ N = []) ∧ N.Nodup ∧ (∀ a ∈ N, H a = none) ∧ ∀ a ∈ N, Mut (H2 a) := fun {κ _ kk ks} hc => by
            rcases hc with ⟨hc, c⟩ | hc
            · rw [hc] at qv
              exact ⟨.inl (of_decide_eq_true c), qv.1, qv.2.1, fun a m => mut_same s2 (qv.2.2 a m)⟩
            · rw [rv.imm hc]
              exact ⟨.inr rfl, List.nodup_nil, (fun a m => nomatch m), (fun a m => nomatch m)⟩
          cases d with
          | dK ks ds =>
            obtain ⟨l, kvs, M', rfl, eL, rfl, z, rl, rfl⟩ := id r
            have eL' := mut_rd (q2 l List.mem_cons_self) eL
            have l1 := (List.nodup_cons.mp q1).1
            unfold putF at ep
            dsimp only at ep
            cases ek : keyOf k.2 with
            | none => rw [ek] at ep; cases ep
            | some kk =>
              rw [ek] at ep
              dsimp only at ep
              split at ep
              · rename_i hc
                cases ep
                obtain ⟨n1, n2, n3, n4⟩ := new hc.1
                obtain ⟨p1, M2, p2, p3⟩ := put_rep (k := kk) (rl.same s12) rv2 n1
                have eL2 := s12 _ _ eL'
                have lM2 : l ∉ M2 := fun m => (List.mem_append.mp (p3.subset m)).elim l1 fun m => by have := n3 l m; rw [eL'] at this; cases this
                refine ⟨l, _, rfl, .inl ⟨kvs, kk, eL2, key_rep rk ek, by have := rl.length; rw [List.length_map] at this; omega, rfl⟩, I.nx _ _ _ (put_env E s12 ei ow e1 eL2 trivial r ?_ p3 n2 n3 n4) h⟩
                obtain ⟨w1, w2⟩ := mut_not (by rw [eL2]; trivial) eL2
                exact ⟨l, putK kvs kk v, M2, rfl, .inl upd_same, p1, by have := put_len (ks := kvs.map (·.1)) (ds := ds) (k := kk) (d := x.2); omega, p2.keep (upd_keep eL2 w1 w2 lM2), rfl⟩
              · cases ep
          | dT ks ds =>
            obtain ⟨l, kvs, M', rfl, eL, rfl, z, rl, rfl⟩ := id r
            have eL' := mut_rd (q2 l List.mem_cons_self) eL
            have l1 := (List.nodup_cons.mp q1).1
            unfold putF at ep
            dsimp only at ep
            obtain ⟨kf, kd⟩ := k
            cases kd <;> first | (cases ep; done) | skip
            rename_i es
            clear qk
            obtain ⟨bk, kvs', rfl, ebk, _, rbk⟩ := rk
            dsimp only at ep
            cases ek : keysOf es with
            | none => rw [ek] at ep; cases ep
            | some kk =>
              rw [ek] at ep
              dsimp only at ep
              split at ep
              · rename_i hc
                cases ep
                obtain ⟨n1, n2, n3, n4⟩ := new hc.1
                obtain ⟨p1, M2, p2, p3⟩ := put_rep (k := kk) (rl.same s12) rv2 n1
                have eL2 := s12 _ _ eL'
                have lM2 : l ∉ M2 := fun m => (List.mem_append.mp (p3.subset m)).elim l1 fun m => by have := n3 l m; rw [eL'] at this; cases this
                refine ⟨l, _, rfl, .inr ⟨kvs, kk, bk, eL2, rfl, by rw [← keys_rep rbk ek]; exact ebk, by have := rl.length; rw [List.length_map] at this; omega, rfl⟩, I.nx _ _ _ (put_env E s12 ei ow e1 eL2 trivial r ?_ p3 n2 n3 n4) h⟩
                obtain ⟨w1, w2⟩ := mut_not (by rw [eL2]; trivial) eL2
                exact ⟨l, putK kvs kk v, M2, rfl, .inl upd_same, p1, by have := put_len (ks := kvs.map (·.1)) (ds := ds) (k := kk) (d := x.2); omega, p2.keep (upd_keep eL2 w1 w2 lM2), rfl⟩
              · cases ep
          | _ => cases ep
    · exact h.elim
theorem ds_put (i : Nat) {x : Str} (F : Fx R C X W) (hk : PE X a (RV C W f)) (hv : PE X b (RV C W g)) (hN : X.N[i]? = some x := by rfl) (hvi : Vis X.env.scope x := by first | exact Or.inl rfl | exact Or.inr (Or.inl rfl) | exact Or.inr (Or.inr rfl)) (hd : (x == ("__debug__" : Str)) = false := by decide)
    (hcd : (x == ("__classdict__" : Str)) = false := by decide) (hs : swapsWith b (some (.Subscript (.Name x p) a pos')) pos.line X.env = pure false := by rfl) :
    PS X (.Assign [.Subscript (.Name x p) a pos'] b pos) (RS C W (dPut i f g)) := (ps_dput (by have := F.hu; omega) (pv i hN hvi hd hcd) hk hv hs).imp fun _ _ _ => rs_put
end
end DL
/-! DL9: contracts, calls, raise, comprehensions as expressions. -/
namespace DL
open PySem L2

mutual
theorem Rep.ctx {C C' : Ctx} {H : Hp} (hc : (C.cls, C.K) = (C'.cls, C'.K)) : ∀ {d : D} {v : V} {M : List Addr}, Rep C H d v M → Rep C' H d v M
  | .non, _, _, h => h
  | .bl _, _, _, h => h
  | .int _, _, _, h => h
  | .str _, _, _, h => h
  | .ty _, _, _, h => h
  | .tup ds, v, M, h => by
    obtain ⟨a, vs, e, q, z, r⟩ := h
    exact ⟨a, vs, e, q, z, RepL.ctx hc r⟩
  | .lst ds, v, M, h => by
    obtain ⟨a, vs, M', e, q, z, r, w⟩ := h
    exact ⟨a, vs, M', e, q, z, RepL.ctx hc r, w⟩
  | .fz ds, v, M, h => by
    obtain ⟨a, vs, e, q, z, r, w⟩ := h
    have hK : C.K = C'.K := congrArg Prod.snd hc
    exact ⟨a, vs, e, by unfold FzL; rw [← hK]; exact q, z, RepL.ctx hc r, w⟩
  | .dK ks ds, v, M, h => by
    obtain ⟨a, vs, M', e, q, k, z, r, w⟩ := h
    exact ⟨a, vs, M', e, q, k, z, RepL.ctx hc r, w⟩
  | .dT ks ds, v, M, h => by
    obtain ⟨a, vs, M', e, q, k, z, r, w⟩ := h
    exact ⟨a, vs, M', e, q, k, z, RepL.ctx hc r, w⟩
  | .ins c ns ds, v, M, h => by
    obtain ⟨a, dx, fs, M', e, q, k, r, w⟩ := h
    have hcl : C.cls = C'.cls := congrArg Prod.fst hc
    exact ⟨a, dx, fs, M', e, by rw [← hcl]; exact q, k, RepL.ctx hc r, w⟩
theorem RepL.ctx {C C' : Ctx} {H : Hp} (hc : (C.cls, C.K) = (C'.cls, C'.K)) : ∀ {ds : List D} {vs : List V} {M : List Addr}, RepL C H ds vs M → RepL C' H ds vs M
  | [], _, _, h => h
  | d :: ds, vs, M, h => by
    obtain ⟨v, r, M1, M2, e, h1, h2, w⟩ := h
    exact ⟨v, r, M1, M2, e, Rep.ctx hc h1, RepL.ctx hc h2, w⟩
end
theorem New.ctx {C C' : Ctx} {H H' : Hp} {d : D} {v : V} (hc : (C.cls, C.K) = (C'.cls, C'.K)) (h : New C H H' d v) : New C' H H' d v := ⟨h.1, h.2.elim fun M x => ⟨M, x.1.ctx hc, x.2⟩⟩

/-- the bare context of a contract -/
def ctx0 (K : PySem.W.Frag) (cls : Str → Addr) : Ctx := ⟨K, fun _ => none, [], none, cls⟩
/-- a def that works on trees as F says -/
def SpP (K : PySem.W.Frag) (cls : Str → Addr) (F : List D → Res D) : Sp := fun vs H Q E => ∃ ds M, RepL (ctx0 K cls) H ds vs M ∧ match F ds with
  | .ok d => ∀ v H', New (ctx0 K cls) H H' d v → Q v H'
  | .ex c => ∀ H', Same H H' → E (.ref (cls c)) none H'
  | .bad => False
structure Fn (P : Program) (w : World) (K : PySem.W.Frag) (mg : Str → Option Value) (base : Heap) (cls : Str → Addr) (x : Str) (k : Nat) (F : List D → Res D) : Prop where
  ex : ∃ f fd ps, mg x = some (.ref f) ∧ PySem.W.keepIn K (.ref f) = true ∧ Binds K fd ps [] ∧ FnOk P w K mg base (L2.CX P w) k f fd ps (SpP K cls F)
theorem Fn.mono {P : Program} {w : World} {K : PySem.W.Frag} {mg : Str → Option Value} {base : Heap} {cls : Str → Addr} {x : Str} {j k : Nat} {F : List D → Res D} (h : Fn P w K mg base cls x j F) (hk : j ≤ k) : Fn P w K mg base cls x k F := by
  obtain ⟨f, fd, ps, a, b, c, d⟩ := h.ex
  exact ⟨f, fd, ps, a, b, c, d.mono hk⟩
/-- a narrower contract -/
theorem Fn.imp {P : Program} {w : World} {K : PySem.W.Frag} {mg : Str → Option Value} {base : Heap} {cls : Str → Addr} {x : Str} {k : Nat} {F G : List D → Res D} (h : Fn P w K mg base cls x k F) (hg : ∀ ds, G ds = .bad ∨ G ds = F ds) : Fn P w K mg base cls x k G := by
  obtain ⟨f, fd, ps, a, b, c, d⟩ := h.ex
  refine ⟨f, fd, ps, a, b, c, d.imp fun vs H Q E ⟨ds, M, r, q⟩ => ⟨ds, M, r, ?_⟩⟩
  rcases hg ds with z | z
  · rw [z] at q; exact q.elim
  · rw [← z]; exact q

section
variable {R : Nat} {C : Ctx} {X : Cx} {W : WX} {a b e : Expr} {es : List Expr} {f g : Env → Res FD} {fa : Env → Res AD} {pos pos' p : Pos}

def callF (F : List D → Res D) (fa : Env → Res AD) : Env → Res FD := fun ρ => (fa ρ).bind fun y => match F y.2 with
  | .ok d => .ok (.fr, d)
  | .ex c => .ex c
  | .bad => .bad
theorem rv_call {Fd : List D → Res D} {σ : St} {H : Hp} {Q : VK} (h : RV C W (callF Fd fa) σ H Q) : tCallS (SpP C.K C.cls Fd) (WE W) (RL C W fa) σ H Q := by
  obtain ⟨ρ, P, E, h⟩ := h
  refine ⟨ρ, P, E, ?_⟩
  unfold callF at h
  cases e : fa ρ with
  | bad => rw [e] at h; exact h
  | ex c => rw [e] at h; exact h
  | ok y =>
    rw [e] at h
    simp only [Res.ok_bind] at h
    intro vs H1 s1 ⟨M, r, _⟩
    refine ⟨y.2, M, RepL.ctx (C := C) (C' := ctx0 C.K C.cls) rfl r, ?_⟩
    cases ef : Fd y.2 with
    | bad => rw [ef] at h; exact h
    | ex c => rw [ef] at h; exact fun H' s' => h H' (s1.trans s')
    | ok d => rw [ef] at h; exact fun v H' n => h v H' ((New.ctx (C := ctx0 C.K C.cls) (C' := C) rfl n).early s1).vok
/-- a call of a def of the text -/
theorem pd_call {k : Nat} {x : Str} {Fd : List D → Res D} (F : Fx R C X W) (G : Fn X.prog X.w X.K X.mg X.base C.cls x k Fd) (hk : k ≤ R) (hg : Gl X x) (ha : PA X (e :: es) (RL C W fa)) (hdb : (x == ("__debug__" : Str)) = false := by decide)
    (he : starEach (e :: es) X.env = (false, eval e X.env) :: starEach es X.env := by rfl) (hpl : (backTo pos (starEach es X.env)).any (·.1) = false := by rfl) : PE X (.Call (.Name x p) (e :: es) [] pos) (RV C W (callF Fd fa)) := by
  obtain ⟨f, fd, ps, hm, hkp, hb, G⟩ := G.ex
  exact (pe_callS (E := WE W) G (F.room.mono hk) hg hm hkp hb (fun σ => passAt F.tk σ) ha hdb he hpl).imp fun σ H Q h => by
    rw [F.hK]
    exact rv_call h

/-! ### a def's body -/
def startD (n : Nat) (ds : List D) : Env := ds.map (fun d => some (Ow.sh, d)) ++ List.replicate (n - ds.length) none
theorem startD_at {n i : Nat} {o : Ow} {d : D} {ds : List D} (e : (startD n ds)[i]? = some (some (o, d))) : o = .sh ∧ ds[i]? = some d := by
  unfold startD at e
  by_cases h : i < ds.length
  · rw [List.getElem?_append_left (by simpa using h), List.getElem?_map, List.getElem?_eq_getElem h] at e
    cases e
    exact ⟨rfl, List.getElem?_eq_getElem h⟩
  · rw [List.getElem?_append_right (by simpa using h), List.getElem?_replicate] at e
    split at e <;> cases e
theorem env_start {K : PySem.W.Frag} {cls : Str → Addr} {H : Hp} {N : List Str} {ds : List D} {vs : List V} {M : List Addr} (r : RepL (ctx0 K cls) H ds vs M) : EnvOk ⟨K, H, [], none, cls⟩ [] H (L2.start N vs) (startD N.length ds) := by
  have hl := r.length
  refine ⟨by unfold L2.start startD; simp [hl], fun i o d e => ?_, (fun p m => nomatch m), fun a o e _ => .inl e, fun a e => e⟩
  obtain ⟨rfl, e1⟩ := startD_at e
  obtain ⟨v, M', e2, r', _⟩ := r.get e1
  refine ⟨v, M', ?_, Rep.ctx (C := ctx0 K cls) (C' := ⟨K, H, [], none, cls⟩) rfl r', (fun h => by cases h), (fun h => by cases h), (fun h => by cases h), fun h => by cases h⟩
  unfold L2.start
  have hi := (List.getElem?_eq_some_iff.mp e2).1
  rw [List.getElem?_append_left (by simpa using hi), List.getElem?_map, e2]
  rfl
/-- the ends of a def whose answer is r -/
def endsOf (r : Res D) : EndsD := { nx := fun _ => r = .ok .non, rt := fun d _ => r = .ok d, ex := fun c _ => r = .ex c }
theorem fn_pure {P : Program} {w : World} {K : PySem.W.Frag} {mg : Str → Option Value} {base : Heap} {cls : Str → Addr} {x qual : Str} {st : Stmt} {f : Addr} {fd : FuncData} {N ps : List Str} {k : Nat} {Fs : List D → Res D} {t : TD}
    (Fu : Fun K x qual st f fd) (S : FnScope N ps (defScope st)) (len : ∀ ds, Fs ds ≠ .bad → ds.length = ps.length)
    (body : ∀ (cdv : Value) (A : Around) (outer : List PySem.Env) (s : Shared) (H : Hp) (E : XK) (C : Ctx) (W : WX), C.cls = cls → Fx k C (cxOf (L2.CX P w) P w K mg base N qual (defScope st) f cdv A outer s H E) W →
      PSs (cxOf (L2.CX P w) P w K mg base N qual (defScope st) f cdv A outer s H E) (defBody st) (RS C W t))
    (sem : ∀ ds, Fs ds ≠ .bad → t (endsOf (Fs ds)) (startD N.length ds)) : FnOk P w K mg base (L2.CX P w) (k + 1) f fd ps (SpP K cls Fs) := by
  refine Fu.okX S (fun vs H Q E h => ?_) (fun cdv A outer s H vs Q E hr h => ?_)
  · obtain ⟨ds, M, r, q⟩ := h
    rw [← r.length]
    exact len ds fun e => by rw [e] at q; exact q
  · obtain ⟨ds, M, r, q⟩ := h
    have hnb : Fs ds ≠ .bad := fun e => by rw [e] at q; exact q
    have tk : Takes (cxOf (L2.CX P w) P w K mg base N qual (defScope st) f cdv A outer s H E) (fun c d _ H => E c d H) := takes_of rfl rfl rfl rfl
    have F : Fx k ⟨K, H, [], none, cls⟩ (cxOf (L2.CX P w) P w K mg base N qual (defScope st) f cdv A outer s H E) (fun c d _ H => E c d H) :=
      ⟨rfl, tk, PassesOwn.leaving, rfl, by have := hr.un; show (A.deeper (PyProof.Rows.envOfC qual (defScope st) s.heap.objs.size f cdv)).units + 200 < cLine; omega, S.nd, hr⟩
    refine ⟨_, body cdv A outer s H E _ _ rfl F, startD N.length ds, [], endsOf (Fs ds), env_start r, ?_, sem ds hnb⟩
    have key : ∀ {v : V} {H' : Hp} {d : D} {σ : St} {ρ : Env} {M : List Addr}, EnvOk ⟨K, H, [], none, cls⟩ [] H' σ ρ → Rep ⟨K, H, [], none, cls⟩ H' d v M → M.Nodup → (∀ a ∈ M, H a = none) → (∀ a ∈ M, Mut (H' a)) → Fs ds = .ok d → Q v H' := fun {v H' d σ ρ M} E' r n1 n2 n3 e => by
      rw [e] at q
      refine q v H' ⟨fun a o ea => ?_, M, Rep.ctx (C := ⟨K, H, [], none, cls⟩) (C' := ctx0 K cls) rfl r, n1, n2, n3⟩
      rcases E'.kept a o ea (by simp) with z | ⟨_, z⟩
      · exact z
      · cases z
    refine ⟨fun σ H' ρ E' e => ?_, fun σ H' ρ d v M E' r n1 n2 n3 e => key E' r n1 n2 n3 e, fun _ _ _ _ h => h, fun _ _ _ _ h => h, fun σ H' ρ c E' e => ?_⟩
    · exact key (d := .non) (v := .non) (M := []) E' ⟨rfl, rfl⟩ List.nodup_nil (fun a m => nomatch m) (fun a m => nomatch m) e
    · have e' : Fs ds = .ex c := e
      rw [e'] at q
      refine q H' fun a o ea => ?_
      rcases E'.kept a o ea (by simp) with z | ⟨_, z⟩
      · exact z
      · cases z

/-! ### raise -/
structure ExcT (K : PySem.W.Frag) (mg : Str → Option Value) (cls : Str → Addr) (c : Str) : Prop where
  mg : mg c = some (.ref (cls c))
  ex : PySem.W.excIn K (cls c) [.type "ValueError", .type "Exception", .type "BaseException", .type "object"] "ValueError.__new__" = true
  kp : PySem.W.keepIn K (.ref (cls c)) = true
  sub : PySem.W.subIn K (.ref (cls c)) (.type "BaseException") = some true
  ty : PySem.W.typeIn K (.ref (cls c)) = some (.type "type")
def dRaise (c : Str) : TD := fun DD ρ => DD.ex c ρ
theorem ds_raise {c m : Str} {j : Nat} {p2 : Pos} (F : Fx R C X W) (T : ExcT X.K X.mg C.cls c) (hg : Gl X c) (hdb : (c == ("__debug__" : Str)) = false := by decide) : PS X (.Raise (some (.Call (.Name c p) [.Constant (.str m) j p2] [] pos)) none pos') (RS C W (dRaise c)) :=
  (ps_raise F.calm F.tk (pmk_own PySem.F.excBase_ValueError T.ex T.mg T.kp (raises_own T.sub T.ty) hg hdb)).imp fun D σ H ⟨ρ, P, DD, E, I, h⟩ => I.ex σ H ρ c E h

/-! ### comprehensions -/
theorem Fx.blk {s : Shared} {H : Hp} {scope : Scope} {cenv : PySem.Env} {fp : List Addr} (F : Fx R C X W) : Fx R C (X.blk s H scope cenv fp) W0 := ⟨F.hK, takes0, PassesOwn.never, F.calm, F.hu, F.nd, F.room⟩
def noIf : Env → Res Bool := fun _ => .ok true
theorem dts_nil : PTs X [] (RT C W noIf) := ⟨fun pins s σ H Q I h => pts_nil.run pins s σ H Q I (by obtain ⟨ρ, P, E, h⟩ := h; exact h H (Same.refl H))⟩
theorem dts_one {c : Expr} {ft : Env → Res Bool} (h : PT X c (RT C W ft)) : PTs X [c] (RT C W ft) := pts_one h
theorem pd_comp {elt tg iter : Expr} {ifs : List Expr} {scope : Scope} {own : List (Str × Nat)} {fi : Env → Res ID} {t : Tg} {tt : Env → Res Bool} {te : Env → Res FD} (F : Fx R C X W) (hi : PI X tg iter (RI C W fi)) (ok : blkC X.N X.env.scope scope own = true)
    (ht' : t.ix.all (fun i => (own.map (·.2)).contains i) = true)
    (hg : ∀ (s : Shared) (H : Hp) (C' : Addr) (cl : List (Str × Addr)) (fp : List Addr), PG (X.blk s H scope (compEnvC scope cl C' X.env) fp) tg (gOf X.K t))
    (ht : ∀ (s : Shared) (H : Hp) (C' : Addr) (cl : List (Str × Addr)) (fp : List Addr), Fx R C (X.blk s H scope (compEnvC scope cl C' X.env) fp) W0 → PTs (X.blk s H scope (compEnvC scope cl C' X.env) fp) ifs (RT C W0 tt))
    (he : ∀ (s : Shared) (H : Hp) (C' : Addr) (cl : List (Str × Addr)) (fp : List Addr), Fx R C (X.blk s H scope (compEnvC scope cl C' X.env) fp) W0 → PE (X.blk s H scope (compEnvC scope cl C' X.env) fp) elt (RV C W0 te))
    (hs : ∀ x, foldedSetIterable iter X.env x = pure x := by exact fun _ => rfl) :
    PE X (.ListComp elt [⟨tg, iter, ifs, 0⟩] scope pos) (RV C W (compF fi t tt te (own.map (·.2)))) :=
  (pe_lc F.calm F.nd hi (blkOk_by ok) hg (fun s H C' cl fp => ht s H C' cl fp F.blk) (fun s H C' cl fp => he s H C' cl fp F.blk) hs).imp fun _ _ _ => rv_comp fun i m => by
    have := List.all_eq_true.mp ht' i m
    simpa using this
/-- name = [..], on one line, the name a local -/
theorem ds_setComp {i : Nat} {y : Str} {py : Pos} {elt tg iter : Expr} {ifs : List Expr} {scope : Scope} {own : List (Str × Nat)} {fi : Env → Res ID} {t : Tg} {tt : Env → Res Bool} {te : Env → Res FD} {spos : Pos} (F : Fx R C X W) (hy : X.N[i]? = some y) (hyl : X.env.scope.names.lookup y = some .local)
    (hsw : swapsWith (.ListComp elt [⟨tg, iter, ifs, 0⟩] scope pos) (some (.Name y py)) spos.line X.env = pure true) (hi : PI X tg iter (RI C W fi)) (ok : blkC X.N X.env.scope scope own = true)
    (ht' : t.ix.all (fun i => (own.map (·.2)).contains i) = true)
    (hg : ∀ (s : Shared) (H : Hp) (C' : Addr) (cl : List (Str × Addr)) (fp : List Addr), PG (X.blk s H scope (compEnvC scope cl C' X.env) fp) tg (gOf X.K t))
    (ht : ∀ (s : Shared) (H : Hp) (C' : Addr) (cl : List (Str × Addr)) (fp : List Addr), Fx R C (X.blk s H scope (compEnvC scope cl C' X.env) fp) W0 → PTs (X.blk s H scope (compEnvC scope cl C' X.env) fp) ifs (RT C W0 tt))
    (he : ∀ (s : Shared) (H : Hp) (C' : Addr) (cl : List (Str × Addr)) (fp : List Addr), Fx R C (X.blk s H scope (compEnvC scope cl C' X.env) fp) W0 → PE (X.blk s H scope (compEnvC scope cl C' X.env) fp) elt (RV C W0 te))
    (hs : ∀ x, foldedSetIterable iter X.env x = pure x := by exact fun _ => rfl) :
    PS X (.Assign [.Name y py] (.ListComp elt [⟨tg, iter, ifs, 0⟩] scope pos) spos) (RS C W (dSet i (compF fi t tt te (own.map (·.2))))) :=
  (ps_setLc F.calm F.nd hy hyl hsw hi (blkOk_by ok) hg (fun s H C' cl fp => ht s H C' cl fp F.blk) (fun s H C' cl fp => he s H C' cl fp F.blk) hs).imp fun D σ H h => by
    refine rv_comp (fun i m => ?_) (rs_val h fun ρ P DD y v H' E I k vo => I.nx _ H' _ (assign_own E vo k.2.1 k.1) k.2.2)
    have := List.all_eq_true.mp ht' i m
    simpa using this
end
end DL
/-! DL10: builtins by call. -/
namespace DL
open PySem L2

/-- a builtin that works on trees as F says -/
def SpB (C : Ctx) (F : List D → Res D) : List V → Hp → VK → Prop := fun vs H Q => ∃ ds M, RepL C H ds vs M ∧ match F ds with
  | .ok d => ∀ v H', New C H H' d v → Q v H'
  | _ => False
section
variable {R : Nat} {C : Ctx} {X : Cx} {W : WX} {a b e : Expr} {es : List Expr} {f g : Env → Res FD} {fa : Env → Res AD} {pos pos' p : Pos} {Fb : List D → Res D}
theorem callTo {f : Value} {r r' : List V → Hp → VK → Prop} (h : CallR X f r) (i : ∀ vs H Q, r' vs H Q → r vs H Q) : CallR X f r' := fun pins s σ H xs us Q I v q => h pins s σ H xs us Q I v (i xs H Q q)
/-- what a builtin does is no exception of ours -/
theorem rv_callB (hx : ∀ ds c, Fb ds ≠ .ex c) {σ : St} {H : Hp} {Q : VK} (h : RV C W (callF Fb fa) σ H Q) : tCB (SpB C Fb) (RL C W fa) σ H Q := by
  obtain ⟨ρ, P, E, h⟩ := h
  refine ⟨ρ, P, E, ?_⟩
  unfold callF at h
  cases e : fa ρ with
  | bad => rw [e] at h; exact h
  | ex c => rw [e] at h; exact h
  | ok y =>
    rw [e] at h
    simp only [Res.ok_bind] at h
    intro vs H1 s1 ⟨M, r, _⟩
    refine ⟨y.2, M, r, ?_⟩
    cases ef : Fb y.2 with
    | bad => rw [ef] at h; exact h
    | ex c => exact absurd ef (hx _ c)
    | ok d => rw [ef] at h; exact fun v H' n => h v H' (n.early s1).vok
theorem pd_b {id : String} {x : Str} (hc : CallR X (.builtin id) (SpB C Fb)) (hx : ∀ ds c, Fb ds ≠ .ex c) (hg : Gl X x) (hm : X.mg x = none) (hv : bootBuiltins x = some (.builtin id)) (ha : PA X (e :: es) (RL C W fa)) (hn : x ≠ "__name__" := by decide) (hdb : (x == ("__debug__" : Str)) = false := by decide)
    (he : starEach (e :: es) X.env = (false, eval e X.env) :: starEach es X.env := by rfl) (hpl : (backTo pos (starEach es X.env)).any (·.1) = false := by rfl) : PE X (.Call (.Name x p) (e :: es) [] pos) (RV C W (callF Fb fa)) :=
  (pe_callB hc hg hm hv ha hn hdb he hpl).imp fun _ _ _ => rv_callB hx
theorem pd_bT {T : String} {x : Str} (hc : CallR X (.type T) (SpB C Fb)) (hx : ∀ ds c, Fb ds ≠ .ex c) (hg : Gl X x) (hm : X.mg x = none) (hv : bootBuiltins x = some (.type T)) (ha : PA X (e :: es) (RL C W fa)) (hn : x ≠ "__name__" := by decide) (hdb : (x == ("__debug__" : Str)) = false := by decide)
    (he : starEach (e :: es) X.env = (false, eval e X.env) :: starEach es X.env := by rfl) (hpl : (backTo pos (starEach es X.env)).any (·.1) = false := by rfl) : PE X (.Call (.Name x p) (e :: es) [] pos) (RV C W (callF Fb fa)) :=
  (pe_callTy hc hg hm hv ha hn hdb he hpl).imp fun _ _ _ => rv_callB hx

/-! ### what a value is, as a sequence -/
theorem rep1 {H : Hp} {d : D} {vs : List V} {M : List Addr} (r : RepL C H [d] vs M) : ∃ v, vs = [v] ∧ Rep C H d v M := by
  obtain ⟨v, w, M1, M2, rfl, r1, ⟨rfl, rfl⟩, rfl⟩ := r
  exact ⟨v, rfl, by simpa using r1⟩
theorem rep2 {H : Hp} {d d' : D} {vs : List V} {M : List Addr} (r : RepL C H [d, d'] vs M) : ∃ v v' N N', vs = [v, v'] ∧ Rep C H d v N ∧ Rep C H d' v' N' := by
  obtain ⟨v, w, M1, M2, rfl, r1, ⟨v', w', M3, M4, rfl, r3, ⟨rfl, rfl⟩, rfl⟩, rfl⟩ := r
  exact ⟨v, v', M1, M3, rfl, r1, r3⟩
/-- the items of a list or tuple -/
def itemsD : D → Option (List D)
  | .lst ds => some ds
  | .tup ds => some ds
  | _ => none
theorem seq_rep (K : PySem.W.Frag) {H : Hp} {d : D} {v : V} {M : List Addr} {ds : List D} (r : Rep C H d v M) (e : itemsD d = some ds) :
    ∃ a vs N, v = .ref a ∧ (SqL K H a vs ∨ SqT K H a vs) ∧ RepL C H ds vs N ∧ ds.length ≤ sizeLine ∧ N.Sublist M := by
  cases d <;> cases e
  · obtain ⟨a, vs, rfl, e1, z, r1⟩ := r
    exact ⟨a, vs, _, rfl, .inr (.inl (.inl e1)), r1, z, List.Sublist.refl _⟩
  · obtain ⟨a, vs, M', rfl, e1, z, r1, rfl⟩ := r
    exact ⟨a, vs, _, rfl, .inl (.inl (.inl e1)), r1, z, List.sublist_cons_self _ _⟩

/-! ### len -/
def lenF : List D → Res D
  | [d] => match d with
    | .str x => if x.length ≤ sizeLine then .ok (.int x.length) else .bad
    | .lst ds => .ok (.int ds.length)
    | .tup ds => .ok (.int ds.length)
    | .fz ds => .ok (.int ds.length)
    | .dK ks ds => .ok (.int ds.length)
    | _ => .bad
  | _ => .bad
theorem lenF_nx : ∀ ds c, lenF ds ≠ .ex c := fun ds c e => by
  unfold lenF at e
  repeat' (first | cases e | split at e)
theorem SpB.ok {F : List D → Res D} {vs : List V} {H : Hp} {Q : VK} (h : SpB C F vs H Q) : ∃ ds M d, RepL C H ds vs M ∧ F ds = .ok d ∧ ∀ v H', New C H H' d v → Q v H' := by
  obtain ⟨ds, M, r, h⟩ := h
  cases e : F ds with
  | bad => rw [e] at h; exact h.elim
  | ex c => rw [e] at h; exact h.elim
  | ok d => rw [e] at h; exact ⟨ds, M, d, r, e, h⟩
theorem b_len (hK : X.K = C.K) : CallR X (.builtin "len") (SpB C lenF) := by
  have key : CallR X (.builtin "len") (fun xs H Q => (∃ x n, xs = [x] ∧ LenV X.K x H n ∧ Q (.int n) H) ∨ ∃ a, xs = [.ref a] ∧ ∃ kvs, Rd H a (.dK kvs) ∧ Q (.int kvs.length) H) := call_len.or fun pins s σ H xs us Q I r h => by
    obtain ⟨a, rfl, kvs, e, q⟩ := h
    obtain ⟨u, rfl, ru⟩ := vals1 r
    cases ru
    exact d_len I e fun t s1 I1 => ⟨.int kvs.length, H, I1, ⟨_, rfl⟩, q⟩
  refine callTo key fun vs H Q h => ?_
  obtain ⟨ds, M, d, r, e, q⟩ := h.ok
  have sq : ∀ {d' : D} {es : List D}, Rep C H d' (vs.headD .non) M → vs = [vs.headD .non] → itemsD d' = some es → d = .int es.length → ∃ x n, vs = [x] ∧ LenV X.K x H n ∧ Q (.int n) H := fun {d' es} r1 ev ei ed => by
    subst ed
    obtain ⟨a, ws, N, e1, sq, r2, z, _⟩ := seq_rep X.K r1 ei
    rw [e1] at ev
    refine ⟨.ref a, es.length, ev, ?_, q _ H int_new⟩
    rcases sq with sq | sq
    · exact .inl ⟨ws, sq, r2.length⟩
    · exact .inr ⟨ws, sq, r2.length⟩
  unfold lenF at e
  split at e
  · obtain ⟨v, rfl, r1⟩ := rep1 r
    split at e
    · split at e
      · cases e
        rename_i hz
        obtain ⟨rfl, _⟩ := r1
        exact .inl ⟨_, _, rfl, ⟨hz, rfl⟩, q _ H int_new⟩
      · cases e
    · cases e; exact .inl (sq r1 rfl rfl rfl)
    · cases e; exact .inl (sq r1 rfl rfl rfl)
    · cases e
      obtain ⟨a, ws, rfl, e1, z, r2, _⟩ := r1
      refine .inl ⟨.ref a, _, rfl, .inl ⟨ws, ?_, r2.length⟩, q _ H int_new⟩
      rw [hK]
      exact FzL.sq e1
    · cases e
      obtain ⟨a, kvs, M', rfl, e1, _, _, r2, _⟩ := r1
      have hl := r2.length
      rw [List.length_map] at hl
      exact .inr ⟨a, rfl, kvs, e1, by rw [← hl]; exact q _ H int_new⟩
    · cases e
  · cases e

/-! ### isinstance -/
def tyD : D → Option String
  | .non => some "NoneType"
  | .bl _ => some "bool"
  | .int _ => some "int"
  | .str _ => some "str"
  | .tup _ => some "tuple"
  | .lst _ => some "list"
  | .dK _ _ => some "dict"
  | _ => none
def isiK (a b : String) : Option Bool := if a ∈ ["NoneType", "bool", "int", "str", "tuple", "list", "dict"] ∧ b ∈ ["bool", "int", "str", "tuple", "list", "dict"] then some (a == b || (a == "bool" && b == "int")) else none
def isiF : List D → Res D
  | [d, .ty n] => match tyD d with
    | some m => match isiK m n with
      | some b => .ok (.bl b)
      | none => .bad
    | none => .bad
  | _ => .bad
theorem isiF_nx : ∀ ds c, isiF ds ≠ .ex c := fun ds c e => by
  unfold isiF at e
  repeat' (first | cases e | split at e)
theorem kits : ∀ a ∈ ["NoneType", "bool", "int", "str", "tuple", "list", "dict"], ∀ b ∈ ["bool", "int", "str", "tuple", "list", "dict"], kitB a b = some (a == b || (a == "bool" && b == "int")) := by decide +kernel
theorem tyx_rep (K : PySem.W.Frag) {H : Hp} {d : D} {v : V} {M : List Addr} {n : String} (r : Rep C H d v M) (e : tyD d = some n) : TyX K H v (.type n) := by
  cases d <;> cases e
  · obtain ⟨rfl, _⟩ := r; exact .base .non
  · obtain ⟨rfl, _⟩ := r; exact .base (.bl _)
  · obtain ⟨rfl, _⟩ := r; exact .base (.int _)
  · obtain ⟨rfl, _⟩ := r; exact .base (.str _)
  · obtain ⟨a, vs, rfl, e1, _⟩ := r; exact .base (.tup e1)
  · obtain ⟨a, vs, _, rfl, e1, _⟩ := r; exact .base (.lst e1)
  · obtain ⟨a, kvs, _, rfl, e1, _⟩ := r
    rcases e1 with e1 | ⟨o, e1⟩
    · exact .base (.dK e1)
    · exact .fDict e1
theorem b_isi : CallR X (.builtin "isinstance") (SpB C isiF) := by
  refine callTo call_isi fun vs H Q h => ?_
  obtain ⟨ds, M, d, r, e, q⟩ := h.ok
  unfold isiF at e
  split at e
  · obtain ⟨v, v', N, N', rfl, r1, r2⟩ := rep2 r
    obtain ⟨rfl, _⟩ := r2
    split at e
    · rename_i et
      split at e
      · cases e
        rename_i b eb
        unfold isiK at eb
        split at eb
        · rename_i hm
          cases eb
          exact ⟨v, _, _, _, _, rfl, .ty _, tyx_rep X.K r1 et, kit_ty (kits _ hm.1 _ hm.2), q _ H bl_new⟩
        · cases eb
      · cases e
    · cases e
  · cases e

/-! ### list, tuple, int, bool -/
def listF : List D → Res D
  | [d] => match itemsD d with
    | some ds => if immL ds = true then .ok (.lst ds) else .bad
    | none => match d with
      | .dK ks _ => .ok (.lst (ks.map kD))
      | _ => .bad
  | _ => .bad
def tupB : List D → Res D
  | [d] => match itemsD d with
    | some ds => if immL ds = true then .ok (.tup ds) else .bad
    | none => .bad
  | _ => .bad
theorem listF_nx : ∀ ds c, listF ds ≠ .ex c := fun ds c e => by
  unfold listF at e
  repeat' (first | cases e | split at e)
theorem tupB_nx : ∀ ds c, tupB ds ≠ .ex c := fun ds c e => by
  unfold tupB at e
  repeat' (first | cases e | split at e)
theorem repK {H : Hp} : ∀ ks : List Key, RepL C H (ks.map kD) (ks.map kV) []
  | [] => ⟨rfl, rfl⟩
  | .inl i :: ks => ⟨_, _, [], [], rfl, ⟨rfl, rfl⟩, repK ks, rfl⟩
  | .inr x :: ks => ⟨_, _, [], [], rfl, ⟨rfl, rfl⟩, repK ks, rfl⟩
theorem b_list (F : Fx R C X W) : CallR X (.type "list") (SpB C listF) := by
  refine callTo (call_list_of.or (call_listD F.calm)) fun vs H Q h => ?_
  obtain ⟨ds, M, d, r, e, q⟩ := h.ok
  unfold listF at e
  split at e
  · obtain ⟨v, rfl, r1⟩ := rep1 r
    split at e
    · rename_i ei
      obtain ⟨a, ws, N, rfl, sq, r2, z, _⟩ := seq_rep X.K r1 ei
      split at e
      · rename_i him
        cases e
        exact .inl ⟨a, ws, rfl, sq, fun l hl => q _ _ (lst_new hl z (r2.nil0 him))⟩
      · cases e
    · split at e
      · cases e
        obtain ⟨a, kvs, M', rfl, e1, rfl, z, r2, _⟩ := r1
        refine .inr ⟨a, kvs, rfl, e1, fun p hp => q _ _ ?_⟩
        have k := repK (C := C) (H := H) (kvs.map (·.1))
        rw [List.map_map] at k
        have hl := r2.length
        exact lst_new hp (by simp at hl ⊢; omega) (by simpa [Function.comp_def] using k)
      · cases e
  · cases e
theorem b_tuple (hK : X.K = C.K) : CallR X (.type "tuple") (SpB C tupB) := by
  refine callTo call_tuple_of fun vs H Q h => ?_
  obtain ⟨ds, M, d, r, e, q⟩ := h.ok
  unfold tupB at e
  split at e
  · obtain ⟨v, rfl, r1⟩ := rep1 r
    split at e
    · rename_i d' _ es ei
      split at e
      · rename_i him
        cases e
        cases d' <;> cases ei
        · obtain ⟨a, ws, rfl, e1, z, r2⟩ := r1
          exact ⟨a, ws, rfl, .inr ⟨.inl (.inl e1), q _ H (.imm (Same.refl H) ⟨a, ws, rfl, e1, z, r2.nil0 him⟩)⟩⟩
        · obtain ⟨a, ws, _, rfl, e1, z, r2, _⟩ := r1
          exact ⟨a, ws, rfl, .inl ⟨.inl (.inl e1), fun l hl => q _ _ (tup_new hl z (r2.nil0 him))⟩⟩
      · cases e
    · cases e
  · cases e
def intF : List D → Res D
  | [.int i] => .ok (.int i)
  | [.bl b] => .ok (.int (if b then 1 else 0))
  | _ => .bad
theorem intF_nx : ∀ ds c, intF ds ≠ .ex c := fun ds c e => by
  unfold intF at e
  repeat' (first | cases e | split at e)
theorem b_int : CallR X (.type "int") (SpB C intF) := by
  refine callTo call_int1 fun vs H Q h => ?_
  obtain ⟨ds, M, d, r, e, q⟩ := h.ok
  unfold intF at e
  split at e
  · cases e
    obtain ⟨v, rfl, r1⟩ := rep1 r
    obtain ⟨rfl, _⟩ := r1
    exact .inl ⟨_, rfl, q _ H int_new⟩
  · cases e
    obtain ⟨v, rfl, r1⟩ := rep1 r
    obtain ⟨rfl, _⟩ := r1
    exact .inr ⟨_, rfl, q _ H int_new⟩
  · cases e
/-! ### lists of ints, of texts -/
def intsD : List D → Option (List Int)
  | [] => some []
  | .int i :: ds => (intsD ds).map (i :: ·)
  | _ => none
def strsD : List D → Option (List Str)
  | [] => some []
  | .str i :: ds => (strsD ds).map (i :: ·)
  | _ => none
theorem ints_rep {H : Hp} : ∀ {ds : List D} {vs : List V} {M : List Addr} {ns : List Int}, RepL C H ds vs M → intsD ds = some ns → vs = ns.map V.int
  | [], vs, M, ns, r, e => by cases e; exact r.1
  | d :: ds, vs, M, ns, r, e => by
    obtain ⟨v, w, M1, M2, rfl, r1, r2, rfl⟩ := r
    cases d <;> first | (cases e; done) | skip
    rename_i i
    unfold intsD at e
    cases e2 : intsD ds with
    | none => rw [e2] at e; cases e
    | some ms =>
      rw [e2] at e
      cases e
      rw [ints_rep r2 e2, r1.1]
      rfl
theorem strs_rep {H : Hp} : ∀ {ds : List D} {vs : List V} {M : List Addr} {ns : List Str}, RepL C H ds vs M → strsD ds = some ns → vs = ns.map V.str
  | [], vs, M, ns, r, e => by cases e; exact r.1
  | d :: ds, vs, M, ns, r, e => by
    obtain ⟨v, w, M1, M2, rfl, r1, r2, rfl⟩ := r
    cases d <;> first | (cases e; done) | skip
    rename_i i
    unfold strsD at e
    cases e2 : strsD ds with
    | none => rw [e2] at e; cases e
    | some ms =>
      rw [e2] at e
      cases e
      rw [strs_rep r2 e2, r1.1]
      rfl
def maxI : List Int → Int
  | [] => 0
  | [n] => n
  | n :: ns => if maxI ns < n then n else maxI ns
def minI : List Int → Int
  | [] => 0
  | [n] => n
  | n :: ns => if n < minI ns then n else minI ns
theorem maxI_mem : ∀ ns : List Int, ns ≠ [] → maxI ns ∈ ns ∧ ∀ y ∈ ns, y ≤ maxI ns
  | [], h => absurd rfl h
  | [n], _ => by simp [maxI]
  | n :: m :: ns, _ => by
    have ih := maxI_mem (m :: ns) (by simp)
    unfold maxI
    split
    · rename_i hlt
      refine ⟨by simp, fun y hy => ?_⟩
      rcases List.mem_cons.mp hy with rfl | hy
      · omega
      · have := ih.2 y hy; omega
    · refine ⟨List.mem_cons_of_mem _ ih.1, fun y hy => ?_⟩
      rcases List.mem_cons.mp hy with rfl | hy
      · omega
      · exact ih.2 y hy
theorem minI_mem : ∀ ns : List Int, ns ≠ [] → minI ns ∈ ns ∧ ∀ y ∈ ns, minI ns ≤ y
  | [], h => absurd rfl h
  | [n], _ => by simp [minI]
  | n :: m :: ns, _ => by
    have ih := minI_mem (m :: ns) (by simp)
    unfold minI
    split
    · rename_i hlt
      refine ⟨by simp, fun y hy => ?_⟩
      rcases List.mem_cons.mp hy with rfl | hy
      · omega
      · have := ih.2 y hy; omega
    · refine ⟨List.mem_cons_of_mem _ ih.1, fun y hy => ?_⟩
      rcases List.mem_cons.mp hy with rfl | hy
      · omega
      · exact ih.2 y hy
def overI (f : List Int → Option Int) : List D → Res D
  | [.lst ds] => match intsD ds with
    | some ns => match f ns with
      | some i => .ok (.int i)
      | none => .bad
    | none => .bad
  | _ => .bad
theorem overI_nx {f : List Int → Option Int} : ∀ ds c, overI f ds ≠ .ex c := fun ds c e => by
  unfold overI at e
  repeat' (first | cases e | split at e)
theorem overI_ok {f : List Int → Option Int} {vs : List V} {H : Hp} {Q : VK} (K : PySem.W.Frag) (h : SpB C (overI f) vs H Q) : ∃ a ns i, vs = [.ref a] ∧ SqL K H a (ns.map V.int) ∧ f ns = some i ∧ Q (.int i) H := by
  obtain ⟨ds, M, d, r, e, q⟩ := h.ok
  unfold overI at e
  split at e
  · obtain ⟨v, rfl, r1⟩ := rep1 r
    split at e
    · split at e
      · rename_i ei _ i ef
        cases e
        obtain ⟨a, ws, _, rfl, e1, z, r2, _⟩ := r1
        rw [ints_rep r2 ei] at e1
        exact ⟨a, _, i, rfl, .inl (.inl e1), ef, q _ H int_new⟩
      · cases e
    · cases e
  · cases e
def sumF : List D → Res D := overI fun ns => some ns.sum
def maxF : List D → Res D := overI fun ns => if ns = [] then none else some (maxI ns)
def minF : List D → Res D := overI fun ns => if ns = [] then none else some (minI ns)
theorem b_sum (F : Fx R C X W) : CallR X (.builtin "sum") (SpB C sumF) := callTo (cr_sum F.calm) fun vs H Q h => by
  obtain ⟨a, ns, i, rfl, e, ei, q⟩ := overI_ok X.K h
  cases ei
  exact ⟨a, ns, rfl, e, q⟩
theorem b_max (F : Fx R C X W) : CallR X (.builtin "max") (SpB C maxF) := callTo (cr_max F.calm) fun vs H Q h => by
  obtain ⟨a, ns, i, rfl, e, ei, q⟩ := overI_ok X.K h
  split at ei
  · cases ei
  · rename_i ne
    cases ei
    refine ⟨a, ns, rfl, e, List.length_pos_iff.mpr ne, fun m hm hle => ?_⟩
    have k := maxI_mem ns ne
    have : m = maxI ns := Int.le_antisymm (k.2 m hm) (hle _ k.1)
    rw [this]
    exact q
theorem b_min (F : Fx R C X W) : CallR X (.builtin "min") (SpB C minF) := callTo (cr_min F.calm) fun vs H Q h => by
  obtain ⟨a, ns, i, rfl, e, ei, q⟩ := overI_ok X.K h
  split at ei
  · cases ei
  · rename_i ne
    cases ei
    refine ⟨a, ns, rfl, e, List.length_pos_iff.mpr ne, fun m hm hle => ?_⟩
    have k := minI_mem ns ne
    have : m = minI ns := Int.le_antisymm (hle _ k.1) (k.2 m hm)
    rw [this]
    exact q
end
end DL
/-! DL11: sets of keys (ints, texts): set(xs) counted, set(xs) put in order. -/
namespace DL
open PySem PySem.Spec PyProof.Rows L2

/-- an entry's key -/
def kkV : Value → Key
  | .int i _ => .inl i
  | .str x _ => .inr x
  | _ => .inl 0
def kk (e : Int × Value) : Key := kkV e.2
def inK (ks : List Key) (j : Key) : Bool := ks.any fun k => decide (k = j)
section
variable {P : Program} {w : World}
def GoodK (P : Program) (w : World) (e : Int × Value) : Prop := ∃ k, (mixKind P w).is k e.2 = true ∧ e.1 = (mixKind P w).hash k ∧ e.2.scannable = true
theorem kkV_of {k : Key} {v : Value} (h : (mixKind P w).is k v = true) : kkV v = k ∧ v.scannable = true := by
  rcases keyIs_shape (show keyIs k v = true from h) with ⟨i, t, rfl, rfl⟩ | ⟨x, t, rfl, rfl⟩ <;> exact ⟨rfl, rfl⟩
theorem goodK_elems {l : List (Int × Value)} (g : ∀ e ∈ l, GoodK P w e) : ElemsOf (mixKind P w) l := fun e m => by
  obtain ⟨k, a, b, c⟩ := g e m
  exact ⟨⟨k, a, b⟩, c⟩
theorem goodK_is {e : Int × Value} (g : GoodK P w e) (k : Key) : (mixKind P w).is k e.2 = true ↔ kk e = k := by
  obtain ⟨q, a, _, _⟩ := g
  have hq : kk e = q := (kkV_of a).1
  rw [hq]
  exact ⟨fun z => (mixKind P w).inj _ _ _ a z, fun z => z ▸ a⟩
theorem goodK_mem {l : List (Int × Value)} (g : ∀ e ∈ l, GoodK P w e) (k : Key) : k ∈ l.map kk ↔ ∃ e ∈ l, (mixKind P w).is k e.2 = true := by
  rw [List.mem_map]
  exact ⟨fun ⟨e, m, z⟩ => ⟨e, m, (goodK_is (g e m) k).mpr z⟩, fun ⟨e, m, z⟩ => ⟨e, m, (goodK_is (g e m) k).mp z⟩⟩
/-- the set at a: its keys are those of S, n of them -/
def KSet (P : Program) (w : World) (h : Heap) (a : Addr) (S : Key → Bool) (n : Nat) : Prop :=
  ∃ o es ep t, h.get? a = some o ∧ o.ExactSet ∧ o.data = .set es ep t ∧ ((∀ e ∈ es.toList, GoodK P w e) ∧ (es.toList.map kk).Nodup ∧ ∀ k, S k = true ↔ k ∈ es.toList.map kk) ∧
    (es.size < scanBound ∧ es.size = n) ∧ t.fits es.size = true ∧ Ris t.place.toList ∧ (w.params.followText "set-order" = true ∨ t.led = true)
theorem KSet.at {h h' : Heap} {a : Addr} {S : Key → Bool} {n : Nat} (R : KSet P w h a S n) (k : ∀ o, h.get? a = some o → h'.get? a = some o) : KSet P w h' a S n := by
  obtain ⟨o, es, ep, t, e, r⟩ := R
  exact ⟨o, es, ep, t, k o e, r⟩
theorem KSet.to {h : Heap} {a : Addr} {S T : Key → Bool} {n : Nat} (R : KSet P w h a S n) (e : ∀ k, T k = S k) : KSet P w h a T n := by
  obtain rfl : T = S := funext e
  exact R
theorem KSet.fresh {h : Heap} {a : Addr} {led : Bool} (e : h.get? a = some { cls := .type "set", dict := none, data := .set #[] 0 (.fresh 0 0 led) }) (hl : led = !w.params.followText "set-order") : KSet P w h a (fun _ => false) 0 := by
  refine ⟨_, #[], 0, _, e, ⟨rfl, rfl, rfl⟩, rfl, ⟨fun e he => by simp at he, by simp, fun k => by simp⟩, ⟨by decide, rfl⟩, rfl, List.Pairwise.nil, ?_⟩
  show _ ∨ led = true
  rw [hl]
  cases w.params.followText "set-order"
  · exact .inr rfl
  · exact .inl rfl

variable {A : Around} {E : Value → Shared → Prop} {s : Shared} {a : Addr} {S : Key → Bool} {n : Nat}
/-- the entries es1 are laid under the table t2, or under a wider one -/
theorem kset_lay {mark : Bool → Sem Unit} (hmark : ∀ (b : Bool) (s₁ : Shared) (Q' : Unit → Shared → Prop), Q' () s₁ → wpAny (model P w) A (mark b) Q' E s₁) {o : Obj} {es es1 : Array (Int × Value)} {ep : Nat} {t t2 : SetTable} {T : Key → Bool} {wide : Bool} {R : Option Bool → Shared → Prop}
    (hget : s.heap.get? a = some o) (hexact : o.ExactSet) (hdata : o.data = .set es ep t) (good : (∀ e ∈ es1.toList, GoodK P w e) ∧ (es1.toList.map kk).Nodup ∧ ∀ k, T k = true ↔ k ∈ es1.toList.map kk) (small : es1.size < scanBound)
    (fit : t2.fits es1.size = true) (rising : Ris t2.place.toList) (order : w.params.followText "set-order" = true ∨ t2.led = true) (then_ : ∀ h', Heap.SameBut a s.heap h' → KSet P w h' a T es1.size → R (some true) { s with heap := h' }) :
    wpAny (model P w) A (do
        storeSet a es1 t2
        if (!wide && t2.tooFull) = true then do
            mark (relayAll t2 es1 (SetTable.grown es1.size)).2.2
            storeSet a (relayAll t2 es1 (SetTable.grown es1.size)).1 (relayAll t2 es1 (SetTable.grown es1.size)).2.1
            pure (some true)
          else pure (some true)) R E s := by
  have laid1 := store_at (es' := es1) (t' := t2) hget hdata
  have but1 := Heap.SameBut.update s.heap a (Obj.putSet es1 t2)
  refine wpAny_bind (wpAny_storeSet_of hget hdata ?_ (fits_of_scanBound small))
  by_cases c : (!wide && t2.tooFull) = true
  · rw [if_pos c]
    have q1 := relayAll_perm t2 es1 (SetTable.grown es1.size)
    have q2 := relayAll_fits t2 es1 (SetTable.grown es1.size)
    have q3 := relayAll_ris t2 es1 (SetTable.grown es1.size)
    have q4 := relayAll_led t2 es1 (SetTable.grown es1.size)
    generalize relayAll t2 es1 (SetTable.grown es1.size) = Z at q1 q2 q3 q4 ⊢
    obtain ⟨es2, t3, gave⟩ := Z
    dsimp only at q1 q2 q3 q4 ⊢
    have same : es2.size = es1.size := by have := q1.length_eq; simpa using this
    have small2 : es2.size < scanBound := same ▸ small
    have laid2 := store_at (es' := es2) (t' := t3) laid1 rfl
    refine wpAny_bind (hmark _ _ _ (wpAny_bind (wpAny_storeSet_of laid1 rfl ?_ (fits_of_scanBound small2))))
    refine wpAny_pure (then_ _ (but1.trans (Heap.SameBut.update _ a _)) ⟨_, es2, _, t3, laid2, hexact, rfl, ⟨fun e he => good.1 e (q1.mem_iff.mp he), (q1.map kk).nodup_iff.mpr good.2.1, fun k => (good.2.2 k).trans (q1.map kk).mem_iff.symm⟩, ⟨small2, same⟩, q2, q3, ?_⟩)
    exact order.imp id fun z => q4.trans z
  · rw [if_neg c]
    exact wpAny_pure (then_ _ but1 ⟨_, es1, _, t2, laid1, hexact, rfl, good, ⟨small, rfl⟩, fit, rising, order⟩)
/-- k is put into the set at a -/
theorem kset_add {k : Key} {v : Value} {Q : Bool → Shared → Prop} (hk : (mixKind P w).is k v = true) (R : KSet P w s.heap a S n) (room : n + 1 < scanBound)
    (then_ : ∀ h', Heap.SameBut a s.heap h' → KSet P w h' a (fun j => S j || decide (j = k)) (if S k = true then n else n + 1) → Q (!S k) { s with heap := h' }) :
    wpAny (model P w) A (setAddHashed a v ((mixKind P w).hash k)) Q E s := by
  obtain ⟨o, es, ep, t, hget, hexact, hdata, ⟨good, nodup, mem⟩, ⟨small, size⟩, fit, rising, order⟩ := R
  have scan : v.scannable = true := (kkV_of hk).2
  have elems := goodK_elems good
  unfold setAddHashed setAddHashedIn
  refine wpAny_holding (wpAny_bind (wpAny_setState_of hget hdata fit ?_))
  dsimp only
  rw [byScan_of scan small elems]
  simp only [↓reduceIte]
  unfold setAddByScan
  refine wpAny_bind (wpAny_bind (wpAny_rule (wpAny_bind (wpAny_setScan_of hk hget hdata fit elems ?_))))
  cases found : List.findIdx? (fun e => (mixKind P w).is k e.2) es.toList with
  | some j =>
    dsimp only
    obtain ⟨lt, at_, _⟩ := List.findIdx?_eq_some_iff_getElem.mp found
    have there : S k = true := (mem k).mpr ((goodK_mem good k).mpr ⟨es.toList[j], List.getElem_mem lt, at_⟩)
    have q := then_ s.heap (Heap.SameBut.refl a s.heap) ⟨o, es, ep, t, hget, hexact, hdata, ⟨good, nodup, fun i => ?_⟩, ⟨small, by rw [if_pos there]; exact size⟩, fit, rising, order⟩
    · rw [there] at q
      exact wpAny_pure (wpAny_pure q)
    · rw [Bool.or_eq_true, decide_eq_true_eq, ← mem i]
      exact ⟨fun z => z.elim id fun e => e ▸ there, .inl⟩
  | none =>
    dsimp only
    have new : k ∉ es.toList.map kk := fun z => by
      obtain ⟨e, he, q⟩ := (goodK_mem good k).mp z
      have c := List.findIdx?_eq_none_iff.mp found e he
      rw [q] at c
      cases c
    have away : S k = false := Bool.eq_false_iff.mpr fun q => new ((mem k).mp q)
    have marks : ∀ (b : Bool) {s₁ : Shared} {Q' : Unit → Shared → Prop}, Q' () s₁ → wpAny (model P w) A (match b with | true => rule "set.scan.the-table-gave-way" | false => pure ()) Q' E s₁ := fun b s₁ Q' q => by
      cases b <;> first | exact wpAny_pure q | exact wpAny_rule q
    have p1 := layNew_perm t es ((mixKind P w).hash k) v
    have p2 := layNew_fits t es ((mixKind P w).hash k) v
    have p3 := layNew_ris t es ((mixKind P w).hash k) v rising
    have p4 := layNew_led t es ((mixKind P w).hash k) v
    generalize layNew t es ((mixKind P w).hash k) v = Z at p1 p2 p3 p4 ⊢
    obtain ⟨es1, t1, wide, gave⟩ := Z
    dsimp only at p1 p2 p3 p4 ⊢
    rw [Array.toList_push] at p1
    have perm : es1.toList.Perm (((mixKind P w).hash k, v) :: es.toList) := p1.trans (List.perm_append_singleton _ _)
    have keys : (es1.toList.map kk).Perm (k :: es.toList.map kk) := by
      have q := perm.map kk
      rwa [List.map_cons, show kk ((mixKind P w).hash k, v) = k from (kkV_of hk).1] at q
    have good1 : (∀ e ∈ es1.toList, GoodK P w e) ∧ (es1.toList.map kk).Nodup ∧ ∀ i, (S i || decide (i = k)) = true ↔ i ∈ es1.toList.map kk := by
      refine ⟨fun e he => ?_, keys.nodup_iff.mpr (List.nodup_cons.mpr ⟨new, nodup⟩), fun i => ?_⟩
      · rcases List.mem_cons.mp (perm.mem_iff.mp he) with z | z
        · exact z ▸ ⟨k, hk, rfl, scan⟩
        · exact good e z
      · rw [Bool.or_eq_true, decide_eq_true_eq, mem i, keys.mem_iff, List.mem_cons]
        exact Or.comm
    have size1 : es1.size = n + 1 := by
      have q := perm.length_eq
      rw [List.length_cons, Array.length_toList, Array.length_toList, size] at q
      exact q
    have small1 : es1.size < scanBound := size1 ▸ room
    have order1 : w.params.followText "set-order" = true ∨ t1.led = true := order.imp id fun z => p4.trans z
    have last : ∀ h', Heap.SameBut a s.heap h' → KSet P w h' a (fun j => S j || decide (j = k)) es1.size → Q true { s with heap := h' } := fun h' sb r => by
      have q := then_ h' sb
      rw [away] at q
      exact q (size1 ▸ r)
    refine wpAny_bind (marks _ ?_)
    split
    · refine wpAny_bind ?_
      rw [hashByValue_scannable 8 scan]
      refine wpAny_pure (kset_lay ?_ hget hexact hdata good1 small1 ?_ ?_ ?_ ?_)
      · exact fun b s₁ Q' q => by cases b <;> first | exact wpAny_pure q | exact wpAny_rule q
      · first | exact p2 | (split <;> first | exact p2 | exact SetTable.fits_plain_off p2)
      · first | exact p3 | (split <;> exact p3)
      · first | exact order1 | (split <;> exact order1)
      · exact fun h' sb r => by dsimp only; exact wpAny_pure (last h' sb r)
    · refine wpAny_bind (wpAny_pure ?_)
      simp only [↓reduceIte]
      refine kset_lay ?_ hget hexact hdata good1 small1 p2 p3 order1 ?_
      · exact fun b s₁ Q' q => by cases b <;> first | exact wpAny_pure q | exact wpAny_rule q
      · exact fun h' sb r => by dsimp only; exact wpAny_pure (last h' sb r)
/-- all that is walked is put into the set -/
theorem kset_update {I : Addr} {fp wr : List Addr} {G : Array GenState → Array GenState → Prop} {m : Nat} {Pv : Nat → Value → Prop} {St : Nat → Shared → Prop} {R : Result → Shared → Prop} (W : WalksS P w A.in1 I fp wr G m Pv St) (a : Addr) (apart : a ∉ fp) (ks : List Key) (hm : m = ks.length) (few : ks.length + 1 < scanBound)
    (at_ : ∀ i v, Pv i v → ∃ k, ks[i]? = some k ∧ (mixKind P w).is k v = true) : ∀ (left i : Nat) (s : Shared), m - i = left → i ≤ m → St i s → (∃ c, c ≤ i ∧ KSet P w s.heap a (fun j => inK (ks.take i) j) c) →
      (∀ s' c, Moved (a :: wr) G s s' → c ≤ m → KSet P w s'.heap a (fun j => inK ks j) c → R (.ok (.ret .none)) s') → codeAny (model P w) A (.builtin "set.update.loop" ⟨[.ref a, .ref I], []⟩) R s := by
  have other : a ∉ wr := fun h => apart (W.sub _ h)
  have more : ∀ b ∈ wr, b ∈ a :: wr := fun b h => List.mem_cons_of_mem _ h
  intro left
  induction left with
  | zero =>
    intro i s e le st ⟨c, hc, set⟩ after
    obtain rfl : i = m := by omega
    refine codeAny_builtin F.entry_set_update_loop ?_
    rw [Around.under_plainId F.plain_set_update_loop _]
    show wpAny _ A.in1 (pyNext (.ref I) >>= _) _ _ s
    refine wpAny_bind (W.done s _ _ st fun s' mv => ?_)
    rw [List.take_of_length_le (Nat.le_of_eq hm.symm)] at set
    exact wpAny_pure (after s' c (mv.mono more) hc (set.at fun o e => mv.heap a o other e))
  | succ left ih =>
    intro i s e le st ⟨c, hc, set⟩ after
    have lt : i < m := by omega
    refine codeAny_builtin F.entry_set_update_loop ?_
    rw [Around.under_plainId F.plain_set_update_loop _]
    show wpAny _ A.in1 (pyNext (.ref I) >>= _) _ _ s
    refine wpAny_bind (W.item i s _ _ lt st fun v s' p st' mv => ?_)
    obtain ⟨k, ek, hk⟩ := at_ i v p
    show wpAny _ A.in1 (holding [v] (setAdd a v) >>= _) _ _ s'
    refine wpAny_bind (wpAny_holding ?_)
    unfold setAdd
    refine wpAny_holding (wpAny_bind ((mixKind P w).pyHash hk ?_))
    refine kset_add (s := { s' with toks := s'.toks + 1 }) hk (set.at fun o e => mv.heap a o other e) (by omega) fun h' but set2 => ?_
    have set3 : KSet P w h' a (fun j => inK (ks.take (i + 1)) j) (if inK (ks.take i) k = true then c else c + 1) := set2.to fun j => by
      unfold inK
      rw [List.take_add_one, ek]
      simp [eq_comm]
    refine wpAny_pure ⟨plainId_quiet F.plain_set_update_loop _, ih (i + 1) _ (by omega) lt (W.frame _ s' _ _ st' (Nat.le_succ _) fun b hb o eb => ?_) ⟨_, ?_, set3⟩ fun s'' c2 mv2 hc2 set4 => ?_⟩
    · rw [but.2 b fun z => apart (z ▸ hb)]
      exact eb
    · split <;> omega
    · refine after s'' c2 (Moved.trans W.gtrans ((mv.mono more).then_heap (Nat.le_succ _) fun b o hb eb => ?_) mv2) hc2 set4
      rw [but.2 b fun z => hb (z ▸ List.mem_cons_self)]
      exact eb

set_option maxHeartbeats 3200000 in
/-- set(xs) of a list -/
theorem call_ksetlist {l : Addr} {items : Array Value} (ks : List Key) {Q : Value → Shared → Prop} (calm : A.handled = none) (hl : s.heap.IsList l items) (len : items.size = ks.length) (few : ks.length + 1 < scanBound) (at_ : ∀ (i : Nat) (v : Value), items[i]? = some v → ∃ k, ks[i]? = some k ∧ (mixKind P w).is k v = true)
    (then_ : ∀ (h' : Heap) (tk c : Nat), KSet P w h' s.heap.objs.size (fun j => inK ks j) c → (∀ b o, s.heap.get? b = some o → h'.get? b = some o) → Q (.ref s.heap.objs.size) { s with heap := h', toks := tk }) : wpAny (model P w) A (call (.type "set") [.ref l]) Q E s := by
  obtain ⟨mro1, mro2, hmro⟩ := F.called_set.mro
  have f1 := F.called_set.made
  have f2 := F.called_set.sub
  refine wpAny_call (codeAny_of_tree ?_)
  show wpAny _ _ (callAny (.type "set") _) _ _ _
  refine wpAny_pure ⟨Code.quiet_builtin _ (by decide +kernel), codeAny_builtin F.entry_type_call ?_⟩
  rw [Around.under_plain (weight_type_call_type "set" [.ref l] []) rfl]
  have f3 := F.called_set.notType
  have f4 := F.called_set.canCreate
  have f5 := F.typeCall_set_1 (.ref l)
  repeat (any_goals (first | assumption | wp_step))
  refine codeAny_mono (code_set_led1 (.ref l) (E := E) (Q₁ := fun obj s₁ => obj = .ref s.heap.objs.size ∧ s₁ = { s with heap := s.heap.push ({ cls := .type "set", dict := none, data := .set #[] 0 (.fresh 0 0 (!w.params.followText "set-order")) } : Obj) }) ⟨rfl, rfl⟩) fun r s₁ hr => ?_
  cases r with
  | error e => exact hr
  | ok fl =>
    cases fl with
    | ret obj =>
      obtain ⟨rfl, rfl⟩ := hr
      have there : (s.heap.push ({ cls := .type "set", dict := none, data := .set #[] 0 (.fresh 0 0 (!w.params.followText "set-order")) } : Obj)).get? s.heap.objs.size = some ({ cls := .type "set", dict := none, data := .set #[] 0 (.fresh 0 0 (!w.params.followText "set-order")) } : Obj) := Heap.get?_push_size _ rfl
      have typed : Shared.TypeIs { s with heap := s.heap.push ({ cls := .type "set", dict := none, data := .set #[] 0 (.fresh 0 0 (!w.params.followText "set-order")) } : Obj) } (.ref s.heap.objs.size) "set" := ⟨_, there, rfl⟩
      have f6 := F.called_set.init.lookup
      have f7 := F.called_set.init.bind (.ref s.heap.objs.size)
      repeat (any_goals (first | assumption | wp_step))
      refine codeAny_mono (codeAny_call_builtin (R := wants (fun r s₂ => r = .none ∧ ∃ h' tk c, s₂ = { s with heap := h', toks := tk } ∧ KSet P w h' s.heap.objs.size (fun j => inK ks j) c ∧ ∀ b o, s.heap.get? b = some o → h'.get? b = some o) E) F.called_set.init.plain F.entry_set_init (check_set_init_1 typed ?_)) fun r₂ s₂ hr₂ => ?_
      · obtain ⟨⟨cl1, di1, da1, sl1⟩, got, cl2, nl, da2⟩ := hl
        simp only at cl2 da2
        subst cl2 da2
        have got2 := Heap.get?_push_of_some ({ cls := .type "set", dict := none, data := .set #[] 0 (.fresh 0 0 (!w.params.followText "set-order")) } : Obj) got
        have g1 := F.sub_list_set
        have g2 := F.sub_list_frozenset
        have g3 : (Value.type "list" == Value.type "dict") = false := by decide
        have at2 : (s.heap.push ({ cls := .type "set", dict := none, data := .set #[] 0 (.fresh 0 0 (!w.params.followText "set-order")) } : Obj)).IsList l items := ⟨_, got2, rfl, nl, rfl⟩
        unfold Builtin.«set.__init__» noKeywords Builtin.Frozenset.updateFrom
        generalize hPI : pyIter = PI
        wp_walk
        subst hPI
        refine wpAny_pyIter_list at2 ?_
        refine wpAny_bind (wpAny_runValue ?_)
        have lts : l < s.heap.objs.size := Heap.lt_size got
        have up1 : (s.heap.push ({ cls := .type "set", dict := none, data := .set #[] 0 (.fresh 0 0 (!w.params.followText "set-order")) } : Obj)).objs.size = s.heap.objs.size + 1 := Heap.size_push ..
        have ne1 : l ≠ (s.heap.push ({ cls := .type "set", dict := none, data := .set #[] 0 (.fresh 0 0 (!w.params.followText "set-order")) } : Obj)).objs.size := by rw [up1]; exact Nat.ne_of_lt (Nat.lt_succ_of_lt lts)
        have ne2 : s.heap.objs.size ∉ [(s.heap.push ({ cls := .type "set", dict := none, data := .set #[] 0 (.fresh 0 0 (!w.params.followText "set-order")) } : Obj)).objs.size, l] := by
          rw [up1]
          simp only [List.mem_cons, List.not_mem_nil, or_false, not_or]
          exact ⟨Nat.ne_of_lt (Nat.lt_succ_self _), Nat.ne_of_gt lts⟩
        refine kset_update ((Walks.list (show A.in1.in1.in1.handled = none by simp [calm]) _ l ne1 items).toS) s.heap.objs.size ne2 ks len few (fun i v hv => at_ i v hv) (items.size - 0) 0 _ (by omega) (Nat.zero_le _) ⟨⟨_, Heap.get?_push_size _ rfl, rfl, rfl⟩, at2.push _⟩ ⟨0, Nat.le_refl 0, ?_⟩ fun s' c mv hc set => ?_
        · have e0 : KSet P w ((s.heap.push ({ cls := .type "set", dict := none, data := .set #[] 0 (.fresh 0 0 (!w.params.followText "set-order")) } : Obj)).push { cls := .type "list_iterator", data := .fields #[.ref l, .int 0 0] }) s.heap.objs.size (fun _ => false) 0 := KSet.fresh (led := !w.params.followText "set-order") (Heap.get?_push_of_some _ there) rfl
          exact e0.to fun k => rfl
        · obtain ⟨h', gn, dn, tk', os'⟩ := s'
          obtain rfl : gn = s.gens := mv.gens
          obtain rfl : dn = s.drawn := mv.drawn
          obtain rfl : os' = s.os := mv.os
          show wpAny _ _ _ _ _ _
          refine wpAny_pure ?_
          show wpAny _ _ (ret Value.none) _ _ _
          refine wpAny_pure ⟨rfl, h', tk', c, rfl, set, fun b o e => ?_⟩
          have lb : b < s.heap.objs.size := Heap.lt_size e
          refine mv.heap b o ?_ (Heap.get?_push_of_some _ (Heap.get?_push_of_some _ e))
          rw [up1]
          simp only [List.mem_cons, List.not_mem_nil, or_false, not_or]
          exact ⟨Nat.ne_of_lt lb, Nat.ne_of_lt (Nat.lt_succ_of_lt lb)⟩
      · cases r₂ with
        | error e => exact hr₂
        | ok fl₂ =>
          cases fl₂ with
          | ret r =>
            obtain ⟨rfl, h', tk, c, rfl, set, kept⟩ := hr₂
            repeat (any_goals (first | assumption | wp_step))
            exact then_ _ _ _ set kept
          | _ => exact hr₂.elim
    | _ => exact hr.elim

set_option maxHeartbeats 3200000 in
/-- set(xs) of a tuple -/
theorem call_ksettuple {l : Addr} {items : Array Value} (ks : List Key) {Q : Value → Shared → Prop} (calm : A.handled = none) (hl : s.heap.IsTuple l items) (len : items.size = ks.length) (few : ks.length + 1 < scanBound) (at_ : ∀ (i : Nat) (v : Value), items[i]? = some v → ∃ k, ks[i]? = some k ∧ (mixKind P w).is k v = true)
    (then_ : ∀ (h' : Heap) (tk c : Nat), KSet P w h' s.heap.objs.size (fun j => inK ks j) c → (∀ b o, s.heap.get? b = some o → h'.get? b = some o) → Q (.ref s.heap.objs.size) { s with heap := h', toks := tk }) : wpAny (model P w) A (call (.type "set") [.ref l]) Q E s := by
  obtain ⟨mro1, mro2, hmro⟩ := F.called_set.mro
  have f1 := F.called_set.made
  have f2 := F.called_set.sub
  refine wpAny_call (codeAny_of_tree ?_)
  show wpAny _ _ (callAny (.type "set") _) _ _ _
  refine wpAny_pure ⟨Code.quiet_builtin _ (by decide +kernel), codeAny_builtin F.entry_type_call ?_⟩
  rw [Around.under_plain (weight_type_call_type "set" [.ref l] []) rfl]
  have f3 := F.called_set.notType
  have f4 := F.called_set.canCreate
  have f5 := F.typeCall_set_1 (.ref l)
  repeat (any_goals (first | assumption | wp_step))
  refine codeAny_mono (code_set_led1 (.ref l) (E := E) (Q₁ := fun obj s₁ => obj = .ref s.heap.objs.size ∧ s₁ = { s with heap := s.heap.push ({ cls := .type "set", dict := none, data := .set #[] 0 (.fresh 0 0 (!w.params.followText "set-order")) } : Obj) }) ⟨rfl, rfl⟩) fun r s₁ hr => ?_
  cases r with
  | error e => exact hr
  | ok fl =>
    cases fl with
    | ret obj =>
      obtain ⟨rfl, rfl⟩ := hr
      have there : (s.heap.push ({ cls := .type "set", dict := none, data := .set #[] 0 (.fresh 0 0 (!w.params.followText "set-order")) } : Obj)).get? s.heap.objs.size = some ({ cls := .type "set", dict := none, data := .set #[] 0 (.fresh 0 0 (!w.params.followText "set-order")) } : Obj) := Heap.get?_push_size _ rfl
      have typed : Shared.TypeIs { s with heap := s.heap.push ({ cls := .type "set", dict := none, data := .set #[] 0 (.fresh 0 0 (!w.params.followText "set-order")) } : Obj) } (.ref s.heap.objs.size) "set" := ⟨_, there, rfl⟩
      have f6 := F.called_set.init.lookup
      have f7 := F.called_set.init.bind (.ref s.heap.objs.size)
      repeat (any_goals (first | assumption | wp_step))
      refine codeAny_mono (codeAny_call_builtin (R := wants (fun r s₂ => r = .none ∧ ∃ h' tk c, s₂ = { s with heap := h', toks := tk } ∧ KSet P w h' s.heap.objs.size (fun j => inK ks j) c ∧ ∀ b o, s.heap.get? b = some o → h'.get? b = some o) E) F.called_set.init.plain F.entry_set_init (check_set_init_1 typed ?_)) fun r₂ s₂ hr₂ => ?_
      · obtain ⟨⟨cl1, di1, da1, sl1⟩, got, cl2, nl, da2⟩ := hl
        simp only at cl2 da2
        subst cl2 da2
        have got2 := Heap.get?_push_of_some ({ cls := .type "set", dict := none, data := .set #[] 0 (.fresh 0 0 (!w.params.followText "set-order")) } : Obj) got
        have g1 := F.sub_tuple_set
        have g2 := F.sub_tuple_frozenset
        have g3 : (Value.type "tuple" == Value.type "dict") = false := by decide
        have at2 : (s.heap.push ({ cls := .type "set", dict := none, data := .set #[] 0 (.fresh 0 0 (!w.params.followText "set-order")) } : Obj)).IsTuple l items := ⟨_, got2, rfl, nl, rfl⟩
        unfold Builtin.«set.__init__» noKeywords Builtin.Frozenset.updateFrom
        generalize hPI : pyIter = PI
        wp_walk
        subst hPI
        refine wpAny_pyIter_tuple at2 ?_
        refine wpAny_bind (wpAny_runValue ?_)
        have lts : l < s.heap.objs.size := Heap.lt_size got
        have up1 : (s.heap.push ({ cls := .type "set", dict := none, data := .set #[] 0 (.fresh 0 0 (!w.params.followText "set-order")) } : Obj)).objs.size = s.heap.objs.size + 1 := Heap.size_push ..
        have ne1 : l ≠ (s.heap.push ({ cls := .type "set", dict := none, data := .set #[] 0 (.fresh 0 0 (!w.params.followText "set-order")) } : Obj)).objs.size := by rw [up1]; exact Nat.ne_of_lt (Nat.lt_succ_of_lt lts)
        have ne2 : s.heap.objs.size ∉ [(s.heap.push ({ cls := .type "set", dict := none, data := .set #[] 0 (.fresh 0 0 (!w.params.followText "set-order")) } : Obj)).objs.size, l] := by
          rw [up1]
          simp only [List.mem_cons, List.not_mem_nil, or_false, not_or]
          exact ⟨Nat.ne_of_lt (Nat.lt_succ_self _), Nat.ne_of_gt lts⟩
        refine kset_update ((Walks.tuple (show A.in1.in1.in1.handled = none by simp [calm]) _ l ne1 items).toS) s.heap.objs.size ne2 ks len few (fun i v hv => at_ i v hv) (items.size - 0) 0 _ (by omega) (Nat.zero_le _) ⟨⟨_, Heap.get?_push_size _ rfl, rfl, rfl⟩, at2.push _⟩ ⟨0, Nat.le_refl 0, ?_⟩ fun s' c mv hc set => ?_
        · have e0 : KSet P w ((s.heap.push ({ cls := .type "set", dict := none, data := .set #[] 0 (.fresh 0 0 (!w.params.followText "set-order")) } : Obj)).push { cls := .type "tuple_iterator", data := .fields #[.ref l, .int 0 0] }) s.heap.objs.size (fun _ => false) 0 := KSet.fresh (led := !w.params.followText "set-order") (Heap.get?_push_of_some _ there) rfl
          exact e0.to fun k => rfl
        · obtain ⟨h', gn, dn, tk', os'⟩ := s'
          obtain rfl : gn = s.gens := mv.gens
          obtain rfl : dn = s.drawn := mv.drawn
          obtain rfl : os' = s.os := mv.os
          show wpAny _ _ _ _ _ _
          refine wpAny_pure ?_
          show wpAny _ _ (ret Value.none) _ _ _
          refine wpAny_pure ⟨rfl, h', tk', c, rfl, set, fun b o e => ?_⟩
          have lb : b < s.heap.objs.size := Heap.lt_size e
          refine mv.heap b o ?_ (Heap.get?_push_of_some _ (Heap.get?_push_of_some _ e))
          rw [up1]
          simp only [List.mem_cons, List.not_mem_nil, or_false, not_or]
          exact ⟨Nat.ne_of_lt lb, Nat.ne_of_lt (Nat.lt_succ_of_lt lb)⟩
      · cases r₂ with
        | error e => exact hr₂
        | ok fl₂ =>
          cases fl₂ with
          | ret r =>
            obtain ⟨rfl, h', tk, c, rfl, set, kept⟩ := hr₂
            repeat (any_goals (first | assumption | wp_step))
            exact then_ _ _ _ set kept
          | _ => exact hr₂.elim
    | _ => exact hr.elim
end
end DL
/-! DL12: sorted. -/
namespace DL
open PySem L2

/-- not behind one another -/
def leD (a b : D) : Bool := PySem.W.dataLe false toP a b
def sortD (ds : List D) : List D := ds.mergeSort leD
def sortOk (ds : List D) : Bool := immL ds && ds.all okP && (ds.all fun a => ds.all fun b => PySem.W.alike (toP a) (toP b)) && ((ds.all fun a => match toP a with | .tuple (_ :: _) => true | _ => false) || ds.all fun a => match toP a with | .none => false | .tuple _ => false | _ => true)
theorem leD_trans (a b c : D) (h : leD a b = true) (k : leD b c = true) : leD a c = true := (PySem.W.sortLe_total (PyProof.Rows.listOrd PyProof.Rows.itemOrd) false fun b : D => PySem.W.keyToks (toP b)).trans a b c h k
theorem leD_total (a b : D) : (leD a b || leD b a) = true := by
  rw [Bool.or_eq_true]
  exact (PySem.W.sortLe_total (PyProof.Rows.listOrd PyProof.Rows.itemOrd) false fun b : D => PySem.W.keyToks (toP b)).total a b
theorem sortD_perm (ds : List D) : (sortD ds).Perm ds := List.mergeSort_perm ds leD
theorem sortD_pw (ds : List D) : (sortD ds).Pairwise fun a b => leD a b = true := List.pairwise_mergeSort leD_trans leD_total ds
/-- the list in order is unique -/
theorem sortD_uniq {xs ys : List D} (an : ∀ a b, a ∈ ys → b ∈ ys → leD a b = true → leD b a = true → a = b) (p : xs.Perm ys) (h : xs.Pairwise fun a b => leD a b = true) : xs = sortD ys :=
  List.Perm.eq_of_pairwise (le := fun a b => leD a b = true) (fun a b ha hb => an a b (p.mem_iff.mp ha) ((sortD_perm ys).mem_iff.mp hb)) h (sortD_pw ys) (p.trans (sortD_perm ys).symm)
theorem leD_str (x y : Str) : leD (.str x) (.str y) = decide (x.cps.toList ≤ y.cps.toList) := by
  show (!PySem.W.dataLt (toP (.str y)) (toP (.str x))) = _
  rw [toP, toP, PySem.W.dataLt_str, PySem.W.not_lt_str]
theorem leD_int (x y : Int) : leD (.int x) (.int y) = decide (x ≤ y) := by
  show (!PySem.W.dataLt (toP (.int y)) (toP (.int x))) = _
  rw [toP, toP, PySem.W.dataLt_int, PySem.W.not_lt_int]
theorem str_anti {x y : Str} (h : leD (.str x) (.str y) = true) (k : leD (.str y) (.str x) = true) : x = y := by
  rw [leD_str, decide_eq_true_eq] at h k
  exact PySem.W.str_of_cps (List.le_antisymm h k)
theorem int_anti {x y : Int} (h : leD (.int x) (.int y) = true) (k : leD (.int y) (.int x) = true) : x = y := by
  rw [leD_int, decide_eq_true_eq] at h k
  omega
section
variable {R : Nat} {C : Ctx} {X : Cx} {W : WX} {a b e : Expr} {f g : Env → Res FD} {pos p : Pos}
theorem each_rep {pins : List (Addr × Obj)} {σ : St} {H : Hp} {s : Shared} (hK : X.K = C.K) (I : Inv X pins σ H s) : ∀ {ds : List D} {vs : List V} {us : List Value}, RepL C H ds vs [] → Vals vs us → (∀ d ∈ ds, okP d = true) →
    PySem.W.EachIs (fun u (q : V × D) => RelV q.1 u ∧ Rep C H q.2 q.1 []) us (vs.zip ds) ∧ PySem.W.EachIs (fun u (q : V × D) => ∃ as, Reads s.heap u (toP q.2) as) us (vs.zip ds)
  | [], vs, us, r, rv, _ => by
    obtain ⟨rfl, _⟩ := r
    cases rv
    exact ⟨.nil, .nil⟩
  | d :: ds, vs, us, r, rv, ok => by
    obtain ⟨v, w, M1, M2, rfl, r1, r2, e⟩ := r
    obtain ⟨rfl, rfl⟩ := List.append_eq_nil_iff.mp e.symm
    cases rv with
    | cons q qs =>
      obtain ⟨h1, h2⟩ := each_rep hK I r2 qs fun z hz => ok z (List.mem_cons_of_mem _ hz)
      have hd := r1.dp (layOk (ok d List.mem_cons_self))
      rw [← hK] at hd
      obtain ⟨as, rd⟩ := Dp.reads I _ _ _ hd q
      exact ⟨.cons ⟨q, r1⟩ h1, .cons ⟨as, rd⟩ h2⟩
theorem each_back {H : Hp} : ∀ {us : List Value} {qs : List (V × D)}, PySem.W.EachIs (fun u (q : V × D) => RelV q.1 u ∧ Rep C H q.2 q.1 []) us qs → Vals (qs.map (·.1)) us ∧ RepL C H (qs.map (·.2)) (qs.map (·.1)) []
  | _, _, .nil => ⟨.nil, rfl, rfl⟩
  | _, _, .cons h t => by
    obtain ⟨a, b⟩ := each_back t
    exact ⟨.cons h.1 a, ⟨_, _, [], [], rfl, h.2, b, rfl⟩⟩
def sortF : List D → Res D
  | [.lst ds] => if sortOk ds = true then .ok (.lst (sortD ds)) else .bad
  | [.dK ks ds] => match strsD (ks.map kD) with
    | some xs => if xs.length < 64 then .ok (.lst (sortD (xs.map D.str))) else .bad
    | none => match intsD (ks.map kD) with
      | some xs => if xs.length < 64 then .ok (.lst (sortD (xs.map D.int))) else .bad
      | none => .bad
  | _ => .bad
theorem sortF_nx : ∀ ds c, sortF ds ≠ .ex c := fun ds c e => by
  unfold sortF at e
  repeat' (first | cases e | split at e)
def rSortL (C : Ctx) : List V → Hp → VK → Prop := fun vs H Q => ∃ a ws ds, vs = [.ref a] ∧ H a = some (.lst ws) ∧ RepL C H ds ws [] ∧ sortOk ds = true ∧ ∀ l ys, H l = none → RepL C H (sortD ds) ys [] → Q (.ref l) (upd H l (.lst ys))
theorem zip_fst {α β : Type} : ∀ {xs : List α} {ys : List β}, xs.length = ys.length → (xs.zip ys).map (·.1) = xs ∧ (xs.zip ys).map (·.2) = ys
  | [], [], _ => ⟨rfl, rfl⟩
  | x :: xs, y :: ys, h => by
    obtain ⟨a, b⟩ := zip_fst (xs := xs) (ys := ys) (by simpa using h)
    simp [a, b]
  | [], _ :: _, h => by simp at h
  | _ :: _, [], h => by simp at h
theorem b_sortL (F : Fx R C X W) : CallR X (.builtin "sorted") (rSortL C) := by
  intro pins s σ H xs us Q I r h
  obtain ⟨a, ws, ds, rfl, ea, rl, ok, q⟩ := h
  obtain ⟨u, rfl, ru⟩ := vals1 r
  cases ru
  simp only [sortOk, Bool.and_eq_true, Bool.or_eq_true] at ok
  obtain ⟨⟨⟨him, hok⟩, hal⟩, hsr⟩ := ok
  have hok' : ∀ d ∈ ds, okP d = true := List.all_eq_true.mp hok
  obtain ⟨its, rv, hl, hz⟩ := I.list (a := a) (xs := ws) (.inl (.inl ea))
  obtain ⟨e1, e2⟩ := each_rep F.hK I rl rv hok'
  have hlen : ws.length = ds.length := rl.length.symm
  obtain ⟨z1, z2⟩ := zip_fst hlen
  have zmem : ∀ q ∈ ws.zip ds, q.2 ∈ ds := fun q m => by
    have := List.mem_map_of_mem (f := (·.2)) m
    rwa [z2] at this
  have hmap : (ws.zip ds).map (fun q => toP q.2) = ds.map toP := by
    rw [← z2, List.map_map, z2]; rfl
  have hu := F.hu
  refine PySem.W.sorted_data (enc := fun q : V × D => toP q.2) hl.isList e1 e2 ?_ ?_ ?_ (fun q m => ?_) fun out ho eo => ?_
  · rw [hmap]
    intro x hx y hy
    obtain ⟨x', mx, rfl⟩ := List.mem_map.mp hx
    obtain ⟨y', my, rfl⟩ := List.mem_map.mp hy
    exact List.all_eq_true.mp (List.all_eq_true.mp hal x' mx) y' my
  · rw [hmap]
    rcases hsr with k | k
    · refine .inl fun x hx => ?_
      obtain ⟨x', mx, rfl⟩ := List.mem_map.mp hx
      have := List.all_eq_true.mp k x' mx
      split at this
      · rename_i e; exact ⟨_, _, e⟩
      · cases this
    · refine .inr fun x hx => ?_
      obtain ⟨x', mx, rfl⟩ := List.mem_map.mp hx
      have := List.all_eq_true.mp k x' mx
      split at this
      · cases this
      · cases this
      · rename_i n1 n2; exact ⟨n1, n2⟩
  · rw [List.length_zip, hlen, Nat.min_self]; rw [← hlen]; exact hz
  · have := SeqAt.depth_of_shaped (hok' _ (zmem q m))
    omega
  · obtain ⟨b1, b2⟩ := each_back eo
    have hs : ((ws.zip ds).mergeSort (PySem.W.dataLe false fun q : V × D => toP q.2)).map (·.2) = sortD ds := by
      have k := List.map_mergeSort (r := PySem.W.dataLe false fun q : V × D => toP q.2) (s := leD) (f := fun q : V × D => q.2) (l := ws.zip ds) (fun _ _ _ _ => rfl)
      rw [k, z2]
      rfl
    rw [hs] at b2
    have hlen2 := b1.length
    obtain ⟨ep, he'⟩ := PyProof.Rows.sortedAll_at s.heap its out.toArray
    refine ⟨.ref (s.heap.objs.size + 1), upd H (s.heap.objs.size + 1) (.lst _), I.laid (t' := s.toks) (fun _ _ => PyProof.Rows.sortedAll_old) (Nat.le_succ _) ⟨?_, out, ep, b1, he'⟩, rfl, q _ _ (I.hok.fresh (Nat.le_succ _)) b2⟩
    rw [hlen2, ho, List.length_zip, hlen, Nat.min_self, ← hlen]
    exact hz
/-! of a dict's keys -/
theorem pw_str {ys : List Str} (h : PyProof.Rows.sortedS ys = true) : (ys.map D.str).Pairwise fun a b => leD a b = true := by
  have tr : ∀ (x : Str) (r : List Str), PyProof.Rows.risingS x r = true → (x :: r).Pairwise fun a b => leD (.str a) (.str b) = true := by
    intro x r
    induction r generalizing x with
    | nil => intro _; exact List.pairwise_singleton _ _
    | cons y r ih =>
      intro h
      unfold PyProof.Rows.risingS at h
      rw [Bool.and_eq_true] at h
      have k := ih y h.2
      have xy : leD (.str x) (.str y) = true := by
        have h1 := h.1
        rw [PyProof.Rows.ltCps_eq] at h1
        rw [leD_str, ← PySem.W.not_lt_str]
        exact h1
      refine List.pairwise_cons.mpr ⟨fun z hz => ?_, k⟩
      rcases List.mem_cons.mp hz with rfl | hz
      · exact xy
      · exact leD_trans _ _ _ xy ((List.pairwise_cons.mp k).1 z hz)
  rw [List.pairwise_map]
  cases ys with
  | nil => exact List.Pairwise.nil
  | cons x r => exact tr x r h
theorem pw_int {ys : List Int} (h : ys.Pairwise (· ≤ ·)) : (ys.map D.int).Pairwise fun a b => leD a b = true := by
  rw [List.pairwise_map]
  exact h.imp fun q => by rw [leD_int]; exact decide_eq_true q
theorem strs_uniq {xs ys : List Str} (p : ys.Perm xs) (h : PyProof.Rows.sortedS ys = true) : ys.map D.str = sortD (xs.map D.str) := by
  refine sortD_uniq (fun a b ha hb h k => ?_) (p.map _) (pw_str h)
  obtain ⟨x, _, rfl⟩ := List.mem_map.mp ha
  obtain ⟨y, _, rfl⟩ := List.mem_map.mp hb
  rw [str_anti h k]
theorem ints_uniq {xs ys : List Int} (p : ys.Perm xs) (h : ys.Pairwise (· ≤ ·)) : ys.map D.int = sortD (xs.map D.int) := by
  refine sortD_uniq (fun a b ha hb h k => ?_) (p.map _) (pw_int h)
  obtain ⟨x, _, rfl⟩ := List.mem_map.mp ha
  obtain ⟨y, _, rfl⟩ := List.mem_map.mp hb
  rw [int_anti h k]
theorem strsD_keys : ∀ {ks : List Key} {xs : List Str}, strsD (ks.map kD) = some xs → ks = xs.map Sum.inr
  | [], xs, e => by cases e; rfl
  | .inl i :: ks, xs, e => by cases e
  | .inr x :: ks, xs, e => by
    have e : (strsD (ks.map kD)).map (x :: ·) = some xs := e
    cases e2 : strsD (ks.map kD) with
    | none => rw [e2] at e; cases e
    | some ys =>
      rw [e2] at e
      cases e
      rw [strsD_keys e2]
      rfl
theorem intsD_keys : ∀ {ks : List Key} {xs : List Int}, intsD (ks.map kD) = some xs → ks = xs.map Sum.inl
  | [], xs, e => by cases e; rfl
  | .inr i :: ks, xs, e => by cases e
  | .inl x :: ks, xs, e => by
    have e : (intsD (ks.map kD)).map (x :: ·) = some xs := e
    cases e2 : intsD (ks.map kD) with
    | none => rw [e2] at e; cases e
    | some ys =>
      rw [e2] at e
      cases e
      rw [intsD_keys e2]
      rfl
theorem rep_strs {H : Hp} : ∀ xs : List Str, RepL C H (xs.map D.str) (xs.map V.str) []
  | [] => ⟨rfl, rfl⟩
  | x :: xs => ⟨_, _, [], [], rfl, ⟨rfl, rfl⟩, rep_strs xs, rfl⟩
theorem rep_ints {H : Hp} : ∀ xs : List Int, RepL C H (xs.map D.int) (xs.map V.int) []
  | [] => ⟨rfl, rfl⟩
  | x :: xs => ⟨_, _, [], [], rfl, ⟨rfl, rfl⟩, rep_ints xs, rfl⟩
theorem small64 {n : Nat} (h : n < 64) : n ≤ sizeLine := by rw [sizeLine_eq]; omega
theorem sortOk_imm {ds : List D} (h : sortOk ds = true) : immL ds = true := by
  simp only [sortOk, Bool.and_eq_true] at h
  exact h.1.1.1
theorem b_sorted (F : Fx R C X W) : CallR X (.builtin "sorted") (SpB C sortF) := by
  refine callTo ((b_sortL F).or ((call_sortedD F.calm).or (call_sortedDI F.calm))) fun vs H Q h => ?_
  obtain ⟨ds, M, d, r, e, q⟩ := h.ok
  unfold sortF at e
  split at e
  · obtain ⟨v, rfl, r1⟩ := rep1 r
    split at e
    · rename_i ok
      cases e
      obtain ⟨a, ws, M', rfl, ea, z, rl, _⟩ := r1
      exact .inl ⟨a, ws, _, rfl, ea, rl.nil0 (sortOk_imm ok), ok, fun l ys hl ry => q _ _ (lst_new hl (by rw [(sortD_perm _).length_eq]; exact z) ry)⟩
    · cases e
  · obtain ⟨v, rfl, r1⟩ := rep1 r
    obtain ⟨a, kvs, M', rfl, e1, rfl, z, r2, _⟩ := r1
    split at e
    · rename_i xs ex
      split at e
      · rename_i h64
        cases e
        refine .inr (.inl ⟨a, kvs, xs, rfl, e1, strsD_keys ex, h64, fun ys p pm so hp => q _ _ ?_⟩)
        rw [← strs_uniq pm so]
        exact lst_new hp (by rw [List.length_map, pm.length_eq]; exact small64 h64) (rep_strs ys)
      · cases e
    · split at e
      · rename_i xs ex
        split at e
        · rename_i h64
          cases e
          refine .inr (.inr ⟨a, kvs, xs, rfl, e1, intsD_keys ex, h64, fun ys p pm so hp => q _ _ ?_⟩)
          rw [← ints_uniq pm so]
          exact lst_new hp (by rw [List.length_map, pm.length_eq]; exact small64 h64) (rep_ints ys)
        · cases e
      · cases e
  · cases e
end
end DL
/-! DL13: methods of texts, lists, dicts; dict(pairs); chains; op= ; several names at once. -/
namespace DL
open PySem L2

/-- two operands, the first one looked at ahead of the second -/
def bind2p (f g : Env → Res FD) (pre : D → Bool) (k : FD → FD → Res FD) : Env → Res FD := fun ρ => (f ρ).bind fun x => if pre x.2 = true then (g ρ).bind fun y => k x y else .bad
section
variable {R : Nat} {C : Ctx} {X : Cx} {W : WX} {a b c e : Expr} {f g h : Env → Res FD} {fa : Env → Res AD} {pos p apos cpos : Pos}
theorem rv2p {r : V → V → Hp → VK → Prop} {mid : V → Hp → Prop} {pre : D → Bool} {k : FD → FD → Res FD} (hk : Op2 C r k) (hx : ∀ x y c, k x y ≠ .ex c) (hm : ∀ H x d M, Rep C H d x M → pre d = true → mid x H) {σ : St} {H : Hp} {Q : VK} (q : RV C W (bind2p f g pre k) σ H Q) :
    RV C W f σ H fun x H1 => mid x H1 ∧ RV C W g σ H1 fun y H2 => r x y H2 Q := by
  obtain ⟨ρ, P, E, q⟩ := q
  refine ⟨ρ, P, E, ?_⟩
  unfold bind2p at q
  cases e : f ρ with
  | bad => rw [e] at q; exact q
  | ex c => rw [e] at q; exact q
  | ok fx =>
    rw [e] at q
    simp only [Res.ok_bind] at q
    intro x H1 vo
    obtain ⟨s1, M, r1, f1⟩ := id vo
    cases ep : pre fx.2 with
    | false => rw [ep] at q; exact q.elim
    | true =>
      rw [ep] at q
      simp only [if_true] at q
      refine ⟨hm _ _ _ _ r1 ep, ?_⟩
      have E1 := E.same s1
      refine ⟨ρ, P, E1, ?_⟩
      cases e2 : g ρ with
      | bad => rw [e2] at q; exact q
      | ex c => rw [e2] at q; exact fun H' s' => q H' (s1.trans s')
      | ok fy =>
        rw [e2] at q
        simp only [Res.ok_bind] at q
        intro y H2 ⟨s2, N, r2, f2⟩
        cases ek : k fx fy with
        | bad => rw [ek] at q; exact q.elim
        | ex c => exact absurd ek (hx _ _ c)
        | ok z =>
          rw [ek] at q
          have s12 := s1.trans s2
          refine hk H2 x y fx fy M N Q z (r1.same s2) r2 ek ⟨fun v H' n ez => q v H' ?_, fun v L rz sub ez => q v H2 ⟨s12, L, rz, ?_⟩⟩
          · obtain ⟨fl, z⟩ := z
            cases ez
            exact (n.early s12).vok
          · rw [ez]
            exact FlOk.up rz ((f1.on s2).sub sub)

theorem RV.mono {σ : St} {H : Hp} {Q Q' : VK} (i : ∀ v H', Q v H' → Q' v H') (q : RV C W f σ H Q) : RV C W f σ H Q' := by
  obtain ⟨ρ, P, E, q⟩ := q
  refine ⟨ρ, P, E, ?_⟩
  cases e : f ρ with
  | bad => rw [e] at q; exact q
  | ex c => rw [e] at q; exact q
  | ok fx => rw [e] at q; exact fun v H' vo => i _ _ (q v H' vo)

/-! ### join -/
def isStrD : D → Bool
  | .str _ => true
  | _ => false
def joinK : FD → FD → Res FD := fun x y => match x.2, itemsD y.2 with
  | .str s, some ds => match strsD ds with
    | some ys => if (ys.map (·.length)).sum + ys.length * s.length ≤ 16777216 then .ok (.fr, .str (Txt.join s ys)) else .bad
    | none => .bad
  | _, _ => .bad
theorem joinK_nx : ∀ x y c, joinK x y ≠ .ex c := fun x y c e => by
  unfold joinK at e
  repeat' (first | cases e | split at e)
theorem joinK_op (K : PySem.W.Frag) : Op2 C (fun x y H Q => ∃ a p, ∃ ys : List Str, x = .str a ∧ [y] = [V.ref p] ∧ (SqL K H p (ys.map V.str) ∨ SqT K H p (ys.map V.str)) ∧ (ys.map (·.length)).sum + ys.length * a.length ≤ 16777216 ∧ Q (.str (Txt.join a ys)) H) joinK := by
  intro H x y fx fy M N Q z r1 r2 e ⟨q, _⟩
  unfold joinK at e
  split at e
  · rename_i s ds e1 e2
    split at e
    · rename_i ys e3
      split at e
      · rename_i hz
        cases e
        rw [e1] at r1
        obtain ⟨rfl, _⟩ := r1
        obtain ⟨p, vs, L, rfl, sq, rl, _, _⟩ := seq_rep K r2 e2
        rw [strs_rep rl e3] at sq
        exact ⟨s, p, ys, rfl, rfl, sq, hz, q _ H str_new rfl⟩
      · cases e
    · cases e
  · cases e
theorem pd_join (F : Fx R C X W) (ha : PE X a (RV C W f)) (hb : PE X b (RV C W g)) (hs : starEach [b] X.env = [(false, eval b X.env)] := by rfl) (hbase : attributeBase a "join" X.env (eval a X.env) = eval a X.env := by rfl) (hline : (apos.endLine == pos.line) = true := by rfl) :
    PE X (.Call (.Attribute a "join" apos) [b] [] pos) (RV C W (bind2p f g isStrD joinK)) :=
  (pe_join ha hb hs hbase hline).imp fun σ H Q q => rv2p (joinK_op X.K) joinK_nx (fun H x d M r e => by cases d <;> first | (cases e; done) | exact ⟨_, r.1⟩) q

/-! ### index -/
def isLstD : D → Bool
  | .lst _ => true
  | _ => false
def indexK : FD → FD → Res FD := fun x y => match x.2 with
  | .lst ds => if (okP (.lst ds) && okP y.2) = true then match ds.findIdx? (fun z => eqvD z y.2) with
    | some j => .ok (.fr, .int (j : Nat))
    | none => .bad
    else .bad
  | _ => .bad
theorem indexK_nx : ∀ x y c, indexK x y ≠ .ex c := fun x y c e => by
  unfold indexK at e
  repeat' (first | cases e | split at e)
theorem indexK_op (hK : X.K = C.K) : Op2 C (fun x y H Q => rIndexD X.K x [y] H Q) indexK := by
  intro H x y fx fy M N Q z r1 r2 e ⟨q, _⟩
  unfold indexK at e
  split at e
  · rename_i ds ed
    split at e
    · rename_i ok
      rw [Bool.and_eq_true] at ok
      split at e
      · rename_i j ej
        cases e
        rw [ed] at r1
        have d1 := r1.dp (layOk ok.1)
        have d2 := r2.dp (layOk ok.2)
        rw [← hK] at d1 d2
        obtain ⟨a, vs, _, rfl, _⟩ := id r1
        rw [toP, toPL_map] at d1
        obtain ⟨lt, at_, no⟩ := List.findIdx?_eq_some_iff_getElem.mp ej
        refine ⟨a, y, toP fy.2, ds.map toP, j, toP ds[j], rfl, rfl, d1, d2, by rw [← toPL_map]; have := ok.1; unfold okP at this; rw [toP] at this; exact this, ok.2, by rw [List.getElem?_map, List.getElem?_eq_getElem lt]; rfl, at_, fun m z' hm hz => ?_, q _ H int_new rfl⟩
        rw [List.getElem?_map] at hz
        have hml : m < ds.length := Nat.lt_trans hm lt
        rw [List.getElem?_eq_getElem hml] at hz
        cases hz
        have := no m hm
        exact Bool.eq_false_iff.mpr this
      · cases e
    · cases e
  · cases e
theorem rv_index {σ : St} {H : Hp} {Q : VK} {K : PySem.W.Frag} {to te : TE} (h : (to σ H fun x H1 => tyV K "list" x H1 ∧ te σ H1 fun y H2 => rIndexD K x [y] H2 Q)) : tBM K "list" (rIndexD K) to (tCons te tNil) σ H Q := h
theorem pd_index (F : Fx R C X W) (ha : PE X a (RV C W f)) (hb : PE X b (RV C W g)) (hbase : attributeBase a "index" X.env (eval a X.env) = eval a X.env := by rfl)
    (hfew : ((backTo cpos (starEach [b] X.env)).all (fun x => !x.1) && (backToKw cpos (keywordEach [] X.env)).all (fun x => x.1.isSome)
      && decide ([b].length + ([] : List Keyword).length + (if ([] : List Keyword).isEmpty then 0 else 1) < 30)) = true := by rfl)
    (hline : (apos.endLine == cpos.line) = true := by rfl) (hs : starEach [b] X.env = (false, eval b X.env) :: starEach [] X.env := by rfl) (hplain : (backTo cpos (starEach [] X.env)).any (·.1) = false := by rfl) :
    PE X (.Call (.Attribute a "index" apos) [b] [] cpos) (RV C W (bind2p f g isLstD indexK)) :=
  (pe_bm PySem.F.plainAttrs_list PySem.F.slot_list_index PySem.F.type_list_index (mt_indexD (by have := F.hu; omega)) ha (pa_cons hb pa_nil hs) hbase hfew hline hs hplain).imp fun σ H Q q =>
    rv_index (rv2p (indexK_op F.hK) indexK_nx (fun H x d M r e => by
      cases d <;> first | (cases e; done) | skip
      obtain ⟨a, vs, _, rfl, e1, _⟩ := r
      exact .inl ⟨rfl, vs, .inl (.inl e1)⟩) q)

/-! ### d.get(k) -/
def isDictD : D → Bool
  | .dK _ _ => true
  | .dT _ _ => true
  | _ => false
def getK : FD → FD → Res FD := fun x y => match dGet x.2 y.2 with
  | some (some d) => .ok (up x.1 d)
  | some none => .ok (.fr, .non)
  | none => .bad
theorem getK_nx : ∀ x y c, getK x y ≠ .ex c := fun x y c e => by
  unfold getK at e
  repeat' (first | cases e | split at e)
theorem isD_rep {H : Hp} {x : V} {d : D} {M : List Addr} (r : Rep C H d x M) (e : isDictD d = true) : ∃ a, x = .ref a ∧ IsD H a := by
  cases d <;> first | (cases e; done) | skip
  · obtain ⟨a, kvs, _, rfl, e1, _⟩ := r
    exact ⟨a, rfl, .inl ⟨kvs, e1⟩⟩
  · obtain ⟨a, kvs, _, rfl, e1, _⟩ := r
    exact ⟨a, rfl, .inr ⟨kvs, e1⟩⟩
theorem getK_op : Op2 C (fun x y H Q => ∀ a, x = .ref a → ∃ o, DGet H a y o ∧ Q (o.getD .non) H) getK := by
  intro H x y fx fy M N Q z r1 r2 e ⟨q, q'⟩ a ea
  unfold getK at e
  cases eg : dGet fx.2 fy.2 with
  | none => rw [eg] at e; cases e
  | some o =>
    obtain ⟨a', ov, rfl, g, h0, h1⟩ := dGet_ok r1 r2 eg
    cases ea
    refine ⟨ov, g, ?_⟩
    rw [eg] at e
    cases o with
    | none => cases e; rw [h0 rfl]; exact q _ H non_new rfl
    | some d =>
      cases e
      obtain ⟨u, L, rfl, rd, sub⟩ := h1 d rfl
      have hd : (up fx.1 d).2 = d := rfl
      exact q' u L rd sub rfl
theorem pd_get (F : Fx R C X W) (ha : PE X a (RV C W f)) (hb : PE X b (RV C W g)) (m : M1 X a "get" apos b cpos := by exact ⟨rfl, rfl, rfl, rfl⟩) : PE X (.Call (.Attribute a "get" apos) [b] [] cpos) (RV C W (bind2p f g isDictD getK)) :=
  (pe_dget1 (by have := F.hu; omega) ha hb m).imp fun σ H Q q => by
    refine RV.mono (fun x H1 ⟨⟨a, ea, d⟩, k⟩ => ⟨a, ea, d, RV.mono (fun y H2 z => z a ea) k⟩) (rv2p (mid := fun x H => ∃ a, x = .ref a ∧ IsD H a) getK_op getK_nx (fun H x d M r e => isD_rep r e) q)

/-! ### dict(pairs) -/
def pairsD : List D → Option (List (Key × D))
  | [] => some []
  | .tup [k, v] :: ds => match keyOf k, pairsD ds with
    | some q, some r => if imm v = true then some ((q, v) :: r) else none
    | _, _ => none
  | _ => none
def dictOf (kvs : List (Key × D)) : List Key × List D := kvs.foldl (fun acc kv => putD acc.1 acc.2 kv.1 kv.2) ([], [])
def dictF : List D → Res D
  | [.lst ds] => match pairsD ds with
    | some kvs => .ok (.dK (dictOf kvs).1 (dictOf kvs).2)
    | none => .bad
  | _ => .bad
theorem dictF_nx : ∀ ds c, dictF ds ≠ .ex c := fun ds c e => by
  unfold dictF at e
  repeat' (first | cases e | split at e)
theorem pairs_rep (K : PySem.W.Frag) {H : Hp} : ∀ {ds : List D} {vs : List V} {M : List Addr} {kds : List (Key × D)}, RepL C H ds vs M → pairsD ds = some kds →
    ∃ ps kvs, vs = ps.map V.ref ∧ Paired (fun p (kv : Key × V) => SqT K H p [kV kv.1, kv.2]) ps kvs ∧ kvs.map (·.1) = kds.map (·.1) ∧ RepL C H (kds.map (·.2)) (kvs.map (·.2)) []
  | [], vs, M, kds, r, e => by
    cases e
    obtain ⟨rfl, _⟩ := r
    exact ⟨[], [], rfl, .nil, rfl, rfl, rfl⟩
  | d :: ds, vs, M, kds, r, e => by
    obtain ⟨v, w, M1, M2, rfl, r1, r2, rfl⟩ := r
    unfold pairsD at e
    split at e
    · rename_i heq; cases heq
    · rename_i k v' ds' heq
      cases heq
      split at e
      · rename_i q rr ek er
        split at e
        · rename_i hi
          cases e
          obtain ⟨ps, kvs, rfl, h1, h2, h3⟩ := pairs_rep K r2 er
          obtain ⟨a, us, rfl, ea, _, ru⟩ := r1
          obtain ⟨x, y, N, N', rfl, rx, ry⟩ := rep2 ru
          have := ry.imm hi
          subst this
          refine ⟨a :: ps, (q, y) :: kvs, rfl, .cons (.inl (.inl ?_)) h1, by simp [h2], ⟨y, _, [], [], rfl, ry, h3, rfl⟩⟩
          rw [key_rep rx ek] at ea
          exact ea
        · cases e
      · cases e
    · cases e
theorem merge_rep {H : Hp} : ∀ (kds : List (Key × D)) (kvs acc : List (Key × V)) (as : List D), kvs.map (·.1) = kds.map (·.1) → RepL C H (kds.map (·.2)) (kvs.map (·.2)) [] → RepL C H as (acc.map (·.2)) [] →
    (kds.foldl (fun acc kv => putD acc.1 acc.2 kv.1 kv.2) (acc.map (·.1), as)).1 = (mergeK acc kvs).map (·.1) ∧ RepL C H (kds.foldl (fun acc kv => putD acc.1 acc.2 kv.1 kv.2) (acc.map (·.1), as)).2 ((mergeK acc kvs).map (·.2)) []
  | [], kvs, acc, as, e, r, ra => by
    have : kvs = [] := by simpa using e
    subst this
    exact ⟨rfl, ra⟩
  | (k, d) :: kds, [], acc, as, e, r, ra => by simp at e
  | (k, d) :: kds, (k', v) :: kvs, acc, as, e, r, ra => by
    obtain ⟨v', w, M1, M2, e1, r1, r2, e2⟩ := r
    cases e1
    obtain ⟨rfl, rfl⟩ := List.append_eq_nil_iff.mp e2.symm
    simp only [List.map_cons, List.cons.injEq] at e
    obtain ⟨rfl, e⟩ := e
    have step : (putD (acc.map (·.1)) as k' d).1 = (putK acc k' v).map (·.1) ∧ RepL C H (putD (acc.map (·.1)) as k' d).2 ((putK acc k' v).map (·.2)) [] := by
      unfold putD putK
      by_cases hm : k' ∈ acc.map (·.1)
      · rw [if_pos hm, if_pos ((any_mem acc k').mpr hm)]
        refine ⟨(repl_keys k' v acc).symm, ?_⟩
        obtain ⟨M', q, sub⟩ := repl_rep (k := k') r1 ra
        have : M' = [] := List.eq_nil_of_sublist_nil sub
        rw [this] at q
        exact q
      · rw [if_neg hm, if_neg (fun z => hm ((any_mem acc k').mp z))]
        refine ⟨by simp, ?_⟩
        rw [List.map_append]
        exact ra.append (RepL.one r1)
    have ih := merge_rep kds kvs (putK acc k' v) (putD (acc.map (·.1)) as k' d).2 e r2 step.2
    rw [← step.1] at ih
    exact ih
theorem b_dict (F : Fx R C X W) : CallR X (.type "dict") (SpB C dictF) := by
  refine callTo (call_dictP F.calm) fun vs H Q h => ?_
  obtain ⟨ds, M, d, r, e, q⟩ := h.ok
  unfold dictF at e
  split at e
  · obtain ⟨v, rfl, r1⟩ := rep1 r
    split at e
    · rename_i kds ep
      cases e
      obtain ⟨a, ws, _, rfl, ea, z, rl, _⟩ := r1
      obtain ⟨ps, kvs, rfl, h1, h2, h3⟩ := pairs_rep X.K rl ep
      refine ⟨a, ps, kvs, rfl, .inl (.inl ea), h1, fun p hp => q _ _ ?_⟩
      obtain ⟨m1, m2⟩ := merge_rep kds kvs [] [] h2 h3 ⟨rfl, rfl⟩
      have hl : (mergeK [] kvs).length ≤ sizeLine := by
        refine Nat.le_trans (length_mergeK kvs []) ?_
        have e1 := congrArg List.length h2
        have e2 := rl.length
        have e3 := Paired.length h1
        simp at e1 e2
        simp
        omega
      have s : Same H (upd H p (.dK (mergeK [] kvs))) := fun b o e => by rw [upd_ne (ne_of_none e hp)]; exact e
      have ml := m2.length
      refine ⟨s, [p], ⟨p, mergeK [] kvs, [], rfl, .inl upd_same, m1, by rw [List.length_map] at ml; rw [show (dictOf kds).2.length = _ from ml]; exact hl, m2.same s, rfl⟩, by simp, fun a m => ?_, fun a m => ?_⟩
      · obtain rfl : a = p := by simpa using m
        exact hp
      · obtain rfl : a = p := by simpa using m
        rw [upd_same]; trivial
    · cases e
  · cases e
end
end DL
/-! DL14: chains of comparisons; op=; several names at once; enumerate; dicts walked. -/
namespace DL
open PySem L2
section
variable {R : Nat} {C : Ctx} {X : Cx} {W : WX} {a b c e : Expr} {f g h : Env → Res FD} {fa : Env → Res AD} {pos p apos cpos tpos : Pos}

/-! ### a <= b <= c -/
def chainF (f g h : Env → Res FD) (q q' : Int → Int → Bool) : Env → Res Bool := fun ρ => (f ρ).bind fun x => (g ρ).bind fun y => match x.2, y.2 with
  | .int i, .int j => if q i j = true then (h ρ).bind fun z => match z.2 with
    | .int l => .ok (q' j l)
    | _ => .bad
    else .ok false
  | _, _ => .bad
theorem chain_core {q q' : Int → Int → Bool} {σ : St} {H : Hp} {Qb : Bool → Hp → Prop} {ρ : Env} {P : List Pt} (E : EnvOk C P H σ ρ) (hh : match chainF f g h q q' ρ with
    | .ok k => ∀ H', Same H H' → Qb k H'
    | .ex c => ∀ H', Same H H' → W (.ref (C.cls c)) none σ H'
    | .bad => False) : tChain (rI0 fun i j => .bl (q i j)) (rI0 fun i j => .bl (q' i j)) (RV C W f) (RV C W g) (RV C W h) σ H fun z H' => ∃ k, z = .bl k ∧ Qb k H' := by
  refine ⟨ρ, P, E, ?_⟩
  unfold chainF at hh
  cases e1 : f ρ with
  | bad => rw [e1] at hh; exact hh
  | ex c => rw [e1] at hh; exact hh
  | ok fx =>
    rw [e1] at hh
    simp only [Res.ok_bind] at hh
    intro x H1 ⟨s1, M, r1, f1⟩
    refine ⟨ρ, P, E.same s1, ?_⟩
    cases e2 : g ρ with
    | bad => rw [e2] at hh; exact hh
    | ex c => rw [e2] at hh; exact fun H' s' => hh H' (s1.trans s')
    | ok fy =>
      rw [e2] at hh
      simp only [Res.ok_bind] at hh
      intro y H2 ⟨s2, N, r2, f2⟩
      obtain ⟨fl, dx⟩ := fx
      obtain ⟨fl', dy⟩ := fy
      cases dx <;> first | exact hh.elim | skip
      cases dy <;> first | exact hh.elim | skip
      rename_i i j
      have s12 := s1.trans s2
      refine ⟨i, j, r1.1, r2.1, q i j, rfl, ?_⟩
      dsimp only at hh
      cases hq : q i j with
      | false =>
        rw [hq] at hh
        simp only [Bool.false_eq_true, if_false] at hh ⊢
        exact ⟨false, rfl, hh H2 s12⟩
      | true =>
        rw [hq] at hh
        simp only [if_true] at hh ⊢
        refine ⟨ρ, P, E.same s12, ?_⟩
        cases e3 : h ρ with
        | bad => rw [e3] at hh; exact hh
        | ex c => rw [e3] at hh; exact fun H' s' => hh H' (s12.trans s')
        | ok fz =>
          rw [e3] at hh
          simp only [Res.ok_bind] at hh
          intro z H3 ⟨s3, L, r3, f3⟩
          obtain ⟨fl3, dz⟩ := fz
          cases dz <;> first | exact hh.elim | skip
          rename_i l
          exact ⟨j, l, r2.1, r3.1, _, rfl, hh H3 (s12.trans s3)⟩
def boolF (t : Env → Res Bool) : Env → Res FD := fun ρ => (t ρ).bind fun k => .ok (.fr, .bl k)
theorem td_chain {op op' : CmpOp} {q q' : Int → Int → Bool} (ho : OpR X (compareOp op) (rI0 fun i j => .bl (q i j))) (ho' : OpR X (compareOp op') (rI0 fun i j => .bl (q' i j))) (ha : PE X a (RV C W f)) (hb : PE X b (RV C W g)) (hc : PE X c (RV C W h))
    (hm : lastMarks [op, op'] [b, c] = false := by with_unfolding_all rfl) : PT X (.Compare a [op, op'] [b, c] pos) (RT C W (chainF f g h q q')) :=
  (pt_chain ho ho' ha hb hc hm).imp fun σ H Q ⟨ρ, P, E, hh⟩ => chain_core E hh
theorem chain_mono {r r' : R2} {σ : St} {H : Hp} {Q Q' : VK} (i : ∀ z H', Q z H' → Q' z H') (hr : ∀ x y H (A B : VK), (∀ z H', A z H' → B z H') → r x y H A → r x y H B) (hr' : ∀ x y H (A B : VK), (∀ z H', A z H' → B z H') → r' x y H A → r' x y H B)
    (q : tChain r r' (RV C W f) (RV C W g) (RV C W h) σ H Q) : tChain r r' (RV C W f) (RV C W g) (RV C W h) σ H Q' :=
  RV.mono (fun x H1 q => RV.mono (fun y H2 q => hr _ _ _ _ _ (fun z H3 ⟨k, e, q⟩ => ⟨k, e, by
    cases k with
    | true => exact RV.mono (fun w H4 q => hr' _ _ _ _ _ i q) q
    | false => exact i _ _ q⟩) q) q) q
theorem rI0_mono {G : Int → Int → V} (x y : V) (H : Hp) (A B : VK) (i : ∀ z H', A z H' → B z H') (q : rI0 G x y H A) : rI0 G x y H B := by
  obtain ⟨m, n, e, e', q⟩ := q
  exact ⟨m, n, e, e', i _ _ q⟩
theorem pd_chain {op op' : CmpOp} {q q' : Int → Int → Bool} (ho : OpR X (compareOp op) (rI0 fun i j => .bl (q i j))) (ho' : OpR X (compareOp op') (rI0 fun i j => .bl (q' i j))) (ha : PE X a (RV C W f)) (hb : PE X b (RV C W g)) (hc : PE X c (RV C W h))
    (hm : lastMarks [op, op'] [b, c] = false := by with_unfolding_all rfl) : PE X (.Compare a [op, op'] [b, c] pos) (RV C W (boolF (chainF f g h q q'))) :=
  (pe_chain ho ho' ha hb hc hm).imp fun σ H Q ⟨ρ, P, E, hh⟩ => by
    refine chain_mono (Q := fun z H' => ∃ k, z = .bl k ∧ Q (.bl k) H') (fun z H' ⟨k, e, q⟩ => by rw [e]; exact q) rI0_mono rI0_mono (chain_core (Qb := fun k H' => Q (.bl k) H') E ?_)
    unfold boolF at hh
    cases e : chainF f g h q q' ρ with
    | bad => rw [e] at hh; exact hh
    | ex c => rw [e] at hh; exact hh
    | ok k =>
      rw [e] at hh
      exact fun H' s => hh (.bl k) H' ⟨s, [], ⟨rfl, rfl⟩, .nil⟩

/-! ### x += e, ints -/
def dAug (i : Nat) (f : Env → Res FD) (k : Int → Int → Int) : TD := fun DD ρ => match ρ[i]? with
  | some (some (_, .int m)) => match f ρ with
    | .ok x => match x.2 with
      | .int n => DD.nx (ρ.set i (some (.loc, .int (k m n))))
      | _ => False
    | .ex c => DD.ex c ρ
    | .bad => False
  | _ => False
theorem ds_aug {op : Operator} {k : Int → Int → Int} (i : Nat) {x : Str} (F : Fx R C X W) (ho : PIp X op (rI0 fun m n => .int (k m n))) (he : PE X e (RV C W f)) (hN : X.N[i]? = some x := by rfl) (hx : Loc X.env.scope x := by first | exact .inl rfl | exact .inr rfl)
    (hf : X.fn x = true ∨ X.env.scope.names.lookup x = some .local := by first | exact .inl rfl | exact .inr rfl | assumption) : PS X (.AugAssign (.Name x p) op e pos) (RS C W (dAug i f k)) :=
  (ps_aug F.nd hN hx he ho hf).imp fun D σ H ⟨ρ, P, DD, E, I, hh⟩ => by
    unfold dAug at hh
    split at hh
    · rename_i o m ei
      obtain ⟨v, M, e1, r, _⟩ := E.at_ i o _ ei
      refine ⟨v, e1, ρ, P, E, ?_⟩
      cases ef : f ρ with
      | bad => rw [ef] at hh; exact hh
      | ex c => rw [ef] at hh; exact fun H' s => I.ex σ H' ρ c (E.same s) hh
      | ok y =>
        rw [ef] at hh
        obtain ⟨fl, d⟩ := y
        dsimp only at hh
        intro w H1 ⟨s1, N, r1, f1⟩
        cases d <;> first | exact hh.elim | skip
        rename_i n
        refine ⟨m, n, r.1, r1.1, I.nx _ _ _ ?_ hh⟩
        exact assign_own (fd := (.fr, .int (k m n))) (E.same s1) ⟨Same.refl H1, [], ⟨rfl, rfl⟩, .nil⟩ (List.getElem?_eq_some_iff.mp ei).1 (.inl rfl)
    · exact hh.elim

theorem RL.mono {σ : St} {H : Hp} {Q Q' : List V → Hp → Prop} (i : ∀ v H', Q v H' → Q' v H') (q : RL C W fa σ H Q) : RL C W fa σ H Q' := by
  obtain ⟨ρ, P, E, q⟩ := q
  refine ⟨ρ, P, E, ?_⟩
  cases e : fa ρ with
  | bad => rw [e] at q; exact q
  | ex c => rw [e] at q; exact q
  | ok fx => rw [e] at q; exact fun v H' s vo => i _ _ (q v H' s vo)
/-! ### a, b = x, y -/
def dPar (is : List Nat) (fa : Env → Res AD) : TD := fun DD ρ => match fa ρ with
  | .ok y => y.1 = true ∧ match asgL .loc (is.map Tg.nm) y.2 ρ with
    | some ρ' => DD.nx ρ'
    | none => False
  | .ex c => DD.ex c ρ
  | .bad => False
theorem rl_par {is : List Nat} {D : Ends} {σ : St} {H : Hp} {K : PySem.W.Frag} (hh : RS C W (dPar is fa) D σ H) : RL C W fa σ H fun vs H1 => vs.length = is.length ∧ gOfL K (is.map Tg.nm) vs σ H1 D.nx := by
  obtain ⟨ρ, P, DD, E, I, hh⟩ := hh
  refine ⟨ρ, P, E, ?_⟩
  unfold dPar at hh
  cases e : fa ρ with
  | bad => rw [e] at hh; exact hh
  | ex c => rw [e] at hh; exact fun H' s => I.ex σ H' ρ c (E.same s) hh
  | ok y =>
    rw [e] at hh
    obtain ⟨hb, hh⟩ := hh
    intro vs H1 s1 ⟨M, r, q⟩
    obtain ⟨nd, nw, mu⟩ := q hb
    cases ea : asgL .loc (is.map Tg.nm) y.2 ρ with
    | none => rw [ea] at hh; exact hh.elim
    | some ρ' =>
      rw [ea] at hh
      have c := cnd_of (fl := .fr) E s1 (show FlOk C H σ ρ H1 .fr M from ⟨nd, nw, mu⟩) (.inl rfl)
      have k := asgL_ok K .loc (is.map Tg.nm) y.2 vs M σ ρ ρ' D.nx ea (E.same s1) r c fun σ' E' _ _ _ => I.nx σ' H1 ρ' E' hh
      rw [List.length_map] at k
      exact k
theorem ds_par {i j : Nat} {x y : Str} {px py pt : Pos} {kt k2 pt2} (F : Fx R C X W) (hi : X.N[i]? = some x) (hj : X.N[j]? = some y) (hij : i ≠ j)
    (hx : X.env.scope.names.lookup x = some .local) (hy : X.env.scope.names.lookup y = some .local) (ha : PA X [a, b] (RL C W fa))
    (hw : swappedStores [.Tuple [.Name x px, .Name y py] kt pt] (.Tuple [a, b] k2 pt2) X.env = pure (some [x, y]))
    (hs : swapsWithSole [.Tuple [.Name x px, .Name y py] kt pt] (.Tuple [a, b] k2 pt2) pos.line X.env = pure false := by rfl) :
    PS X (.Assign [.Tuple [.Name x px, .Name y py] kt pt] (.Tuple [a, b] k2 pt2) pos) (RS C W (dPar [i, j] fa)) :=
  (ps_par F.calm F.nd hi hj hij hx hy ha hw hs).imp fun D σ H hh => by
    refine RL.mono (fun vs H1 ⟨hl, q⟩ => ?_) (rl_par (K := X.K) hh)
    obtain ⟨v, _, rfl, w, _, rfl, rfl, q⟩ := q
    exact ⟨v, w, rfl, q⟩
theorem ds_par3 {i j l : Nat} {x y z : Str} {px py pz pt : Pos} {kt k2 pt2} (F : Fx R C X W) (hi : X.N[i]? = some x) (hj : X.N[j]? = some y) (hl : X.N[l]? = some z) (hij : i ≠ j) (hil : i ≠ l) (hjl : j ≠ l)
    (hx : X.env.scope.names.lookup x = some .local) (hy : X.env.scope.names.lookup y = some .local) (hz : X.env.scope.names.lookup z = some .local) (ha : PA X [a, b, c] (RL C W fa))
    (hw : swappedStores [.Tuple [.Name x px, .Name y py, .Name z pz] kt pt] (.Tuple [a, b, c] k2 pt2) X.env = pure (some [x, y, z]))
    (hs : swapsWithSole [.Tuple [.Name x px, .Name y py, .Name z pz] kt pt] (.Tuple [a, b, c] k2 pt2) pos.line X.env = pure false := by rfl) :
    PS X (.Assign [.Tuple [.Name x px, .Name y py, .Name z pz] kt pt] (.Tuple [a, b, c] k2 pt2) pos) (RS C W (dPar [i, j, l] fa)) :=
  (ps_par3 F.calm F.nd hi hj hl hij hil hjl hx hy hz ha hw hs).imp fun D σ H hh => by
    refine RL.mono (fun vs H1 ⟨hl, q⟩ => ?_) (rl_par (K := X.K) hh)
    obtain ⟨u, _, rfl, v, _, rfl, w, _, rfl, rfl, q⟩ := q
    exact ⟨u, v, w, rfl, q⟩

/-! ### enumerate(xs) -/
def enumD (ds : List D) : List D := (List.range ds.length).zip ds |>.map fun q => .tup [.int (q.1 : Nat), q.2]
def enumI (f : Env → Res FD) : Env → Res ID := fun ρ => (f ρ).bind fun x => match x.2 with
  | .lst ds => .ok ([x], enumD ds)
  | _ => .bad
theorem enumD_at {ds : List D} {i : Nat} {d : D} (e : (enumD ds)[i]? = some d) : ∃ d', ds[i]? = some d' ∧ d = .tup [.int (i : Nat), d'] := by
  unfold enumD at e
  rw [List.getElem?_map] at e
  cases q : ((List.range ds.length).zip ds)[i]? with
  | none => rw [q] at e; cases e
  | some z =>
    rw [q] at e
    cases e
    obtain ⟨h1, h2⟩ := List.getElem?_zip_eq_some.mp q
    obtain ⟨hk, e2⟩ := List.getElem?_eq_some_iff.mp h1
    refine ⟨z.2, h2, ?_⟩
    have : z.1 = i := by rw [← e2]; simp
    show D.tup [.int (z.1 : Nat), z.2] = _
    rw [this]
theorem enumD_len (ds : List D) : (enumD ds).length = ds.length := by unfold enumD; simp
theorem itok_enum (K : PySem.W.Frag) (a : Addr) (ds : List D) : ItOk C (Ite K a) (enumD ds) [.inl (.ref a, .lst ds)] := by
  intro i H hp
  obtain ⟨N, a', vs, M', e0, e1, z, r, eN⟩ := hp _ (List.mem_singleton.mpr rfl)
  cases e0
  refine ⟨fun d e => ?_, fun hl => ⟨vs, SqL.of e1, by rw [← r.length, ← enumD_len]; exact hl⟩⟩
  obtain ⟨d', eD, rfl⟩ := enumD_at e
  obtain ⟨v, L, e2, r', s⟩ := r.get eD
  refine ⟨⟨vs, v, SqL.of e1, e2⟩, fun x H' ⟨T, y, ex, hT, eH, q⟩ => ?_⟩
  subst ex eH
  have e3 := q vs (SqL.of e1)
  rw [e2] at e3
  cases e3
  have sm : Same H (upd H T (.tup [.int (i : Nat), v])) := fun b o e => by rw [upd_ne (ne_of_none e hT)]; exact e
  refine ⟨sm, L, ⟨T, _, rfl, upd_same, by rw [sizeLine_eq]; show 2 ≤ 16777216; decide, ⟨_, _, [], L, rfl, ⟨rfl, rfl⟩, ⟨_, _, L, [], rfl, r'.same sm, ⟨rfl, rfl⟩, by simp⟩, rfl⟩⟩, fun b m => ⟨_, List.mem_singleton.mpr rfl, N, ⟨a, vs, M', rfl, e1, z, r, eN⟩, by rw [eN]; exact List.mem_cons_of_mem _ (s.subset m)⟩⟩
theorem ri_enum {K : PySem.W.Frag} {σ : St} {H : Hp} {R : It → Hp → Prop} (hh : RI C W (enumI f) σ H R) : iEnum K (tCons (RV C W f) tNil) σ H R := by
  obtain ⟨ρ, P, E, hh⟩ := hh
  refine ⟨ρ, P, E, ?_⟩
  unfold enumI at hh
  cases e : f ρ with
  | bad => rw [e] at hh; exact hh
  | ex c => rw [e] at hh; exact hh
  | ok fx =>
    rw [e] at hh
    simp only [Res.ok_bind] at hh
    intro x H1 ⟨s1, M, r1, f1⟩
    obtain ⟨fl, d⟩ := fx
    cases d <;> first | exact hh.elim | skip
    rename_i ds
    have r0 := r1
    obtain ⟨a, vs, M', rfl, e1, z, r, rfl⟩ := r1
    exact ⟨a, vs, rfl, SqL.of e1, hh _ H1 _ [] s1 ⟨_, _, rfl, ⟨_, r0, f1⟩, rfl⟩ (fun p m => nomatch m) (itok_enum K a ds)⟩
theorem di_enum {elts : List Expr} {kk : Nat} (hg : Gl X "enumerate") (hm : X.mg "enumerate" = none) (ha : PE X a (RV C W f)) (hs : starEach [a] X.env = (false, eval a X.env) :: starEach [] X.env := by rfl) (hs2 : starEach [a] X.env = [(false, eval a X.env)] := by rfl) :
    PI X (.Tuple elts kk tpos) (.Call (.Name "enumerate" p) [a] [] pos) (RI C W (enumI f)) := (pi_enum hg hm (pa_cons ha pa_nil hs) hs2).imp fun _ _ _ => ri_enum
end
end DL
/-! DL15: dicts walked: the dict is locked meanwhile. -/
namespace DL
open PySem L2

/-! ### a dict locked, unlocked: what stands for data stays -/
def isDk : HO → Bool
  | .dK _ => true
  | .dT _ => true
  | _ => false
section
variable {C : Ctx} {H H' : Hp} {a : Addr} {u : HO}
theorem rd_only {b : Addr} {w : HO} (hu : isDk u = true) (h : Rd H a u) (hn : ∀ b, b ≠ a → H' b = H b) (nd : isDk w = false) (nf : ∀ od x, isDk x = true → w ≠ .frz od x) (e : H b = some w) : H' b = some w := by
  by_cases z : b = a
  · subst z
    rcases h with h | ⟨od, h⟩
    · rw [e] at h; cases h; rw [hu] at nd; cases nd
    · rw [e] at h; cases h; exact absurd rfl (nf od u hu)
  · rw [hn b z]; exact e
theorem rd_chg {b : Addr} {w : HO} (hu : isDk u = true) (h : Rd H a u) (h' : Rd H' a u) (hn : ∀ b, b ≠ a → H' b = H b) (dw : isDk w = true) (e : Rd H b w) : Rd H' b w := by
  by_cases z : b = a
  · subst z
    have : w = u := by
      rcases h with h | ⟨od, h⟩ <;> rcases e with e | ⟨od', e⟩ <;> rw [e] at h <;> cases h
      · rfl
      · cases hu
      · cases dw
      · rfl
    rw [this]; exact h'
  · unfold Rd
    rw [hn b z]
    exact e
mutual
theorem Rep.chg (hu : isDk u = true) (h : Rd H a u) (h' : Rd H' a u) (hn : ∀ b, b ≠ a → H' b = H b) : ∀ {d : D} {v : V} {M : List Addr}, Rep C H d v M → Rep C H' d v M
  | .non, _, _, r => r
  | .bl _, _, _, r => r
  | .int _, _, _, r => r
  | .str _, _, _, r => r
  | .ty _, _, _, r => r
  | .tup ds, v, M, r => by
    obtain ⟨b, vs, e, q, z, rl⟩ := r
    exact ⟨b, vs, e, rd_only hu h hn rfl (fun _ _ _ z => by cases z) q, z, RepL.chg hu h h' hn rl⟩
  | .lst ds, v, M, r => by
    obtain ⟨b, vs, M', e, q, z, rl, w⟩ := r
    exact ⟨b, vs, M', e, rd_only hu h hn rfl (fun _ _ _ z => by cases z) q, z, RepL.chg hu h h' hn rl, w⟩
  | .fz ds, v, M, r => by
    obtain ⟨b, vs, e, q, z, rl, w⟩ := r
    exact ⟨b, vs, e, q.imp (fun ⟨o, q⟩ => ⟨o, rd_only hu h hn rfl (fun _ _ dx z => by cases z; cases dx) q⟩) id, z, RepL.chg hu h h' hn rl, w⟩
  | .dK ks ds, v, M, r => by
    obtain ⟨b, vs, M', e, q, k, z, rl, w⟩ := r
    exact ⟨b, vs, M', e, rd_chg hu h h' hn rfl q, k, z, RepL.chg hu h h' hn rl, w⟩
  | .dT ks ds, v, M, r => by
    obtain ⟨b, vs, M', e, q, k, z, rl, w⟩ := r
    exact ⟨b, vs, M', e, rd_chg hu h h' hn rfl q, k, z, RepL.chg hu h h' hn rl, w⟩
  | .ins c ns ds, v, M, r => by
    obtain ⟨b, dx, fs, M', e, q, k, rl, w⟩ := r
    exact ⟨b, dx, fs, M', e, rd_only hu h hn rfl (fun _ _ _ z => by cases z) q, k, RepL.chg hu h h' hn rl, w⟩
theorem RepL.chg (hu : isDk u = true) (h : Rd H a u) (h' : Rd H' a u) (hn : ∀ b, b ≠ a → H' b = H b) : ∀ {ds : List D} {vs : List V} {M : List Addr}, RepL C H ds vs M → RepL C H' ds vs M
  | [], _, _, r => r
  | d :: ds, _, _, r => by
    obtain ⟨v, w, M1, M2, e, r1, r2, q⟩ := r
    exact ⟨v, w, M1, M2, e, Rep.chg hu h h' hn r1, RepL.chg hu h h' hn r2, q⟩
end
variable {P P' : List Pt} {σ : St} {ρ ρ' : Env}
/-- only the dict at a is locked or unlocked, own slots do not hold it -/
theorem EnvOk.chg (E : EnvOk C P H σ ρ) (hu : isDk u = true) (h : Rd H a u) (h' : Rd H' a u) (hn : ∀ b, b ≠ a → H' b = H b) (hl : ρ'.length = ρ.length)
    (hρ : ∀ (i : Nat) (o : Ow) (d : D), ρ'[i]? = some (some (o, d)) → ∃ o', ρ[i]? = some (some (o', d)) ∧ ((o = o' ∧ o ≠ .lk) ∨ o = .sh ∨ (o = .lk ∧ ∃ od, σ[i]? = some (some (.ref a)) ∧ Sum.inr (a, od, u) ∈ P')))
    (own_a : ∀ (i : Nat) (o : Ow) (d : D) (v : V) (M : List Addr), ρ'[i]? = some (some (o, d)) → o.own = true → σ[i]? = some (some v) → Rep C H d v M → a ∉ M)
    (hP : ∀ p ∈ P', (p ∈ P ∧ ∀ od w, p ≠ Sum.inr (a, od, w)) ∨ ∃ od, p = Sum.inr (a, od, u) ∧ H' a = some (.frz od u))
    (hk : ∀ b o, C.H0 b = some o → b ∉ C.io → H' b = some o ∨ ∃ od, Sum.inr (b, od, o) ∈ P') : EnvOk C P' H' σ ρ' := by
  have back : ∀ {d : D} {v : V} {M : List Addr}, Rep C H' d v M → Rep C H d v M := fun r => Rep.chg hu h' h (fun b z => (hn b z).symm) r
  have keepP : ∀ p, p ∈ P → (∀ od w, p ≠ Sum.inr (a, od, w)) → ∀ N, PRep C H p N ↔ PRep C H' p N := fun p hp np N => by
    cases p with
    | inl p => exact ⟨fun r => Rep.chg hu h h' hn r, fun r => back r⟩
    | inr q =>
      obtain ⟨b, od, w⟩ := q
      have hb : b ≠ a := fun z => np od w (by rw [z])
      show (H b = _ ∧ _) ↔ (H' b = _ ∧ _)
      rw [hn b hb]
  refine ⟨by rw [hl]; exact E.len, fun i o d e => ?_, fun p hp => ?_, hk, fun b e => ?_⟩
  · obtain ⟨o', e', ho⟩ := hρ i o d e
    obtain ⟨v, M, e1, r, ow, lo, io⟩ := E.at_ i o' d e'
    refine ⟨v, M, e1, r.chg hu h h' hn, fun hw => ?_, fun q => ?_, fun q => ?_, fun q => ?_⟩
    · have : o = o' := by
        rcases ho with ho | ho | ho
        · exact ho.1
        · subst ho; cases hw
        · rw [ho.1] at hw; cases hw
      subst this
      obtain ⟨q1, q2, q3, q4⟩ := ow hw
      have na := own_a i o d v M e hw e1 r
      refine ⟨q1, fun b m => by rw [hn b fun z => na (z ▸ m)]; exact q2 b m, fun j oj dj w N hj ej sj rj => ?_, fun p hp N rp => ?_⟩
      · obtain ⟨oj', ej', _⟩ := hρ j oj dj ej
        exact q3 j oj' dj w N hj ej' sj (back rj)
      · rcases hP p hp with ⟨m, np⟩ | ⟨od, rfl, _⟩
        · exact q4 p m N ((keepP p m np N).mpr rp)
        · rw [rp.2]
          exact fun b _ nb => nomatch nb
    · rcases ho with ho | ho | ho
      · rw [ho.1] at q; exact lo q
      · subst ho; cases q
      · rw [ho.1] at q; cases q
    · rcases ho with ho | ho | ho
      · rw [ho.1] at q; exact io.1 q
      · subst ho; cases q
      · rw [ho.1] at q; cases q
    · rcases ho with ho | ho | ho
      · exact absurd q ho.2
      · subst ho; cases q
      · obtain ⟨_, od, ea, m⟩ := ho
        rw [e1] at ea
        cases ea
        exact ⟨a, od, u, rfl, m⟩
  · rcases hP p hp with ⟨m, np⟩ | ⟨od, rfl, q⟩
    · obtain ⟨N, r⟩ := E.prot p m
      exact ⟨N, (keepP p m np N).mp r⟩
    · exact ⟨[], q, rfl⟩
  · refine E.keptd b ?_
    by_cases z : b = a
    · subst z
      rcases h' with q | ⟨_, q⟩ <;> rw [e] at q <;> cases q
    · rw [← hn b z]; exact e
/-- no slot is locked -/
def unlkE (ρ : Env) : Env := ρ.map fun s => s.map fun p => (match p.1 with | .lk => .sh | o => o, p.2)
theorem unlkE_get {i : Nat} {o : Ow} {d : D} (e : (unlkE ρ)[i]? = some (some (o, d))) : ∃ o', ρ[i]? = some (some (o', d)) ∧ ((o = o' ∧ o ≠ .lk) ∨ o = .sh) := by
  unfold unlkE at e
  rw [List.getElem?_map] at e
  cases q : ρ[i]? with
  | none => rw [q] at e; cases e
  | some s =>
    rw [q] at e
    cases s with
    | none => cases e
    | some p =>
      obtain ⟨o', d'⟩ := p
      cases o' <;> cases e
      · exact ⟨_, rfl, .inr rfl⟩
      · exact ⟨_, rfl, .inl ⟨rfl, fun z => by cases z⟩⟩
      · exact ⟨_, rfl, .inl ⟨rfl, fun z => by cases z⟩⟩
      · exact ⟨_, rfl, .inr rfl⟩
theorem unlkE_len : (unlkE ρ).length = ρ.length := by unfold unlkE; rw [List.length_map]
theorem dict_rd {d : D} {v : V} {M : List Addr} (r : Rep C H d v M) (e : isDictD d = true) : ∃ a u, v = .ref a ∧ isDk u = true ∧ Rd H a u ∧ a ∈ M := by
  cases d <;> first | (cases e; done) | skip
  · obtain ⟨b, vs, M', e, q, k, z, rl, w⟩ := r
    exact ⟨b, _, e, rfl, q, by rw [w]; exact List.mem_cons_self⟩
  · obtain ⟨b, vs, M', e, q, k, z, rl, w⟩ := r
    exact ⟨b, _, e, rfl, q, by rw [w]; exact List.mem_cons_self⟩
theorem not_dk {w : HO} {od : Obj} (h : isDk (.frz od w) = true) : False := by cases h
/-- into the locked part -/
theorem EnvOk.enter {i : Nat} {o : Ow} {d : D} {M : List Addr} {od : Obj} (E : EnvOk C P H σ ρ) (ei : ρ[i]? = some (some (o, d))) (ea : σ[i]? = some (some (.ref a))) (r : Rep C H d (.ref a) M) (am : a ∈ M) (hu : isDk u = true) (h : Rd H a u)
    (h' : H' a = some (.frz od u)) (hn : ∀ b, b ≠ a → H' b = H b) (same : ∀ od', H a = some (.frz od' u) → od' = od) : EnvOk C (Sum.inr (a, od, u) :: P) H' σ ((unlkE ρ).set i (some (.lk, d))) := by
  refine E.chg hu h (.inr ⟨od, h'⟩) hn (by rw [List.length_set, unlkE_len]) (fun j oj dj e => ?_) (fun j oj dj v N e ow ev rv na => ?_) (fun p hp => ?_) fun b w e n => ?_
  · rcases set_get e with ⟨rfl, e, _⟩ | ⟨_, e⟩
    · cases e
      exact ⟨o, ei, .inr (.inr ⟨rfl, od, ea, List.mem_cons_self⟩)⟩
    · obtain ⟨o', e', q⟩ := unlkE_get e
      exact ⟨o', e', q.imp id .inl⟩
  · rcases set_get e with ⟨rfl, e, _⟩ | ⟨hj, e⟩
    · cases e; cases ow
    · obtain ⟨o', e', q⟩ := unlkE_get e
      have : oj = o' := by
        rcases q with q | q
        · exact q.1
        · subst q; cases ow
      subst this
      obtain ⟨v', N', e1, r', own, _⟩ := E.at_ j oj dj e'
      rw [ev] at e1; cases e1
      rw [r'.uniq rv] at own
      exact (own ow).2.2.1 i o d _ M (Ne.symm hj) ei ea r a na am
  · rcases List.mem_cons.mp hp with rfl | m
    · exact .inr ⟨od, rfl, h'⟩
    · cases p with
      | inl p => exact .inl ⟨m, fun _ _ z => by cases z⟩
      | inr q =>
        obtain ⟨b, od', w⟩ := q
        by_cases hb : b = a
        · subst hb
          obtain ⟨N, r0⟩ := E.prot _ m
          have r1 : H b = some (.frz od' w) := r0.1
          rcases h with h | ⟨od2, h⟩
          · rw [r1] at h; cases h; exact (not_dk hu).elim
          · rw [r1] at h; cases h
            obtain rfl := same _ r1
            exact .inr ⟨od', rfl, h'⟩
        · exact .inl ⟨m, fun _ _ z => by cases z; exact hb rfl⟩
  · rcases E.kept b w e n with q | ⟨od', m⟩
    · by_cases hb : b = a
      · subst hb
        rcases h with h | ⟨od2, h⟩
        · rw [q] at h; cases h
          exact .inr ⟨od, List.mem_cons_self⟩
        · rw [q] at h; cases h
          obtain rfl := same _ q
          exact .inl h'
      · rw [hn b hb]; exact .inl q
    · exact .inr ⟨od', List.mem_cons_of_mem _ m⟩
/-- out of it -/
theorem EnvOk.leave {H0 : Hp} {σ0 : St} {ρ0 : Env} {od : Obj} (E0 : EnvOk C P H0 σ0 ρ0) (hu : isDk u = true) (h0 : H0 a = some u) (E : EnvOk C (Sum.inr (a, od, u) :: P) H σ ρ) (h : H a = some (.frz od u)) : EnvOk C P (upd H a u) σ (unlkE ρ) := by
  have nolk : ∀ od w, Sum.inr (a, od, w) ∉ P := fun od' w m => by
    obtain ⟨N, r0⟩ := E0.prot _ m
    have r1 : H0 a = some (.frz od' w) := r0.1
    rw [h0] at r1; cases r1; exact not_dk hu
  refine E.chg hu (.inr ⟨od, h⟩) (.inl upd_same) (fun b z => upd_ne z) unlkE_len (fun j oj dj e => ?_) (fun j oj dj v N e ow ev rv na => ?_) (fun p hp => ?_) fun b w e n => ?_
  · obtain ⟨o', e', q⟩ := unlkE_get e
    exact ⟨o', e', q.imp id .inl⟩
  · obtain ⟨o', e', q⟩ := unlkE_get e
    have : oj = o' := by
      rcases q with q | q
      · exact q.1
      · subst q; cases ow
    subst this
    obtain ⟨v', N', e1, r', own, _⟩ := E.at_ j oj dj e'
    rw [ev] at e1; cases e1
    rw [r'.uniq rv] at own
    have m := (own ow).2.1 a na
    rw [h] at m
    exact m
  · exact .inl ⟨List.mem_cons_of_mem _ hp, fun od' w z => nolk od' w (z ▸ hp)⟩
  · by_cases hb : b = a
    · subst hb
      rcases E0.kept b w e n with q | ⟨od', m⟩
      · rw [h0] at q; cases q; exact .inl upd_same
      · exact absurd m (nolk _ _)
    · rw [upd_ne hb]
      rcases E.kept b w e n with q | ⟨od', m⟩
      · exact .inl q
      · rcases List.mem_cons.mp m with z | m
        · cases z; exact absurd rfl hb
        · exact .inr ⟨od', m⟩
/-- out of it, when it was locked ahead already -/
theorem EnvOk.leave2 {H0 : Hp} {σ0 : St} {ρ0 : Env} {od : Obj} (E0 : EnvOk C P H0 σ0 ρ0) (hu : isDk u = true) (h0 : H0 a = some (.frz od u)) (E : EnvOk C (Sum.inr (a, od, u) :: P) H σ ρ) : EnvOk C P H σ (unlkE ρ) := by
  have h : H a = some (.frz od u) := by
    obtain ⟨N, r⟩ := E.prot _ List.mem_cons_self
    exact r.1
  refine E.chg hu (.inr ⟨od, h⟩) (.inr ⟨od, h⟩) (fun b z => rfl) unlkE_len (fun j oj dj e => ?_) (fun j oj dj v N e ow ev rv na => ?_) (fun p hp => ?_) fun b w e n => ?_
  · obtain ⟨o', e', q⟩ := unlkE_get e
    exact ⟨o', e', q.imp id .inl⟩
  · obtain ⟨o', e', q⟩ := unlkE_get e
    have : oj = o' := by
      rcases q with q | q
      · exact q.1
      · subst q; cases ow
    subst this
    obtain ⟨v', N', e1, r', own, _⟩ := E.at_ j oj dj e'
    rw [ev] at e1; cases e1
    rw [r'.uniq rv] at own
    have m := (own ow).2.1 a na
    rw [h] at m
    exact m
  · cases p with
    | inl p => exact .inl ⟨List.mem_cons_of_mem _ hp, fun _ _ z => by cases z⟩
    | inr q =>
      obtain ⟨b, od', w⟩ := q
      by_cases hb : b = a
      · subst hb
        obtain ⟨N, r0⟩ := E.prot _ (List.mem_cons_of_mem _ hp)
        have r1 : H b = some (.frz od' w) := r0.1
        rw [h] at r1; cases r1
        exact .inr ⟨od, rfl, h⟩
      · exact .inl ⟨List.mem_cons_of_mem _ hp, fun _ _ z => by cases z; exact hb rfl⟩
  · rcases E.kept b w e n with q | ⟨od', m⟩
    · exact .inl q
    · rcases List.mem_cons.mp m with z | m
      · cases z
        rcases E0.kept _ _ e n with q | ⟨od2, m⟩
        · rw [h0] at q; cases q
        · exact .inr ⟨od2, m⟩
      · exact .inr ⟨od', m⟩
end

/-! ### statements, expressions that walk a dict -/
def unlkEnds (DD : EndsD) : EndsD := { nx := fun ρ => DD.nx (unlkE ρ), rt := fun d ρ => DD.rt d (unlkE ρ), bk := fun ρ => DD.bk (unlkE ρ), ct := fun ρ => DD.ct (unlkE ρ) }
def dLock (i : Nat) (t : TD) : TD := fun DD ρ => match ρ[i]? with
  | some (some (_, d)) => isDictD d = true ∧ t (unlkEnds DD) ((unlkE ρ).set i (some (.lk, d)))
  | _ => False
section
variable {R : Nat} {C : Ctx} {X : Cx} {W : WX} {tg e : Expr} {es : List Expr} {pos p : Pos} {st : Stmt} {t : TD}
theorem _root_.L2.PS.or {t1 t2 : TS} (h1 : PS X st t1) (h2 : PS X st t2) : PS X st (fun D σ H => t1 D σ H ∨ t2 D σ H) := ⟨fun pins s σ H D I h => h.elim (h1.run pins s σ H D I) (h2.run pins s σ H D I)⟩
theorem _root_.L2.PE.or {t1 t2 : TE} (h1 : PE X e t1) (h2 : PE X e t2) : PE X e (fun σ H Q => t1 σ H Q ∨ t2 σ H Q) := ⟨fun pins s σ H Q I h => h.elim (h1.run pins s σ H Q I) (h2.run pins s σ H Q I)⟩
theorem upd_back {H : Hp} {a : Addr} {u : HO} {od : Obj} : ∀ b, b ≠ a → upd H a (.frz od u) b = H b := fun b z => upd_ne z
theorem ds_lock (i : Nat) (h : PS X st (RS C W t)) : PS X st (RS C W (dLock i t)) :=
  ((ps_lock h).or h).imp fun D σ H ⟨ρ, P, DD, E, I, hh⟩ => by
    unfold dLock at hh
    split at hh
    · rename_i o d ei
      obtain ⟨hd, hh⟩ := hh
      obtain ⟨v, M, ev, r, _⟩ := E.at_ i o d ei
      obtain ⟨a, u, rfl, hu, hr, am⟩ := dict_rd r hd
      rcases id hr with h0 | ⟨od, h0⟩
      · refine .inl ⟨a, u, h0, (by cases u <;> first | trivial | cases hu), fun od => ⟨_, _, unlkEnds DD, E.enter (od := od) ei ev r am hu hr upd_same upd_back (fun od' z => by rw [h0] at z; cases z), ⟨?_, ?_, ?_, ?_, fun _ _ _ _ _ z => z.elim⟩, hh⟩⟩
        · intro σ1 H1 ρ1 E1 z
          obtain ⟨N, q⟩ := E1.prot _ List.mem_cons_self
          exact ⟨q.1, I.nx _ _ _ (E.leave hu h0 E1 q.1) z⟩
        · intro σ1 H1 ρ1 d1 v1 M1 E1 r1 nd nw mu z
          obtain ⟨N, q⟩ := E1.prot _ List.mem_cons_self
          have q1 : H1 a = some (.frz od u) := q.1
          refine ⟨q1, I.rt _ _ _ _ _ _ (E.leave hu h0 E1 q1) (r1.chg hu (.inr ⟨od, q1⟩) (.inl upd_same) fun b z => upd_ne z) nd nw (fun b m => ?_) z⟩
          by_cases hb : b = a
          · subst hb; rw [upd_same]; cases u <;> first | trivial | cases hu
          · rw [upd_ne hb]; exact mu b m
        · intro σ1 H1 ρ1 E1 z
          obtain ⟨N, q⟩ := E1.prot _ List.mem_cons_self
          exact ⟨q.1, I.bk _ _ _ (E.leave hu h0 E1 q.1) z⟩
        · intro σ1 H1 ρ1 E1 z
          obtain ⟨N, q⟩ := E1.prot _ List.mem_cons_self
          exact ⟨q.1, I.ct _ _ _ (E.leave hu h0 E1 q.1) z⟩
      · refine .inr ⟨_, _, unlkEnds DD, E.enter (od := od) ei ev r am hu hr h0 (fun _ _ => rfl) (fun od' z => by rw [h0] at z; cases z; rfl), ⟨?_, ?_, ?_, ?_, fun _ _ _ _ _ z => z.elim⟩, hh⟩
        · exact fun σ1 H1 ρ1 E1 z => I.nx _ _ _ (E.leave2 hu h0 E1) z
        · exact fun σ1 H1 ρ1 d1 v1 M1 E1 r1 nd nw mu z => I.rt _ _ _ _ _ _ (E.leave2 hu h0 E1) r1 nd nw mu z
        · exact fun σ1 H1 ρ1 E1 z => I.bk _ _ _ (E.leave2 hu h0 E1) z
        · exact fun σ1 H1 ρ1 E1 z => I.ct _ _ _ (E.leave2 hu h0 E1) z
    · exact hh.elim
/-- an expression that walks a dict: its value is new -/
def lockF (i : Nat) (f : Env → Res FD) : Env → Res FD := fun ρ => match ρ[i]? with
  | some (some (_, d)) => if isDictD d = true then match f ((unlkE ρ).set i (some (.lk, d))) with
    | .ok (.fr, y) => .ok (.fr, y)
    | _ => .bad
    else .bad
  | _ => .bad
theorem lockF_ok {i : Nat} {f : Env → Res FD} {ρ : Env} {o : Ow} {d : D} (ei : ρ[i]? = some (some (o, d))) : lockF i f ρ = if isDictD d = true then match f ((unlkE ρ).set i (some (.lk, d))) with
    | .ok (.fr, y) => .ok (.fr, y)
    | _ => .bad
    else .bad := by
  unfold lockF
  rw [ei]
theorem pd_lock (i : Nat) {f : Env → Res FD} (h : PE X e (RV C W f)) : PE X e (RV C W (lockF i f)) :=
  ((pe_lock h).or h).imp fun σ H Q ⟨ρ, P, E, hh⟩ => by
    cases ei : ρ[i]? with
    | none => unfold lockF at hh; rw [ei] at hh; exact hh.elim
    | some sl =>
      cases sl with
      | none => unfold lockF at hh; rw [ei] at hh; exact hh.elim
      | some od =>
        obtain ⟨o, d⟩ := od
        rw [lockF_ok ei] at hh
        cases hd : isDictD d with
        | false => rw [hd] at hh; exact hh.elim
        | true =>
          rw [hd] at hh
          simp only [if_true] at hh
          obtain ⟨v, M, ev, r, _⟩ := E.at_ i o d ei
          obtain ⟨a, u, rfl, hu, hr, am⟩ := dict_rd r hd
          cases ef : f ((unlkE ρ).set i (some (.lk, d))) with
          | bad => rw [ef] at hh; exact hh.elim
          | ex c => rw [ef] at hh; exact hh.elim
          | ok y =>
            obtain ⟨fl, y⟩ := y
            rw [ef] at hh
            cases fl <;> first | exact hh.elim | skip
            rcases id hr with h0 | ⟨od, h0⟩
            · refine .inl ⟨a, u, h0, (by cases u <;> first | trivial | cases hu), fun od => ⟨_, _, E.enter (od := od) ei ev r am hu hr upd_same upd_back (fun od' z => by rw [h0] at z; cases z), ?_⟩⟩
              rw [ef]
              intro v1 H1 ⟨s1, N, r1, nd, nw, mu⟩
              have q1 : H1 a = some (.frz od u) := s1 _ _ upd_same
              refine ⟨q1, hh v1 _ ⟨fun b w e => ?_, N, r1.chg hu (.inr ⟨od, q1⟩) (.inl upd_same) fun b z => upd_ne z, nd, fun b m => ?_, fun b m => ?_⟩⟩
              · by_cases hb : b = a
                · subst hb; rw [upd_same, ← e]; exact h0.symm
                · rw [upd_ne hb]; exact s1 _ _ (by rw [upd_ne hb]; exact e)
              · by_cases hb : b = a
                · subst hb
                  have := nw b m
                  rw [upd_same] at this; cases this
                · have := nw b m
                  rw [upd_ne hb] at this; exact this
              · by_cases hb : b = a
                · subst hb; rw [upd_same]; cases u <;> first | trivial | cases hu
                · rw [upd_ne hb]; exact mu b m
            · refine .inr ⟨_, _, E.enter (od := od) ei ev r am hu hr h0 (fun _ _ => rfl) (fun od' z => by rw [h0] at z; cases z; rfl), ?_⟩
              rw [ef]
              exact fun v1 H1 ⟨s1, N, r1, nd, nw, mu⟩ => hh v1 H1 ⟨s1, N, r1, nd, nw, mu⟩
/-- the keys of the dict in a locked slot -/
def keysDk : D → Option (List D)
  | .dK ks _ => some (ks.map kD)
  | .dT ks _ => if ks.all (fun k => decide (k.length ≤ sizeLine)) = true then some (ks.map fun k => .tup (k.map kD)) else none
  | _ => none
def keysI (i : Nat) : Env → Res ID := fun ρ => match ρ[i]? with
  | some (some (.lk, d)) => match keysDk d with
    | some ks => .ok ([], ks)
    | none => .bad
  | _ => .bad
theorem itok_keys (a : Addr) (od : Obj) (kvs : List (Key × V)) : ItOk C (Itk a od kvs) ((kvs.map (·.1)).map kD) [Sum.inr (a, od, .dK kvs)] := by
  intro i H hp
  obtain ⟨N, q⟩ := hp _ (List.mem_singleton.mpr rfl)
  have q1 : H a = some (.frz od (.dK kvs)) := q.1
  refine ⟨fun d e => ?_, fun hl => ⟨q1, by simpa using hl⟩⟩
  rw [List.map_map, List.getElem?_map] at e
  cases ek : kvs[i]? with
  | none => rw [ek] at e; cases e
  | some kv =>
    rw [ek] at e
    cases e
    refine ⟨⟨q1, (List.getElem?_eq_some_iff.mp ek).1⟩, fun x H' ⟨eH, k, v, e2, ex⟩ => ?_⟩
    subst eH ex
    rw [ek] at e2
    cases e2
    refine ⟨Same.refl _, [], ?_, fun b m => nomatch m⟩
    cases k <;> exact ⟨rfl, rfl⟩
theorem itok_keysT (a : Addr) (od : Obj) (kvs : List (List Key × V)) (hz : (kvs.map (·.1)).all (fun k => decide (k.length ≤ sizeLine)) = true) : ItOk C (Itkt a od kvs) ((kvs.map (·.1)).map fun k => .tup (k.map kD)) [Sum.inr (a, od, .dT kvs)] := by
  intro i H hp
  obtain ⟨N, q⟩ := hp _ (List.mem_singleton.mpr rfl)
  have q1 : H a = some (.frz od (.dT kvs)) := q.1
  refine ⟨fun d e => ?_, fun hl => ⟨q1, by simpa using hl⟩⟩
  rw [List.map_map, List.getElem?_map] at e
  cases ek : kvs[i]? with
  | none => rw [ek] at e; cases e
  | some kv =>
    rw [ek] at e
    cases e
    refine ⟨⟨q1, (List.getElem?_eq_some_iff.mp ek).1⟩, fun x H' ⟨eH, k, v, qa, e2, ex, eq⟩ => ?_⟩
    subst eH ex
    rw [ek] at e2
    cases e2
    refine ⟨Same.refl _, [], ⟨qa, _, rfl, eq, ?_, repK k⟩, fun b m => nomatch m⟩
    rw [List.length_map]
    exact of_decide_eq_true (List.all_eq_true.mp hz k (List.mem_map.mpr ⟨_, List.mem_of_getElem? ek, rfl⟩))
theorem ri_keys {i : Nat} {σ : St} {H : Hp} {R : It → Hp → Prop} (hh : RI C W (keysI i) σ H R) : iKeys (tVar i) σ H R := by
  obtain ⟨ρ, P, E, hh⟩ := hh
  unfold keysI at hh
  cases ei : ρ[i]? with
  | none => rw [ei] at hh; exact hh.elim
  | some sl =>
    cases sl with
    | none => rw [ei] at hh; exact hh.elim
    | some q =>
      obtain ⟨o, d⟩ := q
      rw [ei] at hh
      cases o <;> first | exact hh.elim | skip
      dsimp only at hh
      obtain ⟨v, M, ev, r, _, _, _, lk⟩ := E.at_ i .lk d ei
      obtain ⟨a, od, u, rfl, m⟩ := lk rfl
      obtain ⟨N, q⟩ := E.prot _ m
      have q1 : H a = some (.frz od u) := q.1
      refine ⟨_, ev, a, od, rfl, ?_⟩
      cases d <;> first | exact hh.elim | skip
      · obtain ⟨b, kvs, M', e, e1, rfl, z, rl, w⟩ := r
        cases e
        have : u = .dK kvs := by
          rcases e1 with e1 | ⟨o, e1⟩ <;> rw [q1] at e1 <;> cases e1
          rfl
        subst this
        exact .inl ⟨kvs, q1, hh _ H [] [_] (Same.refl H) rfl (fun p mp => by rw [List.mem_singleton.mp mp]; exact ⟨m, _, rfl⟩) (itok_keys a od kvs)⟩
      · obtain ⟨b, kvs, M', e, e1, rfl, z, rl, w⟩ := r
        cases e
        have : u = .dT kvs := by
          rcases e1 with e1 | ⟨o, e1⟩ <;> rw [q1] at e1 <;> cases e1
          rfl
        subst this
        unfold keysDk at hh
        dsimp only at hh
        by_cases hz : (kvs.map (·.1)).all (fun k => decide (k.length ≤ sizeLine)) = true
        · rw [if_pos hz] at hh
          exact .inr ⟨kvs, q1, hh _ H [] [_] (Same.refl H) rfl (fun p mp => by rw [List.mem_singleton.mp mp]; exact ⟨m, _, rfl⟩) (itok_keysT a od kvs hz)⟩
        · rw [if_neg hz] at hh; exact hh.elim
theorem di_keys (i : Nat) {x : Str} (hN : X.N[i]? = some x := by rfl) (hv : Vis X.env.scope x := by first | exact Or.inl rfl | exact Or.inr (Or.inl rfl) | exact Or.inr (Or.inr rfl)) (hd : (x == ("__debug__" : Str)) = false := by decide)
    (hcd : (x == ("__classdict__" : Str)) = false := by decide) : PI X tg (.Name x pos) (RI C W (keysI i)) := (pi_keys (pv i hN hv hd hcd)).imp fun _ _ _ => ri_keys
/-- the slot is shared again -/
def shE (i : Nat) (ρ : Env) : Env := match ρ[i]? with
  | some (some (_, d)) => ρ.set i (some (.sh, d))
  | _ => ρ
theorem shE_ok {C : Ctx} {P : List Pt} {H : Hp} {σ : St} {ρ : Env} {i : Nat} (E : EnvOk C P H σ ρ) : EnvOk C P H σ (shE i ρ) := by
  unfold shE
  split
  · rename_i o d ei
    refine E.weak (by rw [List.length_set]; exact E.len) fun j oj dj e => ?_
    rcases set_get e with ⟨rfl, e, _⟩ | ⟨_, e⟩
    · cases e; exact ⟨o, ei, .inr rfl, rfl⟩
    · exact ⟨oj, e, .inl rfl, rfl⟩
  · exact E
def dForK (i : Nat) (t : Tg) (tb : TD) : TD := dLock i (dForW (shE i) (keysI i) t tb)
/-- for x in d, d a name -/
theorem ds_forK (i : Nat) {x : Str} {px : Pos} {body : List Stmt} {t : Tg} {tb : TD} (F : Fx R C X W) (hg : PG X tg (gOf X.K t)) (hb : PSs X body (RS C W tb)) (hN : X.N[i]? = some x := by rfl) (hv : Vis X.env.scope x := by first | exact Or.inl rfl | exact Or.inr (Or.inl rfl) | exact Or.inr (Or.inr rfl))
    (hd : (x == ("__debug__" : Str)) = false := by decide) (hcd : (x == ("__classdict__" : Str)) = false := by decide) (hs : ∀ y, foldedSetIterable (.Name x px) X.env y = pure y := by exact fun _ => rfl) : PS X (.For tg (.Name x px) body [] pos) (RS C W (dForK i t tb)) :=
  ds_lock i (ds_forW (wk := shE i) shE_ok F (di_keys i hN hv hd hcd) hg hb hs)
end
end DL
/-! DL16: len(set(xs)), sorted(set(xs)). -/
namespace DL
open PySem PySem.Spec PyProof.Rows L2

/-- each key once -/
def dedupK : List Key → List Key
  | [] => []
  | k :: ks => if inK ks k = true then dedupK ks else k :: dedupK ks
theorem inK_iff {ks : List Key} {k : Key} : inK ks k = true ↔ k ∈ ks := by
  unfold inK
  rw [List.any_eq_true]
  exact ⟨fun ⟨x, m, e⟩ => of_decide_eq_true e ▸ m, fun m => ⟨k, m, decide_eq_true rfl⟩⟩
theorem dedup_mem {k : Key} : ∀ {ks : List Key}, k ∈ dedupK ks ↔ k ∈ ks
  | [] => Iff.rfl
  | q :: ks => by
    unfold dedupK
    by_cases h : inK ks q = true
    · rw [if_pos h, dedup_mem, List.mem_cons]
      exact ⟨.inr, fun z => z.elim (fun z => z ▸ inK_iff.mp h) id⟩
    · rw [if_neg h, List.mem_cons, List.mem_cons, dedup_mem]
theorem dedup_nodup : ∀ ks : List Key, (dedupK ks).Nodup
  | [] => List.nodup_nil
  | q :: ks => by
    unfold dedupK
    by_cases h : inK ks q = true
    · rw [if_pos h]; exact dedup_nodup ks
    · rw [if_neg h]
      exact List.nodup_cons.mpr ⟨fun z => h (inK_iff.mpr (dedup_mem.mp z)), dedup_nodup ks⟩
theorem dedup_len : ∀ ks : List Key, (dedupK ks).length ≤ ks.length
  | [] => Nat.le_refl _
  | q :: ks => by
    unfold dedupK
    have := dedup_len ks
    by_cases h : inK ks q = true
    · rw [if_pos h, List.length_cons]; omega
    · rw [if_neg h, List.length_cons, List.length_cons]; omega
theorem kset_keys {P : Program} {w : World} {h : Heap} {a : Addr} {ks : List Key} {c : Nat} (R : KSet P w h a (inK ks) c) : ∃ o es ep t, h.get? a = some o ∧ o.ExactSet ∧ o.data = .set es ep t ∧ (∀ e ∈ es.toList, GoodK P w e) ∧ (es.toList.map kk).Perm (dedupK ks) ∧
    (es.size < scanBound ∧ es.size = (dedupK ks).length) ∧ t.fits es.size = true ∧ Ris t.place.toList ∧ (w.params.followText "set-order" = true ∨ t.led = true) := by
  obtain ⟨o, es, ep, t, e, x, d, ⟨g, nd, m⟩, ⟨s1, s2⟩, f, r⟩ := R
  have pm : (es.toList.map kk).Perm (dedupK ks) := (List.perm_ext_iff_of_nodup nd (dedup_nodup ks)).mpr fun k => by rw [← m k, inK_iff, dedup_mem]
  refine ⟨o, es, ep, t, e, x, d, g, pm, ⟨s1, ?_⟩, f, r⟩
  have := pm.length_eq
  simpa using this

/-- a builtin of set(xs) -/
def tOverSet (K : PySem.W.Frag) (ta : TE) (r : List Key → Hp → VK → Prop) : TE := fun σ H Q => ta σ H fun x H1 => ∃ l ks, x = .ref l ∧ (SqL K H1 l (ks.map kV) ∨ SqT K H1 l (ks.map kV)) ∧ ks.length + 1 < scanBound ∧ r ks H1 Q
def OverSet (X : Cx) (id : String) (r : List Key → Hp → VK → Prop) : Prop := ∀ (pins : List (Addr × Obj)) (s : Shared) (σ : L2.St) (H : Hp) (a : Addr) (ks : List Key) (c : Nat) (Q : VK), L2.Inv X pins σ H s → KSet X.prog X.w s.heap a (inK ks) c → r ks H Q →
  wpAny (model X.prog X.w) X.A (call (.builtin id) [.ref a]) (EP X pins σ Q) X.xe s
theorem keys_vals {P : Program} {w : World} : ∀ {ks : List Key} {us : List Value}, Vals (ks.map kV) us → ∀ (i : Nat) (v : Value), us[i]? = some v → ∃ k, ks[i]? = some k ∧ (mixKind P w).is k v = true
  | [], _, .nil, i, v, e => by simp at e
  | k :: ks, _, .cons r t, 0, v, e => by
    simp at e
    subst e
    exact ⟨k, rfl, kV_is r⟩
  | k :: ks, _, .cons r t, i + 1, v, e => by
    simp at e
    obtain ⟨q, e1, e2⟩ := keys_vals t i v e
    exact ⟨q, by simpa using e1, e2⟩
section
variable {X : Cx} {R : Nat} {C : Ctx} {W : WX} {a : Expr} {f : Env → Res FD} {p p2 q pos : Pos}
theorem pe_overSet {id : String} {x : Str} {r : List Key → Hp → VK → Prop} {ta : TE} (ho : OverSet X id r) (calm : X.calm = true) (hg : Gl X x) (hm : X.mg x = none) (hb : bootBuiltins x = some (.builtin id)) (hg2 : Gl X "set") (hm2 : X.mg "set" = none) (ha : PE X a ta)
    (hn : x ≠ "__name__" := by decide) (hd : (x == ("__debug__" : Str)) = false := by decide) (na : starEach [a] X.env = (false, eval a X.env) :: starEach [] X.env := by rfl) : PE X (.Call (.Name x p) [.Call (.Name "set" p2) [a] [] q] [] pos) (tOverSet X.K ta r) := by
  refine ⟨fun pins s σ H Q I h => ?_⟩
  refine Call_ (ld_blt (hn := hn) (hd := hd) I hg hm hb (callWith_builtin1 (args_cons ?_ rfl) rfl rfl))
  refine Call_ (ld_blt I hg2 hm2 boot_set (callWith_type1 (args_cons (thn (ha.run pins s σ H _ I h) fun v s1 ⟨x, H1, I1, r1, q1⟩ => args_nil ?_) na) na rfl))
  obtain ⟨l, ks, rfl, sq, few, q1⟩ := q1
  cases r1
  have fin : ∀ (h' : Heap) (tk c : Nat), KSet X.prog X.w h' s1.heap.objs.size (fun j => inK ks j) c → (∀ b o, s1.heap.get? b = some o → h'.get? b = some o) →
      wpAny (model X.prog X.w) X.A (spliced (backTo pos (starEach [] X.env))) (fun vs s₂ => wpAny (model X.prog X.w) X.A (call (.builtin id) (Value.ref s1.heap.objs.size :: vs)) (EP X pins σ Q) X.xe s₂) X.xe { s1 with heap := h', toks := tk } := fun h' tk c set k => by
    refine args_nil ?_
    exact ho pins _ σ H1 _ ks c Q (I1.kept k) set q1
  rcases sq with sq | sq
  · obtain ⟨its, rv, pl, _⟩ := I1.list sq
    have hl := rv.length
    rw [List.length_map] at hl
    exact call_ksetlist ks (I1.ok.hd calm) pl.isList (by rw [List.size_toArray]; exact hl.symm) few (fun i v e => keys_vals rv i v (by simpa using e)) fin
  · obtain ⟨its, rv, pl, _⟩ := I1.tuple sq
    have hl := rv.length
    rw [List.length_map] at hl
    exact call_ksettuple ks (I1.ok.hd calm) pl (by rw [List.size_toArray]; exact hl.symm) few (fun i v e => keys_vals rv i v (by simpa using e)) fin
def onKeys (k : List Key → Option D) : FD → Res FD := fun x => match itemsD x.2 with
  | some ds => match keysOf ds with
    | some ks => if ks.length + 1 < scanBound then match k ks with
      | some d => .ok (.fr, d)
      | none => .bad
      else .bad
    | none => .bad
  | none => .bad
theorem onKeys_nx {k : List Key → Option D} : ∀ x c, onKeys k x ≠ .ex c := fun x c e => by
  unfold onKeys at e
  repeat' (first | cases e | split at e)
theorem rv_overSet {r : List Key → Hp → VK → Prop} {k : List Key → Option D} (hr : ∀ ks d H Q, k ks = some d → (∀ v H', New C H H' d v → Q v H') → r ks H Q) {K : PySem.W.Frag} {σ : L2.St} {H : Hp} {Q : VK}
    (h : RV C W (bind1 f (onKeys k)) σ H Q) : tOverSet K (RV C W f) r σ H Q := by
  refine rv1 (r := fun x H1 Q => ∃ l ks, x = .ref l ∧ (SqL K H1 l (ks.map kV) ∨ SqT K H1 l (ks.map kV)) ∧ ks.length + 1 < scanBound ∧ r ks H1 Q) ?_ onKeys_nx h
  intro H x fx M Q z rx e ⟨q, _⟩
  unfold onKeys at e
  split at e
  · rename_i ds ei
    split at e
    · rename_i ks ek
      split at e
      · rename_i few
        split at e
        · rename_i d ed
          cases e
          obtain ⟨l, vs, N, rfl, sq, rl, _, _⟩ := seq_rep K rx ei
          rw [keys_rep rl ek] at sq
          exact ⟨l, ks, rfl, sq, few, hr ks d H Q ed fun v H' n => q v H' n rfl⟩
        · cases e
      · cases e
    · cases e
  · cases e
def overSetF (k : List Key → Option D) (f : Env → Res FD) : Env → Res FD := bind1 f (onKeys k)
def lenSetF (f : Env → Res FD) : Env → Res FD := overSetF (fun ks => some (.int (dedupK ks).length)) f
theorem os_len : OverSet X "len" (fun ks H Q => Q (.int (dedupK ks).length) H) := by
  intro pins s σ H a ks c Q I set h
  obtain ⟨o, es, ep, t, e, x, d, g, pm, ⟨s1, s2⟩, ft, _⟩ := kset_keys set
  exact call_len_set e x d ft (by have : scanBound = 4096 := rfl; omega) ⟨.int (dedupK ks).length, H, I.tok _, ⟨_, by rw [s2]⟩, h⟩
theorem pd_lenSet (F : Fx R C X W) (hg : Gl X "len") (hm : X.mg "len" = none) (hg2 : Gl X "set") (hm2 : X.mg "set" = none) (ha : PE X a (RV C W f)) (na : starEach [a] X.env = (false, eval a X.env) :: starEach [] X.env := by rfl) :
    PE X (.Call (.Name "len" p) [.Call (.Name "set" p2) [a] [] q] [] pos) (RV C W (lenSetF f)) :=
  (pe_overSet os_len F.calm hg hm boot_len hg2 hm2 ha (by decide) (by decide) na).imp fun σ H Q h => rv_overSet (k := fun ks => some (.int (dedupK ks).length)) (fun ks d H Q e i => by cases e; exact i _ H int_new) h

/-- all ints, or all texts -/
def oneKind (ks : List Key) : Bool := (ks.all fun k => match k with | .inl _ => true | _ => false) || ks.all fun k => match k with | .inr _ => true | _ => false
def sortSetF (f : Env → Res FD) : Env → Res FD := overSetF (fun ks => if oneKind ks = true then some (.lst (sortD ((dedupK ks).map kD))) else none) f
theorem each_keys {h : Heap} : ∀ {l : List Value}, (∀ v ∈ l, ∃ k, keyIs k v = true) → PySem.W.EachIs (fun u k => RelV (kV k) u) l (l.map kkV) ∧ ∀ b, PySem.W.EachIs (fun u k => ∃ as, Reads h u (toP (kD k)) as ∧ b ∉ as) l (l.map kkV)
  | [], _ => ⟨.nil, fun _ => .nil⟩
  | v :: l, g => by
    obtain ⟨h1, h2⟩ := each_keys (h := h) fun x m => g x (List.mem_cons_of_mem _ m)
    obtain ⟨k, a⟩ := g v List.mem_cons_self
    rcases keyIs_shape a with ⟨i, t, rfl, rfl⟩ | ⟨x, t, rfl, rfl⟩
    · exact ⟨.cons ⟨t, rfl⟩ h1, fun b => .cons ⟨[], by show Reads h _ (toP (.int i)) []; rw [toP]; exact .int _ _, by simp⟩ (h2 b)⟩
    · exact ⟨.cons ⟨t, rfl⟩ h1, fun b => .cons ⟨[], by show Reads h _ (toP (.str x)) []; rw [toP]; exact .str _ _, by simp⟩ (h2 b)⟩
theorem each_vals : ∀ {us : List Value} {ks : List Key}, PySem.W.EachIs (fun u k => RelV (kV k) u) us ks → Vals (ks.map kV) us
  | _, _, .nil => .nil
  | _, _, .cons h t => .cons h (each_vals t)
theorem oneKind_sub {ks qs : List Key} (p : ∀ q ∈ qs, q ∈ ks) (h : oneKind ks = true) : oneKind qs = true := by
  unfold oneKind at h ⊢
  rw [Bool.or_eq_true] at h ⊢
  rcases h with h | h
  · exact .inl (List.all_eq_true.mpr fun x m => List.all_eq_true.mp h x (p x m))
  · exact .inr (List.all_eq_true.mpr fun x m => List.all_eq_true.mp h x (p x m))
theorem oneKind_alike {ks : List Key} (h : oneKind ks = true) : PySem.W.AllAlike (ks.map fun k => toP (kD k)) ∧ PySem.W.Sortable (ks.map fun k => toP (kD k)) := by
  unfold oneKind at h
  rw [Bool.or_eq_true] at h
  refine ⟨fun x hx y hy => ?_, .inr fun x hx => ?_⟩
  · obtain ⟨q, mq, rfl⟩ := List.mem_map.mp hx
    obtain ⟨r, mr, rfl⟩ := List.mem_map.mp hy
    rcases h with h | h
    all_goals
      have a := List.all_eq_true.mp h q mq
      have b := List.all_eq_true.mp h r mr
      cases q <;> first | (cases a; done) | skip
      cases r <;> first | (cases b; done) | skip
      show PySem.W.alike (toP _) (toP _) = true
      unfold kD
      rw [toP, toP]
      rfl
  · obtain ⟨q, mq, rfl⟩ := List.mem_map.mp hx
    cases q <;> (unfold kD; rw [toP]; exact ⟨(fun z => by cases z), (fun _ z => by cases z)⟩)
theorem sort_keys {ks qs : List Key} (p : qs.Perm (dedupK ks)) (h : oneKind ks = true) : (qs.mergeSort (PySem.W.dataLe false fun k => toP (kD k))).map kD = sortD ((dedupK ks).map kD) := by
  have e := List.map_mergeSort (r := PySem.W.dataLe false fun k => toP (kD k)) (s := leD) (f := kD) (l := qs) (fun _ _ _ _ => rfl)
  rw [e]
  refine sortD_uniq (fun a b ha hb x y => ?_) ((sortD_perm _).trans (p.map kD)) (sortD_pw _)
  obtain ⟨q, mq, rfl⟩ := List.mem_map.mp ha
  obtain ⟨r, mr, rfl⟩ := List.mem_map.mp hb
  unfold oneKind at h
  rw [Bool.or_eq_true] at h
  rcases h with h | h
  · have a := List.all_eq_true.mp h q (dedup_mem.mp mq)
    have b := List.all_eq_true.mp h r (dedup_mem.mp mr)
    cases q <;> first | (cases a; done) | skip
    cases r <;> first | (cases b; done) | skip
    exact congrArg D.int (int_anti x y)
  · have a := List.all_eq_true.mp h q (dedup_mem.mp mq)
    have b := List.all_eq_true.mp h r (dedup_mem.mp mr)
    cases q <;> first | (cases a; done) | skip
    cases r <;> first | (cases b; done) | skip
    exact congrArg D.str (str_anti x y)
theorem os_sorted (F : Fx R C X W) : OverSet X "sorted" (fun ks H Q => oneKind ks = true ∧ ∀ (qs : List Key) (l : Addr), qs.length ≤ sizeLine → qs.map kD = sortD ((dedupK ks).map kD) → H l = none → Q (.ref l) (upd H l (.lst (qs.map kV)))) := by
  intro pins s σ H a ks c Q I set ⟨one, h⟩
  obtain ⟨o, es, ep, t, e, x, d, g, pm, ⟨s1, s2⟩, ft, ri, led⟩ := kset_keys set
  refine Calls.call_function_entry kind_sorted plain_sorted entry_sorted (args_sorted1 _) ?_
  unfold Builtin.«sorted»
  refine wpAny_bind (m := checkCount "sorted" 1 1 _) (wpAny_pure ?_)
  refine wpAny_bind (collect_set (A := X.A.in1) (I.ok.hd F.calm) ⟨o, e, x.1, d⟩ ft s1 ri led fun s' vs k1 hz g1 o1 pv => ?_)
  have pk : (vs.map kkV).Perm (dedupK ks) := by
    have q := pv.map kkV
    rw [List.map_map] at q
    exact q.trans pm
  have hl : vs.length = (dedupK ks).length := by rw [← pk.length_eq, List.length_map]
  have hsz : vs.length ≤ sizeLine := by
    have : scanBound = 4096 := rfl
    rw [hl, ← s2, sizeLine_eq]; omega
  have hk : ∀ v ∈ vs, ∃ k, keyIs k v = true := fun v m => by
    obtain ⟨en, me, rfl⟩ := List.mem_map.mp (pv.mem_iff.mp m)
    obtain ⟨k, a, _⟩ := g en me
    exact ⟨k, a⟩
  refine wpAny_bind (wpAny_newList ?_ hsz)
  have hoL : (s'.heap.push (seqObj "list" vs.toArray 0)).get? s'.heap.objs.size = some (seqObj "list" vs.toArray 0) := Heap.get?_push_size _ rfl
  obtain ⟨e1, e2⟩ := each_keys (h := s'.heap.push (seqObj "list" vs.toArray 0)) hk
  obtain ⟨al, so⟩ := oneKind_alike (oneKind_sub (fun q m => dedup_mem.mp (pk.mem_iff.mp m)) one)
  have hu := F.hu
  refine wpAny_bind (wpAny_holding (PySem.W.list_sort_data (enc := fun k => toP (kD k)) hoL e1 (e2 _) al so (by rw [List.length_map]; exact hsz) (fun k _ => ?_) fun out ho eo => ?_))
  · have : (toP (kD k)).depth ≤ 1 := by
      cases k <;> (unfold kD; rw [toP]; simp [PyData.depth])
    show X.A.in1.units + 1 + _ < cLine
    have e3 : X.A.in1.units = X.A.units + 1 := rfl
    omega
  · obtain ⟨c3, hc3⟩ := sortedHeap_at (vs := vs) (out := out.toArray) hoL
    have pq := (List.mergeSort_perm (vs.map kkV) (PySem.W.dataLe false fun k => toP (kD k)))
    have rv := each_vals eo
    have hn : H s'.heap.objs.size = none := I.hok.fresh hz
    have hlen : ((vs.map kkV).mergeSort (PySem.W.dataLe false fun k => toP (kD k))).length ≤ sizeLine := by rw [pq.length_eq, List.length_map]; exact hsz
    have kept : ∀ b u, s.heap.get? b = some u → (sortedHeap (s'.heap.push (seqObj "list" vs.toArray 0)) s'.heap.objs.size vs out.toArray).get? b = some u := fun b u eb => by
      have q := k1 b u eb
      have lt := Heap.lt_size q
      rw [sortedHeap_old (Nat.ne_of_lt lt) (by rw [size_push']; exact Nat.lt_succ_of_lt lt)]
      exact Heap.get?_push_of_some _ q
    have J : L2.Inv X pins σ (upd H s'.heap.objs.size (.lst (((vs.map kkV).mergeSort (PySem.W.dataLe false fun k => toP (kD k))).map kV))) { s with heap := sortedHeap (s'.heap.push (seqObj "list" vs.toArray 0)) s'.heap.objs.size vs out.toArray, gens := s'.gens, drawn := s'.drawn, toks := s'.toks } :=
      I.call (ch := []) (Un.laid kept hz hn) (I.hok.laid kept hz ⟨by rw [List.length_map]; exact hlen, out, c3, rv, hc3⟩) (by rw [g1]; exact I.bare) (fun _ z => nomatch z)
    obtain ⟨sh, sg, sd, st, sos⟩ := s'
    obtain ⟨th, tg, td, tt, tos⟩ := s
    cases o1
    exact wpAny_pure ⟨_, rfl, .ref sh.objs.size, _, J, rfl, h _ _ hlen (sort_keys pk one) hn⟩
theorem rep_keys {H : Hp} {qs : List Key} : RepL C H (qs.map kD) (qs.map kV) [] := repK qs
theorem pd_sortSet (F : Fx R C X W) (hg : Gl X "sorted") (hm : X.mg "sorted" = none) (hg2 : Gl X "set") (hm2 : X.mg "set" = none) (ha : PE X a (RV C W f)) (na : starEach [a] X.env = (false, eval a X.env) :: starEach [] X.env := by rfl) :
    PE X (.Call (.Name "sorted" p) [.Call (.Name "set" p2) [a] [] q] [] pos) (RV C W (sortSetF f)) :=
  (pe_overSet (os_sorted F) F.calm hg hm boot_sorted hg2 hm2 ha (by decide) (by decide) na).imp fun σ H Q h => rv_overSet (k := fun ks => if oneKind ks = true then some (.lst (sortD ((dedupK ks).map kD))) else none) (fun ks d H Q e i => by
    split at e
    · rename_i one
      cases e
      refine ⟨one, fun qs l hz e hl => i _ _ ?_⟩
      rw [← e]
      exact lst_new hl (by rw [List.length_map]; exact hz) (repK qs)
    · cases e) h
end
end DL
/-! DL17: texts walked; a def of the text made a contract. -/
namespace DL
open PySem L2
section
variable {R : Nat} {C : Ctx} {X : Cx} {W : WX} {tg a e : Expr} {f : Env → Res FD}
theorem _root_.L2.PI.or {t1 t2 : TI} (h1 : PI X tg e t1) (h2 : PI X tg e t2) : PI X tg e (fun σ H Q => t1 σ H Q ∨ t2 σ H Q) := ⟨fun pins s σ H Q I h => h.elim (h1.run pins s σ H Q I) (h2.run pins s σ H Q I)⟩
def charsD (x : Str) : List D := x.cps.toList.map fun c => .str ⟨#[c]⟩
/-- a list, a tuple, a text -/
def walkI (f : Env → Res FD) : Env → Res ID := fun ρ => (f ρ).bind fun x => match x.2 with
  | .lst ds => .ok ([x], ds)
  | .tup ds => .ok ([x], ds)
  | .str z => .ok ([x], charsD z)
  | _ => .bad
theorem itok_str (v : V) (x : Str) (Ps : List Pt) : ItOk C (Its x) (charsD x) Ps := by
  intro i H _
  unfold charsD
  refine ⟨fun d e => ?_, fun hl => by rw [List.length_map, Array.length_toList] at hl; exact hl⟩
  rw [List.getElem?_map] at e
  obtain ⟨c, e1, rfl⟩ := Option.map_eq_some_iff.mp e
  rw [Array.getElem?_toList] at e1
  refine ⟨(Array.getElem?_eq_some_iff.mp e1).1, fun v H' ⟨eH, c', e2, ev⟩ => ?_⟩
  subst eH ev
  rw [e1] at e2
  cases e2
  exact ⟨Same.refl _, [], ⟨rfl, rfl⟩, fun b m => nomatch m⟩
theorem ri_walk {K : PySem.W.Frag} {σ : St} {H : Hp} {R : It → Hp → Prop} (h : RI C W (walkI f) σ H R) : iSeq K (RV C W f) σ H R ∨ iStr (RV C W f) σ H R := by
  obtain ⟨ρ, P, E, h⟩ := h
  unfold walkI at h
  cases e : f ρ with
  | bad => rw [e] at h; exact h.elim
  | ex c => rw [e] at h; exact .inl ⟨ρ, P, E, by rw [e]; exact h⟩
  | ok fx =>
    rw [e] at h
    simp only [Res.ok_bind] at h
    obtain ⟨fl, d⟩ := fx
    cases d with
    | lst ds =>
      refine .inl ⟨ρ, P, E, ?_⟩
      rw [e]
      intro x H1 ⟨s1, M, r1, f1⟩
      have r0 := r1
      obtain ⟨a, vs, M', rfl, e1, z, r, rfl⟩ := r1
      exact ⟨a, rfl, .inl ⟨⟨vs, .inl (.inl e1)⟩, h _ H1 _ [] s1 ⟨_, _, rfl, ⟨_, r0, f1⟩, rfl⟩ (fun p m => nomatch m) (itok_lst K a ds)⟩⟩
    | tup ds =>
      refine .inl ⟨ρ, P, E, ?_⟩
      rw [e]
      intro x H1 ⟨s1, M, r1, f1⟩
      have r0 := r1
      obtain ⟨a, vs, rfl, e1, z, r⟩ := r1
      exact ⟨a, rfl, .inr ⟨⟨vs, .inl (.inl e1)⟩, h _ H1 _ [] s1 ⟨_, _, rfl, ⟨_, r0, f1⟩, rfl⟩ (fun p m => nomatch m) (itok_tup K a ds)⟩⟩
    | str z =>
      refine .inr ⟨ρ, P, E, ?_⟩
      rw [e]
      intro x H1 ⟨s1, M, r1, f1⟩
      exact ⟨z, r1.1, h _ H1 _ [] s1 ⟨x, _, rfl, ⟨_, r1, f1⟩, rfl⟩ (fun p m => nomatch m) (itok_str x z _)⟩
    | _ => exact h.elim
theorem di_walk (ha : PE X a (RV C W f)) : PI X tg a (RI C W (walkI f)) := ((pi_seq ha).or (pi_str ha)).imp fun _ _ _ => ri_walk
end

/-! ### a def -/
abbrev FnP (K : PySem.W.Frag) (x : Str) (st : Stmt) (f : Addr) (fd : FuncData) : Prop := FunD K x x (defArgs st) (defBody st) (defScope st) [] [] f fd
theorem fn_ok {P : Program} {w : World} {K : PySem.W.Frag} {mg : Str → Option Value} {base : Heap} {cls : Str → Addr} {x : Str} {st : Stmt} {f : Addr} {fd : FuncData} {N ps : List Str} {k : Nat} {Fs : List D → Res D} {t : TD}
    (Fu : FnP K x st f fd) (S : FnScope N ps (defScope st))
    (body : ∀ (cdv : Value) (A : Around) (outer : List PySem.Env) (s : Shared) (H : Hp) (E : XK) (C : Ctx) (W : WX), C.cls = cls → Fx k C (cxOf (L2.CX P w) P w K mg base N x (defScope st) f cdv A outer s H E) W →
      PSs (cxOf (L2.CX P w) P w K mg base N x (defScope st) f cdv A outer s H E) (defBody st) (RS C W t))
    (len : ∀ ds, Fs ds ≠ .bad → ds.length = ps.length) (sem : ∀ ds, Fs ds ≠ .bad → t (endsOf (Fs ds)) (startD N.length ds)) : FnOk P w K mg base (L2.CX P w) (k + 1) f fd ps (SpP K cls Fs) := by
  refine Fu.ok S (fun vs H Q E h => ?_) (fun cdv A outer s H vs Q E hr h => ?_)
  · obtain ⟨ds, M, r, q⟩ := h
    rw [← r.length]
    exact len ds fun e => by rw [e] at q; exact q
  · obtain ⟨ds, M, r, q⟩ := h
    have hnb : Fs ds ≠ .bad := fun e => by rw [e] at q; exact q
    have tk : Takes (cxOf (L2.CX P w) P w K mg base N x (defScope st) f cdv A outer s H E) (fun c d _ H => E c d H) := takes_of rfl rfl rfl rfl
    have F : Fx k ⟨K, H, [], none, cls⟩ (cxOf (L2.CX P w) P w K mg base N x (defScope st) f cdv A outer s H E) (fun c d _ H => E c d H) :=
      ⟨rfl, tk, PassesOwn.leaving, rfl, by have := hr.un; show (A.deeper (PyProof.Rows.envOfC x (defScope st) s.heap.objs.size f cdv)).units + 200 < cLine; omega, S.nd, hr⟩
    refine ⟨_, body cdv A outer s H E _ _ rfl F, startD N.length ds, [], endsOf (Fs ds), env_start r, ?_, sem ds hnb⟩
    have key : ∀ {v : V} {H' : Hp} {d : D} {σ : St} {ρ : Env} {M : List Addr}, EnvOk ⟨K, H, [], none, cls⟩ [] H' σ ρ → Rep ⟨K, H, [], none, cls⟩ H' d v M → M.Nodup → (∀ a ∈ M, H a = none) → (∀ a ∈ M, Mut (H' a)) → Fs ds = .ok d → Q v H' := fun {v H' d σ ρ M} E' r n1 n2 n3 e => by
      rw [e] at q
      refine q v H' ⟨fun a o ea => ?_, M, Rep.ctx (C := ⟨K, H, [], none, cls⟩) (C' := ctx0 K cls) rfl r, n1, n2, n3⟩
      rcases E'.kept a o ea (by simp) with z | ⟨_, z⟩
      · exact z
      · cases z
    refine ⟨fun σ H' ρ E' e => ?_, fun σ H' ρ d v M E' r n1 n2 n3 e => key E' r n1 n2 n3 e, fun _ _ _ _ h => h, fun _ _ _ _ h => h, fun σ H' ρ c E' e => ?_⟩
    · exact key (d := .non) (v := .non) (M := []) E' ⟨rfl, rfl⟩ List.nodup_nil (fun a m => nomatch m) (fun a m => nomatch m) e
    · have e' : Fs ds = .ex c := e
      rw [e'] at q
      refine q H' fun a o ea => ?_
      rcases E'.kept a o ea (by simp) with z | ⟨_, z⟩
      · exact z
      · cases z
theorem fn_make {P : Program} {w : World} {K : PySem.W.Frag} {mg : Str → Option Value} {base : Heap} {cls : Str → Addr} {x : Str} {st : Stmt} {f : Addr} {fd : FuncData} {N ps : List Str} {k : Nat} {Fs : List D → Res D} {t : TD}
    (Fu : FnP K x st f fd) (hm : mg x = some (.ref f)) (S : FnScope N ps (defScope st)) (hb : ∀ (kV doc pm : Value) (an : Option Addr) (cdv ct : Value) (us : List Value), us.length = ps.length → bindArgs (PySem.W.fnOf x x (defArgs st) (defBody st) (defScope st) .none kV doc pm an cdv ct) ⟨us, []⟩ = pure (ps.zip us))
    (body : ∀ (cdv : Value) (A : Around) (outer : List PySem.Env) (s : Shared) (H : Hp) (E : XK) (C : Ctx) (W : WX), C.cls = cls → Fx k C (cxOf (L2.CX P w) P w K mg base N x (defScope st) f cdv A outer s H E) W →
      PSs (cxOf (L2.CX P w) P w K mg base N x (defScope st) f cdv A outer s H E) (defBody st) (RS C W t))
    (len : ∀ ds, Fs ds ≠ .bad → ds.length = ps.length) (sem : ∀ ds, Fs ds ≠ .bad → t (endsOf (Fs ds)) (startD N.length ds)) : Fn P w K mg base cls x (k + 1) Fs :=
  ⟨f, fd, ps, hm, Fu.kp, Fu.bindsN hb, fn_ok Fu S body len sem⟩
end DL
/-! DL18: short names for the printed terms. -/
namespace DL
open PySem L2
abbrev subK : FD → FD → Res FD := arI (fun _ _ => true) fun i j => i - j
abbrev fdivK : FD → FD → Res FD := arI divP fun i j => i / j
abbrev modK : FD → FD → Res FD := arI modP fun i j => i % j
abbrev powK : FD → FD → Res FD := arI powP fun i j => i ^ j.toNat
section
variable {R : Nat} {C : Ctx} {X : Cx} {W : WX} {a b c e : Expr} {es : List Expr} {f g h : Env → Res FD} {fa : Env → Res AD} {pos p apos cpos tpos : Pos}
theorem td_eq (F : Fx R C X W) (ha : PE X a (RV C W f)) (hb : PE X b (RV C W g)) : PT X (.Compare a [.Eq] [b] pos) (RT C W (blOf (bind2 f g (eqD false)))) :=
  pt_ofCmp (op_eqD (by have := F.hu; omega)) (eqD_op F.hK) eqD_nx ha hb (nomark _)
theorem td_ne (F : Fx R C X W) (ha : PE X a (RV C W f)) (hb : PE X b (RV C W g)) : PT X (.Compare a [.NotEq] [b] pos) (RT C W (blOf (bind2 f g (eqD true)))) :=
  pt_ofCmp (op_neD (by have := F.hu; omega)) (neD_op F.hK) eqD_nx ha hb (nomark _)
theorem td_isN (ha : PE X a (RV C W f)) (hb : PE X b (RV C W g)) : PT X (.Compare a [.Is] [b] pos) (RT C W (blOf (bind2 f g (isND false)))) := pt_ofCmp op_isN isND_op isND_nx ha hb (nomark _)
theorem td_isNN (ha : PE X a (RV C W f)) (hb : PE X b (RV C W g)) : PT X (.Compare a [.IsNot] [b] pos) (RT C W (blOf (bind2 f g (isND true)))) := pt_ofCmp op_notN isNND_op isND_nx ha hb (nomark _)
theorem td_lt (ha : PE X a (RV C W f)) (hb : PE X b (RV C W g)) : PT X (.Compare a [.Lt] [b] pos) (RT C W (blOf (bind2 f g (ordD ltI)))) := pt_ofCmp op_lt ordD_op ordD_nx ha hb (nomark _)
theorem td_le (ha : PE X a (RV C W f)) (hb : PE X b (RV C W g)) : PT X (.Compare a [.LtE] [b] pos) (RT C W (blOf (bind2 f g (ordD leI)))) := pt_ofCmp op_le ordD_op ordD_nx ha hb (nomark _)
theorem td_gt (ha : PE X a (RV C W f)) (hb : PE X b (RV C W g)) : PT X (.Compare a [.Gt] [b] pos) (RT C W (blOf (bind2 f g (ordD gtI)))) := pt_ofCmp op_gt ordD_op ordD_nx ha hb (nomark _)
theorem td_ge (ha : PE X a (RV C W f)) (hb : PE X b (RV C W g)) : PT X (.Compare a [.GtE] [b] pos) (RT C W (blOf (bind2 f g (ordD geI)))) := pt_ofCmp op_ge ordD_op ordD_nx ha hb (nomark _)
theorem td_in (F : Fx R C X W) (ha : PE X a (RV C W f)) (hb : PE X b (RV C W g)) (hm : behindInMarks .In b = false := by rfl) : PT X (.Compare a [.In] [b] pos) (RT C W (blOf (bind2 f g (inF false)))) :=
  pt_ofCmp ((op_inP (by have := F.hu; omega)).or ((op_inDict (by have := F.hu; omega)).or op_in_str)) (inF_op F.hK) inF_nx ha hb hm
theorem td_notIn (F : Fx R C X W) (ha : PE X a (RV C W f)) (hb : PE X b (RV C W g)) (hm : behindInMarks .NotIn b = false := by rfl) : PT X (.Compare a [.NotIn] [b] pos) (RT C W (blOf (bind2 f g (inF true)))) :=
  pt_ofCmp ((op_notInP (by have := F.hu; omega)).or ((op_notInDict (by have := F.hu; omega)).or op_notin_str)) (inF_op F.hK) inF_nx ha hb hm
theorem pd_lele (ha : PE X a (RV C W f)) (hb : PE X b (RV C W g)) (hc : PE X c (RV C W h)) (hm : lastMarks [.LtE, .LtE] [b, c] = false := by with_unfolding_all rfl) : PE X (.Compare a [.LtE, .LtE] [b, c] pos) (RV C W (boolF (chainF f g h leI leI))) := pd_chain op_le op_le ha hb hc hm
theorem td_lele (ha : PE X a (RV C W f)) (hb : PE X b (RV C W g)) (hc : PE X c (RV C W h)) (hm : lastMarks [.LtE, .LtE] [b, c] = false := by with_unfolding_all rfl) : PT X (.Compare a [.LtE, .LtE] [b, c] pos) (RT C W (chainF f g h leI leI)) := td_chain op_le op_le ha hb hc hm
theorem td_andW {es : List Expr} {t : Env → Res Bool} (h : PW X (.BoolOp .And es pos) (RT C W t)) : PT X (.BoolOp .And es pos) (RT C W t) := h.pt
theorem td_orW {es : List Expr} {t : Env → Res Bool} (h : PW X (.BoolOp .Or es pos) (RT C W t)) : PT X (.BoolOp .Or es pos) (RT C W t) := h.pt
theorem pd_lc {elt tg iter : Expr} {ifs : List Expr} {scope : Scope} (own : List (Str × Nat)) {fi : Env → Res ID} {t : Tg} {tt : Env → Res Bool} {te : Env → Res FD} (F : Fx R C X W) (hi : PI X tg iter (RI C W fi)) (ok : blkC X.N X.env.scope scope own = true)
    (ht' : t.ix.all (fun i => (own.map (·.2)).contains i) = true)
    (hg : ∀ (s : Shared) (H : Hp) (C' : Addr) (cl : List (Str × Addr)) (fp : List Addr), Fx R C (X.blk s H scope (compEnvC scope cl C' X.env) fp) W0 → PG (X.blk s H scope (compEnvC scope cl C' X.env) fp) tg (gOf X.K t))
    (ht : ∀ (s : Shared) (H : Hp) (C' : Addr) (cl : List (Str × Addr)) (fp : List Addr), Fx R C (X.blk s H scope (compEnvC scope cl C' X.env) fp) W0 → PTs (X.blk s H scope (compEnvC scope cl C' X.env) fp) ifs (RT C W0 tt))
    (he : ∀ (s : Shared) (H : Hp) (C' : Addr) (cl : List (Str × Addr)) (fp : List Addr), Fx R C (X.blk s H scope (compEnvC scope cl C' X.env) fp) W0 → PE (X.blk s H scope (compEnvC scope cl C' X.env) fp) elt (RV C W0 te))
    (hs : ∀ x, foldedSetIterable iter X.env x = pure x := by exact fun _ => rfl) :
    PE X (.ListComp elt [⟨tg, iter, ifs, 0⟩] scope pos) (RV C W (compF fi t tt te (own.map (·.2)))) :=
  pd_comp F hi ok ht' (fun s H C' cl fp => hg s H C' cl fp F.blk) ht he hs
theorem ds_setLc {i : Nat} {y : Str} {py : Pos} {elt tg iter : Expr} {ifs : List Expr} {scope : Scope} (own : List (Str × Nat)) {fi : Env → Res ID} {t : Tg} {tt : Env → Res Bool} {te : Env → Res FD} {spos : Pos} (F : Fx R C X W) (hy : X.N[i]? = some y) (hyl : X.env.scope.names.lookup y = some .local)
    (hi : PI X tg iter (RI C W fi)) (ok : blkC X.N X.env.scope scope own = true)
    (ht' : t.ix.all (fun i => (own.map (·.2)).contains i) = true)
    (hg : ∀ (s : Shared) (H : Hp) (C' : Addr) (cl : List (Str × Addr)) (fp : List Addr), Fx R C (X.blk s H scope (compEnvC scope cl C' X.env) fp) W0 → PG (X.blk s H scope (compEnvC scope cl C' X.env) fp) tg (gOf X.K t))
    (ht : ∀ (s : Shared) (H : Hp) (C' : Addr) (cl : List (Str × Addr)) (fp : List Addr), Fx R C (X.blk s H scope (compEnvC scope cl C' X.env) fp) W0 → PTs (X.blk s H scope (compEnvC scope cl C' X.env) fp) ifs (RT C W0 tt))
    (he : ∀ (s : Shared) (H : Hp) (C' : Addr) (cl : List (Str × Addr)) (fp : List Addr), Fx R C (X.blk s H scope (compEnvC scope cl C' X.env) fp) W0 → PE (X.blk s H scope (compEnvC scope cl C' X.env) fp) elt (RV C W0 te))
    (hsw : swapsWith (.ListComp elt [⟨tg, iter, ifs, 0⟩] scope pos) (some (.Name y py)) spos.line X.env = pure true := by rfl)
    (hs : ∀ x, foldedSetIterable iter X.env x = pure x := by exact fun _ => rfl) :
    PS X (.Assign [.Name y py] (.ListComp elt [⟨tg, iter, ifs, 0⟩] scope pos) spos) (RS C W (dSet i (compF fi t tt te (own.map (·.2))))) :=
  ds_setComp F hy hyl hsw hi ok ht' (fun s H C' cl fp => hg s H C' cl fp F.blk) ht he hs
theorem ds_iadd (i : Nat) {x : Str} (F : Fx R C X W) (he : PE X e (RV C W f)) (hN : X.N[i]? = some x := by rfl) (hx : Loc X.env.scope x := by first | exact .inl rfl | exact .inr rfl)
    (hf : X.fn x = true ∨ X.env.scope.names.lookup x = some .local := by first | exact .inl rfl | exact .inr rfl | assumption) : PS X (.AugAssign (.Name x p) .Add e pos) (RS C W (dAug i f fun m n => m + n)) :=
  ds_aug i F (fun pins s σ H x y v u Q I rx ry q => ip_add pins s σ H x y v u Q I rx ry q) he hN hx hf
end
end DL
/-! DL19: defs that change an argument. -/
namespace DL
open PySem L2

/-- what is left of the heap, and the changed argument -/
def IoFrame (C : Ctx) (H H' : Hp) (v : V) (d' : D) (M : List Addr) : Prop := (∀ a o, H a = some o → a ∉ M → H' a = some o) ∧ (∀ a, H' a = none → H a = none) ∧
  ∃ M', Rep C H' d' v M' ∧ M'.Nodup ∧ (∀ a ∈ M', a ∈ M ∨ H a = none) ∧ ∀ a ∈ M', Mut (H' a)
/-- the argument ahead, and that the others are apart from it -/
structure IoArg (C : Ctx) (H : Hp) (j : Nat) (ds : List D) (vs : List V) (v : V) (M : List Addr) : Prop where
  at_ : ∃ d, ds[j]? = some d ∧ Rep C H d v M
  val : vs[j]? = some v
  nd : M.Nodup
  mu : ∀ a ∈ M, Mut (H a)
  apart : ∀ (i : Nat) (d : D) (w : V) (N : List Addr), i ≠ j → ds[i]? = some d → vs[i]? = some w → Rep C H d w N → ∀ a ∈ M, a ∉ N
/-- a def that works on trees as F says, and changes its j-th argument so -/
def SpIO (K : PySem.W.Frag) (cls : Str → Addr) (j : Nat) (F : List D → Res D × D) : Sp := fun vs H Q E => ∃ ds Ms v M, RepL (ctx0 K cls) H ds vs Ms ∧ IoArg (ctx0 K cls) H j ds vs v M ∧ match (F ds).1 with
  | .ok d => imm d = true ∧ ∀ u H', IoFrame (ctx0 K cls) H H' v (F ds).2 M → Rep (ctx0 K cls) H' d u [] → Q u H'
  | .ex c => ∀ H', IoFrame (ctx0 K cls) H H' v (F ds).2 M → E (.ref (cls c)) none H'
  | .bad => False
structure FnIO (P : Program) (w : World) (K : PySem.W.Frag) (mg : Str → Option Value) (base : Heap) (cls : Str → Addr) (x : Str) (j k : Nat) (F : List D → Res D × D) : Prop where
  ex : ∃ f fd ps, mg x = some (.ref f) ∧ PySem.W.keepIn K (.ref f) = true ∧ Binds K fd ps [] ∧ FnOk P w K mg base (L2.CX P w) k f fd ps (SpIO K cls j F)
def startIO (n j : Nat) (ds : List D) : Env := (startD n ds).modify j fun s => s.map fun p => (Ow.io, p.2)
theorem startIO_at {n j i : Nat} {o : Ow} {d : D} {ds : List D} (e : (startIO n j ds)[i]? = some (some (o, d))) : ds[i]? = some d ∧ ((i ≠ j ∧ o = .sh) ∨ (i = j ∧ o = .io)) := by
  unfold startIO at e
  rw [List.getElem?_modify] at e
  cases q : (startD n ds)[i]? with
  | none => rw [q] at e; cases e
  | some s =>
    rw [q] at e
    simp only [Option.map_eq_map, Option.map_some] at e
    cases s with
    | none =>
      by_cases h : j = i
      · rw [if_pos h] at e; cases e
      · rw [if_neg h] at e; cases e
    | some p =>
      obtain ⟨o', d'⟩ := p
      obtain ⟨rfl, e1⟩ := startD_at q
      by_cases h : j = i
      · rw [if_pos h] at e; cases e; exact ⟨e1, .inr ⟨h.symm, rfl⟩⟩
      · rw [if_neg h] at e; cases e; exact ⟨e1, .inl ⟨fun z => h z.symm, rfl⟩⟩
theorem startIO_len (n j : Nat) (ds : List D) : (startIO n j ds).length = (startD n ds).length := by unfold startIO; simp
theorem env_startIO {K : PySem.W.Frag} {cls : Str → Addr} {H : Hp} {N : List Str} {ds : List D} {vs : List V} {Ms M : List Addr} {j : Nat} {v : V} (r : RepL (ctx0 K cls) H ds vs Ms) (io : IoArg (ctx0 K cls) H j ds vs v M) :
    EnvOk ⟨K, H, M, some v, cls⟩ [] H (L2.start N vs) (startIO N.length j ds) := by
  have hl := r.length
  have sv : ∀ {i : Nat} {w : V}, vs[i]? = some w → (L2.start N vs)[i]? = some (some w) := fun {i w} e => by
    unfold L2.start
    have hi := (List.getElem?_eq_some_iff.mp e).1
    rw [List.getElem?_append_left (by simpa using hi), List.getElem?_map, e]
    rfl
  have vs' : ∀ {i : Nat} {w : V} {d : D}, ds[i]? = some d → (L2.start N vs)[i]? = some (some w) → vs[i]? = some w := fun {i w d} ed e => by
    have hi := (List.getElem?_eq_some_iff.mp ed).1
    rw [hl] at hi
    rw [sv (List.getElem?_eq_getElem hi)] at e
    rw [List.getElem?_eq_getElem hi]
    simpa using e
  refine ⟨by rw [startIO_len]; unfold L2.start startD; simp [hl], fun i o d e => ?_, (fun p m => nomatch m), fun a o e _ => .inl e, fun a e => e⟩
  obtain ⟨e1, q⟩ := startIO_at e
  obtain ⟨d0, ed0, rj⟩ := io.at_
  rcases q with ⟨hj, rfl⟩ | ⟨rfl, rfl⟩
  · obtain ⟨w, M', e2, r', _⟩ := r.get e1
    exact ⟨w, M', sv e2, Rep.ctx (C := ctx0 K cls) (C' := ⟨K, H, M, some v, cls⟩) rfl r', (fun h => by cases h), (fun h => by cases h), (fun h => by cases h), fun h => by cases h⟩
  · rw [ed0] at e1; cases e1
    refine ⟨v, M, sv io.val, Rep.ctx (C := ctx0 K cls) (C' := ⟨K, H, M, some v, cls⟩) rfl rj, fun _ => ⟨io.nd, io.mu, fun l o' d' w N hl' el sl rl => ?_, fun p m => nomatch m⟩, (fun h => by cases h), (fun _ => ⟨fun a m => .inl m, rfl⟩), fun h => by cases h⟩
    obtain ⟨el1, _⟩ := startIO_at el
    exact io.apart l d' w N hl' el1 (vs' el1 sl) (Rep.ctx (C := ⟨K, H, M, some v, cls⟩) (C' := ctx0 K cls) rfl rl)
/-- the ends of such a def -/
def endsIO (j : Nat) (r : Res D × D) : EndsD := { nx := fun ρ => r.1 = .ok .non ∧ ρ[j]? = some (some (.io, r.2)), rt := fun d ρ => r.1 = .ok d ∧ imm d = true ∧ ρ[j]? = some (some (.io, r.2)), ex := fun c ρ => r.1 = .ex c ∧ ρ[j]? = some (some (.io, r.2)) }
theorem io_frame {K : PySem.W.Frag} {cls : Str → Addr} {H H' : Hp} {M : List Addr} {v : V} {d : D} {j : Nat} {σ : St} {ρ : Env} (E : EnvOk ⟨K, H, M, some v, cls⟩ [] H' σ ρ) (ej : ρ[j]? = some (some (.io, d))) : IoFrame (ctx0 K cls) H H' v d M := by
  obtain ⟨w, M', e1, r, ow, lo, io, _⟩ := E.at_ j .io d ej
  obtain ⟨q1, q2⟩ := io rfl
  cases q2
  obtain ⟨nd, mu, _⟩ := ow rfl
  refine ⟨fun a o ea n => ?_, E.keptd, M', Rep.ctx (C := ⟨K, H, M, some v, cls⟩) (C' := ctx0 K cls) rfl r, nd, q1, mu⟩
  rcases E.kept a o ea n with z | ⟨_, z⟩
  · exact z
  · cases z
theorem fn_makeIO {P : Program} {w : World} {K : PySem.W.Frag} {mg : Str → Option Value} {base : Heap} {cls : Str → Addr} {x : Str} {st : Stmt} {f : Addr} {fd : FuncData} {N ps : List Str} {j k : Nat} {Fs : List D → Res D × D} {t : TD}
    (Fu : FnP K x st f fd) (hm : mg x = some (.ref f)) (S : FnScope N ps (defScope st)) (hb : ∀ (kV doc pm : Value) (an : Option Addr) (cdv ct : Value) (us : List Value), us.length = ps.length → bindArgs (PySem.W.fnOf x x (defArgs st) (defBody st) (defScope st) .none kV doc pm an cdv ct) ⟨us, []⟩ = pure (ps.zip us))
    (body : ∀ (cdv : Value) (A : Around) (outer : List PySem.Env) (s : Shared) (H : Hp) (E : XK) (C : Ctx) (W : WX), C.cls = cls → Fx k C (cxOf (L2.CX P w) P w K mg base N x (defScope st) f cdv A outer s H E) W →
      PSs (cxOf (L2.CX P w) P w K mg base N x (defScope st) f cdv A outer s H E) (defBody st) (RS C W t))
    (len : ∀ ds, (Fs ds).1 ≠ .bad → ds.length = ps.length) (sem : ∀ ds, (Fs ds).1 ≠ .bad → t (endsIO j (Fs ds)) (startIO N.length j ds)) : FnIO P w K mg base cls x j (k + 1) Fs := by
  refine ⟨f, fd, ps, hm, Fu.kp, Fu.bindsN hb, ?_⟩
  refine Fu.ok S (fun vs H Q E h => ?_) (fun cdv A outer s H vs Q E hr h => ?_)
  · obtain ⟨ds, Ms, v, M, r, io, q⟩ := h
    rw [← r.length]
    exact len ds fun e => by rw [e] at q; exact q
  · obtain ⟨ds, Ms, v, M, r, io, q⟩ := h
    have hnb : (Fs ds).1 ≠ .bad := fun e => by rw [e] at q; exact q
    have tk : Takes (cxOf (L2.CX P w) P w K mg base N x (defScope st) f cdv A outer s H E) (fun c d _ H => E c d H) := takes_of rfl rfl rfl rfl
    have F : Fx k ⟨K, H, M, some v, cls⟩ (cxOf (L2.CX P w) P w K mg base N x (defScope st) f cdv A outer s H E) (fun c d _ H => E c d H) :=
      ⟨rfl, tk, PassesOwn.leaving, rfl, by have := hr.un; show (A.deeper (PyProof.Rows.envOfC x (defScope st) s.heap.objs.size f cdv)).units + 200 < cLine; omega, S.nd, hr⟩
    refine ⟨_, body cdv A outer s H E _ _ rfl F, startIO N.length j ds, [], endsIO j (Fs ds), env_startIO r io, ?_, sem ds hnb⟩
    refine ⟨fun σ H' ρ E' e => ?_, fun σ H' ρ d u M1 E' r1 n1 n2 n3 e => ?_, fun _ _ _ _ h => h, fun _ _ _ _ h => h, fun σ H' ρ c E' e => ?_⟩
    · rw [e.1] at q
      exact q.2 _ H' (io_frame E' e.2) ⟨rfl, rfl⟩
    · rw [e.1] at q
      have := r1.imm e.2.1
      subst this
      exact q.2 _ H' (io_frame E' e.2.2) (Rep.ctx (C := ⟨K, H, M, some v, cls⟩) (C' := ctx0 K cls) rfl r1)
    · rw [e.1] at q
      exact q H' (io_frame E' e.2)

/-! ### arguments, each with its flag and its slot -/
abbrev XD := FD × Option Nat
def ArgsOk (C : Ctx) (H : Hp) (σ : St) (ρ : Env) (H' : Hp) : List XD → List V → Prop
  | [], vs => vs = []
  | x :: xs, vs => ∃ v r, vs = v :: r ∧ (∃ M, Rep C H' x.1.2 v M ∧ FlOk C H σ ρ H' x.1.1 M) ∧ (∀ i, x.2 = some i → σ[i]? = some (some v) ∧ ∃ o, ρ[i]? = some (some (o, x.1.2))) ∧ ArgsOk C H σ ρ H' xs r
def RX (C : Ctx) (W : WX) (f : Env → Res (List XD)) : TA := fun σ H Q => ∃ ρ P, EnvOk C P H σ ρ ∧ match f ρ with
  | .ok xs => ∀ vs H', Same H H' → ArgsOk C H σ ρ H' xs vs → Q vs H'
  | .ex c => ∀ H', Same H H' → W (.ref (C.cls c)) none σ H'
  | .bad => False
def nilX : Env → Res (List XD) := fun _ => .ok []
def varX (i : Nat) (g : Env → Res (List XD)) : Env → Res (List XD) := fun ρ => (dVar i ρ).bind fun x => (g ρ).bind fun y => .ok ((x, some i) :: y)
def consX (f : Env → Res FD) (g : Env → Res (List XD)) : Env → Res (List XD) := fun ρ => (f ρ).bind fun x => (g ρ).bind fun y => .ok ((x, none) :: y)
section
variable {R : Nat} {C : Ctx} {X : Cx} {W : WX} {a b e : Expr} {es : List Expr} {f : Env → Res FD} {g : Env → Res (List XD)} {P : List Pt} {pos p : Pos}
theorem ArgsOk.early {H0 H H' : Hp} {σ : St} {ρ : Env} (E : EnvOk C P H0 σ ρ) (s : Same H0 H) : ∀ {xs : List XD} {vs : List V}, ArgsOk C H σ ρ H' xs vs → ArgsOk C H0 σ ρ H' xs vs
  | [], _, h => h
  | x :: xs, vs, h => by
    obtain ⟨v, r, e, ⟨M, rr, q⟩, sl, t⟩ := h
    exact ⟨v, r, e, ⟨M, rr, q.early E s⟩, sl, ArgsOk.early E s t⟩
theorem dVar_slot {i : Nat} {ρ : Env} {x : FD} (e : dVar i ρ = .ok x) : ∃ o, ρ[i]? = some (some (o, x.2)) := by
  unfold dVar at e
  split at e
  · rename_i d ei; cases e; exact ⟨_, ei⟩
  · rename_i d ei; cases e; exact ⟨_, ei⟩
  · rename_i d ei; cases e; exact ⟨_, ei⟩
  · rename_i d ei; cases e; exact ⟨_, ei⟩
  · cases e
theorem rx_nil {σ : St} {H : Hp} {Q : List V → Hp → Prop} (h : RX C W nilX σ H Q) : tNil σ H Q := by
  obtain ⟨ρ, P, E, h⟩ := h
  exact h [] H (Same.refl H) rfl
theorem rx_tail {σ : St} {H H1 : Hp} {ρ : Env} {Q : List V → Hp → Prop} {x : FD} {o : Option Nat} {v : V} {M : List Addr} (E : EnvOk C P H σ ρ) (s1 : Same H H1) (r1 : Rep C H1 x.2 v M) (f1 : FlOk C H σ ρ H1 x.1 M) (sl : ∀ i, o = some i → σ[i]? = some (some v) ∧ ∃ w, ρ[i]? = some (some (w, x.2)))
    (h : match (g ρ).bind (fun y => .ok ((x, o) :: y)) with
      | .ok xs => ∀ vs H', Same H H' → ArgsOk C H σ ρ H' xs vs → Q vs H'
      | .ex c => ∀ H', Same H H' → W (.ref (C.cls c)) none σ H'
      | .bad => False) : RX C W g σ H1 fun vs H2 => Q (v :: vs) H2 := by
  refine ⟨ρ, P, E.same s1, ?_⟩
  cases e2 : g ρ with
  | bad => rw [e2] at h; exact h
  | ex c => rw [e2] at h; exact fun H' s' => h H' (s1.trans s')
  | ok y =>
    rw [e2] at h
    simp only [Res.ok_bind] at h
    intro vs H2 s2 q
    exact h (v :: vs) H2 (s1.trans s2) ⟨v, vs, rfl, ⟨M, r1.same s2, f1.on s2⟩, sl, q.early E s1⟩
theorem rx_cons {σ : St} {H : Hp} {Q : List V → Hp → Prop} (h : RX C W (consX f g) σ H Q) : tCons (RV C W f) (RX C W g) σ H Q := by
  obtain ⟨ρ, P, E, h⟩ := h
  refine ⟨ρ, P, E, ?_⟩
  unfold consX at h
  cases e : f ρ with
  | bad => rw [e] at h; exact h
  | ex c => rw [e] at h; exact h
  | ok fx =>
    rw [e] at h
    simp only [Res.ok_bind] at h
    intro x H1 ⟨s1, M, r1, f1⟩
    exact rx_tail E s1 r1 f1 (fun i z => by cases z) h
theorem rx_var {i : Nat} {σ : St} {H : Hp} {Q : List V → Hp → Prop} (h : RX C W (varX i g) σ H Q) : tCons (tVar i) (RX C W g) σ H Q := by
  obtain ⟨ρ, P, E, h⟩ := h
  have ev : ∃ v, σ[i]? = some (some v) := by
    unfold varX dVar at h
    cases ei : ρ[i]? with
    | none => rw [ei] at h; exact h.elim
    | some s =>
      cases s with
      | none => rw [ei] at h; exact h.elim
      | some q =>
        obtain ⟨v, _, e1, _⟩ := E.at_ i q.1 q.2 ei
        exact ⟨v, e1⟩
  obtain ⟨v, ev⟩ := ev
  obtain ⟨v', ev', q⟩ := rv_var (C := C) (W := W) (i := i) (σ := σ) (H := H) (Q := fun x H1 => RX C W g σ H1 fun vs H2 => Q (x :: vs) H2 ∨ x ≠ v) ⟨ρ, P, E, by
    unfold varX at h
    cases e : dVar i ρ with
    | bad => rw [e] at h; exact h
    | ex c => rw [e] at h; exact h
    | ok fx =>
      rw [e] at h
      simp only [Res.ok_bind] at h
      intro x H1 ⟨s1, M, r1, f1⟩
      by_cases hx : x = v
      · subst hx
        have := rx_tail (o := some i) E s1 r1 f1 (fun j z => by cases z; exact ⟨ev, dVar_slot e⟩) h
        obtain ⟨ρ2, P2, E2, k⟩ := this
        refine ⟨ρ2, P2, E2, ?_⟩
        cases eg : g ρ2 with
        | bad => rw [eg] at k; exact k
        | ex c => rw [eg] at k; exact k
        | ok y => rw [eg] at k; exact fun vs H' s ao => .inl (k vs H' s ao)
      · refine ⟨ρ, P, E.same s1, ?_⟩
        cases e2 : g ρ with
        | bad => rw [e2] at h; exact h
        | ex c => rw [e2] at h; exact fun H' s' => h H' (s1.trans s')
        | ok y => exact fun vs H' _ _ => .inr hx⟩
  rw [ev] at ev'
  cases ev'
  refine ⟨v, ev, ?_⟩
  obtain ⟨ρ2, P2, E2, k⟩ := q
  refine ⟨ρ2, P2, E2, ?_⟩
  cases eg : g ρ2 with
  | bad => rw [eg] at k; exact k
  | ex c => rw [eg] at k; exact k
  | ok y => rw [eg] at k; exact fun vs H' s ao => (k vs H' s ao).elim id fun z => absurd rfl z
theorem px_nil : PA X [] (RX C W nilX) := pa_nil.imp fun _ _ _ => rx_nil
theorem px_cons (ha : PE X e (RV C W f)) (hr : PA X es (RX C W g)) (hs : starEach (e :: es) X.env = (false, eval e X.env) :: starEach es X.env := by rfl) : PA X (e :: es) (RX C W (consX f g)) := (pa_cons ha hr hs).imp fun _ _ _ => rx_cons
theorem px_var (i : Nat) {x : Str} (hr : PA X es (RX C W g)) (hN : X.N[i]? = some x := by rfl) (hv : Vis X.env.scope x := by first | exact Or.inl rfl | exact Or.inr (Or.inl rfl) | exact Or.inr (Or.inr rfl)) (hd : (x == ("__debug__" : Str)) = false := by decide)
    (hcd : (x == ("__classdict__" : Str)) = false := by decide) (hs : starEach (.Name x p :: es) X.env = (false, eval (.Name x p) X.env) :: starEach es X.env := by rfl) : PA X (.Name x p :: es) (RX C W (varX i g)) := (pa_cons (pv i hN hv hd hcd) hr hs).imp fun _ _ _ => rx_var

/-! ### the call -/
/-- a value, and the names as it leaves them -/
def RE (C : Ctx) (W : WX) (f : Env → Res D × Env) : TE := fun σ H Q => ∃ ρ P, EnvOk C P H σ ρ ∧ match (f ρ).1 with
  | .ok d => ∀ v H', EnvOk C P H' σ (f ρ).2 → Rep C H' d v [] → Q v H'
  | .ex c => ∀ H', EnvOk C P H' σ (f ρ).2 → W (.ref (C.cls c)) none σ H'
  | .bad => False
def okOther (o : Option Nat) (x : XD) : Bool := imm x.1.2 || match x.2 with
  | some i => decide (o ≠ some i)
  | none => false
def oth (o : Option Nat) : Nat → List XD → Bool
  | _, [] => true
  | 0, _ :: xs => xs.all (okOther o)
  | j + 1, x :: xs => okOther o x && oth o j xs
theorem oth_at {o : Option Nat} : ∀ {j : Nat} {xs : List XD}, oth o j xs = true → ∀ {i : Nat} {x : XD}, i ≠ j → xs[i]? = some x → okOther o x = true
  | _, [], _, i, x, _, e => by simp at e
  | 0, y :: xs, h, i, x, ne, e => by
    cases i with
    | zero => exact absurd rfl ne
    | succ i => exact List.all_eq_true.mp h x (List.mem_of_getElem? (by simpa using e))
  | j + 1, y :: xs, h, i, x, ne, e => by
    unfold oth at h
    rw [Bool.and_eq_true] at h
    cases i with
    | zero => simp at e; subst e; exact h.1
    | succ i => exact oth_at h.2 (i := i) (fun z => ne (by rw [z])) (by simpa using e)
def immR : Res D → Res D
  | .ok d => if imm d = true then .ok d else .bad
  | r => r
def callIo (j : Nat) (F : List D → Res D × D) (fa : Env → Res (List XD)) : Env → Res D × Env := fun ρ => match fa ρ with
  | .ok xs => match xs[j]? with
    | some x => if oth x.2 j xs = true then match x.2 with
      | some i => match ρ[i]? with
        | some (some (ow, _)) => if ow.own = true then (immR (F (xs.map fun y => y.1.2)).1, ρ.set i (some (ow, (F (xs.map fun y => y.1.2)).2))) else (.bad, ρ)
        | _ => (.bad, ρ)
      | none => if x.1.1 = .fr then (immR (F (xs.map fun y => y.1.2)).1, ρ) else (.bad, ρ)
      else (.bad, ρ)
    | none => (.bad, ρ)
  | .ex c => (.ex c, ρ)
  | .bad => (.bad, ρ)
theorem ArgsOk.rep {H H' : Hp} {σ : St} {ρ : Env} : ∀ {xs : List XD} {vs : List V}, ArgsOk C H σ ρ H' xs vs → ∃ Ms, RepL C H' (xs.map fun y => y.1.2) vs Ms
  | [], vs, h => ⟨[], h, rfl⟩
  | x :: xs, vs, h => by
    obtain ⟨v, r, rfl, ⟨M, rr, _⟩, _, t⟩ := h
    obtain ⟨Ms, q⟩ := ArgsOk.rep t
    exact ⟨M ++ Ms, v, r, M, Ms, rfl, rr, q, rfl⟩
theorem ArgsOk.get {H H' : Hp} {σ : St} {ρ : Env} : ∀ {xs : List XD} {vs : List V} {i : Nat} {x : XD}, ArgsOk C H σ ρ H' xs vs → xs[i]? = some x → ∃ v, vs[i]? = some v ∧ (∃ M, Rep C H' x.1.2 v M ∧ FlOk C H σ ρ H' x.1.1 M) ∧ ∀ l, x.2 = some l → σ[l]? = some (some v) ∧ ∃ o, ρ[l]? = some (some (o, x.1.2))
  | [], vs, i, x, h, e => by simp at e
  | y :: xs, vs, 0, x, h, e => by
    obtain ⟨v, r, rfl, q, sl, t⟩ := h
    simp at e
    subst e
    exact ⟨v, rfl, q, sl⟩
  | y :: xs, vs, i + 1, x, h, e => by
    obtain ⟨v, r, rfl, q, sl, t⟩ := h
    obtain ⟨w, e1, k⟩ := ArgsOk.get (i := i) t (by simpa using e)
    exact ⟨w, by simpa using e1, k⟩
theorem re_call {j : Nat} {Fd : List D → Res D × D} {fa : Env → Res (List XD)} {σ : St} {H : Hp} {Q : VK} (h : RE C W (callIo j Fd fa) σ H Q) : tCallS (SpIO C.K C.cls j Fd) (WE W) (RX C W fa) σ H Q := by
  obtain ⟨ρ, P, E, h⟩ := h
  refine ⟨ρ, P, E, ?_⟩
  unfold callIo at h
  cases e : fa ρ with
  | bad => rw [e] at h; exact h
  | ex c => rw [e] at h; exact fun H' s => h H' (E.same s)
  | ok xs =>
    rw [e] at h
    dsimp only at h
    intro vs H1 s1 ao
    have E1 := E.same s1
    cases ej : xs[j]? with
    | none => rw [ej] at h; exact h.elim
    | some x =>
      rw [ej] at h
      dsimp only at h
      by_cases ho : oth x.2 j xs = true
      · rw [if_pos ho] at h
        obtain ⟨Ms, rl⟩ := ao.rep
        obtain ⟨v, ev, ⟨M, rv, fl⟩, sl⟩ := ao.get ej
        have toC0 : ∀ {Hh : Hp} {d : D} {v : V} {M : List Addr}, Rep C Hh d v M → Rep (ctx0 C.K C.cls) Hh d v M := fun r => Rep.ctx (C := C) (C' := ctx0 C.K C.cls) rfl r
        have toC : ∀ {Hh : Hp} {d : D} {v : V} {M : List Addr}, Rep (ctx0 C.K C.cls) Hh d v M → Rep C Hh d v M := fun r => Rep.ctx (C := ctx0 C.K C.cls) (C' := C) rfl r
        have edj : (xs.map fun y => y.1.2)[j]? = some x.1.2 := by rw [List.getElem?_map, ej]; rfl
        cases hx : x.2 with
        | some i =>
          rw [hx] at h
          dsimp only at h
          obtain ⟨es, ⟨ow, ei⟩⟩ := sl i hx
          rw [ei] at h
          dsimp only at h
          by_cases hw : ow.own = true
          · rw [if_pos hw] at h
            dsimp only at h
            obtain ⟨v', M', e1, r1, own, _⟩ := E1.at_ i ow _ ei
            rw [es] at e1; cases e1
            rw [r1.uniq rv] at own
            obtain ⟨q1, q2, q3, q4⟩ := own hw
            refine ⟨_, Ms, v, M, RepL.ctx (C := C) (C' := ctx0 C.K C.cls) rfl rl, ⟨⟨_, edj, toC0 rv⟩, ev, q1, q2, fun l d w N hl el ew rw' => ?_⟩, ?_⟩
            · rw [List.getElem?_map] at el
              cases ey : xs[l]? with
              | none => rw [ey] at el; cases el
              | some y =>
                rw [ey] at el
                cases el
                have ok := oth_at ho hl ey
                unfold okOther at ok
                rw [Bool.or_eq_true] at ok
                rcases ok with ok | ok
                · rw [rw'.imm ok]
                  exact fun _ _ z => nomatch z
                · obtain ⟨w', ew', _, sl'⟩ := ao.get ey
                  rw [ew] at ew'; cases ew'
                  cases hy : y.2 with
                  | none => rw [hy] at ok; cases ok
                  | some l' =>
                    rw [hy] at ok
                    have hne : x.2 ≠ some l' := of_decide_eq_true ok
                    obtain ⟨es', o', er'⟩ := sl' l' hy
                    exact q3 l' o' _ w N (fun z => hne (by rw [hx, z])) er' es' (toC rw')
            · have fr : ∀ {H2 : Hp} {d2 : D}, IoFrame (ctx0 C.K C.cls) H1 H2 v d2 M → EnvOk C P H2 σ (ρ.set i (some (ow, d2))) := fun {H2 d2} ⟨k, kn, M2, r2, nd2, sub2, mu2⟩ =>
                E.mutate s1 ei hw es rv (toC r2) (fun a u n ea => k a u ea n) (fun a m z => by
                  obtain ⟨u, hu⟩ := rv.dom a m
                  rw [kn a z] at hu; cases hu) nd2 mu2 fun a m => (sub2 a m).imp id fun z => s1.free z
              cases er : (Fd (xs.map fun y => y.1.2)).1 with
              | bad => rw [er] at h; exact h.elim
              | ex c =>
                rw [er] at h
                exact fun H2 f2 => h H2 (fr f2)
              | ok d =>
                rw [er] at h
                unfold immR at h
                dsimp only at h
                by_cases hi : imm d = true
                · rw [if_pos hi] at h
                  exact ⟨hi, fun u H2 f2 ru => h u H2 (fr f2) (toC ru)⟩
                · rw [if_neg hi] at h; exact h.elim
          · rw [if_neg hw] at h; exact h.elim
        | none =>
          rw [hx] at h
          dsimp only at h
          by_cases hf : x.1.1 = .fr
          · rw [if_pos hf] at h
            dsimp only at h
            rw [hf] at fl
            obtain ⟨q1, q2, q3⟩ := fl
            refine ⟨_, Ms, v, M, RepL.ctx (C := C) (C' := ctx0 C.K C.cls) rfl rl, ⟨⟨_, edj, toC0 rv⟩, ev, q1, q3, fun l d w N hl el ew rw' => ?_⟩, ?_⟩
            · rw [List.getElem?_map] at el
              cases ey : xs[l]? with
              | none => rw [ey] at el; cases el
              | some y =>
                rw [ey] at el
                cases el
                have ok := oth_at ho hl ey
                unfold okOther at ok
                rw [Bool.or_eq_true] at ok
                rcases ok with ok | ok
                · rw [rw'.imm ok]
                  exact fun _ _ z => nomatch z
                · obtain ⟨w', ew', _, sl'⟩ := ao.get ey
                  rw [ew] at ew'; cases ew'
                  cases hy : y.2 with
                  | none => rw [hy] at ok; cases ok
                  | some l' =>
                    obtain ⟨es', o', er'⟩ := sl' l' hy
                    exact E.newApart q2 er' es' s1 (toC rw')
            · have fr : ∀ {H2 : Hp} {d2 : D}, IoFrame (ctx0 C.K C.cls) H1 H2 v d2 M → EnvOk C P H2 σ ρ := fun {H2 d2} ⟨k, kn, _⟩ =>
                E.same fun a o ea => k a o (s1 a o ea) fun m => by rw [q2 a m] at ea; cases ea
              cases er : (Fd (xs.map fun y => y.1.2)).1 with
              | bad => rw [er] at h; exact h.elim
              | ex c =>
                rw [er] at h
                exact fun H2 f2 => h H2 (fr f2)
              | ok d =>
                rw [er] at h
                unfold immR at h
                dsimp only at h
                by_cases hi : imm d = true
                · rw [if_pos hi] at h
                  exact ⟨hi, fun u H2 f2 ru => h u H2 (fr f2) (toC ru)⟩
                · rw [if_neg hi] at h; exact h.elim
          · rw [if_neg hf] at h; exact h.elim
      · rw [if_neg ho] at h; exact h.elim
theorem pe_callIo {j k : Nat} {x : Str} {Fd : List D → Res D × D} {fa : Env → Res (List XD)} (F : Fx R C X W) (G : FnIO X.prog X.w X.K X.mg X.base C.cls x j k Fd) (hk : k ≤ R) (hg : Gl X x) (ha : PA X (e :: es) (RX C W fa)) (hdb : (x == ("__debug__" : Str)) = false := by decide)
    (he : starEach (e :: es) X.env = (false, eval e X.env) :: starEach es X.env := by rfl) (hpl : (backTo pos (starEach es X.env)).any (·.1) = false := by rfl) : PE X (.Call (.Name x p) (e :: es) [] pos) (RE C W (callIo j Fd fa)) := by
  obtain ⟨f, fd, ps, hm, hkp, hb, G⟩ := G.ex
  exact (pe_callS (E := WE W) G (F.room.mono hk) hg hm hkp hb (fun σ => passAt F.tk σ) ha hdb he hpl).imp fun σ H Q h => by
    rw [F.hK]
    exact re_call h

/-! ### statements around it -/
def dEff (f : Env → Res D × Env) (k : D → EndsD → Env → Prop) : TD := fun DD ρ => match (f ρ).1 with
  | .ok d => k d DD (f ρ).2
  | .ex c => DD.ex c (f ρ).2
  | .bad => False
theorem rs_eff {f : Env → Res D × Env} {k : D → EndsD → Env → Prop} {D' : Ends} {σ : St} {H : Hp} {Rr : V → Hp → Prop} (h : RS C W (dEff f k) D' σ H)
    (i : ∀ ρ P DD d v H', EnvOk C P H' σ ρ → Imp C P W DD D' → k d DD ρ → Rep C H' d v [] → Rr v H') : RE C W f σ H Rr := by
  obtain ⟨ρ, P, DD, E, I, h⟩ := h
  refine ⟨ρ, P, E, ?_⟩
  unfold dEff at h
  cases e : (f ρ).1 with
  | bad => rw [e] at h; exact h
  | ex c => rw [e] at h; exact fun H' E' => I.ex σ H' _ c E' h
  | ok d => rw [e] at h; exact fun v H' E' r => i _ P DD d v H' E' I h r
def dExprE (f : Env → Res D × Env) : TD := dEff f fun _ DD ρ => DD.nx ρ
theorem ds_exprE {f : Env → Res D × Env} (he : PE X e (RE C W f)) (hs : swapsWith e none pos.line X.env = pure false := by rfl) : PS X (.Expr e pos) (RS C W (dExprE f)) :=
  (ps_expr he hs).imp fun D σ H h => rs_eff h fun ρ P DD d v H' E I k r => I.nx _ _ _ E k
def dRetE (f : Env → Res D × Env) : TD := dEff f fun d DD ρ => DD.rt d ρ
theorem ds_retE {f : Env → Res D × Env} (he : PE X e (RE C W f)) : PS X (.Return (some e) pos) (RS C W (dRetE f)) :=
  (ps_ret he).imp fun D σ H h => rs_eff h fun ρ P DD d v H' E I k r => I.rt _ _ _ _ _ _ E r List.nodup_nil (fun a m => nomatch m) (fun a m => nomatch m) k
def dSetE (i : Nat) (f : Env → Res D × Env) : TD := dEff f fun d DD ρ => i < ρ.length ∧ DD.nx (ρ.set i (some (.loc, d)))
theorem ds_setE {i : Nat} {x : Str} {pos' : Pos} {f : Env → Res D × Env} (F : Fx R C X W) (hi : X.N[i]? = some x) (hx : Loc X.env.scope x) (he : PE X e (RE C W f)) (hs : swapsWith e (some (.Name x pos')) pos.line X.env = pure false := by rfl)
    (hf : X.fn x = true ∨ X.env.scope.names.lookup x = some .local := by first | exact .inl rfl | exact .inr rfl | assumption) : PS X (.Assign [.Name x pos'] e pos) (RS C W (dSetE i f)) :=
  (ps_set F.nd hi hx he hs hf).imp fun D σ H h => rs_eff h fun ρ P DD d v H' E I k r =>
    I.nx _ _ _ (assign_own (fd := (.fr, d)) E ⟨Same.refl H', [], r, .nil⟩ k.1 (.inl rfl)) k.2
/-- x += e, e changes other names -/
def dAugE (i : Nat) (f : Env → Res D × Env) (k : Int → Int → Int) : TD := fun DD ρ => match ρ[i]? with
  | some (some (_, .int m)) => match (f ρ).1 with
    | .ok (.int n) => i < (f ρ).2.length ∧ DD.nx ((f ρ).2.set i (some (.loc, .int (k m n))))
    | .ok _ => False
    | .ex c => DD.ex c (f ρ).2
    | .bad => False
  | _ => False
theorem ds_iaddE (i : Nat) {x : Str} {f : Env → Res D × Env} (F : Fx R C X W) (he : PE X e (RE C W f)) (hN : X.N[i]? = some x := by rfl) (hx : Loc X.env.scope x := by first | exact .inl rfl | exact .inr rfl)
    (hf : X.fn x = true ∨ X.env.scope.names.lookup x = some .local := by first | exact .inl rfl | exact .inr rfl | assumption) : PS X (.AugAssign (.Name x p) .Add e pos) (RS C W (dAugE i f fun m n => m + n)) :=
  (ps_aug F.nd hN hx he ip_add hf).imp fun D σ H ⟨ρ, P, DD, E, I, hh⟩ => by
    unfold dAugE at hh
    split at hh
    · rename_i o m ei
      obtain ⟨v, M, e1, r, _⟩ := E.at_ i o _ ei
      refine ⟨v, e1, ρ, P, E, ?_⟩
      cases ef : (f ρ).1 with
      | bad => rw [ef] at hh; exact hh
      | ex c => rw [ef] at hh; exact fun H' E' => I.ex σ H' _ c E' hh
      | ok d =>
        rw [ef] at hh
        intro w H1 E1 r1
        cases d <;> first | exact hh.elim | skip
        rename_i n
        refine ⟨m, n, r.1, r1.1, I.nx _ _ _ ?_ hh.2⟩
        exact assign_own (fd := (.fr, .int (m + n))) E1 ⟨Same.refl H1, [], ⟨rfl, rfl⟩, .nil⟩ hh.1 (.inl rfl)
    · exact hh.elim
end
end DL
/-! DL20: statements as functions of the names; what a def computes. -/
namespace DL
open PySem L2

inductive Out where
  | nx (ρ : Env) | rt (d : D) (ρ : Env) | bk (ρ : Env) | ct (ρ : Env) | ex (c : Str) (ρ : Env) | bad
def Out.ends (DD : EndsD) : Out → Prop
  | .nx ρ => DD.nx ρ
  | .rt d ρ => DD.rt d ρ
  | .bk ρ => DD.bk ρ
  | .ct ρ => DD.ct ρ
  | .ex c ρ => DD.ex c ρ
  | .bad => False
abbrev XS := Env → Out
def tX (x : XS) : TD := fun DD ρ => (x ρ).ends DD
theorem rs_to {C : Ctx} {W : WX} {t : TD} {x : XS} (h : ∀ DD ρ, (x ρ).ends DD → t DD ρ) (D : Ends) (σ : St) (H : Hp) (q : RS C W (tX x) D σ H) : RS C W t D σ H := by
  obtain ⟨ρ, P, DD, E, I, q⟩ := q
  exact ⟨ρ, P, DD, E, I, h DD ρ q⟩
def xNext : XS := .nx
def xBreak : XS := .bk
def xCont : XS := .ct
def xRetN : XS := .rt .non
def xRaise (c : Str) : XS := .ex c
def xSeq (x y : XS) : XS := fun ρ => match x ρ with
  | .nx ρ' => y ρ'
  | o => o
def xVal (f : Env → Res FD) (k : FD → XS) : XS := fun ρ => match f ρ with
  | .ok x => k x ρ
  | .ex c => .ex c ρ
  | .bad => .bad
def xExpr (f : Env → Res FD) : XS := xVal f fun _ => .nx
def xRet (f : Env → Res FD) : XS := xVal f fun x ρ => match x.1 with
  | .fr => .rt x.2 ρ
  | .mv => .rt x.2 ρ
  | _ => .bad
def xSet (i : Nat) (f : Env → Res FD) : XS := xVal f fun x ρ => if i < ρ.length then match x.1 with
  | .fr => .nx (ρ.set i (some (.loc, x.2)))
  | .sf => .nx (ρ.set i (some (.sh, x.2)))
  | _ => .bad
  else .bad
def xTgt (t : Tg) (f : Env → Res FD) : XS := xVal f fun x ρ => match x.1 with
  | .fr => match asg .loc t x.2 ρ with
    | some ρ' => .nx ρ'
    | none => .bad
  | .sf => match asg .sh t x.2 ρ with
    | some ρ' => .nx ρ'
    | none => .bad
  | _ => .bad
def xIf (c : Env → Res Bool) (x y : XS) : XS := fun ρ => match c ρ with
  | .ok true => x ρ
  | .ok false => y ρ
  | .ex c => .ex c ρ
  | .bad => .bad
def xWhile (c : Env → Res Bool) (x : XS) : Nat → XS
  | 0 => fun _ => .bad
  | n + 1 => fun ρ => match c ρ with
    | .ok true => match x ρ with
      | .nx ρ' => xWhile c x n ρ'
      | .ct ρ' => xWhile c x n ρ'
      | .bk ρ' => .nx ρ'
      | o => o
    | .ok false => .nx ρ
    | .ex c => .ex c ρ
    | .bad => .bad
def xLoop (t : Tg) (x : XS) : List D → XS
  | [] => .nx
  | d :: ds => fun ρ => match asg .sh t d ρ with
    | none => .bad
    | some ρ1 => match x ρ1 with
      | .nx ρ' => xLoop t x ds ρ'
      | .ct ρ' => xLoop t x ds ρ'
      | .bk ρ' => .nx ρ'
      | o => o
def flOk (fd : FD) : Bool := match fd.1 with
  | .fr => true
  | .sf => true
  | .mv => false
  | .bo => false
def xForW (wk : Env → Env) (fi : Env → Res ID) (t : Tg) (x : XS) : XS := fun ρ => match fi ρ with
  | .ok it => if it.1.all flOk = true then xLoop t x it.2 (wk ρ) else .bad
  | .ex c => .ex c ρ
  | .bad => .bad
def xFor (fi : Env → Res ID) (t : Tg) (x : XS) : XS := xForW id fi t x
def unlkO : Out → Out
  | .nx ρ => .nx (unlkE ρ)
  | .rt d ρ => .rt d (unlkE ρ)
  | .bk ρ => .bk (unlkE ρ)
  | .ct ρ => .ct (unlkE ρ)
  | _ => .bad
def xLock (i : Nat) (x : XS) : XS := fun ρ => match ρ[i]? with
  | some (some (_, d)) => if isDictD d = true then unlkO (x ((unlkE ρ).set i (some (.lk, d)))) else .bad
  | _ => .bad
def xForK (i : Nat) (t : Tg) (x : XS) : XS := xLock i (xForW (shE i) (keysI i) t x)
def xPar (is : List Nat) (fa : Env → Res AD) : XS := fun ρ => match fa ρ with
  | .ok y => if y.1 = true then match asgL .loc (is.map Tg.nm) y.2 ρ with
    | some ρ' => .nx ρ'
    | none => .bad
    else .bad
  | .ex c => .ex c ρ
  | .bad => .bad
def xAug (i : Nat) (f : Env → Res FD) (k : Int → Int → Int) : XS := fun ρ => match ρ[i]? with
  | some (some (_, .int m)) => match f ρ with
    | .ok x => match x.2 with
      | .int n => .nx (ρ.set i (some (.loc, .int (k m n))))
      | _ => .bad
    | .ex c => .ex c ρ
    | .bad => .bad
  | _ => .bad
def xMutL (i : Nat) (f : Env → Res FD) (k : List D → FD → Option (List D)) : XS := fun ρ => match ρ[i]? with
  | some (some (o, .lst ds)) => if o.own = true then match f ρ with
    | .ok x => match k ds x with
      | some ds' => .nx (ρ.set i (some (o, .lst ds')))
      | none => .bad
    | .ex c => .ex c ρ
    | .bad => .bad
    else .bad
  | _ => .bad
def xApp (i : Nat) (f : Env → Res FD) : XS := xMutL i f appK
def xExt (i : Nat) (f : Env → Res FD) : XS := xMutL i f extK
def xPut (i : Nat) (fk fv : Env → Res FD) : XS := fun ρ => match fv ρ with
  | .ok x => match ρ[i]? with
    | some (some (o, d)) => if o.own = true then match fk ρ with
      | .ok k => match putF d k.2 x with
        | some d' => .nx (ρ.set i (some (o, d')))
        | none => .bad
      | .ex c => .ex c ρ
      | .bad => .bad
      else .bad
    | _ => .bad
  | .ex c => .ex c ρ
  | .bad => .bad
def xEff (f : Env → Res D × Env) (k : D → XS) : XS := fun ρ => match (f ρ).1 with
  | .ok d => k d (f ρ).2
  | .ex c => .ex c (f ρ).2
  | .bad => .bad
def xExprE (f : Env → Res D × Env) : XS := xEff f fun _ => .nx
def xRetE (f : Env → Res D × Env) : XS := xEff f .rt
def xSetE (i : Nat) (f : Env → Res D × Env) : XS := xEff f fun d ρ => if i < ρ.length then .nx (ρ.set i (some (.loc, d))) else .bad
def xAugE (i : Nat) (f : Env → Res D × Env) (k : Int → Int → Int) : XS := fun ρ => match ρ[i]? with
  | some (some (_, .int m)) => match (f ρ).1 with
    | .ok (.int n) => if i < (f ρ).2.length then .nx ((f ρ).2.set i (some (.loc, .int (k m n)))) else .bad
    | .ok _ => .bad
    | .ex c => .ex c (f ρ).2
    | .bad => .bad
  | _ => .bad

section
variable {R : Nat} {C : Ctx} {X : Cx} {W : WX} {a b c e : Expr} {es : List Expr} {f g h : Env → Res FD} {fa : Env → Res AD} {ft : Env → Res Bool} {fi : Env → Res ID} {fe : Env → Res D × Env} {x y : XS} {st : Stmt} {sts rest ss us : List Stmt} {pos pos' p p2 apos cpos tpos : Pos} {tg iter : Expr} {t : Tg}
theorem xs_nil : PSs X [] (RS C W (tX xNext)) := ds_nil.imp (rs_to fun _ _ h => h)
theorem xs_one (h : PS X st (RS C W (tX x))) : PSs X [st] (RS C W (tX x)) := ds_one h
theorem seq_to (DD : EndsD) (ρ : Env) (h : (xSeq x y ρ).ends DD) : dSeq (tX x) (tX y) DD ρ := by
  unfold xSeq at h
  unfold dSeq tX
  cases e : x ρ <;> rw [e] at h <;> exact h
theorem xs_cons (h1 : PS X st (RS C W (tX x))) (h2 : PSs X rest (RS C W (tX y))) : PSs X (st :: rest) (RS C W (tX (xSeq x y))) := (ds_cons h1 h2).imp (rs_to seq_to)
theorem xs_pass : PS X (.Pass pos) (RS C W (tX xNext)) := ds_pass.imp (rs_to fun _ _ h => h)
theorem xs_break : PS X (.Break pos) (RS C W (tX xBreak)) := ds_break.imp (rs_to fun _ _ h => h)
theorem xs_cont : PS X (.Continue pos) (RS C W (tX xCont)) := ds_cont.imp (rs_to fun _ _ h => h)
theorem xs_retN : PS X (.Return none pos) (RS C W (tX xRetN)) := ds_retN.imp (rs_to fun _ _ h => h)
theorem val_to {k : FD → XS} {k' : FD → EndsD → Env → Prop} (i : ∀ v DD ρ, (k v ρ).ends DD → k' v DD ρ) (DD : EndsD) (ρ : Env) (h : (xVal f k ρ).ends DD) : dVal f k' DD ρ := by
  unfold xVal at h
  unfold dVal
  cases e : f ρ <;> rw [e] at h
  · exact i _ _ _ h
  · exact h
  · exact h
theorem xs_expr (he : PE X e (RV C W f)) (hs : swapsWith e none pos.line X.env = pure false := by rfl) : PS X (.Expr e pos) (RS C W (tX (xExpr f))) := (ds_expr he hs).imp (rs_to (val_to fun _ _ _ h => h))
theorem xs_ret (he : PE X e (RV C W f)) : PS X (.Return (some e) pos) (RS C W (tX (xRet f))) := (ds_ret he).imp (rs_to (val_to fun v DD ρ h => by
  obtain ⟨fl, d⟩ := v
  cases fl <;> first | exact h.elim | skip
  · exact ⟨.inl rfl, h⟩
  · exact ⟨.inr rfl, h⟩))
theorem set_to {i : Nat} (v : FD) (DD : EndsD) (ρ : Env) (h : (if i < ρ.length then match v.1 with
  | .fr => Out.nx (ρ.set i (some (.loc, v.2)))
  | .sf => .nx (ρ.set i (some (.sh, v.2)))
  | _ => .bad
  else .bad).ends DD) : (v.1 = .fr ∨ v.1 = .sf) ∧ i < ρ.length ∧ DD.nx (ρ.set i (some (ownOf v.1, v.2))) := by
  obtain ⟨fl, d⟩ := v
  by_cases hi : i < ρ.length
  · rw [if_pos hi] at h
    cases fl <;> first | exact h.elim | skip
    · exact ⟨.inl rfl, hi, h⟩
    · exact ⟨.inr rfl, hi, h⟩
  · rw [if_neg hi] at h; exact h.elim
theorem xs_set {i : Nat} {z : Str} (F : Fx R C X W) (hi : X.N[i]? = some z) (hx : Loc X.env.scope z) (he : PE X e (RV C W f)) (hs : swapsWith e (some (.Name z pos')) pos.line X.env = pure false := by rfl) (hf : X.fn z = true ∨ X.env.scope.names.lookup z = some .local := by first | exact .inl rfl | exact .inr rfl | assumption) :
    PS X (.Assign [.Name z pos'] e pos) (RS C W (tX (xSet i f))) := (ds_set F hi hx he hs hf).imp (rs_to (val_to set_to))
theorem xs_tgt (he : PE X e (RV C W f)) (hg : PG X tg (gOf X.K t)) (hs : swapsWithSole [tg] e pos.line X.env = pure false := by rfl) (hw : swappedStores [tg] e X.env = pure none := by rfl)
    (h1 : (assignEach [tg] X.env).map (·.2) = [assign tg X.env] := by rfl) : PS X (.Assign [tg] e pos) (RS C W (tX (xTgt t f))) := (ds_tgt he hg hs hw h1).imp (rs_to (val_to fun v DD ρ h => by
  obtain ⟨fl, d⟩ := v
  cases fl <;> first | exact h.elim | skip
  · refine ⟨.inl rfl, ?_⟩
    dsimp only at h ⊢
    unfold ownOf
    cases e : asg .loc t d ρ <;> rw [e] at h <;> exact h
  · refine ⟨.inr rfl, ?_⟩
    dsimp only at h ⊢
    unfold ownOf
    cases e : asg .sh t d ρ <;> rw [e] at h <;> exact h))
theorem xs_if (hc : PT X c (RT C W ft)) (ha : PSs X ss (RS C W (tX x))) (hb : PSs X us (RS C W (tX y))) : PS X (.If c ss us pos) (RS C W (tX (xIf ft x y))) := (ds_if hc ha hb).imp (rs_to fun DD ρ h => by
  unfold xIf at h
  unfold dIf
  cases e : ft ρ with
  | bad => rw [e] at h; exact h
  | ex c => rw [e] at h; exact h
  | ok k => rw [e] at h; cases k <;> exact h)
theorem xs_while (n : Nat) (F : Fx R C X W) (hc : PT X c (RT C W ft)) (hb : PSs X ss (RS C W (tX x))) : PS X (.While c ss [] pos) (RS C W (tX (xWhile ft x n))) := (ds_while F hc hb).imp (rs_to fun DD ρ h => by
  refine ⟨fun m ρ => (xWhile ft x m ρ).ends DD, ⟨n, h⟩, fun m ρ h => ?_⟩
  cases m with
  | zero => exact h.elim
  | succ m =>
    unfold xWhile at h
    cases e : ft ρ with
    | bad => rw [e] at h; exact h
    | ex c => rw [e] at h; exact h
    | ok k =>
      rw [e] at h
      cases k with
      | false => exact h
      | true =>
        show (x ρ).ends _
        dsimp only at h
        cases ex : x ρ <;> rw [ex] at h
        · exact ⟨m, Nat.lt_succ_self m, h⟩
        · exact h
        · exact h
        · exact ⟨m, Nat.lt_succ_self m, h⟩
        · exact h
        · exact h)
theorem forW_to {wk : Env → Env} (DD : EndsD) (ρ : Env) (h : (xForW wk fi t x ρ).ends DD) : dForW wk fi t (tX x) DD ρ := by
  unfold xForW at h
  unfold dForW
  cases e : fi ρ with
  | bad => rw [e] at h; exact h
  | ex c => rw [e] at h; exact h
  | ok it =>
    rw [e] at h
    dsimp only at h ⊢
    by_cases ha : it.1.all flOk = true
    · rw [if_pos ha] at h
      refine ⟨fun fd m => ?_, fun i ρ => (xLoop t x (it.2.drop i) ρ).ends DD, by dsimp only; rw [List.drop_zero]; exact h, fun ρ h => by dsimp only at h; rw [List.drop_length] at h; exact h, fun i d ρ ei h => ?_⟩
      · have := List.all_eq_true.mp ha fd m
        obtain ⟨fl, d⟩ := fd
        cases fl <;> first | (cases this; done) | exact .inl rfl | exact .inr rfl
      · obtain ⟨hi, ed⟩ := List.getElem?_eq_some_iff.mp ei
        dsimp only at h
        rw [List.drop_eq_getElem_cons hi, ed] at h
        unfold xLoop at h
        cases ea : asg .sh t d ρ with
        | none => rw [ea] at h; exact h
        | some ρ1 =>
          rw [ea] at h
          dsimp only at h ⊢
          show (x ρ1).ends _
          cases ex : x ρ1 <;> rw [ex] at h <;> exact h
    · rw [if_neg ha] at h; exact h.elim
theorem xs_for (F : Fx R C X W) (hi : PI X tg iter (RI C W fi)) (hg : PG X tg (gOf X.K t)) (hb : PSs X ss (RS C W (tX x))) (hs : ∀ x, foldedSetIterable iter X.env x = pure x := by exact fun _ => rfl) :
    PS X (.For tg iter ss [] pos) (RS C W (tX (xFor fi t x))) := (ds_for F hi hg hb hs).imp (rs_to (forW_to (wk := id)))
theorem lock_to {i : Nat} {t : TD} (hx : ∀ DD ρ, (x ρ).ends DD → t DD ρ) (DD : EndsD) (ρ : Env) (h : (xLock i x ρ).ends DD) : dLock i t DD ρ := by
  unfold xLock at h
  unfold dLock
  cases ei : ρ[i]? with
  | none => rw [ei] at h; exact h.elim
  | some s =>
    cases s with
    | none => rw [ei] at h; exact h.elim
    | some q =>
      obtain ⟨o, d⟩ := q
      rw [ei] at h
      dsimp only at h ⊢
      by_cases hd : isDictD d = true
      · rw [if_pos hd] at h
        refine ⟨hd, hx _ _ ?_⟩
        cases ex : x ((unlkE ρ).set i (some (.lk, d))) <;> rw [ex] at h
        · exact h
        · exact h
        · exact h
        · exact h
        · exact h.elim
        · exact h.elim
      · rw [if_neg hd] at h; exact h.elim
theorem xs_lock (i : Nat) (h : PS X st (RS C W (tX x))) : PS X st (RS C W (tX (xLock i x))) := (ds_lock i h).imp (rs_to (lock_to fun _ _ h => h))
theorem xs_forK (i : Nat) {z : Str} {px : Pos} (F : Fx R C X W) (hg : PG X tg (gOf X.K t)) (hb : PSs X ss (RS C W (tX x))) (hN : X.N[i]? = some z := by rfl) (hv : Vis X.env.scope z := by first | exact Or.inl rfl | exact Or.inr (Or.inl rfl) | exact Or.inr (Or.inr rfl))
    (hd : (z == ("__debug__" : Str)) = false := by decide) (hcd : (z == ("__classdict__" : Str)) = false := by decide) (hs : ∀ y, foldedSetIterable (.Name z px) X.env y = pure y := by exact fun _ => rfl) : PS X (.For tg (.Name z px) ss [] pos) (RS C W (tX (xForK i t x))) :=
  (ds_forK i F hg hb hN hv hd hcd hs).imp (rs_to (lock_to (forW_to (wk := shE i))))
theorem par_to {is : List Nat} (DD : EndsD) (ρ : Env) (h : (xPar is fa ρ).ends DD) : dPar is fa DD ρ := by
  unfold xPar at h
  unfold dPar
  cases e : fa ρ with
  | bad => rw [e] at h; exact h
  | ex c => rw [e] at h; exact h
  | ok y =>
    rw [e] at h
    dsimp only at h ⊢
    by_cases hb : y.1 = true
    · rw [if_pos hb] at h
      refine ⟨hb, ?_⟩
      cases ea : asgL .loc (is.map Tg.nm) y.2 ρ <;> rw [ea] at h <;> exact h
    · rw [if_neg hb] at h; exact h.elim
theorem xs_par {i j : Nat} {x y : Str} {px py pt : Pos} {kt k2 pt2} (F : Fx R C X W) (hi : X.N[i]? = some x) (hj : X.N[j]? = some y) (hij : i ≠ j)
    (hx : X.env.scope.names.lookup x = some .local) (hy : X.env.scope.names.lookup y = some .local) (ha : PA X [a, b] (RL C W fa))
    (hw : swappedStores [.Tuple [.Name x px, .Name y py] kt pt] (.Tuple [a, b] k2 pt2) X.env = pure (some [x, y]))
    (hs : swapsWithSole [.Tuple [.Name x px, .Name y py] kt pt] (.Tuple [a, b] k2 pt2) pos.line X.env = pure false := by rfl) :
    PS X (.Assign [.Tuple [.Name x px, .Name y py] kt pt] (.Tuple [a, b] k2 pt2) pos) (RS C W (tX (xPar [i, j] fa))) := (ds_par F hi hj hij hx hy ha hw hs).imp (rs_to par_to)
theorem xs_par3 {i j l : Nat} {x y z : Str} {px py pz pt : Pos} {kt k2 pt2} (F : Fx R C X W) (hi : X.N[i]? = some x) (hj : X.N[j]? = some y) (hl : X.N[l]? = some z) (hij : i ≠ j) (hil : i ≠ l) (hjl : j ≠ l)
    (hx : X.env.scope.names.lookup x = some .local) (hy : X.env.scope.names.lookup y = some .local) (hz : X.env.scope.names.lookup z = some .local) (ha : PA X [a, b, c] (RL C W fa))
    (hw : swappedStores [.Tuple [.Name x px, .Name y py, .Name z pz] kt pt] (.Tuple [a, b, c] k2 pt2) X.env = pure (some [x, y, z]))
    (hs : swapsWithSole [.Tuple [.Name x px, .Name y py, .Name z pz] kt pt] (.Tuple [a, b, c] k2 pt2) pos.line X.env = pure false := by rfl) :
    PS X (.Assign [.Tuple [.Name x px, .Name y py, .Name z pz] kt pt] (.Tuple [a, b, c] k2 pt2) pos) (RS C W (tX (xPar [i, j, l] fa))) := (ds_par3 F hi hj hl hij hil hjl hx hy hz ha hw hs).imp (rs_to par_to)
theorem xs_iadd (i : Nat) {z : Str} (F : Fx R C X W) (he : PE X e (RV C W f)) (hN : X.N[i]? = some z := by rfl) (hx : Loc X.env.scope z := by first | exact .inl rfl | exact .inr rfl)
    (hf : X.fn z = true ∨ X.env.scope.names.lookup z = some .local := by first | exact .inl rfl | exact .inr rfl | assumption) : PS X (.AugAssign (.Name z p) .Add e pos) (RS C W (tX (xAug i f fun m n => m + n))) :=
  (ds_iadd i F he hN hx hf).imp (rs_to fun DD ρ h => by
    unfold xAug at h
    unfold dAug
    split at h
    · rename_i ei
      try rw [ei]
      try dsimp only
      split at h
      · rename_i v ef
        try rw [ef]
        try dsimp only
        split at h
        · rename_i ev; (try rw [ev]); exact h
        · exact h.elim
      · rename_i ef; (try rw [ef]); exact h
      · rename_i ef; exact h.elim
    · exact h.elim)
theorem mut_to {i : Nat} {k : List D → FD → Option (List D)} (DD : EndsD) (ρ : Env) (h : (xMutL i f k ρ).ends DD) : dMutL i f k DD ρ := by
  unfold xMutL at h
  unfold dMutL
  split at h
  · rename_i o ds ei
    try rw [ei]
    try dsimp only
    by_cases ho : o.own = true
    · rw [if_pos ho] at h
      refine ⟨ho, ?_⟩
      cases e : f ρ with
      | bad => rw [e] at h; exact h
      | ex c => rw [e] at h; exact h
      | ok v =>
        rw [e] at h
        dsimp only at h ⊢
        cases ek : k ds v <;> rw [ek] at h <;> exact h
    · rw [if_neg ho] at h; exact h.elim
  · exact h.elim
theorem xs_app (i : Nat) {x : Str} (F : Fx R C X W) (he : PE X e (RV C W f)) (hN : X.N[i]? = some x := by rfl) (hv : Vis X.env.scope x := by first | exact Or.inl rfl | exact Or.inr (Or.inl rfl) | exact Or.inr (Or.inr rfl)) (hd : (x == ("__debug__" : Str)) = false := by decide)
    (hcd : (x == ("__classdict__" : Str)) = false := by decide) (hbase : attributeBase (.Name x p) "append" X.env (eval (.Name x p) X.env) = eval (.Name x p) X.env := by rfl)
    (hfew : ((backTo cpos (starEach [e] X.env)).all (fun x => !x.1) && (backToKw cpos (keywordEach [] X.env)).all (fun x => x.1.isSome)
      && decide ([e].length + ([] : List Keyword).length + (if ([] : List Keyword).isEmpty then 0 else 1) < 30)) = true := by rfl)
    (hline : (apos.endLine == cpos.line) = true := by rfl) (hs : starEach [e] X.env = (false, eval e X.env) :: starEach [] X.env := by rfl) (hplain : (backTo cpos (starEach [] X.env)).any (·.1) = false := by rfl) (hsw : swapsWith (.Call (.Attribute (.Name x p) "append" apos) [e] [] cpos) none pos.line X.env = pure false := by rfl) :
    PS X (.Expr (.Call (.Attribute (.Name x p) "append" apos) [e] [] cpos) pos) (RS C W (tX (xApp i f))) := (ds_app i F he hN hv hd hcd hbase hfew hline hs hplain hsw).imp (rs_to mut_to)
theorem xs_ext (i : Nat) {x : Str} (F : Fx R C X W) (he : PE X e (RV C W f)) (hN : X.N[i]? = some x := by rfl) (hv : Vis X.env.scope x := by first | exact Or.inl rfl | exact Or.inr (Or.inl rfl) | exact Or.inr (Or.inr rfl)) (hd : (x == ("__debug__" : Str)) = false := by decide)
    (hcd : (x == ("__classdict__" : Str)) = false := by decide) (hbase : attributeBase (.Name x p) "extend" X.env (eval (.Name x p) X.env) = eval (.Name x p) X.env := by rfl)
    (hfew : ((backTo cpos (starEach [e] X.env)).all (fun x => !x.1) && (backToKw cpos (keywordEach [] X.env)).all (fun x => x.1.isSome)
      && decide ([e].length + ([] : List Keyword).length + (if ([] : List Keyword).isEmpty then 0 else 1) < 30)) = true := by rfl)
    (hline : (apos.endLine == cpos.line) = true := by rfl) (hs : starEach [e] X.env = (false, eval e X.env) :: starEach [] X.env := by rfl) (hplain : (backTo cpos (starEach [] X.env)).any (·.1) = false := by rfl) (hsw : swapsWith (.Call (.Attribute (.Name x p) "extend" apos) [e] [] cpos) none pos.line X.env = pure false := by rfl) :
    PS X (.Expr (.Call (.Attribute (.Name x p) "extend" apos) [e] [] cpos) pos) (RS C W (tX (xExt i f))) := (ds_ext i F he hN hv hd hcd hbase hfew hline hs hplain hsw).imp (rs_to mut_to)
theorem xs_raise {c m : Str} {j : Nat} {p2 : Pos} (F : Fx R C X W) (T : ExcT X.K X.mg C.cls c) (hg : Gl X c) (hdb : (c == ("__debug__" : Str)) = false := by decide) : PS X (.Raise (some (.Call (.Name c p) [.Constant (.str m) j p2] [] pos)) none pos') (RS C W (tX (xRaise c))) := (ds_raise F T hg hdb).imp (rs_to fun _ _ h => h)
theorem eff_to {k : D → XS} {k' : D → EndsD → Env → Prop} (i : ∀ v DD ρ, (k v ρ).ends DD → k' v DD ρ) (DD : EndsD) (ρ : Env) (h : (xEff fe k ρ).ends DD) : dEff fe k' DD ρ := by
  unfold xEff at h
  unfold dEff
  cases e : (fe ρ).1 <;> rw [e] at h
  · exact i _ _ _ h
  · exact h
  · exact h
theorem xs_exprE (he : PE X e (RE C W fe)) (hs : swapsWith e none pos.line X.env = pure false := by rfl) : PS X (.Expr e pos) (RS C W (tX (xExprE fe))) := (ds_exprE he hs).imp (rs_to (eff_to fun _ _ _ h => h))
theorem xs_retE (he : PE X e (RE C W fe)) : PS X (.Return (some e) pos) (RS C W (tX (xRetE fe))) := (ds_retE he).imp (rs_to (eff_to fun _ _ _ h => h))
theorem xs_setE {i : Nat} {x : Str} {pos' : Pos} (F : Fx R C X W) (hi : X.N[i]? = some x) (hx : Loc X.env.scope x) (he : PE X e (RE C W fe)) (hs : swapsWith e (some (.Name x pos')) pos.line X.env = pure false := by rfl)
    (hf : X.fn x = true ∨ X.env.scope.names.lookup x = some .local := by first | exact .inl rfl | exact .inr rfl | assumption) : PS X (.Assign [.Name x pos'] e pos) (RS C W (tX (xSetE i fe))) := (ds_setE F hi hx he hs hf).imp (rs_to (eff_to fun v DD ρ h => by
    by_cases hi : i < ρ.length
    · rw [if_pos hi] at h; exact ⟨hi, h⟩
    · rw [if_neg hi] at h; exact h.elim))
theorem xs_iaddE (i : Nat) {x : Str} (F : Fx R C X W) (he : PE X e (RE C W fe)) (hN : X.N[i]? = some x := by rfl) (hx : Loc X.env.scope x := by first | exact .inl rfl | exact .inr rfl)
    (hf : X.fn x = true ∨ X.env.scope.names.lookup x = some .local := by first | exact .inl rfl | exact .inr rfl | assumption) : PS X (.AugAssign (.Name x p) .Add e pos) (RS C W (tX (xAugE i fe fun m n => m + n))) :=
  (ds_iaddE i F he hN hx hf).imp (rs_to fun DD ρ h => by
    unfold xAugE at h
    unfold dAugE
    split at h
    · rename_i ei
      try rw [ei]
      try dsimp only
      split at h
      · rename_i n ef
        try rw [ef]
        try dsimp only
        by_cases hi : i < (fe ρ).2.length
        · rw [if_pos hi] at h; exact ⟨hi, h⟩
        · rw [if_neg hi] at h; exact h.elim
      · exact h.elim
      · rename_i ef; (try rw [ef]); exact h
      · exact h.elim
    · exact h.elim)
theorem put_to {i : Nat} (DD : EndsD) (ρ : Env) (h : (xPut i f g ρ).ends DD) : dPut i f g DD ρ := by
  unfold xPut at h
  unfold dPut
  cases e : g ρ with
  | bad => rw [e] at h; exact h
  | ex c => rw [e] at h; exact h
  | ok v =>
    rw [e] at h
    dsimp only at h ⊢
    split at h
    · rename_i o d ei
      try rw [ei]
      try dsimp only
      by_cases ho : o.own = true
      · rw [if_pos ho] at h
        refine ⟨ho, ?_⟩
        cases ek : f ρ with
        | bad => rw [ek] at h; exact h
        | ex c => rw [ek] at h; exact h
        | ok k =>
          rw [ek] at h
          dsimp only at h ⊢
          cases ep : putF d k.2 v <;> rw [ep] at h <;> exact h
      · rw [if_neg ho] at h; exact h.elim
    · exact h.elim
theorem xs_put (i : Nat) {x : Str} (F : Fx R C X W) (hk : PE X a (RV C W f)) (hv : PE X b (RV C W g)) (hN : X.N[i]? = some x := by rfl) (hvi : Vis X.env.scope x := by first | exact Or.inl rfl | exact Or.inr (Or.inl rfl) | exact Or.inr (Or.inr rfl)) (hd : (x == ("__debug__" : Str)) = false := by decide)
    (hcd : (x == ("__classdict__" : Str)) = false := by decide) (hs : swapsWith b (some (.Subscript (.Name x p) a pos')) pos.line X.env = pure false := by rfl) :
    PS X (.Assign [.Subscript (.Name x p) a pos'] b pos) (RS C W (tX (xPut i f g))) := (ds_put i F hk hv hN hvi hd hcd hs).imp (rs_to put_to)
end

/-! ### what a def computes -/
def Out.res : Out → Res D
  | .nx _ => .ok .non
  | .rt d _ => .ok d
  | .ex c _ => .ex c
  | _ => .bad
/-- what a def of n parameters, k names computes -/
def defF (n k : Nat) (x : XS) : List D → Res D := fun ds => if ds.length = n then (x (startD k ds)).res else .bad
theorem defF_len {n k : Nat} {x : XS} (ds : List D) (h : defF n k x ds ≠ .bad) : ds.length = n := by
  unfold defF at h
  by_cases e : ds.length = n
  · exact e
  · rw [if_neg e] at h; exact absurd rfl h
theorem defF_sem {n k : Nat} {x : XS} (ds : List D) (h : defF n k x ds ≠ .bad) : tX x (endsOf (defF n k x ds)) (startD k ds) := by
  have e := defF_len ds h
  unfold defF at h ⊢
  rw [if_pos e] at h ⊢
  unfold tX
  cases ex : x (startD k ds) <;> rw [ex] at h
  · exact rfl
  · exact rfl
  · exact absurd rfl h
  · exact absurd rfl h
  · exact rfl
  · exact absurd rfl h
def Out.resIO (j : Nat) : Out → Res D × D
  | .nx ρ => match ρ[j]? with
    | some (some (.io, d')) => (.ok .non, d')
    | _ => (.bad, .non)
  | .rt d ρ => if imm d = true then match ρ[j]? with
    | some (some (.io, d')) => (.ok d, d')
    | _ => (.bad, .non)
    else (.bad, .non)
  | .ex c ρ => match ρ[j]? with
    | some (some (.io, d')) => (.ex c, d')
    | _ => (.bad, .non)
  | _ => (.bad, .non)
def defIO (j n k : Nat) (x : XS) : List D → Res D × D := fun ds => if ds.length = n then (x (startIO k j ds)).resIO j else (.bad, .non)
theorem defIO_len {j n k : Nat} {x : XS} (ds : List D) (h : (defIO j n k x ds).1 ≠ .bad) : ds.length = n := by
  unfold defIO at h
  by_cases e : ds.length = n
  · exact e
  · rw [if_neg e] at h; exact absurd rfl h
theorem defIO_sem {j n k : Nat} {x : XS} (ds : List D) (h : (defIO j n k x ds).1 ≠ .bad) : tX x (endsIO j (defIO j n k x ds)) (startIO k j ds) := by
  have e := defIO_len ds h
  unfold defIO at h ⊢
  rw [if_pos e] at h ⊢
  unfold tX
  cases ex : x (startIO k j ds) with
  | nx ρ =>
    rw [ex] at h
    unfold Out.resIO at h ⊢
    dsimp only at h ⊢
    split at h
    · rename_i d' ei; exact ⟨rfl, ei⟩
    · exact absurd rfl h
  | rt d ρ =>
    rw [ex] at h
    unfold Out.resIO at h ⊢
    dsimp only at h ⊢
    by_cases hi : imm d = true
    · rw [if_pos hi] at h ⊢
      split at h
      · rename_i d' ei; exact ⟨rfl, hi, ei⟩
      · exact absurd rfl h
    · rw [if_neg hi] at h; exact absurd rfl h
  | ex c ρ =>
    rw [ex] at h
    unfold Out.resIO at h ⊢
    dsimp only at h ⊢
    split at h
    · rename_i d' ei; exact ⟨rfl, ei⟩
    · exact absurd rfl h
  | bk ρ => rw [ex] at h; exact absurd rfl h
  | ct ρ => rw [ex] at h; exact absurd rfl h
  | bad => rw [ex] at h; exact absurd rfl h
end DL
/-! DL21: name = [..] as a function of the names. -/
namespace DL
open PySem L2
section
variable {R : Nat} {C : Ctx} {X : Cx} {W : WX} {pos spos : Pos}
theorem xs_setLc {i : Nat} {y : Str} {py : Pos} {elt tg iter : Expr} {ifs : List Expr} {scope : Scope} (own : List (Str × Nat)) {fi : Env → Res ID} {t : Tg} {tt : Env → Res Bool} {te : Env → Res FD} {spos : Pos} (F : Fx R C X W) (hy : X.N[i]? = some y) (hyl : X.env.scope.names.lookup y = some .local)
    (hi : PI X tg iter (RI C W fi)) (ok : blkC X.N X.env.scope scope own = true)
    (ht' : t.ix.all (fun i => (own.map (·.2)).contains i) = true)
    (hg : ∀ (s : Shared) (H : Hp) (C' : Addr) (cl : List (Str × Addr)) (fp : List Addr), Fx R C (X.blk s H scope (compEnvC scope cl C' X.env) fp) W0 → PG (X.blk s H scope (compEnvC scope cl C' X.env) fp) tg (gOf X.K t))
    (ht : ∀ (s : Shared) (H : Hp) (C' : Addr) (cl : List (Str × Addr)) (fp : List Addr), Fx R C (X.blk s H scope (compEnvC scope cl C' X.env) fp) W0 → PTs (X.blk s H scope (compEnvC scope cl C' X.env) fp) ifs (RT C W0 tt))
    (he : ∀ (s : Shared) (H : Hp) (C' : Addr) (cl : List (Str × Addr)) (fp : List Addr), Fx R C (X.blk s H scope (compEnvC scope cl C' X.env) fp) W0 → PE (X.blk s H scope (compEnvC scope cl C' X.env) fp) elt (RV C W0 te))
    (hsw : swapsWith (.ListComp elt [⟨tg, iter, ifs, 0⟩] scope pos) (some (.Name y py)) spos.line X.env = pure true := by rfl)
    (hs : ∀ x, foldedSetIterable iter X.env x = pure x := by exact fun _ => rfl) :
    PS X (.Assign [.Name y py] (.ListComp elt [⟨tg, iter, ifs, 0⟩] scope pos) spos) (RS C W (tX (xSet i (compF fi t tt te (own.map (·.2)))))) :=
  (ds_setLc own F hy hyl hi ok ht' hg ht he hsw hs).imp (rs_to (val_to set_to))
/-- a slot is shared ahead of the statement (it is walked there) -/
def xSh (i : Nat) (x : XS) : XS := fun ρ => x (shE i ρ)
theorem xs_sh (i : Nat) {st : Stmt} {x : XS} (h : PS X st (RS C W (tX x))) : PS X st (RS C W (tX (xSh i x))) := h.imp fun D σ H ⟨ρ, P, DD, E, I, q⟩ => ⟨shE i ρ, P, DD, shE_ok E, I, q⟩

/-! ### lists of lists put together -/
def addN : FD → FD → Res FD := fun x y => match x.2, y.2 with
  | .lst xs, .lst ys => if xs.length + ys.length ≤ sizeLine then .ok (.bo, .lst (xs ++ ys)) else .bad
  | _, _ => .bad
def addE : FD → FD → Res FD := fun x y => match addD x y with
  | .bad => addN x y
  | r => r
variable {a b e : Expr} {f g : Env → Res FD}
theorem rv_addN {σ : St} {H : Hp} {Q : VK} (h : RV C W (bind2 f g addN) σ H Q) : tOp rCat (RV C W f) (RV C W g) σ H Q := by
  obtain ⟨ρ, P, E, h⟩ := h
  refine ⟨ρ, P, E, ?_⟩
  unfold bind2 at h
  cases e : f ρ with
  | bad => rw [e] at h; exact h
  | ex c => rw [e] at h; exact h
  | ok fx =>
    rw [e] at h
    simp only [Res.ok_bind] at h
    intro x H1 ⟨s1, M, r1, f1⟩
    refine ⟨ρ, P, E.same s1, ?_⟩
    cases e2 : g ρ with
    | bad => rw [e2] at h; exact h
    | ex c => rw [e2] at h; exact fun H' s' => h H' (s1.trans s')
    | ok fy =>
      rw [e2] at h
      simp only [Res.ok_bind] at h
      intro y H2 ⟨s2, N, r2, f2⟩
      obtain ⟨fl, dx⟩ := fx
      obtain ⟨fl', dy⟩ := fy
      unfold addN at h
      cases dx <;> first | exact h.elim | skip
      cases dy <;> first | exact h.elim | skip
      rename_i xs ys
      dsimp only at h
      by_cases hz : xs.length + ys.length ≤ sizeLine
      · rw [if_pos hz] at h
        obtain ⟨l, vs, M', rfl, e1, z1, k1, rfl⟩ := r1.same s2
        obtain ⟨l2, ws, N', rfl, e3, z2, k2, rfl⟩ := r2
        refine ⟨l, l2, vs, ws, rfl, rfl, e1, e3, by rw [← k1.length, ← k2.length]; exact hz, fun p hp => h _ _ ⟨(s1.trans s2).trans (upd_sameH hp), p :: (M' ++ N'), ⟨p, vs ++ ws, M' ++ N', rfl, upd_same, by rw [List.length_append]; exact hz, ?_, rfl⟩, trivial⟩⟩
        exact (k1.same (upd_sameH hp)).append (k2.same (upd_sameH hp))
      · rw [if_neg hz] at h; exact h.elim
theorem pd_addE (F : Fx R C X W) (ha : PE X a (RV C W f)) (hb : PE X b (RV C W g)) : PE X (.BinOp a .Add b pos) (RV C W (bind2 f g addE)) :=
  ((pd_add F ha hb).or ((pe_op op_cat ha hb).imp fun _ _ _ => rv_addN)).imp fun σ H Q ⟨ρ, P, E, h⟩ => by
    unfold bind2 at h
    cases e : f ρ with
    | bad => rw [e] at h; exact h.elim
    | ex c => rw [e] at h; exact .inl ⟨ρ, P, E, by unfold bind2; rw [e]; exact h⟩
    | ok x =>
      rw [e] at h
      simp only [Res.ok_bind] at h
      cases e2 : g ρ with
      | bad => rw [e2] at h; exact h.elim
      | ex c => rw [e2] at h; exact .inl ⟨ρ, P, E, by unfold bind2; rw [e, Res.ok_bind, e2]; exact h⟩
      | ok y =>
        rw [e2] at h
        simp only [Res.ok_bind] at h
        unfold addE at h
        cases ed : addD x y with
        | bad => rw [ed] at h; exact .inr ⟨ρ, P, E, by unfold bind2; rw [e, Res.ok_bind, e2, Res.ok_bind]; exact h⟩
        | ex c => rw [ed] at h; exact .inl ⟨ρ, P, E, by unfold bind2; rw [e, Res.ok_bind, e2, Res.ok_bind, ed]; exact h⟩
        | ok z => rw [ed] at h; exact .inl ⟨ρ, P, E, by unfold bind2; rw [e, Res.ok_bind, e2, Res.ok_bind, ed]; exact h⟩
/-- x = x + e, x an own list of whatever -/
def xCat (i : Nat) (f : Env → Res FD) : XS := fun ρ => match ρ[i]? with
  | some (some (.loc, .lst ds)) => match f ρ with
    | .ok x => match x.1, x.2 with
      | .fr, .lst es => if ds.length + es.length ≤ sizeLine then .nx (ρ.set i (some (.loc, .lst (ds ++ es)))) else .bad
      | _, _ => .bad
    | .ex c => .ex c ρ
    | .bad => .bad
  | _ => .bad
theorem xs_cat (i : Nat) {x : Str} {p p2 : Pos} (F : Fx R C X W) (he : PE X e (RV C W f)) (hN : X.N[i]? = some x := by rfl) (hv : Vis X.env.scope x := by first | exact Or.inl rfl | exact Or.inr (Or.inl rfl) | exact Or.inr (Or.inr rfl)) (hd : (x == ("__debug__" : Str)) = false := by decide)
    (hcd : (x == ("__classdict__" : Str)) = false := by decide) (hx : Loc X.env.scope x := by first | exact .inl rfl | exact .inr rfl) (hs : swapsWith (.BinOp (.Name x p) .Add e pos) (some (.Name x p2)) spos.line X.env = pure false := by rfl)
    (hf : X.fn x = true ∨ X.env.scope.names.lookup x = some .local := by first | exact .inl rfl | exact .inr rfl | assumption) : PS X (.Assign [.Name x p2] (.BinOp (.Name x p) .Add e pos) spos) (RS C W (tX (xCat i f))) :=
  (ps_set F.nd hN hx (pe_op op_cat (pv i hN hv hd hcd) he) hs hf).imp fun D σ H ⟨ρ, P, DD, E, I, h⟩ => by
    unfold tX xCat at h
    split at h
    · rename_i ds ei
      obtain ⟨v, M, ev, r, own, lo, _⟩ := E.at_ i .loc _ ei
      obtain ⟨nd, mu, ap, pr⟩ := own rfl
      refine ⟨v, ev, ρ, P, E, ?_⟩
      cases ef : f ρ with
      | bad => rw [ef] at h; exact h.elim
      | ex c => rw [ef] at h; exact fun H' s => I.ex σ H' ρ c (E.same s) h
      | ok y =>
        rw [ef] at h
        obtain ⟨fl, d⟩ := y
        dsimp only at h
        intro w H1 ⟨s1, N, r1, f1⟩
        cases fl <;> first | exact h.elim | skip
        cases d <;> first | exact h.elim | skip
        rename_i es
        dsimp only at h
        by_cases hz : ds.length + es.length ≤ sizeLine
        · rw [if_pos hz] at h
          obtain ⟨n1, w1, u1⟩ := f1
          obtain ⟨l, vs, M', rfl, e1, z1, k1, rfl⟩ := id r
          obtain ⟨l2, ws, N', rfl, e3, z2, k2, rfl⟩ := id r1
          refine ⟨l, l2, vs, ws, rfl, rfl, s1 _ _ e1, e3, by rw [← k1.length, ← k2.length]; exact hz, fun p hp => I.nx _ _ _ ?_ h⟩
          have sp : Same H1 (upd H1 p (.lst (vs ++ ws))) := upd_sameH hp
          have E2 := (E.same s1).same sp
          have old : ∀ a ∈ M', ∃ u, H a = some u := fun a m => r.dom a (List.mem_cons_of_mem _ m)
          have pN : ∀ a ∈ M' ++ N', a ≠ p := fun a m z => by
            subst z
            rcases List.mem_append.mp m with m | m
            · obtain ⟨u, hu⟩ := old a m
              rw [s1 a u hu] at hp; cases hp
            · obtain ⟨u, hu⟩ := r1.dom a (List.mem_cons_of_mem _ m)
              rw [hu] at hp; cases hp
          have dj : ∀ a ∈ M', a ∉ N' := fun a m n => by
            obtain ⟨u, hu⟩ := old a m
            rw [w1 a (List.mem_cons_of_mem _ n)] at hu; cases hu
          have rr : Rep C (upd H1 p (.lst (vs ++ ws))) (.lst (ds ++ es)) (.ref p) (p :: (M' ++ N')) := ⟨p, vs ++ ws, M' ++ N', rfl, upd_same, by rw [List.length_append]; exact hz, ((k1.same s1).same sp).append (k2.same sp), rfl⟩
          have new : ∀ a, a = p ∨ a ∈ N' → H a = none := fun a m => m.elim (fun z => by subst z; exact s1.free hp) fun m => w1 a (List.mem_cons_of_mem _ m)
          refine E2.setG rr (List.getElem?_eq_some_iff.mp ei).1 (fun j o' d' w2 L hj ej sj rj _ a ma na => ?_) (fun _ => ⟨?_, fun a ma => ?_, fun q hq L rq a ma na => ?_⟩) (fun _ a ma => ?_) ⟨(fun z => by cases z), (fun z => by cases z)⟩
          · rcases List.mem_cons.mp ma with rfl | ma
            · exact E.newApart (M := [a]) (fun b hb => by rw [List.mem_singleton.mp hb]; exact new a (.inl rfl)) ej sj (s1.trans sp) rj a (List.mem_singleton.mpr rfl) na
            · rcases List.mem_append.mp ma with ma | ma
              · obtain ⟨w3, L3, e4, r4, _⟩ := E.at_ j o' d' ej
                rw [sj] at e4; cases e4
                rw [((r4.same s1).same sp).uniq rj |>.symm] at na
                exact ap j o' d' w2 L3 hj ej sj r4 a (List.mem_cons_of_mem _ ma) na
              · exact E.newApart (M := [a]) (fun b hb => by rw [List.mem_singleton.mp hb]; exact new a (.inr ma)) ej sj (s1.trans sp) rj a (List.mem_singleton.mpr rfl) na
          · refine List.nodup_cons.mpr ⟨fun m => pN p m rfl, List.nodup_append.mpr ⟨(List.nodup_cons.mp nd).2, (List.nodup_cons.mp n1).2, fun x hx y hy z => dj x hx (z ▸ hy)⟩⟩
          · rcases List.mem_cons.mp ma with rfl | ma
            · rw [upd_same]; trivial
            · refine mut_same sp ?_
              rcases List.mem_append.mp ma with ma | ma
              · exact mut_same s1 (mu a (List.mem_cons_of_mem _ ma))
              · exact u1 a (List.mem_cons_of_mem _ ma)
          · rcases List.mem_cons.mp ma with rfl | ma
            · exact E.newApartP (M := [a]) (fun b hb => by rw [List.mem_singleton.mp hb]; exact new a (.inl rfl)) (s1.trans sp) q hq L rq a (List.mem_singleton.mpr rfl) na
            · rcases List.mem_append.mp ma with ma | ma
              · obtain ⟨L0, r0⟩ := E.prot q hq
                rw [(r0.same (s1.trans sp)).uniq rq |>.symm] at na
                exact pr q hq L0 r0 a (List.mem_cons_of_mem _ ma) na
              · exact E.newApartP (M := [a]) (fun b hb => by rw [List.mem_singleton.mp hb]; exact new a (.inr ma)) (s1.trans sp) q hq L rq a (List.mem_singleton.mpr rfl) na
          · rcases List.mem_cons.mp ma with rfl | ma
            · exact E.keptd a (new a (.inl rfl))
            · rcases List.mem_append.mp ma with ma | ma
              · exact lo rfl a (List.mem_cons_of_mem _ ma)
              · exact E.keptd a (new a (.inr ma))
        · rw [if_neg hz] at h; exact h.elim
    · exact h.elim
end
end DL
/-! DL22: the law's def, at the head. -/
namespace DL
open PySem L2
theorem exc_of {K : PySem.W.Frag} {h : Heap} {mg : Str → Option Value} {x : Str} (X : K.In h) (G : h.Ns mainGlobals mg) (c1 : (He.Fa.glo x).ok K = true) (c2 : (He.Fa.exc x).ok K = true) : ExcT K mg (He.ga K) x := by
  obtain ⟨a, b, c, d⟩ := He.exc_ok c2
  exact ⟨He.glo_ok X G c1, a, b, c, d⟩
theorem cx_none {P : Program} {w : World} (H : Hp) (s : Shared) (e : Value) (s' : Shared) (z : L2.CX P w [] H s (fun _ _ _ => False) e s') : False := by
  obtain ⟨_, _, _, _, _, z⟩ := z
  exact z.2.2.2.2.2.2.2.elim
theorem rep_script {K : PySem.W.Frag} {cls : Str → Addr} {H : Hp} {a : Addr} {ns : List Int} (hO : Only H) (hS : SqL K H a (ns.map V.int)) (hl : ns.length ≤ sizeLine) : RepL (ctx0 K cls) H [.fz (ns.map D.int)] [.ref a] [] := by
  refine ⟨.ref a, [], [], [], rfl, ⟨a, ns.map V.int, rfl, ?_, by rw [List.length_map]; exact hl, rep_ints ns, rfl⟩, ⟨rfl, rfl⟩, rfl⟩
  rcases hS with (h | h) | h
  · rcases hO a with n | ⟨o, xs, n⟩ <;> rw [n] at h <;> cases h
  · exact .inl h
  · exact .inr h
/-- the law's promise at every script -/
theorem law_sp {K : PySem.W.Frag} {cls : Str → Addr} {F : List D → Res D} {n : Nat} (hn : n ≤ sizeLine) (main : ∀ ns : List Int, ns.length ≤ n → F [.fz (ns.map D.int)] = .ok (.bl true)) (H : Hp) (a : Addr) (ns : List Int) (hl : ns.length ≤ n) (hO : Only H) (hS : SqL K H a (ns.map V.int)) :
    SpP K cls F [.ref a] H (fun v _ => v = .bl true) fun _ _ _ => False := by
  refine ⟨_, [], rep_script hO hS (Nat.le_trans hl hn), ?_⟩
  rw [main ns hl]
  intro v H' ⟨_, M, r, _⟩
  exact r.1
/-- a law, its def's promise over every base -/
theorem walk_law {l : PySem.W.OpenLaw} {n k : Nat} {q : Program} {loose : List Str} {XP : (Str → Option Value) → Heap → Prop} {YP : World → Heap → Prop} {d : DefRec} {CX : World → CXT} {x : Str} (most : l.most = some n) (small : n ≤ sizeLine) (dfl : d.params.defaults = []) (room : Room k callerA)
    (F : ∀ (w : World) (mg : Str → Option Value) (fa : Addr) (h : Heap), YP w h → h.Ns mainGlobals mg → mg d.name = some (.ref fa) → ∃ (K : PySem.W.Frag) (fd : FuncData) (sp : Sp), K.In h ∧ (∀ (s : Shared) (u : Value), BindsTo s fd ⟨[u], []⟩ [(x, u)]) ∧
      (∀ (H : Hp) (a : Addr) (ns : List Int), ns.length ≤ n → Only H → SqL K H a (ns.map V.int) → sp [.ref a] H (fun v _ => v = .bl true) fun _ _ _ => False) ∧ ∀ base : Heap, K.In base → base.Ns mainGlobals mg → FnOk l.prog w K mg base (CX w) k fa fd [x] sp)
    (none : ∀ (w : World) (H : Hp) (s : Shared) (e : Value) (s' : Shared), CX w [] H s (fun _ _ _ => False) e s' → False) : PySem.W.WalkO q loose XP YP l.row.toRowW d [] (fun f vs => PySem.call f vs) := by
  refine Att.attach_call most dfl fun w _ s1 mg _ fa _ _ _ _ a _ ns G Y _ _ _ nm obj whole few gens => ?_
  obtain ⟨K, fd, sp, k1, bd, spH, ok⟩ := F w mg fa _ Y G.T.g nm
  refine law_call k1 G.T.g G.T.b G.T.builtins G.T.nolimit gens obj whole (Nat.le_trans few small) room ok bd (fun H o sq => spH H a ns few o sq) ?_
  exact fun H e s' => none w H s1 e s'
end DL
/-! ML1: loops, comprehensions by what they do; short lemmas about trees. -/
namespace DL
open PySem L2

/-- a comprehension over typed items -/
theorem compL_map {α : Type} {t : Tg} {tt : Env → Res Bool} {te : Env → Res FD} {ρ : Env} (emb g : α → D) (p : α → Bool) : ∀ (items : List α), (∀ a ∈ items, ∃ ρ1, asg .sh t (emb a) ρ = some ρ1 ∧ tt ρ1 = .ok (p a) ∧ (p a = true → te ρ1 = .ok (.fr, g a))) →
    compL t tt te ρ (items.map emb) = .ok ((items.filter p).map g)
  | [], _ => rfl
  | a :: items, h => by
    obtain ⟨ρ1, e1, e2, e3⟩ := h a List.mem_cons_self
    have ih := compL_map emb g p items fun b m => h b (List.mem_cons_of_mem _ m)
    rw [List.map_cons]
    unfold compL
    rw [e1]
    dsimp only
    rw [e2]
    cases hp : p a with
    | true =>
      dsimp only
      rw [e3 hp, ih, List.filter_cons_of_pos hp]
      rfl
    | false =>
      dsimp only
      rw [ih, List.filter_cons_of_neg (by rw [hp]; decide)]
/-- the same without a test -/
theorem compL_all {α : Type} {t : Tg} {te : Env → Res FD} {ρ : Env} (emb g : α → D) (items : List α) (h : ∀ a ∈ items, ∃ ρ1, asg .sh t (emb a) ρ = some ρ1 ∧ te ρ1 = .ok (.fr, g a)) : compL t noIf te ρ (items.map emb) = .ok (items.map g) := by
  rw [compL_map emb g (fun _ => true) items fun a m => by
    obtain ⟨ρ1, e1, e2⟩ := h a m
    exact ⟨ρ1, e1, rfl, fun _ => e2⟩]
  rw [List.filter_eq_self.mpr fun _ _ => rfl]
/-- a loop that keeps what is told of the names -/
theorem xLoop_inv {t : Tg} {x : XS} : ∀ (items : List D) (Kp : Nat → Env → Prop) (_ : ∀ i d ρ, items[i]? = some d → Kp i ρ → ∃ ρ1 ρ2, asg .sh t d ρ = some ρ1 ∧ (x ρ1 = .nx ρ2 ∨ x ρ1 = .ct ρ2) ∧ Kp (i + 1) ρ2) (ρ : Env), Kp 0 ρ → ∃ ρ2, xLoop t x items ρ = .nx ρ2 ∧ Kp items.length ρ2
  | [], Kp, _, ρ, h0 => ⟨ρ, rfl, h0⟩
  | d :: ds, Kp, h, ρ, h0 => by
    obtain ⟨ρ1, ρ2, e1, e2, i1⟩ := h 0 d ρ rfl h0
    obtain ⟨ρ3, e3, i3⟩ := xLoop_inv ds (fun i => Kp (i + 1)) (fun i d' ρ' e k => h (i + 1) d' ρ' (by simpa using e) k) ρ2 i1
    refine ⟨ρ3, ?_, by simpa using i3⟩
    unfold xLoop
    rw [e1]
    dsimp only
    rcases e2 with e2 | e2 <;> rw [e2] <;> exact e3
/-- a loop over typed items, by a state -/
theorem xLoop_fold {α S : Type} {t : Tg} {x : XS} (emb : α → D) (step : S → α → S) (Rl : S → Env → Prop) : ∀ (items : List α), (∀ s a ρ, a ∈ items → Rl s ρ → ∃ ρ1 ρ2, asg .sh t (emb a) ρ = some ρ1 ∧ (x ρ1 = .nx ρ2 ∨ x ρ1 = .ct ρ2) ∧ Rl (step s a) ρ2) → ∀ (s : S) (ρ : Env), Rl s ρ →
    ∃ ρ2, xLoop t x (items.map emb) ρ = .nx ρ2 ∧ Rl (items.foldl step s) ρ2
  | [], _, s, ρ, h0 => ⟨ρ, rfl, h0⟩
  | a :: items, h, s, ρ, h0 => by
    obtain ⟨ρ1, ρ2, e1, e2, i1⟩ := h s a ρ List.mem_cons_self h0
    obtain ⟨ρ3, e3, i3⟩ := xLoop_fold emb step Rl items (fun s b ρ m k => h s b ρ (List.mem_cons_of_mem _ m) k) _ ρ2 i1
    refine ⟨ρ3, ?_, i3⟩
    rw [List.map_cons]
    unfold xLoop
    rw [e1]
    dsimp only
    rcases e2 with e2 | e2 <;> rw [e2] <;> exact e3
/-- a loop that goes on while it may, by a measure -/
theorem xWhile_inv {c : Env → Res Bool} {x : XS} (Kp Done : Env → Prop) (m : Env → Nat) (h : ∀ ρ, Kp ρ → (c ρ = .ok false ∧ Done ρ) ∨ (c ρ = .ok true ∧ ∃ ρ2, (x ρ = .nx ρ2 ∨ x ρ = .ct ρ2) ∧ Kp ρ2 ∧ m ρ2 < m ρ)) : ∀ (n : Nat) (ρ : Env), m ρ < n → Kp ρ → ∃ ρ2, xWhile c x n ρ = .nx ρ2 ∧ Done ρ2
  | 0, _, hn, _ => by omega
  | n + 1, ρ, hn, hi => by
    unfold xWhile
    rcases h ρ hi with ⟨e, d⟩ | ⟨e, ρ2, e2, i2, lt⟩
    · rw [e]; exact ⟨ρ, rfl, d⟩
    · rw [e]
      obtain ⟨ρ3, e3, d3⟩ := xWhile_inv Kp Done m h n ρ2 (by omega) i2
      refine ⟨ρ3, ?_, d3⟩
      dsimp only
      rcases e2 with e2 | e2 <;> rw [e2] <;> exact e3

/-! ### texts in trees -/
abbrev S2 (xs : List Str) : List D := xs.map D.str
theorem imm_strs (xs : List Str) : immL (S2 xs) = true := by
  induction xs with
  | nil => rfl
  | cons x xs ih => show (imm (.str x) && immL (S2 xs)) = true; rw [ih]; rfl
theorem immL_map {α : Type} (f : α → D) (xs : List α) (h : ∀ x ∈ xs, imm (f x) = true) : immL (xs.map f) = true := by
  induction xs with
  | nil => rfl
  | cons x xs ih =>
    show (imm (f x) && immL (xs.map f)) = true
    rw [h x List.mem_cons_self, ih fun y m => h y (List.mem_cons_of_mem _ m)]
    rfl
theorem strsD_S2 (xs : List Str) : strsD (S2 xs) = some xs := by
  induction xs with
  | nil => rfl
  | cons x xs ih => show (strsD (S2 xs)).map (x :: ·) = _; rw [ih]; rfl
theorem keysOf_S2 (xs : List Str) : keysOf (S2 xs) = some (xs.map Sum.inr) := by
  induction xs with
  | nil => rfl
  | cons x xs ih =>
    show (match some (Sum.inr x), keysOf (S2 xs) with | some k, some ks => some (k :: ks) | _, _ => none) = _
    rw [ih]
    rfl
/-! ### unfolded where they are applied -/
section
variable {f : Env → Res FD} {i : Nat} {ρ : Env} {t : Tg} {fi : Env → Res ID} {x : XS} {c : Str} {fe : Env → Res D × Env}
theorem xRet_app : xRet f ρ = match f ρ with
  | .ok (.fr, d) => .rt d ρ
  | .ok (.mv, d) => .rt d ρ
  | .ex c => .ex c ρ
  | _ => .bad := by
  unfold xRet xVal
  cases f ρ with
  | ok v => obtain ⟨fl, d⟩ := v; cases fl <;> rfl
  | ex c => rfl
  | bad => rfl
theorem xExpr_app : xExpr f ρ = match f ρ with
  | .ok _ => .nx ρ
  | .ex c => .ex c ρ
  | .bad => .bad := rfl
theorem xSet_app : xSet i f ρ = match f ρ with
  | .ok (.fr, d) => if i < ρ.length then .nx (ρ.set i (some (.loc, d))) else .bad
  | .ok (.sf, d) => if i < ρ.length then .nx (ρ.set i (some (.sh, d))) else .bad
  | .ex c => .ex c ρ
  | _ => .bad := by
  unfold xSet xVal
  cases f ρ with
  | ok v => obtain ⟨fl, d⟩ := v; cases fl <;> first | rfl | (dsimp only; split <;> rfl)
  | ex c => rfl
  | bad => rfl
theorem xTgt_app : xTgt t f ρ = match f ρ with
  | .ok (.fr, d) => (match asg .loc t d ρ with | some ρ' => .nx ρ' | none => .bad)
  | .ok (.sf, d) => (match asg .sh t d ρ with | some ρ' => .nx ρ' | none => .bad)
  | .ex c => .ex c ρ
  | _ => .bad := by
  unfold xTgt xVal
  cases f ρ with
  | ok v => obtain ⟨fl, d⟩ := v; cases fl <;> rfl
  | ex c => rfl
  | bad => rfl
theorem xApp_app : xApp i f ρ = xMutL i f appK ρ := rfl
theorem xExt_app : xExt i f ρ = xMutL i f extK ρ := rfl
theorem xFor_app : xFor fi t x ρ = xForW id fi t x ρ := rfl
theorem xForK_app : xForK i t x ρ = xLock i (xForW (shE i) (keysI i) t x) ρ := rfl
theorem xRaise_app : xRaise c ρ = .ex c ρ := rfl
theorem xNext_app : xNext ρ = .nx ρ := rfl
theorem xRetN_app : xRetN ρ = .rt .non ρ := rfl
theorem xBreak_app : xBreak ρ = .bk ρ := rfl
theorem lenSet_app : lenSetF f ρ = (f ρ).bind (onKeys fun ks => some (.int (dedupK ks).length)) := rfl
theorem sortSet_app : sortSetF f ρ = (f ρ).bind (onKeys fun ks => if oneKind ks = true then some (.lst (sortD ((dedupK ks).map kD))) else none) := rfl
theorem xExprE_app : xExprE fe ρ = match (fe ρ).1 with
  | .ok _ => .nx (fe ρ).2
  | .ex c => .ex c (fe ρ).2
  | .bad => .bad := rfl
theorem xRetE_app : xRetE fe ρ = match (fe ρ).1 with
  | .ok d => .rt d (fe ρ).2
  | .ex c => .ex c (fe ρ).2
  | .bad => .bad := rfl
end
end DL
namespace DL
open PySem L2
def x_is_within : XS := (xRet (andV (callF isiF (consA (dVar 0) (consA (dC (.ty "int")) nilA))) (andV (notV (callF isiF (consA (dVar 0) (consA (dC (.ty "bool")) nilA)))) (boolF (chainF (dVar 1) (dVar 0) (dVar 2) leI leI)))))
def F_is_within : List D → Res D := defF 3 3 x_is_within
def x_is_name : XS := (xRet (andV (callF isiF (consA (dVar 0) (consA (dC (.ty "str")) nilA))) (andV (boolF (chainF (dC (.int 1)) (callF lenF (consA (dVar 0) nilA)) (dC (.int 6)) leI leI)) (notV (compF (walkI (dVar 0)) (.nm 1) (blOf (bind2 (dVar 1) (dC (.str "abcdefghijklmnopqrstuvwxyz")) (inF true))) (dVar 1) [1])))))
def F_is_name : List D → Res D := defF 1 2 x_is_name
def x_is_row : XS := (xSeq (xIf (orT (notT (tru1 (callF isiF (consA (dVar 0) (consA (dC (.ty "tuple")) nilA))))) (orT (blOf (bind2 (callF lenF (consA (dVar 0) nilA)) (dC (.int 3)) (eqD true))) (orT (notT (tru1 (callF F_is_name (consA (bind2 (dVar 0) (dC (.int 0)) ixF) nilA)))) (notT (tru1 (callF F_is_within (consA (bind2 (dVar 0) (dC (.int 1)) ixF) (consA (bind1 (dC (.int 99)) negD) (consA (dC (.int 99)) nilA)))))))))
    (xRet (dC (.bl false)))
    xNext)
    (xRet (andV (callF isiF (consA (bind2 (dVar 0) (dC (.int 2)) ixF) (consA (dC (.ty "tuple")) nilA))) (andV (bind2 (callF lenF (consA (bind2 (dVar 0) (dC (.int 2)) ixF) nilA)) (dC (.int 4)) (ordD leI)) (notV (compF (walkI (bind2 (dVar 0) (dC (.int 2)) ixF)) (.nm 1) (notT (tru1 (callF F_is_name (consA (dVar 1) nilA)))) (dVar 1) [1]))))))
def F_is_row : List D → Res D := defF 1 2 x_is_row
def x_are_rows : XS := (xSeq (xIf (orT (notT (tru1 (callF isiF (consA (dVar 0) (consA (dC (.ty "tuple")) nilA))))) (orT (notT (chainF (dC (.int 1)) (callF lenF (consA (dVar 0) nilA)) (dC (.int 8)) leI leI)) (tru1 (compF (walkI (dVar 0)) (.nm 5) (notT (tru1 (callF F_is_row (consA (dVar 5) nilA)))) (dVar 5) [5]))))
    (xRet (dC (.bl false)))
    xNext)
    (xSeq (xSet 1 (compF (walkI (dVar 0)) (.nm 5) noIf (bind2 (dVar 5) (dC (.int 0)) ixF) [5]))
    (xSeq (xSh 0 (xFor (walkI (dVar 0)) (.tp [(.nm 2), (.nm 3), (.nm 4)])
    (xIf (orT (blOf (bind2 (dVar 2) (dVar 4) (inF false))) (orT (blOf (bind2 (lenSetF (dVar 4)) (callF lenF (consA (dVar 4) nilA)) (eqD true))) (tru1 (compF (walkI (dVar 4)) (.nm 6) (blOf (bind2 (dVar 6) (dVar 1) (inF true))) (dVar 6) [6]))))
    (xRet (dC (.bl false)))
    xNext)))
    (xRet (bind2 (lenSetF (dVar 1)) (callF lenF (consA (dVar 1) nilA)) (eqD false))))))
def F_are_rows : List D → Res D := defF 1 7 x_are_rows
def x_are_places : XS := (xSeq (xIf (orT (notT (tru1 (callF isiF (consA (dVar 1) (consA (dC (.ty "tuple")) nilA))))) (blOf (bind2 (callF lenF (consA (dVar 1) nilA)) (callF lenF (consA (dVar 0) nilA)) (eqD true))))
    (xRet (dC (.bl false)))
    xNext)
    (xRet (notV (compF (walkI (dVar 1)) (.nm 2) (notT (tru1 (callF F_is_within (consA (dVar 2) (consA (dC (.int 0)) (consA (dC (.int 3)) nilA)))))) (dVar 2) [2]))))
def F_are_places : List D → Res D := defF 2 3 x_are_places
def x_are_late : XS := (xSeq (xIf (orT (notT (tru1 (callF isiF (consA (dVar 1) (consA (dC (.ty "tuple")) nilA))))) (tru1 (compF (walkI (dVar 1)) (.nm 4) (notT (tru1 (callF F_is_name (consA (dVar 4) nilA)))) (dVar 4) [4])))
    (xRet (dC (.bl false)))
    xNext)
    (xSeq (xSet 2 (compF (walkI (dVar 0)) (.nm 3) noIf (bind2 (dVar 3) (dC (.int 0)) ixF) [3]))
    (xRet (andV (bind2 (callF listF (consA (dVar 1) nilA)) (sortSetF (dVar 1)) (eqD false)) (notV (compF (walkI (dVar 1)) (.nm 4) (blOf (bind2 (dVar 4) (dVar 2) (inF true))) (dVar 4) [4]))))))
def F_are_late : List D → Res D := defF 2 5 x_are_late
def x_is_book : XS := (xSeq (xIf (orT (notT (tru1 (callF isiF (consA (dVar 0) (consA (dC (.ty "tuple")) nilA))))) (orT (blOf (bind2 (callF lenF (consA (dVar 0) nilA)) (dC (.int 3)) (eqD true))) (notT (tru1 (callF F_are_rows (consA (bind2 (dVar 0) (dC (.int 0)) ixF) nilA))))))
    (xRet (dC (.bl false)))
    xNext)
    (xRet (andV (callF F_are_places (consA (bind2 (dVar 0) (dC (.int 0)) ixF) (consA (bind2 (dVar 0) (dC (.int 1)) ixF) nilA))) (callF F_are_late (consA (bind2 (dVar 0) (dC (.int 0)) ixF) (consA (bind2 (dVar 0) (dC (.int 2)) ixF) nilA))))))
def F_is_book : List D → Res D := defF 1 1 x_is_book
def x_look : XS := (xIf (notT (tru1 (callF F_is_book (consA (dVar 0) nilA))))
    (xRaise "NoBook")
    xNext)
def F_look : List D → Res D := defF 1 1 x_look
def x_uses_of : XS := (xRet (callF dictF (consA (compF (walkI (bind2 (dVar 0) (dC (.int 0)) ixF)) (.tp [(.nm 1), (.nm 2), (.nm 3)]) noIf (tupF (consA (dVar 1) (consA (dVar 3) nilA))) [1, 2, 3]) nilA)))
def F_uses_of : List D → Res D := defF 1 4 x_uses_of
def x_ways_from (G : List D → Res D × D) : XS := (xSeq (xIf (notT (tru1 (dVar 1)))
    (xRet (dC (.int 1)))
    xNext)
    (xSeq (xIf (blOf (bind2 (dVar 1) (dVar 2) (inF true)))
    (xSeq (xSet 3 (dC (.int 0)))
    (xSeq (xSh 1 (xFor (walkI (dVar 1)) (.nm 4)
    (xIf (notT (tru1 (compF (walkI (bind2 (dVar 0) (dVar 4) ixF)) (.nm 5) (blOf (bind2 (dVar 5) (dVar 1) (inF false))) (dVar 5) [5])))
    (xAugE 3 (callIo 2 G (varX 0 (consX (callF tupB (consA (compF (walkI (dVar 1)) (.nm 6) (blOf (bind2 (dVar 6) (dVar 4) (eqD true))) (dVar 6) [6]) nilA)) (varX 2 nilX)))) fun m n => m + n)
    xNext)))
    (xPut 2 (dVar 1) (dVar 3))))
    xNext)
    (xRet (bind2 (dVar 2) (dVar 1) ixF))))
def R_ways_from : Nat → List D → Res D × D
  | 0 => fun _ => (.bad, .non)
  | n + 1 => defIO 2 3 7 (x_ways_from (R_ways_from n))
def F_ways_from : List D → Res D × D := R_ways_from 12
def x_how_many_orders : XS := (xSeq (xExpr (callF F_look (consA (dVar 0) nilA)))
    (xSeq (xSet 1 (callF F_uses_of (consA (dVar 0) nilA)))
    (xRetE (callIo 2 F_ways_from (varX 1 (consX (callF tupB (consA (callF sortF (consA (dVar 1) nilA)) nilA)) (consX newT nilX)))))))
def F_how_many_orders : List D → Res D := defF 1 2 x_how_many_orders
def x_least_order : XS := (xSeq (xExpr (callF F_look (consA (dVar 0) nilA)))
    (xSeq (xSet 1 (callF F_uses_of (consA (dVar 0) nilA)))
    (xSeq (xSet 2 (callF sortF (consA (dVar 1) nilA)))
    (xSeq (xSet 3 (lstF nilA))
    (xSeq (xWhile (tru1 (dVar 2))
    (xSeq (xSet 4 (compF (walkI (dVar 2)) (.nm 5) (notT (tru1 (compF (walkI (bind2 (dVar 1) (dVar 5) ixF)) (.nm 6) (blOf (bind2 (dVar 6) (dVar 2) (inF false))) (dVar 6) [6]))) (dVar 5) [5]))
    (xSeq (xIf (notT (tru1 (dVar 4)))
    (xRet (dC .non))
    xNext)
    (xSeq (xApp 3 (bind2 (dVar 4) (dC (.int 0)) ixF))
    (xSet 2 (compF (walkI (dVar 2)) (.nm 5) (blOf (bind2 (dVar 5) (bind2 (dVar 4) (dC (.int 0)) ixF) (eqD true))) (dVar 5) [5]))))) 1000)
    (xRet (dVar 3)))))))
def F_least_order : List D → Res D := defF 1 7 x_least_order
def x_ranks : XS := (xSeq (xExpr (callF F_look (consA (dVar 0) nilA)))
    (xSeq (xSet 1 (callF F_uses_of (consA (dVar 0) nilA)))
    (xSeq (xSet 2 newK)
    (xSeq (xFor (rng1I (callF lenF (consA (dVar 1) nilA))) (.nm 3)
    (xForK 1 (.nm 4)
    (xIf (andT (blOf (bind2 (dVar 4) (dVar 2) (inF true))) (notT (tru1 (compF (walkI (bind2 (dVar 1) (dVar 4) ixF)) (.nm 6) (blOf (bind2 (dVar 6) (dVar 2) (inF true))) (dVar 6) [6]))))
    (xPut 2 (dVar 4) (callF maxF (consA (bind2 (lstF (consA (dC (.int 0)) nilA)) (compF (walkI (bind2 (dVar 1) (dVar 4) ixF)) (.nm 6) noIf (bind2 (bind2 (dVar 2) (dVar 6) ixF) (dC (.int 1)) addD) [6]) addD) nilA)))
    xNext)))
    (xRet (compF (walkI (bind2 (dVar 0) (dC (.int 0)) ixF)) (.nm 5) noIf (tupF (consA (bind2 (dVar 5) (dC (.int 0)) ixF) (consA (bind2p (dVar 2) (bind2 (dVar 5) (dC (.int 0)) ixF) isDictD getK) nilA))) [5]))))))
def F_ranks : List D → Res D := defF 1 7 x_ranks
def x__law_cell : XS := (xSeq (xIf (blOf (bind2 (dVar 1) (callF lenF (consA (dVar 0) nilA)) (ordD ltI)))
    (xRet (bind2 (dVar 0) (dVar 1) ixF))
    xNext)
    (xRet (dC (.int 0))))
def F__law_cell : List D → Res D := defF 2 2 x__law_cell
def x__law_whole : XS := (xRet (andV (callF isiF (consA (dVar 0) (consA (dC (.ty "int")) nilA))) (notV (callF isiF (consA (dVar 0) (consA (dC (.ty "bool")) nilA))))))
def F__law_whole : List D → Res D := defF 1 1 x__law_whole
def x__law_seed : XS := (xRet (bind2 (bind2 (bind2 (bind2 (bind2 (bind2 (dVar 0) (dC (.int 1103515245)) mulD) (bind2 (dC (.int 7919)) (dVar 1) mulD) addD) (dC (.int 12345)) addD) (dC (.int 2147483647)) modK) (dC (.int 5)) powK) (dC (.int 2147483647)) modK))
def F__law_seed : List D → Res D := defF 2 2 x__law_seed
def x__law_pick : XS := (xRet (bind2 (bind2 (dVar 0) (dC (.int 97)) fdivK) (dVar 1) modK))
def F__law_pick : List D → Res D := defF 2 2 x__law_pick
def x__law_book : XS := (xSeq (xSet 2 (lstF nilA))
    (xSeq (xFor (rng1I (bind2 (dC (.int 1)) (callF F__law_pick (consA (callF F__law_seed (consA (dVar 0) (consA (dC (.int 1)) nilA))) (consA (dVar 1) nilA))) addD)) (.nm 3)
    (xSeq (xSet 4 (bind2p (dC (.str "")) (compF (rng1I (bind2 (dC (.int 1)) (bind2 (bind2 (dVar 0) (dC (.int 7)) fdivK) (dC (.int 2)) modK) addD)) (.nm 10) noIf (bind2 (dC (.str "abcdez")) (callF F__law_pick (consA (callF F__law_seed (consA (dVar 0) (consA (bind2 (bind2 (dC (.int 40)) (bind2 (dC (.int 3)) (dVar 3) mulD) addD) (dVar 10) addD) nilA))) (consA (dC (.int 6)) nilA))) ixF) [10]) isStrD joinK))
    (xIf (blOf (bind2 (dVar 4) (dVar 2) (inF true)))
    (xApp 2 (dVar 4))
    xNext)))
    (xSeq (xPar [5, 6, 7] (consA (lstF nilA) (consA (lstF nilA) (consA (lstF nilA) nilA))))
    (xSeq (xSet 8 (bind2 (dC (.int 1)) (callF F__law_pick (consA (callF F__law_seed (consA (dVar 0) (consA (dC (.int 2)) nilA))) (consA (dC (.int 4)) nilA))) addD))
    (xSeq (xSh 2 (xFor (enumI (dVar 2)) (.tp [(.nm 3), (.nm 4)])
    (xSeq (xSet 9 (lstF nilA))
    (xSeq (xFor (rng1I (callF F__law_pick (consA (callF F__law_seed (consA (dVar 0) (consA (bind2 (dC (.int 80)) (dVar 3) addD) nilA))) (consA (bind2 (dVar 8) (dC (.int 1)) addD) nilA)))) (.nm 10)
    (xSeq (xSet 11 (bind2 (dVar 2) (callF F__law_pick (consA (callF F__law_seed (consA (dVar 0) (consA (bind2 (bind2 (dC (.int 100)) (bind2 (dC (.int 5)) (dVar 3) mulD) addD) (dVar 10) addD) nilA))) (consA (callF lenF (consA (dVar 2) nilA)) nilA))) ixF))
    (xIf (andT (blOf (bind2 (dVar 11) (dVar 4) (eqD true))) (andT (blOf (bind2 (dVar 11) (dVar 9) (inF true))) (orT (blOf (bind2 (bind2 (bind2 (dVar 0) (dC (.int 11)) fdivK) (dC (.int 3)) modK) (dC (.int 0)) (ordD gtI))) (blOf (bind2 (bind2p (dVar 2) (dVar 11) isLstD indexK) (dVar 3) (ordD ltI))))))
    (xApp 9 (dVar 11))
    xNext)))
    (xSeq (xApp 5 (tupF (consA (dVar 4) (consA (bind2 (callF F__law_pick (consA (callF F__law_seed (consA (dVar 0) (consA (bind2 (dC (.int 160)) (dVar 3) addD) nilA))) (consA (dC (.int 199)) nilA))) (dC (.int 99)) subK) (consA (callF tupB (consA (dVar 9) nilA)) nilA)))))
    (xSeq (xApp 6 (callF F__law_pick (consA (callF F__law_seed (consA (dVar 0) (consA (bind2 (dC (.int 180)) (dVar 3) addD) nilA))) (consA (bind2 (dC (.int 1)) (bind2 (bind2 (dVar 0) (dC (.int 13)) fdivK) (dC (.int 4)) modK) addD) nilA))))
    (xSet 7 (bind2 (dVar 7) (bind2 (lstF (consA (dVar 4) nilA)) (callF intF (consA (bind2 (callF F__law_pick (consA (callF F__law_seed (consA (dVar 0) (consA (bind2 (dC (.int 200)) (dVar 3) addD) nilA))) (consA (bind2 (lstF (consA (dC (.int 2)) (consA (dC (.int 4)) (consA (dC (.int 99)) nilA)))) (bind2 (bind2 (dVar 0) (dC (.int 17)) fdivK) (dC (.int 3)) modK) ixF) nilA))) (dC (.int 0)) (eqD false)) nilA)) mulD) addD))))))))
    (xRet (tupF (consA (callF tupB (consA (dVar 5) nilA)) (consA (callF tupB (consA (dVar 6) nilA)) (consA (callF tupB (consA (callF sortF (consA (dVar 7) nilA)) nilA)) nilA))))))))))
def F__law_book : List D → Res D := defF 2 12 x__law_book
def x__law_uses : XS := (xRet (callF dictF (consA (compF (walkI (bind2 (dVar 0) (dC (.int 0)) ixF)) (.nm 1) noIf (tupF (consA (bind2 (dVar 1) (dC (.int 0)) ixF) (consA (bind2 (dVar 1) (dC (.int 2)) ixF) nilA))) [1]) nilA)))
def F__law_uses : List D → Res D := defF 1 2 x__law_uses
def x__law_orders (G : List D → Res D) : XS := (xSeq (xSet 2 (callF sortF (consA (lockF 0 (compF (keysI 0) (.nm 4) (blOf (bind2 (dVar 4) (dVar 1) (inF true))) (dVar 4) [4])) nilA)))
    (xSeq (xIf (blOf (bind2 (dVar 2) (lstF nilA) (eqD false)))
    (xRet (lstF (consA (lstF nilA) nilA)))
    xNext)
    (xSeq (xSet 3 (lstF nilA))
    (xSeq (xSh 2 (xFor (walkI (dVar 2)) (.nm 4)
    (xIf (blOf (bind2 (compF (walkI (bind2 (dVar 0) (dVar 4) ixF)) (.nm 5) (blOf (bind2 (dVar 5) (dVar 1) (inF true))) (dVar 5) [5]) (lstF nilA) (eqD false)))
    (xCat 3 (compF (walkI (callF G (consA (dVar 0) (consA (bind2 (dVar 1) (lstF (consA (dVar 4) nilA)) addD) nilA)))) (.nm 6) noIf (bind2 (lstF (consA (dVar 4) nilA)) (dVar 6) addD) [6]))
    xNext)))
    (xRet (dVar 3))))))
def R__law_orders : Nat → List D → Res D
  | 0 => fun _ => .bad
  | n + 1 => defF 2 7 (x__law_orders (R__law_orders n))
def F__law_orders : List D → Res D := R__law_orders 12
def x__law_little_book : XS := (xRet (callF F__law_book (consA (callF F__law_seed (consA (callF F__law_cell (consA (dVar 0) (consA (dVar 1) nilA))) (consA (bind2 (callF F__law_cell (consA (dVar 0) (consA (bind2 (dVar 1) (dC (.int 1)) addD) nilA))) (dC (.int 5)) modK) nilA))) (consA (dC (.int 6)) nilA))))
def F__law_little_book : List D → Res D := defF 2 2 x__law_little_book
def x__law_next : XS := (xSeq (xSet 2 (lstF nilA))
    (xSeq (xSh 1 (xFor (walkI (dVar 1)) (.nm 3)
    (xSet 2 (bind2 (dVar 2) (compF (walkI (bind2 (dVar 0) (dVar 3) ixF)) (.nm 4) (blOf (bind2 (dVar 4) (dVar 2) (inF true))) (dVar 4) [4]) addD))))
    (xRet (dVar 2))))
def F__law_next : List D → Res D := defF 2 5 x__law_next
def x__law_ranks : XS := (xSeq (xSet 1 (callF F__law_uses (consA (dVar 0) nilA)))
    (xSeq (xSet 2 (lstF nilA))
    (xSeq (xFor (walkI (compF (walkI (bind2 (dVar 0) (dC (.int 0)) ixF)) (.nm 6) noIf (bind2 (dVar 6) (dC (.int 0)) ixF) [6])) (.nm 3)
    (xSeq (xPar [4, 5] (consA (lstF (consA (dVar 3) nilA)) (consA (dC (.int 0)) nilA)))
    (xSeq (xWhile (andT (blOf (bind2 (dVar 4) (lstF nilA) (eqD true))) (blOf (bind2 (dVar 5) (callF lenF (consA (dVar 1) nilA)) (ordD leI))))
    (xSeq (xSet 4 (callF F__law_next (consA (dVar 1) (consA (dVar 4) nilA))))
    (xAug 5 (dC (.int 1)) fun m n => m + n)) 1000)
    (xApp 2 (tupF (consA (dVar 3) (consA (ifV (blOf (bind2 (dVar 4) (lstF nilA) (eqD false))) (bind2 (dVar 5) (dC (.int 1)) subK) (dC .non)) nilA)))))))
    (xRet (dVar 2)))))
def F__law_ranks : List D → Res D := defF 1 7 x__law_ranks
def x_law : XS := (xSeq (xSet 1 (callF F__law_little_book (consA (dVar 0) (consA (dC (.int 0)) nilA))))
    (xSeq (xSet 2 (callF F__law_orders (consA (callF F__law_uses (consA (dVar 1) nilA)) (consA (lstF nilA) nilA))))
    (xSeq (xIf (orT (blOf (bind2 (callF F_how_many_orders (consA (dVar 1) nilA)) (callF lenF (consA (dVar 2) nilA)) (eqD true))) (notT (tru1 (callF F__law_whole (consA (callF F_how_many_orders (consA (dVar 1) nilA)) nilA)))))
    (xRet (dC (.bl false)))
    xNext)
    (xSeq (xIf (blOf (bind2 (callF F_least_order (consA (dVar 1) nilA)) (bind2 (bind2 (dVar 2) (lstF (consA (dC .non) nilA)) addE) (dC (.int 0)) ixF) (eqD true)))
    (xRet (dC (.bl false)))
    xNext)
    (xRet (bind2 (callF F_ranks (consA (dVar 1) nilA)) (callF F__law_ranks (consA (dVar 1) nilA)) (eqD false)))))))
def F_law : List D → Res D := defF 1 3 x_law
end DL
/-! MB: books as typed data; what the book functions compute. -/
namespace DL
open PySem L2

structure Row where
  name : Str
  num : Int
  uses : List Str
structure Book where
  rows : List Row
  places : List Int
  late : List Str
def rowD (r : Row) : D := .tup [.str r.name, .int r.num, .tup (S2 r.uses)]
def rowsD (rs : List Row) : D := .tup (rs.map rowD)
def bookD (b : Book) : D := .tup [rowsD b.rows, .tup (b.places.map D.int), .tup (S2 b.late)]
def letters : List Nat := (List.range 26).map (97 + ·)
def LET : Str := "abcdefghijklmnopqrstuvwxyz"
def nameOk (x : Str) : Prop := 1 ≤ x.cps.toList.length ∧ x.cps.toList.length ≤ 6 ∧ ∀ c ∈ x.cps.toList, c ∈ letters
theorem within_letter : ∀ c ∈ letters, within ⟨#[c]⟩ LET = true := by decide +kernel
theorem letter_small : ∀ c ∈ letters, c < 0x110000 := by decide +kernel
theorem nameOk.str {x : Str} (h : nameOk x) : PyData.strOk x = true := by
  unfold PyData.strOk
  rw [← Array.all_toList, List.all_eq_true]
  exact fun c m => decide_eq_true (letter_small c (h.2.2 c m))
theorem ok_str {x : Str} (h : PyData.strOk x = true) : okP (.str x) = true := by
  unfold okP
  rw [toP]
  simp [SeqAt.shaped, PyData.canLay0, PyData.depth, h]
theorem lay_strs : ∀ {xs : List Str}, (∀ y ∈ xs, PyData.strOk y = true) → PyData.canLayAll0 (toPL (S2 xs)) = true
  | [], _ => rfl
  | x :: xs, h => by
    have ih := lay_strs (xs := xs) fun y m => h y (List.mem_cons_of_mem _ m)
    simp [S2, toPL, toP, PyData.canLayAll0, PyData.canLay0, h x List.mem_cons_self, ih]
@[simp] theorem ok_int (i : Int) : okP (.int i) = true := by
  unfold okP
  rw [toP]
  simp [SeqAt.shaped, PyData.canLay0, PyData.depth]
@[simp] theorem eqv_int (i j : Int) : eqvD (.int i) (.int j) = decide (i = j) := by
  unfold eqvD
  rw [toP, toP]
  simp only [PyData.eqv]
  by_cases h : i = j <;> simp [h]
theorem eqv_str (x y : Str) : eqvD (.str x) (.str y) = decide (x = y) := by
  unfold eqvD
  rw [toP, toP]
  simp only [PyData.eqv]
  by_cases h : x = y
  · simp [h]
  · simp [h]
theorem any_strs (x : Str) : ∀ xs : List Str, ((S2 xs).any fun z => eqvD z (.str x)) = decide (x ∈ xs)
  | [] => rfl
  | y :: xs => by
    show (eqvD (.str y) (.str x) || (S2 xs).any fun z => eqvD z (.str x)) = _
    rw [any_strs x xs, eqv_str]
    by_cases h : y = x
    · simp [h]
    · have : ¬ x = y := fun z => h z.symm
      simp [h, this]
theorem in_txt (a b : Str) : inD (.str a) (.str b) = some (within a b) := rfl
theorem in_lst {x : Str} {xs : List Str} (hx : PyData.strOk x = true) (h : ∀ y ∈ xs, PyData.strOk y = true) : inD (.str x) (.lst (S2 xs)) = some (decide (x ∈ xs)) := by
  unfold inD
  simp only [ok_str hx, lay_strs h, Bool.and_self, if_true, any_strs]
theorem in_tup {x : Str} {xs : List Str} (hx : PyData.strOk x = true) (h : ∀ y ∈ xs, PyData.strOk y = true) : inD (.str x) (.tup (S2 xs)) = some (decide (x ∈ xs)) := by
  unfold inD
  simp only [ok_str hx, lay_strs h, Bool.and_self, if_true, any_strs]
theorem look_some {x : Str} : ∀ {xs : List Str} {ds : List D}, ds.length = xs.length → (lookD (xs.map (Sum.inr : Str → Key)) ds (.inr x)).isSome = decide (x ∈ xs)
  | [], ds, h => by cases ds <;> first | rfl | cases h
  | y :: xs, d :: ds, h => by
    rw [List.map_cons]
    unfold lookD
    by_cases e : y = x
    · subst e; simp
    · have e2 : ¬ (Sum.inr y : Key) = .inr x := fun z => e (Sum.inr.inj z)
      rw [if_neg e2, look_some (by simpa using h)]
      have : ¬ x = y := fun z => e z.symm
      simp [this]
  | y :: xs, [], h => by cases h
theorem in_dict {x : Str} {xs : List Str} {ds : List D} (h : ds.length = xs.length) : inD (.str x) (.dK (xs.map Sum.inr) ds) = some (decide (x ∈ xs)) := by
  show (dGet (.dK (xs.map Sum.inr) ds) (.str x)).map (·.isSome) = _
  unfold dGet keyOf
  simp only [Option.map_some, look_some h]
theorem inK_inr (x : Str) (xs : List Str) : inK (xs.map Sum.inr) (.inr x) = decide (x ∈ xs) := by
  have := inK_iff (ks := xs.map (Sum.inr : Str → Key)) (k := .inr x)
  by_cases h : x ∈ xs
  · have h2 : (Sum.inr x : Key) ∈ xs.map Sum.inr := List.mem_map.mpr ⟨x, h, rfl⟩
    rw [this.mpr h2]; simp [h]
  · cases e : inK (xs.map (Sum.inr : Str → Key)) (.inr x) with
    | false => simp [h]
    | true =>
      obtain ⟨y, m, z⟩ := List.mem_map.mp (this.mp e)
      cases z
      exact absurd m h
theorem dedup_strs : ∀ {xs : List Str}, xs.Nodup → dedupK (xs.map Sum.inr) = xs.map Sum.inr
  | [], _ => rfl
  | x :: xs, h => by
    obtain ⟨h1, h2⟩ := List.nodup_cons.mp h
    rw [List.map_cons]
    unfold dedupK
    rw [inK_inr, if_neg (by simpa using h1), dedup_strs h2]
theorem f_is_within (i lo hi : Int) : F_is_within [.int i, .int lo, .int hi] = .ok (.bl (decide (lo ≤ i) && decide (i ≤ hi))) := by
  by_cases h : lo ≤ i <;> simp [F_is_within, x_is_within, defF, defIO, xSeq, xIf, xRet_app, xRetN_app, xVal, xSet_app, xExpr_app, xNext_app, xBreak_app, xRaise_app, xFor_app, xForK_app, xForW, xSh, xTgt_app, xPar, xApp_app, xExt_app, xMutL, appK, extK, andV, orV, notV, andT, orT, notT, tru1, blOf, boolF, chainF, ifV, bind1, bind2, bind2p, callF, consA, nilA, dVar, dC, startD, compF, walkI, isiF, tyD, isiK, lenF, truD1, truD, up, imm, immL, Out.res, noIf, tupF, lstF, inF, ixF, asg, asgL, noPart, partF, flOk, lenSet_app, sortSet_app, xExprE_app, xRetE_app, ltI, leI, gtI, Ow.own, h]
theorem f_is_name {x : Str} (h : nameOk x) : F_is_name [.str x] = .ok (.bl true) := by
  obtain ⟨h1, h2, h3⟩ := h
  have hl : x.length ≤ sizeLine := by
    rw [sizeLine_eq]
    have : x.length = x.cps.toList.length := rfl
    omega
  have e1 : (1 : Int) ≤ (x.length : Nat) := by
    have : x.length = x.cps.toList.length := rfl
    omega
  have e2 : ((x.length : Nat) : Int) ≤ 6 := by
    have : x.length = x.cps.toList.length := rfl
    omega
  have hc : (charsD x).length ≤ sizeLine := by unfold charsD; rw [List.length_map]; exact hl
  have comp : ∀ ρ : Env, 1 < ρ.length → compL (.nm 1) (blOf (bind2 (dVar 1) (dC (.str LET)) (inF true))) (dVar 1) ρ (charsD x) = .ok [] := fun ρ hρ => by
    unfold charsD
    rw [compL_map (fun c => D.str ⟨#[c]⟩) (fun c => D.str ⟨#[c]⟩) (fun c => !within ⟨#[c]⟩ LET) x.cps.toList fun c m => ⟨ρ.set 1 (some (.sh, .str ⟨#[c]⟩)), by simp [asg, hρ], by simp [defF, defIO, xSeq, xIf, xRet_app, xRetN_app, xVal, xSet_app, xExpr_app, xNext_app, xBreak_app, xRaise_app, xFor_app, xForK_app, xForW, xSh, xTgt_app, xPar, xApp_app, xExt_app, xMutL, appK, extK, andV, orV, notV, andT, orT, notT, tru1, blOf, boolF, chainF, ifV, bind1, bind2, bind2p, callF, consA, nilA, dVar, dC, startD, compF, walkI, isiF, tyD, isiK, lenF, truD1, truD, up, imm, immL, Out.res, noIf, tupF, lstF, inF, ixF, asg, asgL, noPart, partF, flOk, lenSet_app, sortSet_app, xExprE_app, xRetE_app, ltI, leI, gtI, Ow.own, hρ, in_txt], fun _ => by simp [defF, defIO, xSeq, xIf, xRet_app, xRetN_app, xVal, xSet_app, xExpr_app, xNext_app, xBreak_app, xRaise_app, xFor_app, xForK_app, xForW, xSh, xTgt_app, xPar, xApp_app, xExt_app, xMutL, appK, extK, andV, orV, notV, andT, orT, notT, tru1, blOf, boolF, chainF, ifV, bind1, bind2, bind2p, callF, consA, nilA, dVar, dC, startD, compF, walkI, isiF, tyD, isiK, lenF, truD1, truD, up, imm, immL, Out.res, noIf, tupF, lstF, inF, ixF, asg, asgL, noPart, partF, flOk, lenSet_app, sortSet_app, xExprE_app, xRetE_app, ltI, leI, gtI, Ow.own, hρ]⟩]
    rw [List.filter_eq_nil_iff.mpr fun c m => by simp [within_letter c (h3 c m)]]
    rfl
  have comp' := comp (wipeE (fzE [some (.sh, .str x), none]) [1]) (by simp [wipeE_len, fzE])
  unfold LET at comp'
  simp [F_is_name, x_is_name, defF, defIO, xSeq, xIf, xRet_app, xRetN_app, xVal, xSet_app, xExpr_app, xNext_app, xBreak_app, xRaise_app, xFor_app, xForK_app, xForW, xSh, xTgt_app, xPar, xApp_app, xExt_app, xMutL, appK, extK, andV, orV, notV, andT, orT, notT, tru1, blOf, boolF, chainF, ifV, bind1, bind2, bind2p, callF, consA, nilA, dVar, dC, startD, compF, walkI, isiF, tyD, isiK, lenF, truD1, truD, up, imm, immL, Out.res, noIf, tupF, lstF, inF, ixF, asg, asgL, noPart, partF, flOk, lenSet_app, sortSet_app, xExprE_app, xRetE_app, ltI, leI, gtI, Ow.own, hl, e1, e2, hc, comp']
/-! ### rows -/
structure RowOk (r : Row) : Prop where
  name : nameOk r.name
  lo : -99 ≤ r.num
  hi : r.num ≤ 99
  few : r.uses.length ≤ 4
  uses : ∀ u ∈ r.uses, nameOk u
theorem small4 {n : Nat} (h : n ≤ 4) : n ≤ sizeLine := by rw [sizeLine_eq]; omega
theorem small8 {n : Nat} (h : n ≤ 8) : n ≤ sizeLine := by rw [sizeLine_eq]; omega
theorem f_is_row {r : Row} (h : RowOk r) : F_is_row [rowD r] = .ok (.bl true) := by
  have n1 := f_is_name h.name
  have n2 : F_is_within [.int r.num, .int (-99), .int 99] = .ok (.bl true) := by rw [f_is_within]; simp [h.lo, h.hi]
  have comp : ∀ ρ : Env, 1 < ρ.length → compL (.nm 1) (notT (tru1 (callF F_is_name (consA (dVar 1) nilA)))) (dVar 1) ρ (S2 r.uses) = .ok [] := fun ρ hρ => by
    unfold S2
    rw [compL_map D.str D.str (fun _ => false) r.uses fun c m => ⟨ρ.set 1 (some (.sh, .str c)), by simp [asg, hρ], by simp [defF, defIO, xSeq, xIf, xRet_app, xRetN_app, xVal, xSet_app, xExpr_app, xNext_app, xBreak_app, xRaise_app, xFor_app, xForK_app, xForW, xSh, xTgt_app, xPar, xApp_app, xExt_app, xMutL, appK, extK, andV, orV, notV, andT, orT, notT, tru1, blOf, boolF, chainF, ifV, bind1, bind2, bind2p, callF, consA, nilA, dVar, dC, startD, compF, walkI, isiF, tyD, isiK, lenF, truD1, truD, up, imm, immL, Out.res, noIf, tupF, lstF, inF, ixF, asg, asgL, noPart, partF, flOk, lenSet_app, sortSet_app, xExprE_app, xRetE_app, ltI, leI, gtI, Ow.own, hρ, f_is_name (h.uses c m)], fun z => by cases z⟩]
    simp
  have comp' := comp (wipeE (fzE [some (.sh, rowD r), none]) [1]) (by simp [wipeE_len, fzE])
  unfold rowD at comp' ⊢
  have hl : (r.uses.length : Int) ≤ 4 := by have := h.few; omega
  have i1 := imm_strs r.uses
  simp [F_is_row, x_is_row, defF, defIO, xSeq, xIf, xRet_app, xRetN_app, xVal, xSet_app, xExpr_app, xNext_app, xBreak_app, xRaise_app, xFor_app, xForK_app, xForW, xSh, xTgt_app, xPar, xApp_app, xExt_app, xMutL, appK, extK, andV, orV, notV, andT, orT, notT, tru1, blOf, boolF, chainF, ifV, bind1, bind2, bind2p, callF, consA, nilA, dVar, dC, startD, compF, walkI, isiF, tyD, isiK, lenF, truD1, truD, up, imm, immL, Out.res, noIf, tupF, lstF, inF, ixF, asg, asgL, noPart, partF, flOk, lenSet_app, sortSet_app, xExprE_app, xRetE_app, ltI, leI, gtI, Ow.own, n1, n2, atI, ixN, negD, ordD, eqD, comp', hl, small4 h.few, i1]
/-! ### all rows -/
def namesOf (rs : List Row) : List Str := rs.map (·.name)
structure RowsOk (rs : List Row) : Prop where
  one : 1 ≤ rs.length
  few : rs.length ≤ 8
  row : ∀ r ∈ rs, RowOk r
  nd : (namesOf rs).Nodup
  apart : ∀ r ∈ rs, r.name ∉ r.uses
  once : ∀ r ∈ rs, r.uses.Nodup
  known : ∀ r ∈ rs, ∀ u ∈ r.uses, u ∈ namesOf rs
theorem RowsOk.str {rs : List Row} (h : RowsOk rs) : ∀ x ∈ namesOf rs, PyData.strOk x = true := fun x m => by
  obtain ⟨r, mr, rfl⟩ := List.mem_map.mp m
  exact (h.row r mr).name.str
theorem RowOk.str {r : Row} (h : RowOk r) : ∀ x ∈ r.uses, PyData.strOk x = true := fun x m => (h.uses x m).str
theorem set_tup {fl : Fl} {xs : List Str} (nd : xs.Nodup) (few : xs.length < 4000) : onKeys (fun ks => some (.int (dedupK ks).length)) (fl, .tup (S2 xs)) = .ok (.fr, .int xs.length) := by
  have e : xs.length + 1 < scanBound := by have : scanBound = 4096 := rfl; omega
  simp [onKeys, itemsD, keysOf_S2, dedup_strs nd, e]
theorem set_lst {fl : Fl} {xs : List Str} (nd : xs.Nodup) (few : xs.length < 4000) : onKeys (fun ks => some (.int (dedupK ks).length)) (fl, .lst (S2 xs)) = .ok (.fr, .int xs.length) := by
  have e : xs.length + 1 < scanBound := by have : scanBound = 4096 := rfl; omega
  simp [onKeys, itemsD, keysOf_S2, dedup_strs nd, e]
theorem imm_row (r : Row) : imm (rowD r) = true := by
  unfold rowD
  simp [imm, immL, imm_strs]
theorem imm_rows (rs : List Row) : imm (rowsD rs) = true := by
  unfold rowsD
  show immL (rs.map rowD) = true
  exact immL_map rowD rs fun r _ => imm_row r
theorem f_are_rows {rs : List Row} (h : RowsOk rs) : F_are_rows [rowsD rs] = .ok (.bl true) := by
  have c1 : ∀ ρ : Env, 5 < ρ.length → compL (.nm 5) (notT (tru1 (callF F_is_row (consA (dVar 5) nilA)))) (dVar 5) ρ (rs.map rowD) = .ok [] := fun ρ hρ => by
    rw [compL_map rowD rowD (fun _ => false) rs fun r m => ⟨ρ.set 5 (some (.sh, rowD r)), by simp [asg, hρ], by
      have := f_is_row (h.row r m)
      simp [defF, defIO, xSeq, xIf, xRet_app, xRetN_app, xVal, xSet_app, xExpr_app, xNext_app, xBreak_app, xRaise_app, xFor_app, xForK_app, xForW, xSh, xTgt_app, xPar, xApp_app, xExt_app, xMutL, appK, extK, andV, orV, notV, andT, orT, notT, tru1, blOf, boolF, chainF, ifV, bind1, bind2, bind2p, callF, consA, nilA, dVar, dC, startD, compF, walkI, isiF, tyD, isiK, lenF, truD1, truD, up, imm, immL, Out.res, noIf, tupF, lstF, inF, ixF, asg, asgL, noPart, partF, flOk, lenSet_app, sortSet_app, xExprE_app, xRetE_app, ltI, leI, gtI, Ow.own, hρ, this, imm_row], fun z => by cases z⟩]
    simp
  have c2 : ∀ ρ : Env, 5 < ρ.length → compL (.nm 5) noIf (bind2 (dVar 5) (dC (.int 0)) ixF) ρ (rs.map rowD) = .ok (S2 (namesOf rs)) := fun ρ hρ => by
    rw [compL_all rowD (fun r => .str r.name) rs fun r m => ⟨ρ.set 5 (some (.sh, rowD r)), by simp [asg, hρ], by simp [rowD, defF, defIO, xSeq, xIf, xRet_app, xRetN_app, xVal, xSet_app, xExpr_app, xNext_app, xBreak_app, xRaise_app, xFor_app, xForK_app, xForW, xSh, xTgt_app, xPar, xApp_app, xExt_app, xMutL, appK, extK, andV, orV, notV, andT, orT, notT, tru1, blOf, boolF, chainF, ifV, bind1, bind2, bind2p, callF, consA, nilA, dVar, dC, startD, compF, walkI, isiF, tyD, isiK, lenF, truD1, truD, up, imm, immL, Out.res, noIf, tupF, lstF, inF, ixF, asg, asgL, noPart, partF, flOk, lenSet_app, sortSet_app, xExprE_app, xRetE_app, ltI, leI, gtI, Ow.own, hρ, atI, ixN]⟩]
    unfold S2 namesOf
    rw [List.map_map]
    rfl
  have hz : rs.length ≤ sizeLine := small8 h.few
  have k1 : (1 : Int) ≤ (rs.length : Nat) := by have := h.one; omega
  have k2 : ((rs.length : Nat) : Int) ≤ 8 := by have := h.few; omega
  have nl : (namesOf rs).length = rs.length := by unfold namesOf; rw [List.length_map]
  have loop : ∀ (a b c : Option (Ow × D)), ∃ ρ2, xLoop (.tp [.nm 2, .nm 3, .nm 4]) (xIf (orT (blOf (bind2 (dVar 2) (dVar 4) (inF false))) (orT (blOf (bind2 (lenSetF (dVar 4)) (callF lenF (consA (dVar 4) nilA)) (eqD true))) (tru1 (compF (walkI (dVar 4)) (.nm 6) (blOf (bind2 (dVar 6) (dVar 1) (inF true))) (dVar 6) [6]))))
    (xRet (dC (.bl false))) xNext) (rs.map rowD) [some (.sh, rowsD rs), some (.loc, .lst (S2 (namesOf rs))), a, b, c, none, none] = .nx ρ2 ∧ ∃ a b c, ρ2 = [some (.sh, rowsD rs), some (.loc, .lst (S2 (namesOf rs))), a, b, c, none, none] := fun a b c => by
    refine xLoop_inv _ (fun _ ρ => ∃ a b c, ρ = [some (.sh, rowsD rs), some (.loc, .lst (S2 (namesOf rs))), a, b, c, none, none]) (fun i d ρ ei k => ?_) _ ⟨a, b, c, rfl⟩
    obtain ⟨a, b, c, rfl⟩ := k
    rw [List.getElem?_map] at ei
    obtain ⟨r, er, rfl⟩ := Option.map_eq_some_iff.mp ei
    have m := List.mem_of_getElem? er
    have ro := h.row r m
    have q1 : inD (.str r.name) (.tup (S2 r.uses)) = some false := by rw [in_tup ro.name.str ro.str]; simp [h.apart r m]
    have q2 := set_tup (fl := .fr) (h.once r m) (by have := ro.few; omega)
    have q3 : ∀ ρ : Env, 6 < ρ.length → dVar 1 ρ = .ok (.sf, .lst (S2 (namesOf rs))) → compL (.nm 6) (blOf (bind2 (dVar 6) (dVar 1) (inF true))) (dVar 6) ρ (S2 r.uses) = .ok [] := fun ρ hρ e1 => by
      unfold S2
      rw [compL_map D.str D.str (fun _ => false) r.uses fun u mu => ⟨ρ.set 6 (some (.sh, .str u)), by simp [asg, hρ], by
        have i1 := in_lst (ro.str u mu) h.str
        have i2 := h.known r m u mu
        have e2 : dVar 1 (ρ.set 6 (some (.sh, .str u))) = .ok (.sf, .lst (S2 (namesOf rs))) := by
          unfold dVar at e1 ⊢
          rw [List.getElem?_set_ne (by decide)]
          exact e1
        have e3 : dVar 6 (ρ.set 6 (some (.sh, .str u))) = .ok (.fr, .str u) := by simp [dVar, hρ, up, imm]
        simp [blOf, bind2, e2, e3, inF, i1, i2], fun z => by cases z⟩]
      simp
    refine ⟨[some (.sh, rowsD rs), some (.loc, .lst (S2 (namesOf rs))), some (.sh, .str r.name), some (.sh, .int r.num), some (.sh, .tup (S2 r.uses)), none, none], [some (.sh, rowsD rs), some (.loc, .lst (S2 (namesOf rs))), some (.sh, .str r.name), some (.sh, .int r.num), some (.sh, .tup (S2 r.uses)), none, none], by simp [rowD, asg, asgL], .inl ?_, ⟨_, _, _, rfl⟩⟩
    have q3' := q3 (wipeE (fzE [some (.sh, rowsD rs), some (.loc, .lst (S2 (namesOf rs))), some (.sh, .str r.name), some (.sh, .int r.num), some (.sh, .tup (S2 r.uses)), none, none]) [6]) (by simp [wipeE_len, fzE]) (by simp [wipeE, fzE, dVar, up, imm])
    simp [defF, defIO, xSeq, xIf, xRet_app, xRetN_app, xVal, xSet_app, xExpr_app, xNext_app, xBreak_app, xRaise_app, xFor_app, xForK_app, xForW, xSh, xTgt_app, xPar, xApp_app, xExt_app, xMutL, appK, extK, andV, orV, notV, andT, orT, notT, tru1, blOf, boolF, chainF, ifV, bind1, bind2, bind2p, callF, consA, nilA, dVar, dC, startD, compF, walkI, isiF, tyD, isiK, lenF, truD1, truD, up, imm, immL, Out.res, noIf, tupF, lstF, inF, ixF, asg, asgL, noPart, partF, flOk, lenSet_app, sortSet_app, xExprE_app, xRetE_app, ltI, leI, gtI, Ow.own, q1, q2, eqD, q3', imm_strs, small4 ro.few]
  obtain ⟨ρ2, l1, a, b, c, rfl⟩ := loop none none none
  have c1' := c1 (wipeE (fzE [some (.sh, .tup (rs.map rowD)), none, none, none, none, none, none]) [5]) (by simp [wipeE_len, fzE])
  have c2' := c2 (wipeE (fzE [some (.sh, .tup (rs.map rowD)), none, none, none, none, none, none]) [5]) (by simp [wipeE_len, fzE])
  have s1 := set_lst (fl := .mv) h.nd (by rw [nl]; have := h.few; omega)
  have im : immL (rs.map rowD) = true := imm_rows rs
  unfold rowsD at l1 ⊢
  simp [F_are_rows, x_are_rows, defF, defIO, xSeq, xIf, xRet_app, xRetN_app, xVal, xSet_app, xExpr_app, xNext_app, xBreak_app, xRaise_app, xFor_app, xForK_app, xForW, xSh, xTgt_app, xPar, xApp_app, xExt_app, xMutL, appK, extK, andV, orV, notV, andT, orT, notT, tru1, blOf, boolF, chainF, ifV, bind1, bind2, bind2p, callF, consA, nilA, dVar, dC, startD, compF, walkI, isiF, tyD, isiK, lenF, truD1, truD, up, imm, immL, Out.res, noIf, tupF, lstF, inF, ixF, asg, asgL, noPart, partF, flOk, lenSet_app, sortSet_app, xExprE_app, xRetE_app, ltI, leI, gtI, Ow.own, k1, k2, hz, c1', c2', shE, im, l1, s1, eqD, nl]
/-! ### places, late names -/
def strLe (x y : Str) : Bool := decide (x.cps.toList ≤ y.cps.toList)
def sortS (xs : List Str) : List Str := xs.mergeSort strLe
theorem sortD_strs (xs : List Str) : sortD (S2 xs) = S2 (sortS xs) := by
  unfold sortD sortS S2
  exact (List.map_mergeSort (fun a _ b _ => (leD_str a b).symm)).symm
theorem strLe_trans (a b c : Str) (h : strLe a b = true) (k : strLe b c = true) : strLe a c = true := by
  have := leD_trans (.str a) (.str b) (.str c)
  rw [leD_str, leD_str, leD_str] at this
  exact this h k
theorem strLe_total (a b : Str) : (strLe a b || strLe b a) = true := by
  have := leD_total (.str a) (.str b)
  rw [leD_str, leD_str] at this
  exact this
theorem strLe_anti {a b : Str} (h : strLe a b = true) (k : strLe b a = true) : a = b := by
  refine str_anti ?_ ?_
  · rw [leD_str]; exact h
  · rw [leD_str]; exact k
theorem sortS_perm (xs : List Str) : (sortS xs).Perm xs := List.mergeSort_perm xs strLe
theorem sortS_pw (xs : List Str) : (sortS xs).Pairwise fun a b => strLe a b = true := List.pairwise_mergeSort strLe_trans strLe_total xs
theorem sortS_uniq {xs ys : List Str} (p : xs.Perm ys) (h : xs.Pairwise fun a b => strLe a b = true) : xs = sortS ys :=
  List.Perm.eq_of_pairwise (le := fun a b => strLe a b = true) (fun a b _ _ h k => strLe_anti h k) h (sortS_pw ys) (p.trans (sortS_perm ys).symm)
theorem sortS_sortS (xs : List Str) : sortS (sortS xs) = sortS xs := (sortS_uniq (List.Perm.refl _) (sortS_pw xs)).symm
theorem depth_strs : ∀ xs : List Str, PyData.depthAll (toPL (S2 xs)) ≤ 1
  | [] => by simp [S2, toPL, PyData.depthAll]
  | x :: xs => by
    have ih := depth_strs xs
    unfold S2 at ih ⊢
    rw [List.map_cons, toPL, toP]
    simp only [PyData.depthAll, PyData.depth]
    omega
theorem ok_lst {xs : List Str} (h : ∀ y ∈ xs, PyData.strOk y = true) : okP (.lst (S2 xs)) = true := by
  unfold okP SeqAt.shaped
  rw [toP]
  have := depth_strs xs
  simp [PyData.canLay0, lay_strs h, PyData.depth]
  omega
theorem ok_tup {xs : List Str} (h : ∀ y ∈ xs, PyData.strOk y = true) : okP (.tup (S2 xs)) = true := by
  unfold okP SeqAt.shaped
  rw [toP]
  have := depth_strs xs
  simp [PyData.canLay0, lay_strs h, PyData.depth]
  omega
theorem eqv_strs : ∀ xs ys : List Str, PyData.eqvAll (toPL (S2 xs)) (toPL (S2 ys)) = decide (xs = ys)
  | [], [] => rfl
  | [], y :: ys => by
    show PyData.eqvAll [] (toP (.str y) :: toPL (S2 ys)) = _
    simp [PyData.eqvAll]
  | x :: xs, [] => by
    show PyData.eqvAll (toP (.str x) :: toPL (S2 xs)) [] = _
    simp [PyData.eqvAll]
  | x :: xs, y :: ys => by
    show PyData.eqvAll (toP (.str x) :: toPL (S2 xs)) (toP (.str y) :: toPL (S2 ys)) = _
    have e := eqv_str x y
    unfold eqvD at e
    simp only [PyData.eqvAll, e, eqv_strs xs ys]
    by_cases h1 : x = y <;> by_cases h2 : xs = ys <;> simp [h1, h2]
theorem eqv_lst (xs ys : List Str) : eqvD (.lst (S2 xs)) (.lst (S2 ys)) = decide (xs = ys) := by
  unfold eqvD
  rw [toP, toP]
  simp only [PyData.eqv, eqv_strs]
theorem eqv_tup (xs ys : List Str) : eqvD (.tup (S2 xs)) (.tup (S2 ys)) = decide (xs = ys) := by
  unfold eqvD
  rw [toP, toP]
  simp only [PyData.eqv, eqv_strs]
theorem oneKind_strs (xs : List Str) : oneKind (xs.map Sum.inr) = true := by
  unfold oneKind
  simp
theorem sortSet_strs {fl : Fl} {xs : List Str} (nd : xs.Nodup) (few : xs.length < 4000) (d : D) (hd : itemsD d = some (S2 xs)) : onKeys (fun ks => if oneKind ks = true then some (.lst (sortD ((dedupK ks).map kD))) else none) (fl, d) = .ok (.fr, .lst (S2 (sortS xs))) := by
  have e : xs.length + 1 < scanBound := by have : scanBound = 4096 := rfl; omega
  have e2 : (xs.map (Sum.inr : Str → Key)).map kD = S2 xs := by rw [List.map_map]; rfl
  simp [onKeys, hd, keysOf_S2, dedup_strs nd, e, oneKind_strs]
  have e3 : List.map (kD ∘ Sum.inr) xs = S2 xs := by rw [← List.map_map]; exact e2
  rw [e3, sortD_strs]
theorem nodup_le {α : Type} [DecidableEq α] : ∀ {l m : List α}, l.Nodup → (∀ x ∈ l, x ∈ m) → l.length ≤ m.length
  | [], m, _, _ => Nat.zero_le _
  | x :: l, m, nd, h => by
    obtain ⟨n1, n2⟩ := List.nodup_cons.mp nd
    have mx := h x List.mem_cons_self
    have ih := nodup_le (l := l) (m := m.erase x) n2 fun y my => (List.mem_erase_of_ne (fun e => n1 (by rw [← e]; exact my))).mpr (h y (List.mem_cons_of_mem _ my))
    rw [List.length_erase_of_mem mx] at ih
    have : 0 < m.length := List.length_pos_of_mem mx
    simp only [List.length_cons]
    omega
structure BookOk (b : Book) : Prop where
  rows : RowsOk b.rows
  places : b.places.length = b.rows.length
  place : ∀ p ∈ b.places, 0 ≤ p ∧ p ≤ 3
  late : ∀ x ∈ b.late, x ∈ namesOf b.rows
  lateNd : b.late.Nodup
  lateSorted : sortS b.late = b.late
theorem f_are_places {rs : List Row} {ps : List Int} (hl : ps.length = rs.length) (few : rs.length ≤ 8) (h : ∀ p ∈ ps, 0 ≤ p ∧ p ≤ 3) : F_are_places [rowsD rs, .tup (ps.map D.int)] = .ok (.bl true) := by
  have c1 : ∀ ρ : Env, 2 < ρ.length → compL (.nm 2) (notT (tru1 (callF F_is_within (consA (dVar 2) (consA (dC (.int 0)) (consA (dC (.int 3)) nilA)))))) (dVar 2) ρ (ps.map D.int) = .ok [] := fun ρ hρ => by
    rw [compL_map D.int D.int (fun _ => false) ps fun p m => ⟨ρ.set 2 (some (.sh, .int p)), by simp [asg, hρ], by simp [defF, defIO, xSeq, xIf, xRet_app, xRetN_app, xVal, xSet_app, xExpr_app, xNext_app, xBreak_app, xRaise_app, xFor_app, xForK_app, xForW, xSh, xTgt_app, xPar, xApp_app, xExt_app, xMutL, appK, extK, andV, orV, notV, andT, orT, notT, tru1, blOf, boolF, chainF, ifV, bind1, bind2, bind2p, callF, consA, nilA, dVar, dC, startD, compF, walkI, isiF, tyD, isiK, lenF, truD1, truD, up, imm, immL, Out.res, noIf, tupF, lstF, inF, ixF, asg, asgL, noPart, partF, flOk, lenSet_app, sortSet_app, xExprE_app, xRetE_app, ltI, leI, gtI, Ow.own, hρ, f_is_within, h p m], fun z => by cases z⟩]
    simp
  have c1' := c1 (wipeE (fzE [some (.sh, rowsD rs), some (.sh, .tup (ps.map D.int)), none]) [2]) (by simp [wipeE_len, fzE])
  have i1 : immL (ps.map D.int) = true := immL_map _ _ fun _ _ => rfl
  have i2 := imm_rows rs
  have z : ps.length ≤ sizeLine := small8 (by omega)
  unfold rowsD at c1' i2 ⊢
  simp only [imm] at i2
  simp [F_are_places, x_are_places, defF, defIO, xSeq, xIf, xRet_app, xRetN_app, xVal, xSet_app, xExpr_app, xNext_app, xBreak_app, xRaise_app, xFor_app, xForK_app, xForW, xSh, xTgt_app, xPar, xApp_app, xExt_app, xMutL, appK, extK, andV, orV, notV, andT, orT, notT, tru1, blOf, boolF, chainF, ifV, bind1, bind2, bind2p, callF, consA, nilA, dVar, dC, startD, compF, walkI, isiF, tyD, isiK, lenF, truD1, truD, up, imm, immL, Out.res, noIf, tupF, lstF, inF, ixF, asg, asgL, noPart, partF, flOk, lenSet_app, sortSet_app, xExprE_app, xRetE_app, ltI, leI, gtI, Ow.own, c1', i1, i2, eqD, hl, z, small8 few]
theorem f_are_late {b : Book} (h : BookOk b) : F_are_late [rowsD b.rows, .tup (S2 b.late)] = .ok (.bl true) := by
  have nm : ∀ x ∈ b.late, nameOk x := fun x m => by
    obtain ⟨r, mr, rfl⟩ := List.mem_map.mp (h.late x m)
    exact (h.rows.row r mr).name
  have few : b.late.length ≤ 8 := by
    have := nodup_le h.lateNd h.late
    have q := h.rows.few
    unfold namesOf at this
    rw [List.length_map] at this
    omega
  have st : ∀ x ∈ b.late, PyData.strOk x = true := fun x m => (nm x m).str
  have c1 : ∀ ρ : Env, 4 < ρ.length → compL (.nm 4) (notT (tru1 (callF F_is_name (consA (dVar 4) nilA)))) (dVar 4) ρ (S2 b.late) = .ok [] := fun ρ hρ => by
    unfold S2
    rw [compL_map D.str D.str (fun _ => false) b.late fun c m => ⟨ρ.set 4 (some (.sh, .str c)), by simp [asg, hρ], by simp [defF, defIO, xSeq, xIf, xRet_app, xRetN_app, xVal, xSet_app, xExpr_app, xNext_app, xBreak_app, xRaise_app, xFor_app, xForK_app, xForW, xSh, xTgt_app, xPar, xApp_app, xExt_app, xMutL, appK, extK, andV, orV, notV, andT, orT, notT, tru1, blOf, boolF, chainF, ifV, bind1, bind2, bind2p, callF, consA, nilA, dVar, dC, startD, compF, walkI, isiF, tyD, isiK, lenF, truD1, truD, up, imm, immL, Out.res, noIf, tupF, lstF, inF, ixF, asg, asgL, noPart, partF, flOk, lenSet_app, sortSet_app, xExprE_app, xRetE_app, ltI, leI, gtI, Ow.own, hρ, f_is_name (nm c m)], fun z => by cases z⟩]
    simp
  have c2 : ∀ ρ : Env, 3 < ρ.length → compL (.nm 3) noIf (bind2 (dVar 3) (dC (.int 0)) ixF) ρ (b.rows.map rowD) = .ok (S2 (namesOf b.rows)) := fun ρ hρ => by
    rw [compL_all rowD (fun r => .str r.name) b.rows fun r m => ⟨ρ.set 3 (some (.sh, rowD r)), by simp [asg, hρ], by simp [rowD, defF, defIO, xSeq, xIf, xRet_app, xRetN_app, xVal, xSet_app, xExpr_app, xNext_app, xBreak_app, xRaise_app, xFor_app, xForK_app, xForW, xSh, xTgt_app, xPar, xApp_app, xExt_app, xMutL, appK, extK, andV, orV, notV, andT, orT, notT, tru1, blOf, boolF, chainF, ifV, bind1, bind2, bind2p, callF, consA, nilA, dVar, dC, startD, compF, walkI, isiF, tyD, isiK, lenF, truD1, truD, up, imm, immL, Out.res, noIf, tupF, lstF, inF, ixF, asg, asgL, noPart, partF, flOk, lenSet_app, sortSet_app, xExprE_app, xRetE_app, ltI, leI, gtI, Ow.own, hρ, atI, ixN]⟩]
    unfold S2 namesOf
    rw [List.map_map]
    rfl
  have c3 : ∀ ρ : Env, 4 < ρ.length → dVar 2 ρ = .ok (.sf, .lst (S2 (namesOf b.rows))) → compL (.nm 4) (blOf (bind2 (dVar 4) (dVar 2) (inF true))) (dVar 4) ρ (S2 b.late) = .ok [] := fun ρ hρ e1 => by
    unfold S2
    rw [compL_map D.str D.str (fun _ => false) b.late fun u mu => ⟨ρ.set 4 (some (.sh, .str u)), by simp [asg, hρ], by
      have i1 := in_lst (st u mu) h.rows.str
      have i2 := h.late u mu
      have e2 : dVar 2 (ρ.set 4 (some (.sh, .str u))) = .ok (.sf, .lst (S2 (namesOf b.rows))) := by
        unfold dVar at e1 ⊢
        rw [List.getElem?_set_ne (by decide)]
        exact e1
      have e3 : dVar 4 (ρ.set 4 (some (.sh, .str u))) = .ok (.fr, .str u) := by simp [dVar, hρ, up, imm]
      simp [blOf, bind2, e2, e3, inF, i1, i2], fun z => by cases z⟩]
    simp
  have c1' := c1 (wipeE (fzE [some (.sh, .tup (b.rows.map rowD)), some (.sh, .tup (S2 b.late)), none, none, none]) [4]) (by simp [wipeE_len, fzE])
  have c2' := c2 (wipeE (fzE [some (.sh, .tup (b.rows.map rowD)), some (.sh, .tup (S2 b.late)), none, none, none]) [3]) (by simp [wipeE_len, fzE])
  have c3' := c3 (wipeE (fzE [some (.sh, .tup (b.rows.map rowD)), some (.sh, .tup (S2 b.late)), some (.loc, .lst (S2 (namesOf b.rows))), none, none]) [4]) (by simp [wipeE_len, fzE]) (by simp [wipeE, fzE, dVar, up, imm])
  have s1 := sortSet_strs (fl := .fr) h.lateNd (by omega) (.tup (S2 b.late)) rfl
  rw [h.lateSorted] at s1
  have im : immL (b.rows.map rowD) = true := imm_rows b.rows
  unfold rowsD
  simp [F_are_late, x_are_late, defF, defIO, xSeq, xIf, xRet_app, xRetN_app, xVal, xSet_app, xExpr_app, xNext_app, xBreak_app, xRaise_app, xFor_app, xForK_app, xForW, xSh, xTgt_app, xPar, xApp_app, xExt_app, xMutL, appK, extK, andV, orV, notV, andT, orT, notT, tru1, blOf, boolF, chainF, ifV, bind1, bind2, bind2p, callF, consA, nilA, dVar, dC, startD, compF, walkI, isiF, tyD, isiK, lenF, truD1, truD, up, imm, immL, Out.res, noIf, tupF, lstF, inF, ixF, asg, asgL, noPart, partF, flOk, lenSet_app, sortSet_app, xExprE_app, xRetE_app, ltI, leI, gtI, Ow.own, c1', c2', c3', s1, im, imm_strs, small8 few, small8 h.rows.few, listF, itemsD, eqD, ok_lst st, eqv_lst]
theorem imm_ints (ps : List Int) : immL (ps.map D.int) = true := immL_map _ _ fun _ _ => rfl
theorem imm_book (b : Book) : imm (bookD b) = true := by
  have := imm_rows b.rows
  unfold bookD
  simp [imm, immL, this, imm_ints, imm_strs]
theorem f_is_book {b : Book} (h : BookOk b) : F_is_book [bookD b] = .ok (.bl true) := by
  have a1 := f_are_rows h.rows
  have a2 := f_are_places h.places h.rows.few h.place
  have a3 := f_are_late h
  have i0 := imm_rows b.rows
  simp [F_is_book, x_is_book, bookD, defF, defIO, xSeq, xIf, xRet_app, xRetN_app, xVal, xSet_app, xExpr_app, xNext_app, xBreak_app, xRaise_app, xFor_app, xForK_app, xForW, xSh, xTgt_app, xPar, xApp_app, xExt_app, xMutL, appK, extK, andV, orV, notV, andT, orT, notT, tru1, blOf, boolF, chainF, ifV, bind1, bind2, bind2p, callF, consA, nilA, dVar, dC, startD, compF, walkI, isiF, tyD, isiK, lenF, truD1, truD, up, imm, immL, Out.res, noIf, tupF, lstF, inF, ixF, asg, asgL, noPart, partF, flOk, lenSet_app, sortSet_app, xExprE_app, xRetE_app, ltI, leI, gtI, Ow.own, atI, ixN, eqD, a1, a2, a3, i0, imm_ints, imm_strs]
theorem f_look {b : Book} (h : BookOk b) : F_look [bookD b] = .ok .non := by
  have := f_is_book h
  have im := imm_book b
  simp [F_look, x_look, defF, defIO, xSeq, xIf, xRet_app, xRetN_app, xVal, xSet_app, xExpr_app, xNext_app, xBreak_app, xRaise_app, xFor_app, xForK_app, xForW, xSh, xTgt_app, xPar, xApp_app, xExt_app, xMutL, appK, extK, andV, orV, notV, andT, orT, notT, tru1, blOf, boolF, chainF, ifV, bind1, bind2, bind2p, callF, consA, nilA, dVar, dC, startD, compF, walkI, isiF, tyD, isiK, lenF, truD1, truD, up, imm, immL, Out.res, noIf, tupF, lstF, inF, ixF, asg, asgL, noPart, partF, flOk, lenSet_app, sortSet_app, xExprE_app, xRetE_app, ltI, leI, gtI, Ow.own, this, im]
/-- a dict by names -/
def nameDict (xs : List Str) (ds : List D) : D := .dK (xs.map Sum.inr) ds
theorem pairs_names {α : Type} (f : α → Str) (g : α → D) (hg : ∀ a, imm (g a) = true) : ∀ xs : List α, pairsD (xs.map fun a => .tup [.str (f a), g a]) = some (xs.map fun a => (Sum.inr (f a), g a))
  | [] => rfl
  | x :: xs => by
    rw [List.map_cons]
    unfold pairsD
    rw [pairs_names f g hg xs]
    simp [keyOf, hg x]
theorem dictOf_nodup {α : Type} (f : α → Str) (g : α → D) : ∀ (xs : List α) (ks : List Str) (ds : List D), (ks ++ xs.map f).Nodup → (xs.map fun a => ((Sum.inr (f a) : Key), g a)).foldl (fun acc kv => putD acc.1 acc.2 kv.1 kv.2) (ks.map Sum.inr, ds) = ((ks ++ xs.map f).map Sum.inr, ds ++ xs.map g)
  | [], ks, ds, _ => by simp
  | x :: xs, ks, ds, nd => by
    have hx : (Sum.inr (f x) : Key) ∉ ks.map Sum.inr := fun m => by
      obtain ⟨y, my, e⟩ := List.mem_map.mp m
      cases e
      exact (List.nodup_append.mp nd).2.2 _ my _ List.mem_cons_self rfl
    have ih := dictOf_nodup f g xs (ks ++ [f x]) (ds ++ [g x]) (by simpa using nd)
    rw [List.map_cons, List.foldl_cons]
    have e : putD (ks.map Sum.inr) ds (Sum.inr (f x) : Key) (g x) = ((ks ++ [f x]).map Sum.inr, ds ++ [g x]) := by
      unfold putD
      rw [if_neg hx]
      simp
    dsimp only
    rw [e, ih]
    simp
theorem f_dict {α : Type} (f : α → Str) (g : α → D) (hg : ∀ a, imm (g a) = true) (xs : List α) (nd : (xs.map f).Nodup) : dictF [.lst (xs.map fun a => .tup [.str (f a), g a])] = .ok (nameDict (xs.map f) (xs.map g)) := by
  have e := dictOf_nodup f g xs [] [] (by simpa using nd)
  simp only [List.map_nil, List.nil_append] at e
  unfold dictF dictOf
  dsimp only
  rw [pairs_names f g hg xs]
  dsimp only
  rw [e]
  rfl
def usesD (rs : List Row) : D := nameDict (namesOf rs) (rs.map fun r => .tup (S2 r.uses))
theorem f_uses_of {b : Book} (h : BookOk b) : F_uses_of [bookD b] = .ok (usesD b.rows) := by
  have c : ∀ ρ : Env, 3 < ρ.length → compL (.tp [.nm 1, .nm 2, .nm 3]) noIf (tupF (consA (dVar 1) (consA (dVar 3) nilA))) ρ (b.rows.map rowD) = .ok (b.rows.map fun r => .tup [.str r.name, .tup (S2 r.uses)]) := fun ρ hρ => by
    have h1 : 1 < ρ.length := by omega
    have h2 : 2 < ρ.length := by omega
    have z2 : 2 ≤ sizeLine := by rw [sizeLine_eq]; decide
    exact compL_all rowD (fun r => .tup [.str r.name, .tup (S2 r.uses)]) b.rows fun r m => ⟨((ρ.set 1 (some (.sh, .str r.name))).set 2 (some (.sh, .int r.num))).set 3 (some (.sh, .tup (S2 r.uses))), by simp [rowD, asg, asgL, hρ, h1, h2], by simp [defF, defIO, xSeq, xIf, xRet_app, xRetN_app, xVal, xSet_app, xExpr_app, xNext_app, xBreak_app, xRaise_app, xFor_app, xForK_app, xForW, xSh, xTgt_app, xPar, xApp_app, xExt_app, xMutL, appK, extK, andV, orV, notV, andT, orT, notT, tru1, blOf, boolF, chainF, ifV, bind1, bind2, bind2p, callF, consA, nilA, dVar, dC, startD, compF, walkI, isiF, tyD, isiK, lenF, truD1, truD, up, imm, immL, Out.res, noIf, tupF, lstF, inF, ixF, asg, asgL, noPart, partF, flOk, lenSet_app, sortSet_app, xExprE_app, xRetE_app, ltI, leI, gtI, Ow.own, hρ, h1, h2, imm_strs, z2]⟩
  have c' := c (wipeE (fzE [some (.sh, bookD b), none, none, none]) [1, 2, 3]) (by simp [wipeE_len, fzE])
  have d := f_dict (fun r : Row => r.name) (fun r => .tup (S2 r.uses)) (fun r => imm_strs r.uses) b.rows h.rows.nd
  have i0 := imm_rows b.rows
  unfold bookD at c' ⊢
  unfold rowsD at c' i0 ⊢
  simp only [imm] at i0
  simp [F_uses_of, x_uses_of, defF, defIO, xSeq, xIf, xRet_app, xRetN_app, xVal, xSet_app, xExpr_app, xNext_app, xBreak_app, xRaise_app, xFor_app, xForK_app, xForW, xSh, xTgt_app, xPar, xApp_app, xExt_app, xMutL, appK, extK, andV, orV, notV, andT, orT, notT, tru1, blOf, boolF, chainF, ifV, bind1, bind2, bind2p, callF, consA, nilA, dVar, dC, startD, compF, walkI, isiF, tyD, isiK, lenF, truD1, truD, up, imm, immL, Out.res, noIf, tupF, lstF, inF, ixF, asg, asgL, noPart, partF, flOk, lenSet_app, sortSet_app, xExprE_app, xRetE_app, ltI, leI, gtI, Ow.own, atI, ixN, c', d, i0, imm_ints, imm_strs, small8 h.rows.few]
  rfl
end DL
/-! BK: the law's own book is a book. -/
namespace DL
open PySem L2

def seedI (s k : Int) : Int := ((s * 1103515245 + 7919 * k + 12345) % 2147483647) ^ 5 % 2147483647
def pickI (s m : Int) : Int := s / 97 % m
theorem pick_lo (s : Int) {m : Int} (h : 0 < m) : 0 ≤ pickI s m := Int.emod_nonneg _ (by omega)
theorem pick_hi (s : Int) {m : Int} (h : 0 < m) : pickI s m < m := Int.emod_lt_of_pos _ h
theorem f_seed (s k : Int) : F__law_seed [.int s, .int k] = .ok (.int (seedI s k)) := by
  have p : powP ((s * 1103515245 + 7919 * k + 12345) % 2147483647) 5 = true := by
    have h1 := Int.emod_nonneg (s * 1103515245 + 7919 * k + 12345) (b := 2147483647) (by decide)
    have h2 := Int.emod_lt_of_pos (s * 1103515245 + 7919 * k + 12345) (b := 2147483647) (by decide)
    unfold powP
    have : ((s * 1103515245 + 7919 * k + 12345) % 2147483647).natAbs < 2 ^ 64 := by omega
    simp [this]
  simp [F__law_seed, x__law_seed, defF, defIO, xSeq, xIf, xRet_app, xRetN_app, xVal, xSet_app, xExpr_app, xNext_app, xBreak_app, xRaise_app, xFor_app, xForK_app, xForW, xSh, xTgt_app, xPar, xApp_app, xExt_app, xMutL, appK, extK, andV, orV, notV, andT, orT, notT, tru1, blOf, boolF, chainF, ifV, bind1, bind2, bind2p, callF, consA, nilA, dVar, dC, startD, compF, walkI, isiF, tyD, isiK, lenF, truD1, truD, up, imm, immL, Out.res, noIf, tupF, lstF, inF, ixF, asg, asgL, noPart, partF, flOk, lenSet_app, sortSet_app, xExprE_app, xRetE_app, ltI, leI, gtI, Ow.own, mulD, addD, arI, modP, p, seedI]
theorem f_pick (s : Int) {m : Int} (h : 0 < m) : F__law_pick [.int s, .int m] = .ok (.int (pickI s m)) := by
  simp [F__law_pick, x__law_pick, defF, defIO, xSeq, xIf, xRet_app, xRetN_app, xVal, xSet_app, xExpr_app, xNext_app, xBreak_app, xRaise_app, xFor_app, xForK_app, xForW, xSh, xTgt_app, xPar, xApp_app, xExt_app, xMutL, appK, extK, andV, orV, notV, andT, orT, notT, tru1, blOf, boolF, chainF, ifV, bind1, bind2, bind2p, callF, consA, nilA, dVar, dC, startD, compF, walkI, isiF, tyD, isiK, lenF, truD1, truD, up, imm, immL, Out.res, noIf, tupF, lstF, inF, ixF, asg, asgL, noPart, partF, flOk, lenSet_app, sortSet_app, xExprE_app, xRetE_app, ltI, leI, gtI, Ow.own, arI, divP, modP, h, pickI]
theorem f_cell (ns : List Int) (i : Nat) : ∃ j, F__law_cell [.fz (ns.map D.int), .int i] = .ok (.int j) := by
  by_cases h : i < ns.length
  · refine ⟨ns[i], ?_⟩
    have a : atI (ns.map D.int) (i : Int) = some (.int ns[i]) := by simp [atI, ixN, h]
    simp [F__law_cell, x__law_cell, defF, defIO, xSeq, xIf, xRet_app, xRetN_app, xVal, xSet_app, xExpr_app, xNext_app, xBreak_app, xRaise_app, xFor_app, xForK_app, xForW, xSh, xTgt_app, xPar, xApp_app, xExt_app, xMutL, appK, extK, andV, orV, notV, andT, orT, notT, tru1, blOf, boolF, chainF, ifV, bind1, bind2, bind2p, callF, consA, nilA, dVar, dC, startD, compF, walkI, isiF, tyD, isiK, lenF, truD1, truD, up, imm, immL, Out.res, noIf, tupF, lstF, inF, ixF, asg, asgL, noPart, partF, flOk, lenSet_app, sortSet_app, xExprE_app, xRetE_app, ltI, leI, gtI, Ow.own, ordD, h, a]
  · refine ⟨0, ?_⟩
    simp [F__law_cell, x__law_cell, defF, defIO, xSeq, xIf, xRet_app, xRetN_app, xVal, xSet_app, xExpr_app, xNext_app, xBreak_app, xRaise_app, xFor_app, xForK_app, xForW, xSh, xTgt_app, xPar, xApp_app, xExt_app, xMutL, appK, extK, andV, orV, notV, andT, orT, notT, tru1, blOf, boolF, chainF, ifV, bind1, bind2, bind2p, callF, consA, nilA, dVar, dC, startD, compF, walkI, isiF, tyD, isiK, lenF, truD1, truD, up, imm, immL, Out.res, noIf, tupF, lstF, inF, ixF, asg, asgL, noPart, partF, flOk, lenSet_app, sortSet_app, xExprE_app, xRetE_app, ltI, leI, gtI, Ow.own, ordD, h]
/-! ### a name of one or two letters -/
def ch (p : Int) : Nat := ("abcdez" : Str).cps.toList.getD p.toNat 97
theorem ch_ok : ∀ n < 6, ch (n : Nat) ∈ letters ∧ atI ("abcdez" : Str).cps.toList ((n : Nat) : Int) = some (ch (n : Nat)) := by decide +kernel
theorem ch_at {p : Int} (h0 : 0 ≤ p) (h1 : p < 6) : ch p ∈ letters ∧ atI ("abcdez" : Str).cps.toList p = some (ch p) := by
  obtain ⟨n, rfl⟩ := Int.eq_ofNat_of_zero_le h0
  exact ch_ok n (by omega)
def one (c : Nat) : Str := ⟨#[c]⟩
def word (cs : List Nat) : Str := Txt.join "" (cs.map one)
theorem word_cps : ∀ cs : List Nat, (word cs).cps.toList = cs := fun cs => by
  unfold word
  show (Builtin.Str.glued "" (cs.map one)).cps.toList = cs
  rw [StrLaws.glued_eq_join]
  induction cs with
  | nil => rfl
  | cons c cs ih =>
    cases cs with
    | nil => rfl
    | cons d cs =>
      show (one c ++ "" ++ Str.join "" ((d :: cs).map one)).cps.toList = _
      have e : ∀ a b : Str, (a ++ b).cps.toList = a.cps.toList ++ b.cps.toList := fun a b => by show (a.cps ++ b.cps).toList = _; rw [Array.toList_append]
      rw [e, e, ih]
      rfl
theorem word_ok {cs : List Nat} (h1 : 1 ≤ cs.length) (h2 : cs.length ≤ 6) (h : ∀ c ∈ cs, c ∈ letters) : nameOk (word cs) := by
  unfold nameOk
  rw [word_cps]
  exact ⟨h1, h2, h⟩
def nmI (s k : Int) : List Nat := (List.range (1 + s / 7 % 2).toNat).map fun n => ch (pickI (seedI s (40 + 3 * k + (n : Nat))) 6)
theorem nmI_ok (s k : Int) : nameOk (word (nmI s k)) := by
  have l1 := Int.emod_nonneg (s / 7) (b := 2) (by decide)
  have l2 := Int.emod_lt_of_pos (s / 7) (b := 2) (by decide)
  refine word_ok ?_ ?_ fun c m => ?_
  · unfold nmI; rw [List.length_map, List.length_range]; omega
  · unfold nmI; rw [List.length_map, List.length_range]; omega
  · obtain ⟨n, _, rfl⟩ := List.mem_map.mp m
    exact (ch_at (pick_lo _ (by decide)) (pick_hi _ (by decide))).1
theorem word_sum (cs : List Nat) : ((cs.map one).map (·.length)).sum = cs.length := by
  induction cs with
  | nil => rfl
  | cons c cs ih => rw [List.map_cons, List.map_cons, List.sum_cons, ih, List.length_cons]; show 1 + _ = _; omega
def xWord : Env → Res FD := bind2p (dC (.str "")) (compF (rng1I (bind2 (dC (.int 1)) (bind2 (bind2 (dVar 0) (dC (.int 7)) fdivK) (dC (.int 2)) modK) addD)) (.nm 10) noIf (bind2 (dC (.str "abcdez")) (callF F__law_pick (consA (callF F__law_seed (consA (dVar 0) (consA (bind2 (bind2 (dC (.int 40)) (bind2 (dC (.int 3)) (dVar 3) mulD) addD) (dVar 10) addD) nilA))) (consA (dC (.int 6)) nilA))) ixF) [10]) isStrD joinK
theorem f_word (s k : Int) (a1 a2 a4 a5 a6 a7 a8 a9 a10 a11 : Option (Ow × D)) (o : Ow) (ho : o = .sh ∨ o = .loc) : xWord [some (.sh, .int s), a1, a2, some (o, .int k), a4, a5, a6, a7, a8, a9, a10, a11] = .ok (.fr, .str (word (nmI s k))) := by
  have l1 := Int.emod_nonneg (s / 7) (b := 2) (by decide)
  have l2 := Int.emod_lt_of_pos (s / 7) (b := 2) (by decide)
  have c : ∀ ρ : Env, 10 < ρ.length → dVar 0 ρ = .ok (.fr, .int s) → dVar 3 ρ = .ok (.fr, .int k) → compL (.nm 10) noIf (bind2 (dC (.str "abcdez")) (callF F__law_pick (consA (callF F__law_seed (consA (dVar 0) (consA (bind2 (bind2 (dC (.int 40)) (bind2 (dC (.int 3)) (dVar 3) mulD) addD) (dVar 10) addD) nilA))) (consA (dC (.int 6)) nilA))) ixF) ρ (rngD 0 (1 + s / 7 % 2)) = .ok (S2 ((nmI s k).map one)) := fun ρ h10 h0 h3 => by
    unfold rngD
    rw [compL_all (fun n : Nat => .int (0 + (n : Int))) (fun n : Nat => .str (one (ch (pickI (seedI s (40 + 3 * k + (n : Nat))) 6)))) _ fun n m => ⟨ρ.set 10 (some (.sh, .int (0 + (n : Int)))), by simp [asg, h10], by
      have e0 : dVar 0 (ρ.set 10 (some (.sh, .int (0 + (n : Int))))) = .ok (.fr, .int s) := by unfold dVar at h0 ⊢; rw [List.getElem?_set_ne (by decide)]; exact h0
      have e3 : dVar 3 (ρ.set 10 (some (.sh, .int (0 + (n : Int))))) = .ok (.fr, .int k) := by unfold dVar at h3 ⊢; rw [List.getElem?_set_ne (by decide)]; exact h3
      have e10 : dVar 10 (ρ.set 10 (some (.sh, .int (0 + (n : Int))))) = .ok (.fr, .int n) := by simp [dVar, h10, up, imm]
      have at1 := (ch_at (p := pickI (seedI s (40 + 3 * k + (n : Nat))) 6) (pick_lo _ (by decide)) (pick_hi _ (by decide))).2
      have z : ("abcdez" : Str).length ≤ sizeLine := by rw [sizeLine_eq]; decide
      have p := f_pick (seedI s (40 + 3 * k + (n : Nat))) (m := 6) (by decide)
      have m1 : mulD (.fr, .int 3) (.fr, .int k) = .ok (.fr, .int (3 * k)) := by simp [mulD]
      simp only [bind2, dC, up, imm, if_true, Res.bind, callF, consA, nilA, e0, e3, e10, m1, addD, f_seed, p, ixF, at1, z]
      rfl⟩]
    unfold nmI S2
    rw [Int.sub_zero, List.map_map, List.map_map]
    rfl
  have c' := c (wipeE (fzE [some (.sh, .int s), a1, a2, some (o, .int k), a4, a5, a6, a7, a8, a9, a10, a11]) [10]) (by simp [wipeE_len, fzE]) (by simp [wipeE, fzE, dVar, up, imm]) (by simp [wipeE, fzE, dVar, up, imm])
  have ln : (rngD 0 (1 + s / 7 % 2)).length ≤ sizeLine := by
    unfold rngD
    rw [List.length_map, List.length_range, sizeLine_eq]
    omega
  have ln2 : (nmI s k).length ≤ 2 := by
    unfold nmI; rw [List.length_map, List.length_range]; omega
  have ws := word_sum (nmI s k)
  have z0 : ("" : Str).length = 0 := by decide
  have b1 : -(2 ^ 62) ≤ 1 + s / 7 % 2 ∧ 1 + s / 7 % 2 < 2 ^ 62 := by omega
  have mm : (nmI s k).length ≤ 16777216 := by omega
  unfold xWord
  have r1 : rng1I (bind2 (dC (.int 1)) (bind2 (bind2 (dVar 0) (dC (.int 7)) fdivK) (dC (.int 2)) modK) addD) [some (.sh, .int s), a1, a2, some (o, .int k), a4, a5, a6, a7, a8, a9, a10, a11] = .ok ([], rngD 0 (1 + s / 7 % 2)) := by
    simp [rng1I, defF, defIO, xSeq, xIf, xRet_app, xRetN_app, xVal, xSet_app, xExpr_app, xNext_app, xBreak_app, xRaise_app, xFor_app, xForK_app, xForW, xSh, xTgt_app, xPar, xApp_app, xExt_app, xMutL, appK, extK, andV, orV, notV, andT, orT, notT, tru1, blOf, boolF, chainF, ifV, bind1, bind2, bind2p, callF, consA, nilA, dVar, dC, startD, compF, walkI, isiF, tyD, isiK, lenF, truD1, truD, up, imm, immL, Out.res, noIf, tupF, lstF, inF, ixF, asg, asgL, noPart, partF, flOk, lenSet_app, sortSet_app, xExprE_app, xRetE_app, ltI, leI, gtI, Ow.own, arI, divP, modP, addD]
    omega
  have fin : joinK (.fr, .str "") (.fr, .lst (S2 ((nmI s k).map one))) = .ok (.fr, .str (word (nmI s k))) := by
    unfold joinK
    dsimp only [itemsD]
    rw [strsD_S2]
    dsimp only
    rw [ws, z0, Nat.mul_zero, Nat.add_zero, if_pos mm]
    rfl
  simp only [bind2p, compF, r1, dC, Res.bind, up, imm, isStrD, if_true, ln, c', fin]

abbrev Sl := Option (Ow × D)
def xNames : XS := xSeq (xSet 4 xWord) (xIf (blOf (bind2 (dVar 4) (dVar 2) (inF true))) (xApp 2 (dVar 4)) xNext)
theorem rngD_at {n : Nat} {i : Nat} {d : D} (h : (rngD 0 (n : Int))[i]? = some d) : d = .int (i : Nat) ∧ i < n := by
  unfold rngD at h
  rw [List.getElem?_map] at h
  obtain ⟨j, e, rfl⟩ := Option.map_eq_some_iff.mp h
  obtain ⟨hl, e2⟩ := List.getElem?_eq_some_iff.mp e
  rw [List.length_range] at hl
  rw [List.getElem_range] at e2
  subst e2
  refine ⟨?_, by omega⟩
  rw [Int.zero_add]
theorem loop_names (s m : Int) (n : Nat) (hn : n ≤ 100) (a3 a4 a5 a6 a7 a8 a9 a10 a11 : Sl) : ∃ ρ2, xLoop (.nm 3) xNames (rngD 0 (n : Int)) [some (.sh, .int s), some (.sh, .int m), some (.loc, .lst []), a3, a4, a5, a6, a7, a8, a9, a10, a11] = .nx ρ2 ∧
    ∃ (names : List Str) (a3 a4 : Sl), ρ2 = [some (.sh, .int s), some (.sh, .int m), some (.loc, .lst (S2 names)), a3, a4, a5, a6, a7, a8, a9, a10, a11] ∧ names.Nodup ∧ (∀ x ∈ names, nameOk x) ∧ names.length ≤ n ∧ (0 < n → 0 < names.length) := by
  have len : (rngD 0 (n : Int)).length = n := by unfold rngD; rw [List.length_map, List.length_range]; omega
  obtain ⟨ρ2, e, k⟩ := xLoop_inv (t := .nm 3) (x := xNames) (rngD 0 (n : Int)) (fun i ρ => ∃ (names : List Str) (a3 a4 : Sl), ρ = [some (.sh, .int s), some (.sh, .int m), some (.loc, .lst (S2 names)), a3, a4, a5, a6, a7, a8, a9, a10, a11] ∧ names.Nodup ∧ (∀ x ∈ names, nameOk x) ∧ names.length ≤ i ∧ (0 < i → 0 < names.length))
    (fun i d ρ ei k => by
      obtain ⟨names, b3, b4, rfl, nd, ok, le, gt⟩ := k
      obtain ⟨rfl, hi⟩ := rngD_at ei
      have w := f_word s (i : Nat) (some (.sh, .int m)) (some (.loc, .lst (S2 names))) b4 a5 a6 a7 a8 a9 a10 a11 .sh (.inl rfl)
      have wo := nmI_ok s (i : Nat)
      have q := in_lst wo.str fun y m => (ok y m).str
      by_cases hx : word (nmI s (i : Nat)) ∈ names
      · refine ⟨_, [some (.sh, .int s), some (.sh, .int m), some (.loc, .lst (S2 names)), some (.sh, .int (i : Nat)), some (.loc, .str (word (nmI s (i : Nat)))), a5, a6, a7, a8, a9, a10, a11], rfl, .inl ?_, ⟨names, _, _, rfl, nd, ok, by omega, fun _ => List.length_pos_of_mem hx⟩⟩
        simp only [hx, decide_true] at q
        simp [xNames, defF, defIO, xSeq, xIf, xRet_app, xRetN_app, xVal, xSet_app, xExpr_app, xNext_app, xBreak_app, xRaise_app, xFor_app, xForK_app, xForW, xSh, xTgt_app, xPar, xApp_app, xExt_app, xMutL, appK, extK, andV, orV, notV, andT, orT, notT, tru1, blOf, boolF, chainF, ifV, bind1, bind2, bind2p, callF, consA, nilA, dVar, dC, startD, compF, walkI, isiF, tyD, isiK, lenF, truD1, truD, up, imm, immL, Out.res, noIf, tupF, lstF, inF, ixF, asg, asgL, noPart, partF, flOk, lenSet_app, sortSet_app, xExprE_app, xRetE_app, ltI, leI, gtI, Ow.own, w, q]
      · refine ⟨_, [some (.sh, .int s), some (.sh, .int m), some (.loc, .lst (S2 (names ++ [word (nmI s (i : Nat))]))), some (.sh, .int (i : Nat)), some (.loc, .str (word (nmI s (i : Nat)))), a5, a6, a7, a8, a9, a10, a11], rfl, .inl ?_, ⟨names ++ [word (nmI s (i : Nat))], _, _, rfl, ?_, ?_, by rw [List.length_append]; simpa using le, fun _ => by rw [List.length_append]; simp⟩⟩
        · simp only [hx, decide_false] at q
          have z : names.length < sizeLine := by rw [sizeLine_eq]; omega
          simp [xNames, defF, defIO, xSeq, xIf, xRet_app, xRetN_app, xVal, xSet_app, xExpr_app, xNext_app, xBreak_app, xRaise_app, xFor_app, xForK_app, xForW, xSh, xTgt_app, xPar, xApp_app, xExt_app, xMutL, appK, extK, andV, orV, notV, andT, orT, notT, tru1, blOf, boolF, chainF, ifV, bind1, bind2, bind2p, callF, consA, nilA, dVar, dC, startD, compF, walkI, isiF, tyD, isiK, lenF, truD1, truD, up, imm, immL, Out.res, noIf, tupF, lstF, inF, ixF, asg, asgL, noPart, partF, flOk, lenSet_app, sortSet_app, xExprE_app, xRetE_app, ltI, leI, gtI, Ow.own, w, q, z]
        · rw [List.nodup_append]
          exact ⟨nd, by simp, fun a ma b mb e => hx (by rw [List.mem_singleton] at mb; rw [← mb, ← e]; exact ma)⟩
        · intro x mx
          rcases List.mem_append.mp mx with m | m
          · exact ok x m
          · rw [List.mem_singleton] at m; rw [m]; exact wo) _ ⟨[], a3, a4, rfl, List.nodup_nil, by simp, by simp, by simp⟩
  rw [len] at k
  exact ⟨ρ2, e, k⟩

def xUses : XS := (xSeq (xSet 11 (bind2 (dVar 2) (callF F__law_pick (consA (callF F__law_seed (consA (dVar 0) (consA (bind2 (bind2 (dC (.int 100)) (bind2 (dC (.int 5)) (dVar 3) mulD) addD) (dVar 10) addD) nilA))) (consA (callF lenF (consA (dVar 2) nilA)) nilA))) ixF))
    (xIf (andT (blOf (bind2 (dVar 11) (dVar 4) (eqD true))) (andT (blOf (bind2 (dVar 11) (dVar 9) (inF true))) (orT (blOf (bind2 (bind2 (bind2 (dVar 0) (dC (.int 11)) fdivK) (dC (.int 3)) modK) (dC (.int 0)) (ordD gtI))) (blOf (bind2 (bind2p (dVar 2) (dVar 11) isLstD indexK) (dVar 3) (ordD ltI))))))
    (xApp 9 (dVar 11))
    xNext))
theorem find_some {x : Str} : ∀ {xs : List Str}, x ∈ xs → ∃ j, (S2 xs).findIdx? (fun z => eqvD z (.str x)) = some j
  | y :: xs, m => by
    unfold S2
    rw [List.map_cons, List.findIdx?_cons, eqv_str]
    by_cases h : y = x
    · exact ⟨0, by simp [h]⟩
    · have m2 : x ∈ xs := by
        rcases List.mem_cons.mp m with e | m
        · exact absurd e.symm h
        · exact m
      obtain ⟨j, e⟩ := find_some m2
      unfold S2 at e
      exact ⟨j + 1, by simp [h, e]⟩
theorem loop_uses (s m k th : Int) (names : List Str) (x : Str) (hx : x ∈ names) (hn : ∀ y ∈ names, nameOk y) (few : names.length ≤ 8) (n : Nat) (hl : n ≤ 4) (a5 a6 a7 a10 a11 : Sl) : ∃ ρ2, xLoop (.nm 10) xUses (rngD 0 (n : Int)) [some (.sh, .int s), some (.sh, .int m), some (.sh, .lst (S2 names)), some (.sh, .int k), some (.sh, .str x), a5, a6, a7, some (.loc, .int th), some (.loc, .lst []), a10, a11] = .nx ρ2 ∧
    ∃ (us : List Str) (a10 a11 : Sl), ρ2 = [some (.sh, .int s), some (.sh, .int m), some (.sh, .lst (S2 names)), some (.sh, .int k), some (.sh, .str x), a5, a6, a7, some (.loc, .int th), some (.loc, .lst (S2 us)), a10, a11] ∧ us.Nodup ∧ (∀ u ∈ us, u ∈ names) ∧ x ∉ us ∧ us.length ≤ n := by
  have len : (rngD 0 (n : Int)).length = n := by unfold rngD; rw [List.length_map, List.length_range]; omega
  obtain ⟨ρ2, e, k⟩ := xLoop_inv (t := .nm 10) (x := xUses) (rngD 0 (n : Int)) (fun i ρ => ∃ (us : List Str) (a10 a11 : Sl), ρ = [some (.sh, .int s), some (.sh, .int m), some (.sh, .lst (S2 names)), some (.sh, .int k), some (.sh, .str x), a5, a6, a7, some (.loc, .int th), some (.loc, .lst (S2 us)), a10, a11] ∧ us.Nodup ∧ (∀ u ∈ us, u ∈ names) ∧ x ∉ us ∧ us.length ≤ i)
    (fun i d ρ ei kk => by
      obtain ⟨us, b10, b11, rfl, nd, sub, nx, le⟩ := kk
      obtain ⟨rfl, hi⟩ := rngD_at ei
      have hp : (0 : Int) < (names.length : Nat) := by have := List.length_pos_of_mem hx; omega
      have p0 := pick_lo (seedI s (100 + 5 * k + (i : Nat))) hp
      have p1 := pick_hi (seedI s (100 + 5 * k + (i : Nat))) hp
      have fp := f_pick (seedI s (100 + 5 * k + (i : Nat))) hp
      obtain ⟨q, eq⟩ := Int.eq_ofNat_of_zero_le p0
      have hq : q < names.length := by omega
      obtain ⟨o, eo⟩ : ∃ o, names[q]? = some o := ⟨names[q], List.getElem?_eq_getElem hq⟩
      have mo := List.mem_of_getElem? eo
      have ok := fun y my => (hn y my).str
      have at1 : atI (S2 names) (q : Nat) = some (.str o) := by obtain ⟨_, e⟩ := List.getElem?_eq_some_iff.mp eo; simp [atI, ixN, hq, S2, e]
      have i1 := in_lst (ok o mo) fun y my => ok y (sub y my)
      have ne := eqv_str o x
      obtain ⟨f, ef⟩ := find_some mo
      have l3 := Int.emod_nonneg (s / 11) (b := 3) (by decide)
      have z : us.length < sizeLine := by rw [sizeLine_eq]; omega
      have oks : okP (.lst (S2 names)) = true := ok_lst ok
      have m1 : mulD (.fr, .int 5) (.fr, .int k) = .ok (.fr, .int (5 * k)) := by simp [mulD]
      by_cases c : o ≠ x ∧ o ∉ us ∧ (0 < s / 11 % 3 ∨ (f : Int) < k)
      · obtain ⟨c1, c2, c3⟩ := c
        refine ⟨_, [some (.sh, .int s), some (.sh, .int m), some (.sh, .lst (S2 names)), some (.sh, .int k), some (.sh, .str x), a5, a6, a7, some (.loc, .int th), some (.loc, .lst (S2 (us ++ [o]))), some (.sh, .int (i : Nat)), some (.loc, .str o)], rfl, .inl ?_, ⟨us ++ [o], _, _, rfl, ?_, ?_, ?_, by rw [List.length_append]; simpa using le⟩⟩
        · by_cases c4 : 0 < s / 11 % 3
          · simp [xUses, defF, defIO, xSeq, xIf, xRet_app, xRetN_app, xVal, xSet_app, xExpr_app, xNext_app, xBreak_app, xRaise_app, xFor_app, xForK_app, xForW, xSh, xTgt_app, xPar, xApp_app, xExt_app, xMutL, appK, extK, andV, orV, notV, andT, orT, notT, tru1, blOf, boolF, chainF, ifV, bind1, bind2, bind2p, callF, consA, nilA, dVar, dC, startD, compF, walkI, isiF, tyD, isiK, lenF, truD1, truD, up, imm, immL, Out.res, noIf, tupF, lstF, inF, ixF, asg, asgL, noPart, partF, flOk, lenSet_app, sortSet_app, xExprE_app, xRetE_app, ltI, leI, gtI, Ow.own, arI, divP, modP, addD, m1, f_seed, fp, eq, at1, eqD, ordD, ok_str (ok o mo), ok_str (ok x hx), eqv_str, c1, i1, c2, c4, z]
          · have c5 := c3.resolve_left c4
            simp [xUses, defF, defIO, xSeq, xIf, xRet_app, xRetN_app, xVal, xSet_app, xExpr_app, xNext_app, xBreak_app, xRaise_app, xFor_app, xForK_app, xForW, xSh, xTgt_app, xPar, xApp_app, xExt_app, xMutL, appK, extK, andV, orV, notV, andT, orT, notT, tru1, blOf, boolF, chainF, ifV, bind1, bind2, bind2p, callF, consA, nilA, dVar, dC, startD, compF, walkI, isiF, tyD, isiK, lenF, truD1, truD, up, imm, immL, Out.res, noIf, tupF, lstF, inF, ixF, asg, asgL, noPart, partF, flOk, lenSet_app, sortSet_app, xExprE_app, xRetE_app, ltI, leI, gtI, Ow.own, arI, divP, modP, addD, m1, f_seed, fp, eq, at1, eqD, ordD, ok_str (ok o mo), ok_str (ok x hx), eqv_str, c1, i1, c2, c4, z, indexK, isLstD, oks, ef, c5]
        · rw [List.nodup_append]
          exact ⟨nd, by simp, fun a ma b mb e => c2 (by rw [List.mem_singleton] at mb; rw [← mb, ← e]; exact ma)⟩
        · intro u mu
          rcases List.mem_append.mp mu with m | m
          · exact sub u m
          · rw [List.mem_singleton] at m; rw [m]; exact mo
        · intro mu
          rcases List.mem_append.mp mu with m | m
          · exact nx m
          · rw [List.mem_singleton] at m; exact c1 m.symm
      · refine ⟨_, [some (.sh, .int s), some (.sh, .int m), some (.sh, .lst (S2 names)), some (.sh, .int k), some (.sh, .str x), a5, a6, a7, some (.loc, .int th), some (.loc, .lst (S2 us)), some (.sh, .int (i : Nat)), some (.loc, .str o)], rfl, .inl ?_, ⟨us, _, _, rfl, nd, sub, nx, by omega⟩⟩
        by_cases c1 : o = x
        · simp [xUses, defF, defIO, xSeq, xIf, xRet_app, xRetN_app, xVal, xSet_app, xExpr_app, xNext_app, xBreak_app, xRaise_app, xFor_app, xForK_app, xForW, xSh, xTgt_app, xPar, xApp_app, xExt_app, xMutL, appK, extK, andV, orV, notV, andT, orT, notT, tru1, blOf, boolF, chainF, ifV, bind1, bind2, bind2p, callF, consA, nilA, dVar, dC, startD, compF, walkI, isiF, tyD, isiK, lenF, truD1, truD, up, imm, immL, Out.res, noIf, tupF, lstF, inF, ixF, asg, asgL, noPart, partF, flOk, lenSet_app, sortSet_app, xExprE_app, xRetE_app, ltI, leI, gtI, Ow.own, arI, divP, modP, addD, m1, f_seed, fp, eq, at1, eqD, ordD, ok_str (ok o mo), ok_str (ok x hx), eqv_str, c1]
        · by_cases c2 : o ∈ us
          · simp [xUses, defF, defIO, xSeq, xIf, xRet_app, xRetN_app, xVal, xSet_app, xExpr_app, xNext_app, xBreak_app, xRaise_app, xFor_app, xForK_app, xForW, xSh, xTgt_app, xPar, xApp_app, xExt_app, xMutL, appK, extK, andV, orV, notV, andT, orT, notT, tru1, blOf, boolF, chainF, ifV, bind1, bind2, bind2p, callF, consA, nilA, dVar, dC, startD, compF, walkI, isiF, tyD, isiK, lenF, truD1, truD, up, imm, immL, Out.res, noIf, tupF, lstF, inF, ixF, asg, asgL, noPart, partF, flOk, lenSet_app, sortSet_app, xExprE_app, xRetE_app, ltI, leI, gtI, Ow.own, arI, divP, modP, addD, m1, f_seed, fp, eq, at1, eqD, ordD, ok_str (ok o mo), ok_str (ok x hx), eqv_str, c1, i1, c2]
          · have c3 : ¬ 0 < s / 11 % 3 := fun h => c ⟨c1, c2, .inl h⟩
            have c4 : ¬ (f : Int) < k := fun h => c ⟨c1, c2, .inr h⟩
            simp [xUses, defF, defIO, xSeq, xIf, xRet_app, xRetN_app, xVal, xSet_app, xExpr_app, xNext_app, xBreak_app, xRaise_app, xFor_app, xForK_app, xForW, xSh, xTgt_app, xPar, xApp_app, xExt_app, xMutL, appK, extK, andV, orV, notV, andT, orT, notT, tru1, blOf, boolF, chainF, ifV, bind1, bind2, bind2p, callF, consA, nilA, dVar, dC, startD, compF, walkI, isiF, tyD, isiK, lenF, truD1, truD, up, imm, immL, Out.res, noIf, tupF, lstF, inF, ixF, asg, asgL, noPart, partF, flOk, lenSet_app, sortSet_app, xExprE_app, xRetE_app, ltI, leI, gtI, Ow.own, arI, divP, modP, addD, m1, f_seed, fp, eq, at1, eqD, ordD, ok_str (ok o mo), ok_str (ok x hx), eqv_str, c1, i1, c2, c3, indexK, isLstD, oks, ef, c4]) _ ⟨[], a10, a11, rfl, List.nodup_nil, by simp, by simp, by simp⟩
  rw [len] at k
  exact ⟨ρ2, e, k⟩

def xRowB : XS := (xSeq (xSet 9 (lstF nilA))
    (xSeq (xFor (rng1I (callF F__law_pick (consA (callF F__law_seed (consA (dVar 0) (consA (bind2 (dC (.int 80)) (dVar 3) addD) nilA))) (consA (bind2 (dVar 8) (dC (.int 1)) addD) nilA)))) (.nm 10)
    xUses)
    (xSeq (xApp 5 (tupF (consA (dVar 4) (consA (bind2 (callF F__law_pick (consA (callF F__law_seed (consA (dVar 0) (consA (bind2 (dC (.int 160)) (dVar 3) addD) nilA))) (consA (dC (.int 199)) nilA))) (dC (.int 99)) subK) (consA (callF tupB (consA (dVar 9) nilA)) nilA)))))
    (xSeq (xApp 6 (callF F__law_pick (consA (callF F__law_seed (consA (dVar 0) (consA (bind2 (dC (.int 180)) (dVar 3) addD) nilA))) (consA (bind2 (dC (.int 1)) (bind2 (bind2 (dVar 0) (dC (.int 13)) fdivK) (dC (.int 4)) modK) addD) nilA))))
    (xSet 7 (bind2 (dVar 7) (bind2 (lstF (consA (dVar 4) nilA)) (callF intF (consA (bind2 (callF F__law_pick (consA (callF F__law_seed (consA (dVar 0) (consA (bind2 (dC (.int 200)) (dVar 3) addD) nilA))) (consA (bind2 (lstF (consA (dC (.int 2)) (consA (dC (.int 4)) (consA (dC (.int 99)) nilA)))) (bind2 (bind2 (dVar 0) (dC (.int 17)) fdivK) (dC (.int 3)) modK) ixF) nilA))) (dC (.int 0)) (eqD false)) nilA)) mulD) addD))))))
structure RP (names : List Str) (i : Nat) (rows : List Row) (ps : List Int) (late : List Str) : Prop where
  rn : namesOf rows = names.take i
  rok : ∀ r ∈ rows, RowOk r ∧ r.name ∉ r.uses ∧ r.uses.Nodup ∧ ∀ u ∈ r.uses, u ∈ names
  pl : ps.length = i
  pp : ∀ p ∈ ps, 0 ≤ p ∧ p ≤ 3
  ln : late.Nodup
  lm : ∀ x ∈ late, x ∈ names.take i
theorem enum_at {xs : List Str} {i : Nat} {d : D} (h : (enumD (S2 xs))[i]? = some d) : ∃ x, xs[i]? = some x ∧ d = .tup [.int (i : Nat), .str x] := by
  unfold enumD at h
  rw [List.getElem?_map] at h
  obtain ⟨⟨a, b⟩, e, rfl⟩ := Option.map_eq_some_iff.mp h
  rw [List.getElem?_zip_eq_some] at e
  obtain ⟨e1, e2⟩ := e
  obtain ⟨hl, e3⟩ := List.getElem?_eq_some_iff.mp e1
  rw [List.getElem_range] at e3
  dsimp only at e1 e2 e3 ⊢
  unfold S2 at e2
  rw [List.getElem?_map] at e2
  obtain ⟨x, e4, rfl⟩ := Option.map_eq_some_iff.mp e2
  exact ⟨x, e4, by rw [e3]⟩
theorem rate (p : Int) (h0 : 0 ≤ p) (h1 : p < 3) : ∃ v : Int, 0 < v ∧ atI [D.int 2, D.int 4, D.int 99] p = some (D.int v) := by
  obtain ⟨n, rfl⟩ := Int.eq_ofNat_of_zero_le h0
  have : n = 0 ∨ n = 1 ∨ n = 2 := by omega
  rcases this with rfl | rfl | rfl
  · exact ⟨2, by decide, rfl⟩
  · exact ⟨4, by decide, rfl⟩
  · exact ⟨99, by decide, rfl⟩
theorem rng1_ok {f : Env → Res FD} {ρ : Env} {fl : Fl} {j : Int} (h : f ρ = .ok (fl, .int j)) (h0 : 0 ≤ j) (h1 : j ≤ 100000) : rng1I f ρ = .ok ([], rngD 0 j) := by
  unfold rng1I
  rw [h]
  simp [Res.bind]
  omega
theorem loop_rows (s m : Int) (th : Int) (ht : 1 ≤ th ∧ th ≤ 4) (names : List Str) (nd : names.Nodup) (hn : ∀ y ∈ names, nameOk y) (few : names.length ≤ 8) (a3 a4 a9 a10 a11 : Sl) : ∃ ρ2, xLoop (.tp [.nm 3, .nm 4]) xRowB (enumD (S2 names)) [some (.sh, .int s), some (.sh, .int m), some (.sh, .lst (S2 names)), a3, a4, some (.loc, .lst []), some (.loc, .lst []), some (.loc, .lst []), some (.loc, .int th), a9, a10, a11] = .nx ρ2 ∧
    ∃ (rows : List Row) (ps : List Int) (late : List Str) (a3 a4 a9 a10 a11 : Sl), ρ2 = [some (.sh, .int s), some (.sh, .int m), some (.sh, .lst (S2 names)), a3, a4, some (.loc, .lst (rows.map rowD)), some (.loc, .lst (ps.map D.int)), some (.loc, .lst (S2 late)), some (.loc, .int th), a9, a10, a11] ∧ RP names names.length rows ps late := by
  have len : (enumD (S2 names)).length = names.length := by unfold enumD S2; simp
  obtain ⟨ρ2, e, k⟩ := xLoop_inv (t := .tp [.nm 3, .nm 4]) (x := xRowB) (enumD (S2 names)) (fun i ρ => ∃ (rows : List Row) (ps : List Int) (late : List Str) (a3 a4 a9 a10 a11 : Sl), ρ = [some (.sh, .int s), some (.sh, .int m), some (.sh, .lst (S2 names)), a3, a4, some (.loc, .lst (rows.map rowD)), some (.loc, .lst (ps.map D.int)), some (.loc, .lst (S2 late)), some (.loc, .int th), a9, a10, a11] ∧ RP names i rows ps late)
    (fun i d ρ ei kk => by
      obtain ⟨rows, ps, late, b3, b4, b9, b10, b11, rfl, h⟩ := kk
      obtain ⟨x, ex, rfl⟩ := enum_at ei
      have mx := List.mem_of_getElem? ex
      obtain ⟨hi, ex2⟩ := List.getElem?_eq_some_iff.mp ex
      have t1 : (0 : Int) < th + 1 := by omega
      have n0 := pick_lo (seedI s (80 + (i : Nat))) t1
      have n1 := pick_hi (seedI s (80 + (i : Nat))) t1
      obtain ⟨n, en⟩ := Int.eq_ofNat_of_zero_le n0
      have hl : n ≤ 4 := by omega
      obtain ⟨ρu, eu, us, c10, c11, rfl, und, usub, unx, ule⟩ := loop_uses s m (i : Nat) th names x mx hn few n hl (some (.loc, .lst (rows.map rowD))) (some (.loc, .lst (ps.map D.int))) (some (.loc, .lst (S2 late))) b10 b11
      have fp1 := f_pick (seedI s (80 + (i : Nat))) t1
      have fp2 := f_pick (seedI s (160 + (i : Nat))) (m := 199) (by decide)
      have n2 := pick_lo (seedI s (160 + (i : Nat))) (m := 199) (by decide)
      have n3 := pick_hi (seedI s (160 + (i : Nat))) (m := 199) (by decide)
      have l4 := Int.emod_nonneg (s / 13) (b := 4) (by decide)
      have l5 := Int.emod_lt_of_pos (s / 13) (b := 4) (by decide)
      have t2 : (0 : Int) < 1 + s / 13 % 4 := by omega
      have fp3 := f_pick (seedI s (180 + (i : Nat))) t2
      have n4 := pick_lo (seedI s (180 + (i : Nat))) t2
      have n5 := pick_hi (seedI s (180 + (i : Nat))) t2
      obtain ⟨v, v0, ev⟩ := rate (s / 17 % 3) (Int.emod_nonneg _ (by decide)) (Int.emod_lt_of_pos _ (by decide))
      have fp4 := f_pick (seedI s (200 + (i : Nat))) v0
      have rl : rows.length = i := by have := congrArg List.length h.rn; unfold namesOf at this; rw [List.length_map, List.length_take] at this; omega
      have z1 : rows.length < sizeLine := by rw [sizeLine_eq]; omega
      have z2 : ps.length < sizeLine := by rw [sizeLine_eq, h.pl]; omega
      have z3 : ∀ q : Nat, q ≤ 3 → q ≤ sizeLine := fun q hq => by rw [sizeLine_eq]; omega
      have z4 : late.length + 1 ≤ sizeLine := by
        have := nodup_le h.ln h.lm
        rw [List.length_take] at this
        rw [sizeLine_eq]; omega
      have z5 : late.length ≤ sizeLine := by omega
      have im := imm_strs late
      have iu := imm_strs us
      have tk : names.take (i + 1) = names.take i ++ [x] := by rw [List.take_succ, ex]; rfl
      have tn : (names.take (i + 1)).Nodup := (List.take_sublist _ _).nodup nd
      have xl : x ∉ names.take i := by
        rw [tk, List.nodup_append] at tn
        exact fun mm => tn.2.2 x mm x (by simp) rfl
      have rd : rowD (Row.mk x (pickI (seedI s (160 + (i : Nat))) 199 - 99) us) = .tup [.str x, .int (pickI (seedI s (160 + (i : Nat))) 199 - 99), .tup (S2 us)] := rfl
      have R2 : namesOf (rows ++ [Row.mk x (pickI (seedI s (160 + (i : Nat))) 199 - 99) us]) = names.take (i + 1) := by
        have q := h.rn
        unfold namesOf at q ⊢
        rw [List.map_append, q, tk]; rfl
      have R3 : ∀ r ∈ rows ++ [Row.mk x (pickI (seedI s (160 + (i : Nat))) 199 - 99) us], RowOk r ∧ r.name ∉ r.uses ∧ r.uses.Nodup ∧ ∀ u ∈ r.uses, u ∈ names := fun r mr => by
        rcases List.mem_append.mp mr with mr | mr
        · exact h.rok r mr
        · rw [List.mem_singleton] at mr
          subst mr
          exact ⟨⟨hn x mx, by show -99 ≤ pickI _ _ - 99; omega, by show pickI _ _ - 99 ≤ 99; omega, by show us.length ≤ 4; omega, fun u mu => hn u (usub u mu)⟩, unx, und, usub⟩
      have R4 : (ps ++ [pickI (seedI s (180 + (i : Nat))) (1 + s / 13 % 4)]).length = i + 1 := by rw [List.length_append, h.pl]; rfl
      have R5 : ∀ p ∈ ps ++ [pickI (seedI s (180 + (i : Nat))) (1 + s / 13 % 4)], 0 ≤ p ∧ p ≤ 3 := fun p mp => by
        rcases List.mem_append.mp mp with mp | mp
        · exact h.pp p mp
        · rw [List.mem_singleton] at mp; rw [mp]; omega
      have w1 : rng1I (callF F__law_pick (consA (callF F__law_seed (consA (dVar 0) (consA (bind2 (dC (.int 80)) (dVar 3) addD) nilA))) (consA (bind2 (dVar 8) (dC (.int 1)) addD) nilA))) [some (.sh, .int s), some (.sh, .int m), some (.sh, .lst (S2 names)), some (.sh, .int (i : Nat)), some (.sh, .str x), some (.loc, .lst (rows.map rowD)), some (.loc, .lst (ps.map D.int)), some (.loc, .lst (S2 late)), some (.loc, .int th), some (.loc, .lst []), b10, b11] = .ok ([], rngD 0 (n : Int)) := by
        refine rng1_ok (fl := .fr) ?_ (by omega) (by omega)
        simp [defF, defIO, xSeq, xIf, xRet_app, xRetN_app, xVal, xSet_app, xExpr_app, xNext_app, xBreak_app, xRaise_app, xFor_app, xForK_app, xForW, xSh, xTgt_app, xPar, xApp_app, xExt_app, xMutL, appK, extK, andV, orV, notV, andT, orT, notT, tru1, blOf, boolF, chainF, ifV, bind1, bind2, bind2p, callF, consA, nilA, dVar, dC, startD, compF, walkI, isiF, tyD, isiK, lenF, truD1, truD, up, imm, immL, Out.res, noIf, tupF, lstF, inF, ixF, asg, asgL, noPart, partF, flOk, lenSet_app, sortSet_app, xExprE_app, xRetE_app, ltI, leI, gtI, Ow.own, addD, f_seed, fp1, en]
      by_cases c : pickI (seedI s (200 + (i : Nat))) v = 0
      · refine ⟨_, [some (.sh, .int s), some (.sh, .int m), some (.sh, .lst (S2 names)), some (.sh, .int (i : Nat)), some (.sh, .str x), some (.loc, .lst ((rows ++ [Row.mk x (pickI (seedI s (160 + (i : Nat))) 199 - 99) us]).map rowD)), some (.loc, .lst ((ps ++ [pickI (seedI s (180 + (i : Nat))) (1 + s / 13 % 4)]).map D.int)), some (.loc, .lst (S2 (late ++ [x]))), some (.loc, .int th), some (.loc, .lst (S2 us)), c10, c11], rfl, .inl ?_, ⟨rows ++ [Row.mk x (pickI (seedI s (160 + (i : Nat))) 199 - 99) us], ps ++ [pickI (seedI s (180 + (i : Nat))) (1 + s / 13 % 4)], late ++ [x], _, _, _, _, _, rfl, ⟨R2, R3, R4, R5, ?_, ?_⟩⟩⟩
        · simp [xRowB, defF, defIO, xSeq, xIf, xRet_app, xRetN_app, xVal, xSet_app, xExpr_app, xNext_app, xBreak_app, xRaise_app, xFor_app, xForK_app, xForW, xSh, xTgt_app, xPar, xApp_app, xExt_app, xMutL, appK, extK, andV, orV, notV, andT, orT, notT, tru1, blOf, boolF, chainF, ifV, bind1, bind2, bind2p, callF, consA, nilA, dVar, dC, startD, compF, walkI, isiF, tyD, isiK, lenF, truD1, truD, up, imm, immL, Out.res, noIf, tupF, lstF, inF, ixF, asg, asgL, noPart, partF, flOk, lenSet_app, sortSet_app, xExprE_app, xRetE_app, ltI, leI, gtI, Ow.own, w1, eu, addD, subK, arI, divP, modP, f_seed, fp2, fp3, fp4, ev, c, eqD, intF, mulD, z1, z2, z3, z4, z5, im, iu, tupB, itemsD, rd]
        · rw [List.nodup_append]
          exact ⟨h.ln, by simp, fun a ma b mb e => xl (by rw [List.mem_singleton] at mb; rw [← mb, ← e]; exact h.lm a ma)⟩
        · intro y my
          rw [tk]
          rcases List.mem_append.mp my with q | q
          · exact List.mem_append_left _ (h.lm y q)
          · exact List.mem_append_right _ q
      · refine ⟨_, [some (.sh, .int s), some (.sh, .int m), some (.sh, .lst (S2 names)), some (.sh, .int (i : Nat)), some (.sh, .str x), some (.loc, .lst ((rows ++ [Row.mk x (pickI (seedI s (160 + (i : Nat))) 199 - 99) us]).map rowD)), some (.loc, .lst ((ps ++ [pickI (seedI s (180 + (i : Nat))) (1 + s / 13 % 4)]).map D.int)), some (.loc, .lst (S2 late)), some (.loc, .int th), some (.loc, .lst (S2 us)), c10, c11], rfl, .inl ?_, ⟨rows ++ [Row.mk x (pickI (seedI s (160 + (i : Nat))) 199 - 99) us], ps ++ [pickI (seedI s (180 + (i : Nat))) (1 + s / 13 % 4)], late, _, _, _, _, _, rfl, ⟨R2, R3, R4, R5, h.ln, fun y my => by rw [tk]; exact List.mem_append_left _ (h.lm y my)⟩⟩⟩
        simp [xRowB, defF, defIO, xSeq, xIf, xRet_app, xRetN_app, xVal, xSet_app, xExpr_app, xNext_app, xBreak_app, xRaise_app, xFor_app, xForK_app, xForW, xSh, xTgt_app, xPar, xApp_app, xExt_app, xMutL, appK, extK, andV, orV, notV, andT, orT, notT, tru1, blOf, boolF, chainF, ifV, bind1, bind2, bind2p, callF, consA, nilA, dVar, dC, startD, compF, walkI, isiF, tyD, isiK, lenF, truD1, truD, up, imm, immL, Out.res, noIf, tupF, lstF, inF, ixF, asg, asgL, noPart, partF, flOk, lenSet_app, sortSet_app, xExprE_app, xRetE_app, ltI, leI, gtI, Ow.own, w1, eu, addD, subK, arI, divP, modP, f_seed, fp2, fp3, fp4, ev, c, eqD, intF, mulD, z1, z2, z3, z4, z5, im, iu, tupB, itemsD, rd]) _ ⟨[], [], [], a3, a4, a9, a10, a11, rfl, ⟨rfl, by simp, rfl, by simp, List.nodup_nil, by simp⟩⟩
  rw [len] at k
  exact ⟨ρ2, e, k⟩
end DL
/-! BK2: the whole book. -/
namespace DL
open PySem L2
theorem sortOk_strs {xs : List Str} (h : ∀ x ∈ xs, PyData.strOk x = true) : sortOk (S2 xs) = true := by
  unfold sortOk
  have t : ∀ x : Str, toP (.str x) = .str x := fun x => by rw [toP]
  have a1 : ((S2 xs).all okP) = true := by
    rw [List.all_eq_true]
    intro d m
    obtain ⟨x, mx, rfl⟩ := List.mem_map.mp m
    exact ok_str (h x mx)
  have a2 : ((S2 xs).all fun a => (S2 xs).all fun b => PySem.W.alike (toP a) (toP b)) = true := by
    rw [List.all_eq_true]
    intro d m
    obtain ⟨x, mx, rfl⟩ := List.mem_map.mp m
    rw [List.all_eq_true]
    intro e m2
    obtain ⟨y, my, rfl⟩ := List.mem_map.mp m2
    rw [t, t]
    rfl
  rw [imm_strs, a1, a2]
  simp only [Bool.true_and]
  rw [Bool.or_eq_true]
  right
  rw [List.all_eq_true]
  intro d m
  obtain ⟨x, mx, rfl⟩ := List.mem_map.mp m
  rw [t]
theorem f_law_book (s : Int) {m : Int} (h0 : 0 < m) (h8 : m ≤ 8) : ∃ b, BookOk b ∧ (b.rows.length : Int) ≤ m ∧ F__law_book [.int s, .int m] = .ok (bookD b) := by
  have p0 := pick_lo (seedI s 1) h0
  have p1 := pick_hi (seedI s 1) h0
  have fp := f_pick (seedI s 1) h0
  obtain ⟨n, en⟩ := Int.eq_ofNat_of_zero_le (a := 1 + pickI (seedI s 1) m) (by omega)
  obtain ⟨ρ1, e1, names, c3, c4, rfl, nd, ok, le, gt⟩ := loop_names s m n (by omega) none none none none none none none none none
  have q0 := pick_lo (seedI s 2) (m := 4) (by decide)
  have q1 := pick_hi (seedI s 2) (m := 4) (by decide)
  have fq := f_pick (seedI s 2) (m := 4) (by decide)
  obtain ⟨ρ2, e2, rows, ps, late, d3, d4, d9, d10, d11, rfl, h⟩ := loop_rows s m (1 + pickI (seedI s 2) 4) (by omega) names nd ok (by omega) c3 c4 none none none
  have rl : rows.length = names.length := by have := congrArg List.length h.rn; unfold namesOf at this; rw [List.length_map, List.length_take] at this; omega
  have rn : namesOf rows = names := by rw [h.rn, List.take_length]
  have sl : ∀ x ∈ sortS late, x ∈ names := fun x mx => by
    have := h.lm x ((sortS_perm late).mem_iff.mp mx)
    rwa [List.take_length] at this
  have ro : RowsOk rows := ⟨by have := gt (by omega); omega, by omega, fun r mr => (h.rok r mr).1, by rw [rn]; exact nd, fun r mr => (h.rok r mr).2.1, fun r mr => (h.rok r mr).2.2.1, fun r mr u mu => by rw [rn]; exact (h.rok r mr).2.2.2 u mu⟩
  refine ⟨⟨rows, ps, sortS late⟩, ⟨ro, by rw [h.pl, ← rl], h.pp, fun x mx => by rw [rn]; exact sl x mx, (sortS_perm late).nodup_iff.mpr h.ln, sortS_sortS late⟩, by dsimp only; omega, ?_⟩
  have w1 : rng1I (bind2 (dC (.int 1)) (callF F__law_pick (consA (callF F__law_seed (consA (dVar 0) (consA (dC (.int 1)) nilA))) (consA (dVar 1) nilA))) addD) [some (.sh, .int s), some (.sh, .int m), some (.loc, .lst []), none, none, none, none, none, none, none, none, none] = .ok ([], rngD 0 (n : Int)) := by
    refine rng1_ok (fl := .fr) ?_ (by omega) (by omega)
    simp [defF, defIO, xSeq, xIf, xRet_app, xRetN_app, xVal, xSet_app, xExpr_app, xNext_app, xBreak_app, xRaise_app, xFor_app, xForK_app, xForW, xSh, xTgt_app, xPar, xApp_app, xExt_app, xMutL, appK, extK, andV, orV, notV, andT, orT, notT, tru1, blOf, boolF, chainF, ifV, bind1, bind2, bind2p, callF, consA, nilA, dVar, dC, startD, compF, walkI, isiF, tyD, isiK, lenF, truD1, truD, up, imm, immL, Out.res, noIf, tupF, lstF, inF, ixF, asg, asgL, noPart, partF, flOk, lenSet_app, sortSet_app, xExprE_app, xRetE_app, ltI, leI, gtI, Ow.own, addD, f_seed, fp, en]
  have ls : ∀ x ∈ late, PyData.strOk x = true := fun x mx => by
    have := h.lm x mx
    rw [List.take_length] at this
    exact (ok x this).str
  have so := sortOk_strs ls
  have i1 := imm_strs (sortS late)
  have i2 := imm_ints ps
  have i3 : immL (rows.map rowD) = true := imm_rows rows
  have z3 : 3 ≤ sizeLine := by rw [sizeLine_eq]; omega
  unfold xNames xWord at e1
  unfold xRowB xUses at e2
  simp [F__law_book, x__law_book, defF, defIO, xSeq, xIf, xRet_app, xRetN_app, xVal, xSet_app, xExpr_app, xNext_app, xBreak_app, xRaise_app, xFor_app, xForK_app, xForW, xSh, xTgt_app, xPar, xApp_app, xExt_app, xMutL, appK, extK, andV, orV, notV, andT, orT, notT, tru1, blOf, boolF, chainF, ifV, bind1, bind2, bind2p, callF, consA, nilA, dVar, dC, startD, compF, walkI, isiF, tyD, isiK, lenF, truD1, truD, up, imm, immL, Out.res, noIf, tupF, lstF, inF, ixF, asg, asgL, noPart, partF, flOk, lenSet_app, sortSet_app, xExprE_app, xRetE_app, ltI, leI, gtI, Ow.own, w1, e1, enumI, shE, f_seed, fq, addD, e2, tupB, itemsD, sortF, so, sortD_strs, i1, i2, i3, z3, bookD, rowsD]
theorem f_little (ns : List Int) (i : Nat) : ∃ b, BookOk b ∧ b.rows.length ≤ 6 ∧ F__law_little_book [.fz (ns.map D.int), .int (i : Nat)] = .ok (bookD b) := by
  obtain ⟨c1, e1⟩ := f_cell ns i
  obtain ⟨c2, e2⟩ := f_cell ns (i + 1)
  obtain ⟨b, bo, bl, e⟩ := f_law_book (seedI c1 (c2 % 5)) (m := 6) (by decide) (by decide)
  refine ⟨b, bo, by omega, ?_⟩
  have e2' : F__law_cell [.fz (ns.map D.int), .int ((i : Int) + 1)] = .ok (.int c2) := e2
  have im : immL (ns.map D.int) = true := imm_ints ns
  simp [F__law_little_book, x__law_little_book, defF, defIO, xSeq, xIf, xRet_app, xRetN_app, xVal, xSet_app, xExpr_app, xNext_app, xBreak_app, xRaise_app, xFor_app, xForK_app, xForW, xSh, xTgt_app, xPar, xApp_app, xExt_app, xMutL, appK, extK, andV, orV, notV, andT, orT, notT, tru1, blOf, boolF, chainF, ifV, bind1, bind2, bind2p, callF, consA, nilA, dVar, dC, startD, compF, walkI, isiF, tyD, isiK, lenF, truD1, truD, up, imm, immL, Out.res, noIf, tupF, lstF, inF, ixF, asg, asgL, noPart, partF, flOk, lenSet_app, sortSet_app, xExprE_app, xRetE_app, ltI, leI, gtI, Ow.own, e1, addD, e2', arI, modP, f_seed, e, im]
end DL
/-! OR: uses by name; the orders listed. -/
namespace DL
open PySem L2
theorem f_law_uses {b : Book} (h : BookOk b) : F__law_uses [bookD b] = .ok (usesD b.rows) := by
  have c : ∀ ρ : Env, 1 < ρ.length → compL (.nm 1) noIf (tupF (consA (bind2 (dVar 1) (dC (.int 0)) ixF) (consA (bind2 (dVar 1) (dC (.int 2)) ixF) nilA))) ρ (b.rows.map rowD) = .ok (b.rows.map fun r => .tup [.str r.name, .tup (S2 r.uses)]) := fun ρ hρ => by
    have z2 : 2 ≤ sizeLine := by rw [sizeLine_eq]; decide
    exact compL_all rowD (fun r => .tup [.str r.name, .tup (S2 r.uses)]) b.rows fun r m => ⟨ρ.set 1 (some (.sh, rowD r)), by simp [asg, hρ], by simp [rowD, defF, defIO, xSeq, xIf, xRet_app, xRetN_app, xVal, xSet_app, xExpr_app, xNext_app, xBreak_app, xRaise_app, xFor_app, xForK_app, xForW, xSh, xTgt_app, xPar, xApp_app, xExt_app, xMutL, appK, extK, andV, orV, notV, andT, orT, notT, tru1, blOf, boolF, chainF, ifV, bind1, bind2, bind2p, callF, consA, nilA, dVar, dC, startD, compF, walkI, isiF, tyD, isiK, lenF, truD1, truD, up, imm, immL, Out.res, noIf, tupF, lstF, inF, ixF, asg, asgL, noPart, partF, flOk, lenSet_app, sortSet_app, xExprE_app, xRetE_app, ltI, leI, gtI, Ow.own, hρ, imm_strs, z2, atI, ixN]⟩
  have c' := c (wipeE (fzE [some (.sh, bookD b), none]) [1]) (by simp [wipeE_len, fzE])
  have d := f_dict (fun r : Row => r.name) (fun r => .tup (S2 r.uses)) (fun r => imm_strs r.uses) b.rows h.rows.nd
  have i0 := imm_rows b.rows
  unfold bookD at c' ⊢
  unfold rowsD at c' i0 ⊢
  simp only [imm] at i0
  simp [F__law_uses, x__law_uses, defF, defIO, xSeq, xIf, xRet_app, xRetN_app, xVal, xSet_app, xExpr_app, xNext_app, xBreak_app, xRaise_app, xFor_app, xForK_app, xForW, xSh, xTgt_app, xPar, xApp_app, xExt_app, xMutL, appK, extK, andV, orV, notV, andT, orT, notT, tru1, blOf, boolF, chainF, ifV, bind1, bind2, bind2p, callF, consA, nilA, dVar, dC, startD, compF, walkI, isiF, tyD, isiK, lenF, truD1, truD, up, imm, immL, Out.res, noIf, tupF, lstF, inF, ixF, asg, asgL, noPart, partF, flOk, lenSet_app, sortSet_app, xExprE_app, xRetE_app, ltI, leI, gtI, Ow.own, atI, ixN, c', d, i0, imm_ints, imm_strs, small8 h.rows.few]
  rfl
/-- the uses of a name -/
def usesOf (rs : List Row) (x : Str) : List Str := match rs.find? (fun r => decide (r.name = x)) with
  | some r => r.uses
  | none => []
theorem usesOf_row {rs : List Row} (h : RowsOk rs) {x : Str} (hx : x ∈ namesOf rs) : ∃ r ∈ rs, r.name = x ∧ usesOf rs x = r.uses := by
  obtain ⟨r, mr, e⟩ := List.mem_map.mp hx
  unfold usesOf
  cases f : rs.find? (fun r => decide (r.name = x)) with
  | none => exact absurd (List.find?_eq_none.mp f r mr) (by simp [e])
  | some q => exact ⟨q, List.mem_of_find?_eq_some f, by simpa using List.find?_some f, rfl⟩
theorem usesOf_sub {rs : List Row} (h : RowsOk rs) {x : Str} : ∀ u ∈ usesOf rs x, u ∈ namesOf rs := fun u mu => by
  unfold usesOf at mu
  cases f : rs.find? (fun r => decide (r.name = x)) with
  | none => rw [f] at mu; cases mu
  | some q => rw [f] at mu; exact h.known q (List.mem_of_find?_eq_some f) u mu
theorem usesOf_nodup {rs : List Row} (h : RowsOk rs) (x : Str) : (usesOf rs x).Nodup := by
  unfold usesOf
  cases f : rs.find? (fun r => decide (r.name = x)) with
  | none => exact List.nodup_nil
  | some q => exact h.once q (List.mem_of_find?_eq_some f)
theorem usesOf_few {rs : List Row} (h : RowsOk rs) (x : Str) : (usesOf rs x).length ≤ 4 := by
  unfold usesOf
  cases f : rs.find? (fun r => decide (r.name = x)) with
  | none => exact Nat.zero_le _
  | some q => exact (h.row q (List.mem_of_find?_eq_some f)).few
theorem look_uses (x : Str) : ∀ rs : List Row, x ∈ namesOf rs → lookD ((namesOf rs).map (Sum.inr : Str → Key)) (rs.map fun r => D.tup (S2 r.uses)) (.inr x) = some (.tup (S2 (usesOf rs x)))
  | r :: rs, m => by
    unfold namesOf usesOf
    rw [List.map_cons, List.map_cons, List.map_cons, List.find?_cons]
    unfold lookD
    by_cases e : r.name = x
    · simp [e]
    · have e2 : ¬ (Sum.inr r.name : Key) = .inr x := fun z => e (Sum.inr.inj z)
      have m2 : x ∈ namesOf rs := by
        rcases List.mem_cons.mp m with q | q
        · exact absurd q.symm e
        · exact q
      rw [if_neg e2]
      simp only [e, decide_false]
      exact look_uses x rs m2
theorem get_uses {rs : List Row} {x : Str} (hx : x ∈ namesOf rs) : dGet (usesD rs) (.str x) = some (some (.tup (S2 (usesOf rs x)))) := by
  unfold usesD nameDict dGet keyOf
  simp only [Option.map_some]
  rw [look_uses x rs hx]
theorem ix_uses {rs : List Row} {x : Str} {f1 f2 : Fl} (hx : x ∈ namesOf rs) : ixF (f1, usesD rs) (f2, .str x) = .ok (.fr, .tup (S2 (usesOf rs x))) := by
  have e := get_uses hx
  unfold usesD nameDict at e
  unfold ixF usesD nameDict
  dsimp only
  rw [e]
  dsimp only
  unfold up
  rw [show imm (D.tup (S2 (usesOf rs x))) = true from imm_strs _, if_pos rfl]
/-! ### the orders, listed -/
def freeIn (U : Str → List Str) (left : List Str) (x : Str) : Bool := (U x).all fun u => !decide (u ∈ left)
def lessOne (left : List Str) (x : Str) : List Str := left.filter fun y => !decide (y = x)
def orders (U : Str → List Str) : Nat → List Str → List (List Str)
  | 0, _ => [[]]
  | n + 1, left => if left = [] then [[]] else (left.filter (freeIn U left)).flatMap fun x => (orders U n (lessOne left x)).map (x :: ·)

def ordD2 (os : List (List Str)) : List D := os.map fun o => D.lst (S2 o)
def ordersD (os : List (List Str)) : D := .lst (ordD2 os)
def leftOf (rs : List Row) (done : List Str) : List Str := (sortS (namesOf rs)).filter fun x => !decide (x ∈ done)
theorem filter_sortS (p : Str → Bool) (xs : List Str) : sortS (xs.filter p) = (sortS xs).filter p :=
  (sortS_uniq ((sortS_perm xs).filter p) ((sortS_pw xs).sublist List.filter_sublist)).symm
theorem left_sub {rs : List Row} {done : List Str} : ∀ x ∈ leftOf rs done, x ∈ namesOf rs := fun x m => (sortS_perm _).mem_iff.mp (List.mem_filter.mp m).1
theorem left_mem {rs : List Row} {done : List Str} {x : Str} : x ∈ leftOf rs done ↔ x ∈ namesOf rs ∧ x ∉ done := by
  unfold leftOf
  rw [List.mem_filter, (sortS_perm _).mem_iff]
  simp
theorem left_free {rs : List Row} (h : RowsOk rs) (done : List Str) (x : Str) : freeIn (usesOf rs) (leftOf rs done) x = ((usesOf rs x).filter fun u => !decide (u ∈ done)).isEmpty := by
  unfold freeIn
  rw [Bool.eq_iff_iff, List.all_eq_true, List.isEmpty_iff, List.filter_eq_nil_iff]
  refine ⟨fun k u mu => ?_, fun k u mu => ?_⟩
  · have := k u mu
    have s := usesOf_sub h u mu
    simp only [left_mem, s, true_and] at this
    simpa using this
  · have := k u mu
    simp only [left_mem]
    simp at this ⊢
    exact .inr this
theorem left_less (rs : List Row) (done : List Str) (x : Str) : leftOf rs (done ++ [x]) = lessOne (leftOf rs done) x := by
  unfold leftOf lessOne
  rw [List.filter_filter]
  congr 1
  funext y
  by_cases a : y ∈ done <;> by_cases b : y = x <;> simp [a, b]
theorem len_flat {α β : Type} (g : α → List β) (B : Nat) : ∀ l : List α, (∀ x ∈ l, (g x).length ≤ B) → (l.flatMap g).length ≤ l.length * B
  | [], _ => by simp
  | x :: l, h => by
    have ih := len_flat g B l fun y m => h y (List.mem_cons_of_mem _ m)
    have := h x List.mem_cons_self
    rw [List.flatMap_cons, List.length_append, List.length_cons, Nat.succ_mul]
    omega
def stepO (rs : List Row) (left : List Str) (f : Str → List (List Str)) (l : List Str) : List (List Str) := (l.filter (freeIn (usesOf rs) left)).flatMap fun x => (f x).map (x :: ·)
def xOrdB (G : List D → Res D) : XS := (xIf (blOf (bind2 (compF (walkI (bind2 (dVar 0) (dVar 4) ixF)) (.nm 5) (blOf (bind2 (dVar 5) (dVar 1) (inF true))) (dVar 5) [5]) (lstF nilA) (eqD false)))
    (xCat 3 (compF (walkI (callF G (consA (dVar 0) (consA (bind2 (dVar 1) (lstF (consA (dVar 4) nilA)) addD) nilA)))) (.nm 6) noIf (bind2 (lstF (consA (dVar 4) nilA)) (dVar 6) addD) [6]))
    xNext)
theorem orders_loop {rs : List Row} (h : RowsOk rs) (G : List D → Res D) (done left : List Str) (hd : ∀ x ∈ done, x ∈ namesOf rs) (hl : ∀ x ∈ left, x ∈ namesOf rs) (l8 : left.length ≤ 8) (dl : done.length ≤ 8) (fre : ∀ x, freeIn (usesOf rs) left x = ((usesOf rs x).filter fun u => !decide (u ∈ done)).isEmpty) (f : Str → List (List Str)) (fl : ∀ x ∈ left, (f x).length ≤ 2097152 ∧ ∀ o ∈ f x, o.length ≤ 100)
    (hG : ∀ x ∈ left, freeIn (usesOf rs) left x = true → G [usesD rs, .lst (S2 (done ++ [x]))] = .ok (ordersD (f x))) (a4 a5 a6 : Sl) :
    ∃ ρ2, xLoop (.nm 4) (xOrdB G) (S2 left) [some (.sh, usesD rs), some (.sh, .lst (S2 done)), some (.sh, .lst (S2 left)), some (.loc, .lst []), a4, a5, a6] = .nx ρ2 ∧ ∃ a4 : Sl, ρ2 = [some (.sh, usesD rs), some (.sh, .lst (S2 done)), some (.sh, .lst (S2 left)), some (.loc, ordersD (stepO rs left f left)), a4, a5, a6] := by
  have len : (S2 left).length = left.length := List.length_map ..
  obtain ⟨ρ2, e, k⟩ := xLoop_inv (t := .nm 4) (x := xOrdB G) (S2 left) (fun i ρ => ∃ a4 : Sl, ρ = [some (.sh, usesD rs), some (.sh, .lst (S2 done)), some (.sh, .lst (S2 left)), some (.loc, ordersD (stepO rs left f (left.take i))), a4, a5, a6])
    (fun i d ρ ei kk => by
      obtain ⟨b4, rfl⟩ := kk
      unfold S2 at ei
      rw [List.getElem?_map] at ei
      obtain ⟨x, ex, rfl⟩ := Option.map_eq_some_iff.mp ei
      have mx := List.mem_of_getElem? ex
      have hx := hl x mx
      obtain ⟨hi, _⟩ := List.getElem?_eq_some_iff.mp ex
      have tk : left.take (i + 1) = left.take i ++ [x] := by rw [List.take_succ, ex]; rfl
      have c5 : ∀ ρ : Env, 5 < ρ.length → dVar 1 ρ = .ok (.sf, .lst (S2 done)) → compL (.nm 5) (blOf (bind2 (dVar 5) (dVar 1) (inF true))) (dVar 5) ρ (S2 (usesOf rs x)) = .ok (S2 ((usesOf rs x).filter fun u => !decide (u ∈ done))) := fun ρ hρ e1 => by
        unfold S2
        exact compL_map D.str D.str (fun u => !decide (u ∈ done)) (usesOf rs x) fun u mu => ⟨ρ.set 5 (some (.sh, .str u)), by simp [asg, hρ], by
          have i1 := in_lst (h.str u (usesOf_sub h u mu)) fun y my => h.str y (hd y my)
          have e2 : dVar 1 (ρ.set 5 (some (.sh, .str u))) = .ok (.sf, .lst (S2 done)) := by
            unfold dVar at e1 ⊢
            rw [List.getElem?_set_ne (by decide)]
            exact e1
          have e3 : dVar 5 (ρ.set 5 (some (.sh, .str u))) = .ok (.fr, .str u) := by simp [dVar, hρ, up, imm]
          simp [blOf, bind2, e2, e3, inF, i1], fun _ => by simp [dVar, hρ, up, imm]⟩
      have c5' := c5 (wipeE (fzE [some (.sh, usesD rs), some (.sh, .lst (S2 done)), some (.sh, .lst (S2 left)), some (.loc, ordersD (stepO rs left f (left.take i))), some (.sh, .str x), a5, a6]) [5]) (by simp [wipeE_len, fzE]) (by simp [wipeE, fzE, dVar, up, imm])
      have gu := get_uses hx
      have us : (usesOf rs x).length ≤ sizeLine := small4 (usesOf_few h x)
      have fo := fre x
      have okf : okP (.lst (S2 ((usesOf rs x).filter fun u => !decide (u ∈ done)))) = true := ok_lst fun y my => h.str y (usesOf_sub h y (List.mem_filter.mp my).1)
      have okn : okP (.lst (S2 [])) = true := ok_lst fun y my => by cases my
      have eqn := eqv_lst ((usesOf rs x).filter fun u => !decide (u ∈ done)) []
      simp only [List.map_nil] at okn eqn
      cases c : freeIn (usesOf rs) left x with
      | false =>
        refine ⟨_, [some (.sh, usesD rs), some (.sh, .lst (S2 done)), some (.sh, .lst (S2 left)), some (.loc, ordersD (stepO rs left f (left.take i))), some (.sh, .str x), a5, a6], rfl, .inl ?_, ⟨some (.sh, .str x), ?_⟩⟩
        · rw [c] at fo
          have ne : ¬ (usesOf rs x).filter (fun u => !decide (u ∈ done)) = [] := fun z => by rw [z] at fo; cases fo
          simp only [ne, decide_false] at eqn
          simp [xOrdB, defF, defIO, xSeq, xIf, xRet_app, xRetN_app, xVal, xSet_app, xExpr_app, xNext_app, xBreak_app, xRaise_app, xFor_app, xForK_app, xForW, xSh, xTgt_app, xPar, xApp_app, xExt_app, xMutL, appK, extK, andV, orV, notV, andT, orT, notT, tru1, blOf, boolF, chainF, ifV, bind1, bind2, bind2p, callF, consA, nilA, dVar, dC, startD, compF, walkI, isiF, tyD, isiK, lenF, truD1, truD, up, imm, immL, Out.res, noIf, tupF, lstF, inF, ixF, asg, asgL, noPart, partF, flOk, lenSet_app, sortSet_app, xExprE_app, xRetE_app, ltI, leI, gtI, Ow.own, gu, imm_strs, c5', us, eqD, okf, okn, eqn]
        · have : stepO rs left f (left.take (i + 1)) = stepO rs left f (left.take i) := by
            unfold stepO
            rw [tk, List.filter_append, List.filter_cons_of_neg (by rw [c]; decide)]
            simp
          rw [this]
      | true =>
        have st : stepO rs left f (left.take (i + 1)) = stepO rs left f (left.take i) ++ (f x).map (x :: ·) := by
          unfold stepO
          rw [tk, List.filter_append, List.filter_cons_of_pos c]
          simp
        have g := hG x mx c
        refine ⟨_, [some (.sh, usesD rs), some (.sh, .lst (S2 done)), some (.sh, .lst (S2 left)), some (.loc, ordersD (stepO rs left f (left.take (i + 1)))), some (.sh, .str x), a5, a6], rfl, .inl ?_, ⟨_, rfl⟩⟩
        rw [c] at fo
        have e0 : (usesOf rs x).filter (fun u => !decide (u ∈ done)) = [] := List.isEmpty_iff.mp fo.symm
        have c6 : ∀ ρ : Env, 6 < ρ.length → dVar 4 ρ = .ok (.fr, .str x) → compL (.nm 6) noIf (bind2 (lstF (consA (dVar 4) nilA)) (dVar 6) addD) ρ (ordD2 (f x)) = .ok (ordD2 ((f x).map (x :: ·))) := fun ρ hρ e1 => by
          unfold ordD2
          rw [List.map_map]
          exact compL_all (fun o => .lst (S2 o)) (fun o => .lst (S2 (x :: o))) (f x) fun o mo => ⟨ρ.set 6 (some (.sh, .lst (S2 o))), by simp [asg, hρ], by
            have e2 : dVar 4 (ρ.set 6 (some (.sh, .lst (S2 o)))) = .ok (.fr, .str x) := by
              unfold dVar at e1 ⊢
              rw [List.getElem?_set_ne (by decide)]
              exact e1
            have e3 : dVar 6 (ρ.set 6 (some (.sh, .lst (S2 o)))) = .ok (.sf, .lst (S2 o)) := by simp [dVar, hρ, up, imm]
            have z : o.length + 1 ≤ sizeLine := by have := (fl x mx).2 o mo; rw [sizeLine_eq]; omega
            have z1 : 1 ≤ sizeLine := by rw [sizeLine_eq]; decide
            have z2 : 1 + o.length ≤ sizeLine := by omega
            simp [bind2, lstF, consA, nilA, e2, e3, addD, immL, imm, imm_strs, z1, z2]⟩
        have c6' := c6 (wipeE (fzE [some (.sh, usesD rs), some (.sh, .lst (S2 done)), some (.sh, .lst (S2 left)), some (.loc, ordersD (stepO rs left f (left.take i))), some (.sh, .str x), a5, a6]) [6]) (by simp [wipeE_len, fzE]) (by simp [wipeE, fzE, dVar, up, imm])
        have b1 : (f x).length ≤ sizeLine := by have := (fl x mx).1; rw [sizeLine_eq]; omega
        have b2 : (stepO rs left f (left.take i)).length + (f x).length ≤ sizeLine := by
          have q1 : (stepO rs left f (left.take i)).length ≤ ((left.take i).filter (freeIn (usesOf rs) left)).length * 2097152 := len_flat _ _ _ fun y my => by rw [List.length_map]; exact (fl y (List.mem_of_mem_take (List.mem_filter.mp my).1)).1
          have q2 : ((left.take i).filter (freeIn (usesOf rs) left)).length ≤ (left.take i).length := List.length_filter_le _ _
          rw [List.length_take] at q2
          have q3 := (fl x mx).1
          rw [sizeLine_eq]
          omega
        have b3 : done.length + 1 ≤ sizeLine := by rw [sizeLine_eq]; omega
        have b4 : 1 ≤ sizeLine := by rw [sizeLine_eq]; decide
        have g' : G [usesD rs, .lst (S2 done ++ [.str x])] = .ok (.lst (ordD2 (f x))) := by
          have : S2 done ++ [D.str x] = S2 (done ++ [x]) := by simp [S2]
          rw [this]; exact g
        have lo : (ordD2 (f x)).length = (f x).length := List.length_map ..
        have lo2 : (ordD2 (stepO rs left f (left.take i))).length = (stepO rs left f (left.take i)).length := List.length_map ..
        have lo3 : (ordD2 ((f x).map (x :: ·))).length = (f x).length := by unfold ordD2; simp
        have ap : ordD2 (stepO rs left f (left.take i)) ++ ordD2 ((f x).map (x :: ·)) = ordD2 (stepO rs left f (left.take (i + 1))) := by rw [st]; unfold ordD2; rw [List.map_append]
        rw [e0] at c5' okf eqn
        simp only [decide_true, List.map_nil] at eqn c5' okf
        unfold ordersD at c5' c6' ⊢
        simp [xOrdB, defF, defIO, xSeq, xIf, xRet_app, xRetN_app, xVal, xSet_app, xExpr_app, xNext_app, xBreak_app, xRaise_app, xFor_app, xForK_app, xForW, xSh, xTgt_app, xPar, xApp_app, xExt_app, xMutL, appK, extK, andV, orV, notV, andT, orT, notT, tru1, blOf, boolF, chainF, ifV, bind1, bind2, bind2p, callF, consA, nilA, dVar, dC, startD, compF, walkI, isiF, tyD, isiK, lenF, truD1, truD, up, imm, immL, Out.res, noIf, tupF, lstF, inF, ixF, asg, asgL, noPart, partF, flOk, lenSet_app, sortSet_app, xExprE_app, xRetE_app, ltI, leI, gtI, Ow.own, gu, imm_strs, c5', us, eqD, okn, eqn, xCat, addD, imm_strs, b3, b4, g', lo, b1, c6', lo2, lo3, b2, ap]) [some (.sh, usesD rs), some (.sh, .lst (S2 done)), some (.sh, .lst (S2 left)), some (.loc, .lst []), a4, a5, a6] ⟨a4, by simp [stepO, ordersD, ordD2]⟩
  rw [len, List.take_length] at k
  exact ⟨ρ2, e, k⟩
theorem orders_body {rs : List Row} (h : RowsOk rs) (G : List D → Res D) (done : List Str) (hd : ∀ x ∈ done, x ∈ namesOf rs) (dl : done.length ≤ 8) (f : Str → List (List Str)) (fl : ∀ x ∈ leftOf rs done, (f x).length ≤ 2097152 ∧ ∀ o ∈ f x, o.length ≤ 100)
    (hG : ∀ x ∈ leftOf rs done, freeIn (usesOf rs) (leftOf rs done) x = true → G [usesD rs, .lst (S2 (done ++ [x]))] = .ok (ordersD (f x))) :
    defF 2 7 (x__law_orders G) [usesD rs, .lst (S2 done)] = .ok (ordersD (if leftOf rs done = [] then [[]] else stepO rs (leftOf rs done) f (leftOf rs done))) := by
  have c4 : ∀ ρ : Env, 4 < ρ.length → dVar 1 ρ = .ok (.sf, .lst (S2 done)) → compL (.nm 4) (blOf (bind2 (dVar 4) (dVar 1) (inF true))) (dVar 4) ρ (S2 (namesOf rs)) = .ok (S2 ((namesOf rs).filter fun x => !decide (x ∈ done))) := fun ρ hρ e1 => by
    unfold S2
    exact compL_map D.str D.str (fun x => !decide (x ∈ done)) (namesOf rs) fun u mu => ⟨ρ.set 4 (some (.sh, .str u)), by simp [asg, hρ], by
      have i1 := in_lst (h.str u mu) fun y my => h.str y (hd y my)
      have e2 : dVar 1 (ρ.set 4 (some (.sh, .str u))) = .ok (.sf, .lst (S2 done)) := by
        unfold dVar at e1 ⊢
        rw [List.getElem?_set_ne (by decide)]
        exact e1
      have e3 : dVar 4 (ρ.set 4 (some (.sh, .str u))) = .ok (.fr, .str u) := by simp [dVar, hρ, up, imm]
      simp [blOf, bind2, e2, e3, inF, i1], fun _ => by simp [dVar, hρ, up, imm]⟩
  have c4' := c4 (wipeE (fzE [some (.lk, usesD rs), some (.sh, .lst (S2 done)), none, none, none, none, none]) [4]) (by simp [wipeE_len, fzE]) (by simp [wipeE, fzE, dVar, up, imm])
  have so : sortOk (S2 ((namesOf rs).filter fun x => !decide (x ∈ done))) = true := sortOk_strs fun x mx => h.str x (List.mem_filter.mp mx).1
  have sd : sortD (S2 ((namesOf rs).filter fun x => !decide (x ∈ done))) = S2 (leftOf rs done) := by rw [sortD_strs, filter_sortS]; rfl
  have nl : (namesOf rs).length ≤ 8 := by unfold namesOf; rw [List.length_map]; exact h.few
  have l8 : (leftOf rs done).length ≤ 8 := by
    have q1 : (leftOf rs done).length ≤ (sortS (namesOf rs)).length := List.length_filter_le _ _
    rw [(sortS_perm _).length_eq] at q1
    omega
  obtain ⟨ρ2, e2, b4, rfl⟩ := orders_loop h G done (leftOf rs done) hd left_sub l8 dl (left_free h done) f fl hG none none none
  have z1 : 1 ≤ sizeLine := by rw [sizeLine_eq]; decide
  have z8 : (namesOf rs).length ≤ sizeLine := small8 nl
  have okl : okP (.lst (S2 (leftOf rs done))) = true := ok_lst fun y my => h.str y (left_sub y my)
  have okn : okP (.lst (S2 [])) = true := ok_lst fun y my => by cases my
  have eqn := eqv_lst (leftOf rs done) []
  simp only [List.map_nil] at okn eqn
  have kd : keysDk (usesD rs) = some (S2 (namesOf rs)) := by show some (((namesOf rs).map (Sum.inr : Str → Key)).map kD) = some (S2 (namesOf rs)); rw [List.map_map]; rfl
  have dd : isDictD (usesD rs) = true := rfl
  unfold xOrdB at e2
  unfold ordersD at e2 ⊢
  by_cases c : leftOf rs done = []
  · rw [if_pos c]
    simp only [c, decide_true, List.map_nil] at eqn okl sd
    simp [x__law_orders, defF, defIO, xSeq, xIf, xRet_app, xRetN_app, xVal, xSet_app, xExpr_app, xNext_app, xBreak_app, xRaise_app, xFor_app, xForK_app, xForW, xSh, xTgt_app, xPar, xApp_app, xExt_app, xMutL, appK, extK, andV, orV, notV, andT, orT, notT, tru1, blOf, boolF, chainF, ifV, bind1, bind2, bind2p, callF, consA, nilA, dVar, dC, startD, compF, walkI, isiF, tyD, isiK, lenF, truD1, truD, up, imm, immL, Out.res, noIf, tupF, lstF, inF, ixF, asg, asgL, noPart, partF, flOk, lenSet_app, sortSet_app, xExprE_app, xRetE_app, ltI, leI, gtI, Ow.own, lockF, keysI, unlkE, dd, kd, z8, sortF, so, sd, eqD, okn, okl, eqn, z1, ordD2, c4']
  · rw [if_neg c]
    simp only [c, decide_false] at eqn
    simp [x__law_orders, defF, defIO, xSeq, xIf, xRet_app, xRetN_app, xVal, xSet_app, xExpr_app, xNext_app, xBreak_app, xRaise_app, xFor_app, xForK_app, xForW, xSh, xTgt_app, xPar, xApp_app, xExt_app, xMutL, appK, extK, andV, orV, notV, andT, orT, notT, tru1, blOf, boolF, chainF, ifV, bind1, bind2, bind2p, callF, consA, nilA, dVar, dC, startD, compF, walkI, isiF, tyD, isiK, lenF, truD1, truD, up, imm, immL, Out.res, noIf, tupF, lstF, inF, ixF, asg, asgL, noPart, partF, flOk, lenSet_app, sortSet_app, xExprE_app, xRetE_app, ltI, leI, gtI, Ow.own, lockF, keysI, unlkE, dd, kd, z8, sortF, so, sd, eqD, okn, okl, eqn, c4', shE, e2]
theorem less_lt {left : List Str} {x : Str} (m : x ∈ left) : (lessOne left x).length < left.length := by
  unfold lessOne
  have := List.length_filter_lt_length_iff_exists (l := left) (p := fun y => !decide (y = x))
  rw [this]
  exact ⟨x, m, by simp⟩
theorem less_le (left : List Str) (x : Str) : (lessOne left x).length ≤ left.length := List.length_filter_le _ _
theorem flat_congr {α β : Type} {f g : α → List β} : ∀ {l : List α}, (∀ x ∈ l, f x = g x) → l.flatMap f = l.flatMap g
  | [], _ => rfl
  | x :: l, h => by rw [List.flatMap_cons, List.flatMap_cons, h x List.mem_cons_self, flat_congr fun y m => h y (List.mem_cons_of_mem _ m)]
theorem orders_fuel (U : Str → List Str) : ∀ (n m : Nat) (left : List Str), left.length ≤ n → left.length ≤ m → orders U n left = orders U m left
  | 0, m, left, h, _ => by
    have : left = [] := List.length_eq_zero_iff.mp (by omega)
    subst this
    cases m <;> rfl
  | n + 1, 0, left, _, h => by
    have : left = [] := List.length_eq_zero_iff.mp (by omega)
    subst this
    rfl
  | n + 1, m + 1, left, h, k => by
    unfold orders
    by_cases c : left = []
    · rw [if_pos c, if_pos c]
    · rw [if_neg c, if_neg c]
      refine flat_congr fun x mx => ?_
      have := less_lt (List.mem_filter.mp mx).1
      rw [orders_fuel U n m (lessOne left x) (by omega) (by omega)]
def ords (U : Str → List Str) (left : List Str) : List (List Str) := orders U left.length left
theorem ords_eq (U : Str → List Str) (left : List Str) : ords U left = if left = [] then [[]] else (left.filter (freeIn U left)).flatMap fun x => (ords U (lessOne left x)).map (x :: ·) := by
  by_cases c : left = []
  · subst c; rfl
  · rw [if_neg c]
    have e : ords U left = orders U (left.length + 1) left := orders_fuel U _ _ left (by omega) (by omega)
    rw [e]
    unfold orders
    rw [if_neg c]
    refine flat_congr fun x mx => ?_
    rw [orders_fuel U left.length (lessOne left x).length (lessOne left x) (less_le _ _) (by omega)]
    rfl
theorem orders_small (U : Str → List Str) : ∀ (n : Nat) (left : List Str), left.length ≤ 8 → (orders U n left).length ≤ 8 ^ n ∧ ∀ o ∈ orders U n left, o.length ≤ n
  | 0, left, _ => ⟨by simp [orders], fun o m => by simp [orders] at m; subst m; simp⟩
  | n + 1, left, h => by
    have one : 1 ≤ 8 ^ (n + 1) := Nat.pow_pos (by decide)
    unfold orders
    by_cases c : left = []
    · rw [if_pos c]
      exact ⟨one, fun o m => by rw [List.mem_singleton] at m; subst m; simp⟩
    · rw [if_neg c]
      have ih := fun x => orders_small U n (lessOne left x) (Nat.le_trans (less_le left x) h)
      refine ⟨?_, fun o m => ?_⟩
      · have q1 := len_flat (fun x => (orders U n (lessOne left x)).map (x :: ·)) (8 ^ n) (left.filter (freeIn U left)) fun x _ => by rw [List.length_map]; exact (ih x).1
        have q2 : (left.filter (freeIn U left)).length ≤ 8 := Nat.le_trans (List.length_filter_le _ _) h
        have q3 := Nat.mul_le_mul_right (8 ^ n) q2
        rw [Nat.pow_succ]
        omega
      · obtain ⟨x, _, m2⟩ := List.mem_flatMap.mp m
        obtain ⟨p, mp, rfl⟩ := List.mem_map.mp m2
        have := (ih x).2 p mp
        rw [List.length_cons]
        omega
theorem f_orders {rs : List Row} (h : RowsOk rs) : ∀ (n : Nat) (done : List Str), done.Nodup → (∀ x ∈ done, x ∈ namesOf rs) → (leftOf rs done).length ≤ n → R__law_orders (n + 1) [usesD rs, .lst (S2 done)] = .ok (ordersD (ords (usesOf rs) (leftOf rs done))) := fun n => by
  have nl : (namesOf rs).length ≤ 8 := by unfold namesOf; rw [List.length_map]; exact h.few
  have ll : ∀ done, (leftOf rs done).length ≤ 8 := fun done => by
    have q1 : (leftOf rs done).length ≤ (sortS (namesOf rs)).length := List.length_filter_le _ _
    rw [(sortS_perm _).length_eq] at q1
    omega
  have step : ∀ (G : List D → Res D) (done : List Str), done.Nodup → (∀ x ∈ done, x ∈ namesOf rs) → (∀ x ∈ leftOf rs done, G [usesD rs, .lst (S2 (done ++ [x]))] = .ok (ordersD (ords (usesOf rs) (leftOf rs (done ++ [x]))))) → defF 2 7 (x__law_orders G) [usesD rs, .lst (S2 done)] = .ok (ordersD (ords (usesOf rs) (leftOf rs done))) := fun G done nd hd hG => by
    have dl : done.length ≤ 8 := Nat.le_trans (nodup_le nd hd) nl
    rw [orders_body h G done hd dl (fun x => ords (usesOf rs) (lessOne (leftOf rs done) x)) (fun x mx => by
      have a := less_lt mx
      have b := ll done
      have c := orders_small (usesOf rs) (lessOne (leftOf rs done) x).length (lessOne (leftOf rs done) x) (by omega)
      have p : 8 ^ (lessOne (leftOf rs done) x).length ≤ 8 ^ 7 := Nat.pow_le_pow_right (by decide) (by omega)
      exact ⟨Nat.le_trans c.1 p, fun o mo => Nat.le_trans (c.2 o mo) (by omega)⟩) fun x mx _ => by rw [hG x mx, left_less]]
    rw [ords_eq (usesOf rs) (leftOf rs done)]
    rfl
  induction n with
  | zero => exact fun done nd hd hn => step _ done nd hd fun x mx => by rw [List.length_eq_zero_iff.mp (Nat.le_zero.mp hn)] at mx; cases mx
  | succ n ih =>
    refine fun done nd hd hn => step _ done nd hd fun x mx => ?_
    have nx := (left_mem.mp mx)
    · refine ih (done ++ [x]) ?_ ?_ ?_
      · rw [List.nodup_append]
        exact ⟨nd, by simp, fun a ma b mb e => nx.2 (by rw [List.mem_singleton] at mb; rw [← mb, ← e]; exact ma)⟩
      · intro y my
        rcases List.mem_append.mp my with q | q
        · exact hd y q
        · rw [List.mem_singleton] at q; rw [q]; exact nx.1
      · rw [left_less]
        have := less_lt mx
        omega
theorem left_nil (rs : List Row) : leftOf rs [] = sortS (namesOf rs) := by
  unfold leftOf
  rw [List.filter_eq_self]
  simp
theorem f_law_orders {rs : List Row} (h : RowsOk rs) : F__law_orders [usesD rs, .lst []] = .ok (ordersD (ords (usesOf rs) (sortS (namesOf rs)))) := by
  have e := f_orders h 11 [] List.nodup_nil (by simp) (by
    rw [left_nil, (sortS_perm _).length_eq]
    unfold namesOf
    rw [List.length_map]
    have := h.few
    omega)
  rw [left_nil] at e
  exact e
end DL
/-! WF: ways_from counts the orders. -/
namespace DL
open PySem L2
theorem look_repl {κ : Type} [DecidableEq κ] {k k2 : κ} {v : D} : ∀ {ks : List κ} {ds : List D}, ks.length = ds.length → lookD ks (replL k v ks ds) k2 = if k = k2 ∧ k ∈ ks then some v else lookD ks ds k2
  | [], [], _ => by simp [lookD, replL]
  | [], _ :: _, h => by cases h
  | _ :: _, [], h => by cases h
  | a :: ks, d :: ds, h => by
    have ih := look_repl (k := k) (k2 := k2) (v := v) (ks := ks) (ds := ds) (by simpa using h)
    by_cases e1 : a = k
    · subst e1
      by_cases e2 : a = k2
      · subst e2; simp [replL, lookD]
      · simp [replL, lookD, e2, ih]
    · have e1' : ¬ k = a := fun z => e1 z.symm
      by_cases e2 : a = k2
      · subst e2; simp [replL, lookD, e1, e1']
      · simp [replL, lookD, e1, e1', e2, ih]
theorem look_app {κ : Type} [DecidableEq κ] {k k2 : κ} {v : D} : ∀ {ks : List κ} {ds : List D}, ks.length = ds.length → k ∉ ks → lookD (ks ++ [k]) (ds ++ [v]) k2 = if k = k2 then some v else lookD ks ds k2
  | [], [], _, _ => by simp [lookD]
  | [], _ :: _, h, _ => by cases h
  | _ :: _, [], h, _ => by cases h
  | a :: ks, d :: ds, h, hk => by
    have ih := look_app (k := k) (k2 := k2) (v := v) (ks := ks) (ds := ds) (by simpa using h) (fun m => hk (List.mem_cons_of_mem _ m))
    have ne : ¬ k = a := fun z => hk (by rw [z]; exact List.mem_cons_self)
    by_cases e2 : a = k2
    · subst e2; simp [lookD, ne]
    · simp [lookD, e2, ih]
theorem look_put {κ : Type} [DecidableEq κ] {k k2 : κ} {v : D} {ks : List κ} {ds : List D} (h : ks.length = ds.length) : lookD (putD ks ds k v).1 (putD ks ds k v).2 k2 = if k = k2 then some v else lookD ks ds k2 := by
  unfold putD
  by_cases m : k ∈ ks
  · rw [if_pos m]
    dsimp only
    rw [look_repl h]
    simp [m]
  · rw [if_neg m]
    dsimp only
    rw [look_app h m]
theorem repl_len2 {κ : Type} [DecidableEq κ] {k : κ} {v : D} : ∀ (ks : List κ) (ds : List D), (replL k v ks ds).length = ds.length
  | [], ds => by cases ds <;> rfl
  | a :: ks, [] => rfl
  | a :: ks, d :: ds => by
    unfold replL
    simp [repl_len2 ks ds]
theorem put_same {κ : Type} [DecidableEq κ] {k : κ} {v : D} {ks : List κ} {ds : List D} (h : ks.length = ds.length) : (putD ks ds k v).1.length = (putD ks ds k v).2.length := by
  unfold putD
  by_cases m : k ∈ ks
  · rw [if_pos m]; dsimp only; rw [repl_len2]; exact h
  · rw [if_neg m]; simp [h]
/-! ### the memo -/
abbrev TK := List Key
def cnt (rs : List Row) (left : List Str) : Int := ((ords (usesOf rs) left).length : Nat)
structure MemoK (rs : List Row) (ks : List TK) (ds : List D) : Prop where
  len : ks.length = ds.length
  val : ∀ left d, lookD ks ds (left.map (Sum.inr : Str → Key)) = some d → d = .int (cnt rs left)
theorem inr_inj {a b : List Str} (h : a.map (Sum.inr : Str → Key) = b.map Sum.inr) : a = b := by
  induction a generalizing b with
  | nil => cases b with
    | nil => rfl
    | cons _ _ => cases h
  | cons x a ih => cases b with
    | nil => cases h
    | cons y b =>
      rw [List.map_cons, List.map_cons] at h
      injection h with h1 h2
      rw [Sum.inr.inj h1, ih h2]
theorem MemoK.put {rs : List Row} {ks : List TK} {ds : List D} (g : MemoK rs ks ds) (left : List Str) : MemoK rs (putD ks ds (left.map Sum.inr) (.int (cnt rs left))).1 (putD ks ds (left.map Sum.inr) (.int (cnt rs left))).2 :=
  ⟨put_same g.len, fun l d e => by
    rw [look_put g.len] at e
    by_cases c : left.map (Sum.inr : Str → Key) = l.map Sum.inr
    · rw [if_pos c] at e
      cases e
      rw [inr_inj c]
    · rw [if_neg c] at e
      exact g.val l d e⟩
def cap : Nat → Nat
  | 0 => 0
  | l + 1 => 1 + (l + 1) * cap l
theorem cap_step (l : Nat) : cap l ≤ cap (l + 1) := by
  have : 1 * cap l ≤ (l + 1) * cap l := Nat.mul_le_mul_right _ (by omega)
  show cap l ≤ 1 + (l + 1) * cap l
  omega
theorem cap_mono {l m : Nat} (h : l ≤ m) : cap l ≤ cap m := by
  induction h with
  | refl => exact Nat.le_refl _
  | step _ ih => exact Nat.le_trans ih (cap_step _)
def sumI (rs : List Row) (left l : List Str) : Int := ((l.filter (freeIn (usesOf rs) left)).map fun x => cnt rs (lessOne left x)).sum
theorem len_flat_sum {α β : Type} (g : α → List β) : ∀ l : List α, ((l.flatMap g).length : Int) = (l.map fun x => ((g x).length : Int)).sum
  | [] => rfl
  | x :: l => by
    rw [List.flatMap_cons, List.length_append, List.map_cons, List.sum_cons, ← len_flat_sum g l]
    omega
theorem cnt_eq {rs : List Row} {left : List Str} (h : left ≠ []) : cnt rs left = sumI rs left left := by
  unfold cnt sumI
  rw [ords_eq, if_neg h, len_flat_sum]
  congr 1
  refine List.map_congr_left fun x _ => ?_
  rw [List.length_map]
  rfl
theorem cnt_nil (rs : List Row) : cnt rs [] = 1 := rfl
def xWayB (G : List D → Res D × D) : XS := (xIf (notT (tru1 (compF (walkI (bind2 (dVar 0) (dVar 4) ixF)) (.nm 5) (blOf (bind2 (dVar 5) (dVar 1) (inF false))) (dVar 5) [5])))
    (xAugE 3 (callIo 2 G (varX 0 (consX (callF tupB (consA (compF (walkI (dVar 1)) (.nm 6) (blOf (bind2 (dVar 6) (dVar 4) (eqD true))) (dVar 6) [6]) nilA)) (varX 2 nilX)))) fun m n => m + n)
    xNext)
theorem ways_loop {rs : List Row} (h : RowsOk rs) (G : List D → Res D × D) (left : List Str) (hl : ∀ x ∈ left, x ∈ namesOf rs) (l8 : left.length ≤ 8) (c N : Nat)
    (hG : ∀ x ∈ left, ∀ (ks : List TK) (ds : List D), MemoK rs ks ds → ds.length + c ≤ N → ∃ (ks2 : List TK) (ds2 : List D), G [usesD rs, .tup (S2 (lessOne left x)), .dT ks ds] = (.ok (.int (cnt rs (lessOne left x))), .dT ks2 ds2) ∧ MemoK rs ks2 ds2 ∧ ds2.length ≤ ds.length + c)
    (ks : List TK) (ds : List D) (g : MemoK rs ks ds) (room : ds.length + left.length * c ≤ N) (a4 a5 a6 : Sl) :
    ∃ ρ2, xLoop (.nm 4) (xWayB G) (S2 left) [some (.sh, usesD rs), some (.sh, .tup (S2 left)), some (.io, .dT ks ds), some (.loc, .int 0), a4, a5, a6] = .nx ρ2 ∧ ∃ (ks2 : List TK) (ds2 : List D) (a4 : Sl), ρ2 = [some (.sh, usesD rs), some (.sh, .tup (S2 left)), some (.io, .dT ks2 ds2), some (.loc, .int (sumI rs left left)), a4, a5, a6] ∧ MemoK rs ks2 ds2 ∧ ds2.length ≤ ds.length + left.length * c := by
  have len : (S2 left).length = left.length := List.length_map ..
  obtain ⟨ρ2, e, k⟩ := xLoop_inv (t := .nm 4) (x := xWayB G) (S2 left) (fun i ρ => ∃ (ks2 : List TK) (ds2 : List D) (a4 : Sl), ρ = [some (.sh, usesD rs), some (.sh, .tup (S2 left)), some (.io, .dT ks2 ds2), some (.loc, .int (sumI rs left (left.take i))), a4, a5, a6] ∧ MemoK rs ks2 ds2 ∧ ds2.length ≤ ds.length + i * c)
    (fun i d ρ ei kk => by
      obtain ⟨ks1, ds1, b4, rfl, g1, room1⟩ := kk
      unfold S2 at ei
      rw [List.getElem?_map] at ei
      obtain ⟨x, ex, rfl⟩ := Option.map_eq_some_iff.mp ei
      have mx := List.mem_of_getElem? ex
      have hx := hl x mx
      obtain ⟨hi, _⟩ := List.getElem?_eq_some_iff.mp ex
      have tk : left.take (i + 1) = left.take i ++ [x] := by rw [List.take_succ, ex]; rfl
      have gu := get_uses hx
      have us : (usesOf rs x).length ≤ sizeLine := small4 (usesOf_few h x)
      have c5 : ∀ ρ : Env, 5 < ρ.length → dVar 1 ρ = .ok (.fr, .tup (S2 left)) → compL (.nm 5) (blOf (bind2 (dVar 5) (dVar 1) (inF false))) (dVar 5) ρ (S2 (usesOf rs x)) = .ok (S2 ((usesOf rs x).filter fun u => decide (u ∈ left))) := fun ρ hρ e1 => by
        unfold S2
        exact compL_map D.str D.str (fun u => decide (u ∈ left)) (usesOf rs x) fun u mu => ⟨ρ.set 5 (some (.sh, .str u)), by simp [asg, hρ], by
          have i1 := in_tup (h.str u (usesOf_sub h u mu)) fun y my => h.str y (hl y my)
          have e2 : dVar 1 (ρ.set 5 (some (.sh, .str u))) = .ok (.fr, .tup (S2 left)) := by
            unfold dVar at e1 ⊢
            rw [List.getElem?_set_ne (by decide)]
            exact e1
          have e3 : dVar 5 (ρ.set 5 (some (.sh, .str u))) = .ok (.fr, .str u) := by simp [dVar, hρ, up, imm]
          simp [blOf, bind2, e2, e3, inF, i1], fun _ => by simp [dVar, hρ, up, imm]⟩
      have c6 : ∀ ρ : Env, 6 < ρ.length → dVar 4 ρ = .ok (.fr, .str x) → compL (.nm 6) (blOf (bind2 (dVar 6) (dVar 4) (eqD true))) (dVar 6) ρ (S2 left) = .ok (S2 (lessOne left x)) := fun ρ hρ e1 => by
        unfold S2 lessOne
        exact compL_map D.str D.str (fun u => !decide (u = x)) left fun u mu => ⟨ρ.set 6 (some (.sh, .str u)), by simp [asg, hρ], by
          have e2 : dVar 4 (ρ.set 6 (some (.sh, .str u))) = .ok (.fr, .str x) := by
            unfold dVar at e1 ⊢
            rw [List.getElem?_set_ne (by decide)]
            exact e1
          have e3 : dVar 6 (ρ.set 6 (some (.sh, .str u))) = .ok (.fr, .str u) := by simp [dVar, hρ, up, imm]
          simp [blOf, bind2, e2, e3, eqD, ok_str (h.str u (hl u mu)), ok_str (h.str x hx), eqv_str], fun _ => by simp [dVar, hρ, up, imm]⟩
      have c5' := c5 (wipeE (fzE [some (.sh, usesD rs), some (.sh, .tup (S2 left)), some (.io, .dT ks1 ds1), some (.loc, .int (sumI rs left (left.take i))), some (.sh, .str x), a5, a6]) [5]) (by simp [wipeE_len, fzE]) (by simp [wipeE, fzE, dVar, up, imm, imm_strs])
      have c6' := c6 (wipeE (fzE [some (.sh, usesD rs), some (.sh, .tup (S2 left)), some (.io, .dT ks1 ds1), some (.loc, .int (sumI rs left (left.take i))), some (.sh, .str x), a5, a6]) [6]) (by simp [wipeE_len, fzE]) (by simp [wipeE, fzE, dVar, up, imm])
      have fe : freeIn (usesOf rs) left x = ((usesOf rs x).filter fun u => decide (u ∈ left)).isEmpty := by
        unfold freeIn
        rw [Bool.eq_iff_iff, List.all_eq_true, List.isEmpty_iff, List.filter_eq_nil_iff]
        simp
      have ml := Nat.mul_le_mul_right c (show i + 1 ≤ left.length by omega)
      rw [Nat.succ_mul] at ml
      cases cc : freeIn (usesOf rs) left x with
      | false =>
        rw [cc] at fe
        have ne : ¬ (usesOf rs x).filter (fun u => decide (u ∈ left)) = [] := fun z => by rw [z] at fe; cases fe
        have fs : sumI rs left (left.take (i + 1)) = sumI rs left (left.take i) := by
          unfold sumI
          rw [tk, List.filter_append, List.filter_cons_of_neg (by rw [cc]; decide)]
          simp
        refine ⟨_, [some (.sh, usesD rs), some (.sh, .tup (S2 left)), some (.io, .dT ks1 ds1), some (.loc, .int (sumI rs left (left.take i))), some (.sh, .str x), a5, a6], rfl, .inl ?_, ⟨ks1, ds1, some (.sh, .str x), by rw [fs], g1, by rw [Nat.succ_mul]; omega⟩⟩
        have fe2 := fe.symm
        simp [xWayB, defF, defIO, xSeq, xIf, xRet_app, xRetN_app, xVal, xSet_app, xExpr_app, xNext_app, xBreak_app, xRaise_app, xFor_app, xForK_app, xForW, xSh, xTgt_app, xPar, xApp_app, xExt_app, xMutL, appK, extK, andV, orV, notV, andT, orT, notT, tru1, blOf, boolF, chainF, ifV, bind1, bind2, bind2p, callF, consA, nilA, dVar, dC, startD, compF, walkI, isiF, tyD, isiK, lenF, truD1, truD, up, imm, immL, Out.res, noIf, tupF, lstF, inF, ixF, asg, asgL, noPart, partF, flOk, lenSet_app, sortSet_app, xExprE_app, xRetE_app, ltI, leI, gtI, Ow.own, gu, imm_strs, us, c5', truD, fe2]
      | true =>
        rw [cc] at fe
        have e0 : (usesOf rs x).filter (fun u => decide (u ∈ left)) = [] := List.isEmpty_iff.mp fe.symm
        rw [e0] at c5'
        simp only [List.map_nil] at c5'
        obtain ⟨ks2, ds2, eg, g2, room2⟩ := hG x mx ks1 ds1 g1 (by omega)
        have fs : sumI rs left (left.take (i + 1)) = sumI rs left (left.take i) + cnt rs (lessOne left x) := by
          unfold sumI
          rw [tk, List.filter_append, List.filter_cons_of_pos cc]
          simp
        refine ⟨_, [some (.sh, usesD rs), some (.sh, .tup (S2 left)), some (.io, .dT ks2 ds2), some (.loc, .int (sumI rs left (left.take (i + 1)))), some (.sh, .str x), a5, a6], rfl, .inl ?_, ⟨ks2, ds2, some (.sh, .str x), rfl, g2, by rw [Nat.succ_mul]; omega⟩⟩
        have z8 := small8 l8
        rw [fs]
        simp [xWayB, defF, defIO, xSeq, xIf, xRet_app, xRetN_app, xVal, xSet_app, xExpr_app, xNext_app, xBreak_app, xRaise_app, xFor_app, xForK_app, xForW, xSh, xTgt_app, xPar, xApp_app, xExt_app, xMutL, appK, extK, andV, orV, notV, andT, orT, notT, tru1, blOf, boolF, chainF, ifV, bind1, bind2, bind2p, callF, consA, nilA, dVar, dC, startD, compF, walkI, isiF, tyD, isiK, lenF, truD1, truD, up, imm, immL, Out.res, noIf, tupF, lstF, inF, ixF, asg, asgL, noPart, partF, flOk, lenSet_app, sortSet_app, xExprE_app, xRetE_app, ltI, leI, gtI, Ow.own, gu, imm_strs, us, c5', truD, xAugE, callIo, varX, consX, nilX, z8, c6', tupB, itemsD, oth, okOther, eg, immR]) [some (.sh, usesD rs), some (.sh, .tup (S2 left)), some (.io, .dT ks ds), some (.loc, .int 0), a4, a5, a6] ⟨ks, ds, a4, by simp [sumI], g, by omega⟩
  rw [len, List.take_length] at k
  exact ⟨ρ2, e, k⟩
theorem get_tup (ks : List TK) (ds : List D) (left : List Str) : dGet (.dT ks ds) (.tup (S2 left)) = some (lookD ks ds (left.map Sum.inr)) := by
  unfold dGet
  dsimp only
  rw [keysOf_S2]
  rfl
theorem f_ways {rs : List Row} (h : RowsOk rs) : ∀ (n : Nat) (left : List Str) (ks : List TK) (ds : List D), (∀ x ∈ left, x ∈ namesOf rs) → left.length ≤ 8 → left.length ≤ n → MemoK rs ks ds → ds.length + cap left.length ≤ 16777216 →
    ∃ (ks2 : List TK) (ds2 : List D), R_ways_from (n + 1) [usesD rs, .tup (S2 left), .dT ks ds] = (.ok (.int (cnt rs left)), .dT ks2 ds2) ∧ MemoK rs ks2 ds2 ∧ ds2.length ≤ ds.length + cap left.length := fun n => by
  have step : ∀ (G : List D → Res D × D) (left : List Str) (ks : List TK) (ds : List D), (∀ x ∈ left, x ∈ namesOf rs) → left.length ≤ 8 → MemoK rs ks ds → ds.length + cap left.length ≤ 16777216 →
      (∀ x ∈ left, ∀ (ks : List TK) (ds : List D), MemoK rs ks ds → ds.length + cap (left.length - 1) ≤ 16777216 → ∃ (ks2 : List TK) (ds2 : List D), G [usesD rs, .tup (S2 (lessOne left x)), .dT ks ds] = (.ok (.int (cnt rs (lessOne left x))), .dT ks2 ds2) ∧ MemoK rs ks2 ds2 ∧ ds2.length ≤ ds.length + cap (left.length - 1)) →
      ∃ (ks2 : List TK) (ds2 : List D), defIO 2 3 7 (x_ways_from G) [usesD rs, .tup (S2 left), .dT ks ds] = (.ok (.int (cnt rs left)), .dT ks2 ds2) ∧ MemoK rs ks2 ds2 ∧ ds2.length ≤ ds.length + cap left.length := fun G left ks ds hl l8 g room hG => by
    have il := imm_strs left
    by_cases c : left = []
    · subst c
      refine ⟨ks, ds, ?_, g, by omega⟩
      rw [cnt_nil]
      simp [x_ways_from, defF, defIO, xSeq, xIf, xRet_app, xRetN_app, xVal, xSet_app, xExpr_app, xNext_app, xBreak_app, xRaise_app, xFor_app, xForK_app, xForW, xSh, xTgt_app, xPar, xApp_app, xExt_app, xMutL, appK, extK, andV, orV, notV, andT, orT, notT, tru1, blOf, boolF, chainF, ifV, bind1, bind2, bind2p, callF, consA, nilA, dVar, dC, startD, compF, walkI, isiF, tyD, isiK, lenF, truD1, truD, up, imm, immL, Out.res, noIf, tupF, lstF, inF, ixF, asg, asgL, noPart, partF, flOk, lenSet_app, sortSet_app, xExprE_app, xRetE_app, ltI, leI, gtI, Ow.own, startIO, Out.resIO, truD]
    · have ne : left.isEmpty = false := by cases left with
        | nil => exact absurd rfl c
        | cons _ _ => rfl
      have cp : cap left.length = 1 + left.length * cap (left.length - 1) := by
        cases q : left.length with
        | zero => exact absurd (List.length_eq_zero_iff.mp q) c
        | succ l => rfl
      have gt := get_tup
      cases lk : lookD ks ds (left.map (Sum.inr : Str → Key)) with
      | some d =>
        have dv := g.val left d lk
        subst dv
        refine ⟨ks, ds, ?_, g, by omega⟩
        simp [x_ways_from, defF, defIO, xSeq, xIf, xRet_app, xRetN_app, xVal, xSet_app, xExpr_app, xNext_app, xBreak_app, xRaise_app, xFor_app, xForK_app, xForW, xSh, xTgt_app, xPar, xApp_app, xExt_app, xMutL, appK, extK, andV, orV, notV, andT, orT, notT, tru1, blOf, boolF, chainF, ifV, bind1, bind2, bind2p, callF, consA, nilA, dVar, dC, startD, compF, walkI, isiF, tyD, isiK, lenF, truD1, truD, up, imm, immL, Out.res, noIf, tupF, lstF, inF, ixF, asg, asgL, noPart, partF, flOk, lenSet_app, sortSet_app, xExprE_app, xRetE_app, ltI, leI, gtI, Ow.own, startIO, Out.resIO, truD, il, ne, inD, gt, lk]
      | none =>
        obtain ⟨ρ2, e2, ks2, ds2, b4, rfl, g2, room2⟩ := ways_loop h G left hl l8 (cap (left.length - 1)) 16777216 hG ks ds g (by omega) none none none
        have z8 := small8 l8
        have zz : ds2.length < sizeLine := by rw [sizeLine_eq]; omega
        have ce := cnt_eq (rs := rs) c
        have kk := keysOf_S2 left
        have lp := look_put (k := left.map (Sum.inr : Str → Key)) (k2 := left.map Sum.inr) (v := .int (cnt rs left)) g2.len
        rw [if_pos rfl] at lp
        refine ⟨_, _, ?_, g2.put left, by have := put_len (ks := ks2) (ds := ds2) (k := left.map (Sum.inr : Str → Key)) (d := .int (cnt rs left)); omega⟩
        unfold xWayB at e2
        rw [ce] at lp ⊢
        simp [x_ways_from, defF, defIO, xSeq, xIf, xRet_app, xRetN_app, xVal, xSet_app, xExpr_app, xNext_app, xBreak_app, xRaise_app, xFor_app, xForK_app, xForW, xSh, xTgt_app, xPar, xApp_app, xExt_app, xMutL, appK, extK, andV, orV, notV, andT, orT, notT, tru1, blOf, boolF, chainF, ifV, bind1, bind2, bind2p, callF, consA, nilA, dVar, dC, startD, compF, walkI, isiF, tyD, isiK, lenF, truD1, truD, up, imm, immL, Out.res, noIf, tupF, lstF, inF, ixF, asg, asgL, noPart, partF, flOk, lenSet_app, sortSet_app, xExprE_app, xRetE_app, ltI, leI, gtI, Ow.own, startIO, Out.resIO, truD, il, ne, inD, gt, lk, shE, e2, xPut, putF, kk, zz, lp]
  induction n with
  | zero => exact fun left ks ds hl l8 hn g room => step _ left ks ds hl l8 g room fun x mx => by rw [List.length_eq_zero_iff.mp (Nat.le_zero.mp hn)] at mx; cases mx
  | succ n ih =>
    refine fun left ks ds hl l8 hn g room => step _ left ks ds hl l8 g room fun x mx ks ds g room => ?_
    have lt := less_lt mx
    have cm := cap_mono (show (lessOne left x).length ≤ left.length - 1 by omega)
    obtain ⟨ks2, ds2, e, g2, r2⟩ := ih (lessOne left x) ks ds (fun y my => hl y (List.mem_filter.mp my).1) (by omega) (by omega) g (by omega)
    exact ⟨ks2, ds2, e, g2, by omega⟩
end DL
/-! HM: how_many_orders; least_order. -/
namespace DL
open PySem L2
theorem strsD_inr (xs : List Str) : strsD ((xs.map (Sum.inr : Str → Key)).map kD) = some xs := by
  rw [List.map_map]
  exact strsD_S2 xs
theorem sort_uses (rs : List Row) (few : rs.length ≤ 8) : sortF [usesD rs] = .ok (.lst (S2 (sortS (namesOf rs)))) := by
  have nl : (namesOf rs).length < 64 := by unfold namesOf; rw [List.length_map]; omega
  unfold usesD nameDict sortF
  dsimp only
  rw [strsD_inr]
  dsimp only
  rw [if_pos nl]
  show Res.ok (D.lst (sortD (S2 (namesOf rs)))) = _
  rw [sortD_strs]
theorem memo_nil (rs : List Row) : MemoK rs [] [] := ⟨rfl, fun left d e => by simp [lookD] at e⟩
theorem sort_len {rs : List Row} (few : rs.length ≤ 8) : (sortS (namesOf rs)).length ≤ 8 := by
  rw [(sortS_perm _).length_eq]
  unfold namesOf
  rw [List.length_map]
  exact few
theorem sort_sub {rs : List Row} : ∀ x ∈ sortS (namesOf rs), x ∈ namesOf rs := fun x m => (sortS_perm _).mem_iff.mp m
theorem cap8 {n : Nat} (h : n ≤ 8) : cap n ≤ 16777216 := Nat.le_trans (cap_mono h) (by decide)
theorem f_many {b : Book} (h : BookOk b) : F_how_many_orders [bookD b] = .ok (.int (cnt b.rows (sortS (namesOf b.rows)))) := by
  have l := f_look h
  have u := f_uses_of h
  have s := sort_uses b.rows h.rows.few
  have sl := sort_len h.rows.few
  obtain ⟨ks, ds, e, _, _⟩ := f_ways h.rows 11 (sortS (namesOf b.rows)) [] [] sort_sub sl (by omega) (memo_nil _) (by have := cap8 sl; simpa using this)
  have e2 : F_ways_from [usesD b.rows, .tup (S2 (sortS (namesOf b.rows))), .dT [] []] = (.ok (.int (cnt b.rows (sortS (namesOf b.rows)))), .dT ks ds) := e
  have ib := imm_book b
  have is := imm_strs (sortS (namesOf b.rows))
  simp [F_how_many_orders, x_how_many_orders, defF, defIO, xSeq, xIf, xRet_app, xRetN_app, xVal, xSet_app, xExpr_app, xNext_app, xBreak_app, xRaise_app, xFor_app, xForK_app, xForW, xSh, xTgt_app, xPar, xApp_app, xExt_app, xMutL, appK, extK, andV, orV, notV, andT, orT, notT, tru1, blOf, boolF, chainF, ifV, bind1, bind2, bind2p, callF, consA, nilA, dVar, dC, startD, compF, walkI, isiF, tyD, isiK, lenF, truD1, truD, up, imm, immL, Out.res, noIf, tupF, lstF, inF, ixF, asg, asgL, noPart, partF, flOk, lenSet_app, sortSet_app, xExprE_app, xRetE_app, ltI, leI, gtI, Ow.own, l, u, ib, callIo, varX, consX, nilX, newT, s, tupB, itemsD, is, oth, okOther, e2, immR]
end DL
/-! LO: least_order is the first of the orders. -/
namespace DL
open PySem L2
def greedy (U : Str → List Str) : Nat → List Str → Option (List Str)
  | 0, _ => some []
  | n + 1, left => if left = [] then some [] else match left.filter (freeIn U left) with
    | [] => none
    | x :: _ => (greedy U n (lessOne left x)).map (x :: ·)
theorem less_comm (left : List Str) (x y : Str) : lessOne (lessOne left x) y = lessOne (lessOne left y) x := by
  unfold lessOne
  rw [List.filter_filter, List.filter_filter]
  congr 1
  funext z
  exact Bool.and_comm _ _
theorem free_less {U : Str → List Str} {left : List Str} {x : Str} (y : Str) (h : freeIn U left x = true) : freeIn U (lessOne left y) x = true := by
  unfold freeIn at h ⊢
  rw [List.all_eq_true] at h ⊢
  intro u mu
  have := h u mu
  simp at this ⊢
  exact fun m => this (List.mem_filter.mp m).1
theorem mem_less {left : List Str} {x y : Str} (h : x ∈ left) (ne : x ≠ y) : x ∈ lessOne left y := List.mem_filter.mpr ⟨h, by simp [ne]⟩
theorem ords_some (U : Str → List Str) : ∀ (n : Nat) (left : List Str), left.length ≤ n → ∀ o ∈ ords U left, ∀ x ∈ left, freeIn U left x = true → ords U (lessOne left x) ≠ []
  | 0, left, hn, o, mo, x, mx, fx => by rw [List.length_eq_zero_iff.mp (Nat.le_zero.mp hn)] at mx; cases mx
  | n + 1, left, hn, o, mo, x, mx, fx => by
    have ne : left ≠ [] := fun z => by rw [z] at mx; cases mx
    rw [ords_eq, if_neg ne] at mo
    obtain ⟨y, my, m2⟩ := List.mem_flatMap.mp mo
    obtain ⟨p, mp, rfl⟩ := List.mem_map.mp m2
    obtain ⟨my, fy⟩ := List.mem_filter.mp my
    by_cases e : x = y
    · subst e; exact fun z => by rw [z] at mp; cases mp
    · have lt := less_lt my
      have ih := ords_some U n (lessOne left y) (by omega) p mp x (mem_less mx e) (free_less y fx)
      have e' : ¬ y = x := fun z => e z.symm
      have my2 := mem_less my e'
      have fy2 := free_less x fy
      have ne2 : lessOne left x ≠ [] := fun z => by rw [z] at my2; cases my2
      rw [less_comm] at ih
      rw [ords_eq, if_neg ne2]
      obtain ⟨q, mq⟩ := List.exists_mem_of_ne_nil _ ih
      exact List.ne_nil_of_mem (List.mem_flatMap.mpr ⟨y, List.mem_filter.mpr ⟨my2, fy2⟩, List.mem_map.mpr ⟨q, mq, rfl⟩⟩)
theorem greedy_head (U : Str → List Str) : ∀ (n : Nat) (left : List Str), left.length ≤ n → greedy U n left = (ords U left).head?
  | 0, left, hn => by
    rw [List.length_eq_zero_iff.mp (Nat.le_zero.mp hn)]
    rfl
  | n + 1, left, hn => by
    unfold greedy
    by_cases c : left = []
    · subst c; rfl
    · rw [if_neg c]
      have oe := ords_eq U left
      rw [if_neg c] at oe
      cases f : left.filter (freeIn U left) with
      | nil => rw [oe, f]; rfl
      | cons x fs =>
        dsimp only
        have mx : x ∈ left.filter (freeIn U left) := by rw [f]; exact List.mem_cons_self
        obtain ⟨mx, fx⟩ := List.mem_filter.mp mx
        have lt := less_lt mx
        rw [greedy_head U n (lessOne left x) (by omega)]
        cases q : ords U (lessOne left x) with
        | nil =>
          have : ords U left = [] := by
            cases z : ords U left with
            | nil => rfl
            | cons o os => exact absurd q (ords_some U _ left (Nat.le_refl _) o (by rw [z]; exact List.mem_cons_self) x mx fx)
          rw [this]; rfl
        | cons o os =>
          rw [oe, f, List.flatMap_cons, q]
          rfl
def xLeast : XS := (xSeq (xSet 4 (compF (walkI (dVar 2)) (.nm 5) (notT (tru1 (compF (walkI (bind2 (dVar 1) (dVar 5) ixF)) (.nm 6) (blOf (bind2 (dVar 6) (dVar 2) (inF false))) (dVar 6) [6]))) (dVar 5) [5]))
    (xSeq (xIf (notT (tru1 (dVar 4)))
    (xRet (dC .non))
    xNext)
    (xSeq (xApp 3 (bind2 (dVar 4) (dC (.int 0)) ixF))
    (xSet 2 (compF (walkI (dVar 2)) (.nm 5) (blOf (bind2 (dVar 5) (bind2 (dVar 4) (dC (.int 0)) ixF) (eqD true))) (dVar 5) [5])))))
def leastOut (bk u : D) (found : List Str) (g : Option (List Str)) (r : Out) : Prop := match g with
  | none => ∃ ρ, r = .rt .non ρ
  | some o => ∃ a2 a4 a5 a6 : Sl, r = .nx [some (.sh, bk), some (.loc, u), a2, some (.loc, .lst (S2 (found ++ o))), a4, a5, a6]
theorem least_while {rs : List Row} (h : RowsOk rs) (bk : D) : ∀ (n k : Nat) (left found : List Str) (a4 : Sl), left.length ≤ n → n < k → (∀ x ∈ left, x ∈ namesOf rs) → n ≤ 8 → found.length + n ≤ 100 →
    leastOut bk (usesD rs) found (greedy (usesOf rs) n left) (xWhile (tru1 (dVar 2)) xLeast k [some (.sh, bk), some (.loc, usesD rs), some (.loc, .lst (S2 left)), some (.loc, .lst (S2 found)), a4, none, none])
  | n, 0, _, _, _, _, hk, _, _, _ => by omega
  | 0, k + 1, left, found, a4, hn, hk, hl, _, _ => by
    have : left = [] := List.length_eq_zero_iff.mp (by omega)
    subst this
    unfold xWhile
    simp [defF, defIO, xSeq, xIf, xRet_app, xRetN_app, xVal, xSet_app, xExpr_app, xNext_app, xBreak_app, xRaise_app, xFor_app, xForK_app, xForW, xSh, xTgt_app, xPar, xApp_app, xExt_app, xMutL, appK, extK, andV, orV, notV, andT, orT, notT, tru1, blOf, boolF, chainF, ifV, bind1, bind2, bind2p, callF, consA, nilA, dVar, dC, startD, compF, walkI, isiF, tyD, isiK, lenF, truD1, truD, up, imm, immL, Out.res, noIf, tupF, lstF, inF, ixF, asg, asgL, noPart, partF, flOk, lenSet_app, sortSet_app, xExprE_app, xRetE_app, ltI, leI, gtI, Ow.own, truD, greedy, leastOut]
  | n + 1, k + 1, left, found, a4, hn, hk, hl, n8, room => by
    by_cases c : left = []
    · subst c
      unfold xWhile
      simp [defF, defIO, xSeq, xIf, xRet_app, xRetN_app, xVal, xSet_app, xExpr_app, xNext_app, xBreak_app, xRaise_app, xFor_app, xForK_app, xForW, xSh, xTgt_app, xPar, xApp_app, xExt_app, xMutL, appK, extK, andV, orV, notV, andT, orT, notT, tru1, blOf, boolF, chainF, ifV, bind1, bind2, bind2p, callF, consA, nilA, dVar, dC, startD, compF, walkI, isiF, tyD, isiK, lenF, truD1, truD, up, imm, immL, Out.res, noIf, tupF, lstF, inF, ixF, asg, asgL, noPart, partF, flOk, lenSet_app, sortSet_app, xExprE_app, xRetE_app, ltI, leI, gtI, Ow.own, truD, greedy, leastOut]
    · have ne : left.isEmpty = false := by cases left with
        | nil => exact absurd rfl c
        | cons _ _ => rfl
      have t1 : tru1 (dVar 2) [some (.sh, bk), some (.loc, usesD rs), some (.loc, .lst (S2 left)), some (.loc, .lst (S2 found)), a4, none, none] = .ok true := by
        simp [defF, defIO, xSeq, xIf, xRet_app, xRetN_app, xVal, xSet_app, xExpr_app, xNext_app, xBreak_app, xRaise_app, xFor_app, xForK_app, xForW, xSh, xTgt_app, xPar, xApp_app, xExt_app, xMutL, appK, extK, andV, orV, notV, andT, orT, notT, tru1, blOf, boolF, chainF, ifV, bind1, bind2, bind2p, callF, consA, nilA, dVar, dC, startD, compF, walkI, isiF, tyD, isiK, lenF, truD1, truD, up, imm, immL, Out.res, noIf, tupF, lstF, inF, ixF, asg, asgL, noPart, partF, flOk, lenSet_app, sortSet_app, xExprE_app, xRetE_app, ltI, leI, gtI, Ow.own, truD, ne]
      have fe : ∀ x, freeIn (usesOf rs) left x = ((usesOf rs x).filter fun u => decide (u ∈ left)).isEmpty := fun x => by
        unfold freeIn
        rw [Bool.eq_iff_iff, List.all_eq_true, List.isEmpty_iff, List.filter_eq_nil_iff]
        simp
      have c6 : ∀ x : Str, ∀ ρ : Env, x ∈ left → 6 < ρ.length → dVar 2 ρ = .ok (.sf, .lst (S2 left)) → compL (.nm 6) (blOf (bind2 (dVar 6) (dVar 2) (inF false))) (dVar 6) ρ (S2 (usesOf rs x)) = .ok (S2 ((usesOf rs x).filter fun u => decide (u ∈ left))) := fun x ρ mx hρ e1 => by
        unfold S2
        exact compL_map D.str D.str (fun u => decide (u ∈ left)) (usesOf rs x) fun u mu => ⟨ρ.set 6 (some (.sh, .str u)), by simp [asg, hρ], by
          have i1 := in_lst (h.str u (usesOf_sub h u mu)) fun y my => h.str y (hl y my)
          have e2 : dVar 2 (ρ.set 6 (some (.sh, .str u))) = .ok (.sf, .lst (S2 left)) := by
            unfold dVar at e1 ⊢
            rw [List.getElem?_set_ne (by decide)]
            exact e1
          have e3 : dVar 6 (ρ.set 6 (some (.sh, .str u))) = .ok (.fr, .str u) := by simp [dVar, hρ, up, imm]
          simp [blOf, bind2, e2, e3, inF, i1], fun _ => by simp [dVar, hρ, up, imm]⟩
      have l8 := small8 (show left.length ≤ 8 by omega)
      have c5 : compL (.nm 5) (notT (tru1 (compF (walkI (bind2 (dVar 1) (dVar 5) ixF)) (.nm 6) (blOf (bind2 (dVar 6) (dVar 2) (inF false))) (dVar 6) [6]))) (dVar 5) [some (.sh, bk), some (.sh, usesD rs), some (.sh, .lst (S2 left)), some (.sh, .lst (S2 found)), a4.map fun p => (.sh, p.2), none, none] (S2 left) = .ok (S2 (left.filter (freeIn (usesOf rs) left))) := by
        unfold S2
        exact compL_map D.str D.str (freeIn (usesOf rs) left) left fun x mx => ⟨[some (.sh, bk), some (.sh, usesD rs), some (.sh, .lst (S2 left)), some (.sh, .lst (S2 found)), a4.map fun p => (.sh, p.2), some (.sh, .str x), none], by simp [asg], by
          have gu := get_uses (hl x mx)
          have us : (usesOf rs x).length ≤ sizeLine := small4 (usesOf_few h x)
          have c6' := c6 x (wipeE (fzE [some (.sh, bk), some (.sh, usesD rs), some (.sh, .lst (S2 left)), some (.sh, .lst (S2 found)), a4.map fun p => (.sh, p.2), some (.sh, .str x), none]) [6]) mx (by simp [wipeE_len, fzE]) (by simp [wipeE, fzE, dVar, up, imm])
          rw [fe x]
          simp [defF, defIO, xSeq, xIf, xRet_app, xRetN_app, xVal, xSet_app, xExpr_app, xNext_app, xBreak_app, xRaise_app, xFor_app, xForK_app, xForW, xSh, xTgt_app, xPar, xApp_app, xExt_app, xMutL, appK, extK, andV, orV, notV, andT, orT, notT, tru1, blOf, boolF, chainF, ifV, bind1, bind2, bind2p, callF, consA, nilA, dVar, dC, startD, compF, walkI, isiF, tyD, isiK, lenF, truD1, truD, up, imm, immL, Out.res, noIf, tupF, lstF, inF, ixF, asg, asgL, noPart, partF, flOk, lenSet_app, sortSet_app, xExprE_app, xRetE_app, ltI, leI, gtI, Ow.own, gu, imm_strs, us, c6', truD], fun _ => by simp [defF, defIO, xSeq, xIf, xRet_app, xRetN_app, xVal, xSet_app, xExpr_app, xNext_app, xBreak_app, xRaise_app, xFor_app, xForK_app, xForW, xSh, xTgt_app, xPar, xApp_app, xExt_app, xMutL, appK, extK, andV, orV, notV, andT, orT, notT, tru1, blOf, boolF, chainF, ifV, bind1, bind2, bind2p, callF, consA, nilA, dVar, dC, startD, compF, walkI, isiF, tyD, isiK, lenF, truD1, truD, up, imm, immL, Out.res, noIf, tupF, lstF, inF, ixF, asg, asgL, noPart, partF, flOk, lenSet_app, sortSet_app, xExprE_app, xRetE_app, ltI, leI, gtI, Ow.own]⟩
      cases f : left.filter (freeIn (usesOf rs) left) with
      | nil =>
        rw [f] at c5
        have st : xLeast [some (.sh, bk), some (.loc, usesD rs), some (.loc, .lst (S2 left)), some (.loc, .lst (S2 found)), a4, none, none] = .rt .non [some (.sh, bk), some (.loc, usesD rs), some (.loc, .lst (S2 left)), some (.loc, .lst (S2 found)), some (.loc, .lst []), none, none] := by
          simp [xLeast, defF, defIO, xSeq, xIf, xRet_app, xRetN_app, xVal, xSet_app, xExpr_app, xNext_app, xBreak_app, xRaise_app, xFor_app, xForK_app, xForW, xSh, xTgt_app, xPar, xApp_app, xExt_app, xMutL, appK, extK, andV, orV, notV, andT, orT, notT, tru1, blOf, boolF, chainF, ifV, bind1, bind2, bind2p, callF, consA, nilA, dVar, dC, startD, compF, walkI, isiF, tyD, isiK, lenF, truD1, truD, up, imm, immL, Out.res, noIf, tupF, lstF, inF, ixF, asg, asgL, noPart, partF, flOk, lenSet_app, sortSet_app, xExprE_app, xRetE_app, ltI, leI, gtI, Ow.own, wipeE, fzE, l8, c5, truD]
        unfold xWhile greedy
        rw [t1, if_neg c, f]
        dsimp only
        rw [st]
        exact ⟨_, rfl⟩
      | cons x fs =>
        have mx : x ∈ left.filter (freeIn (usesOf rs) left) := by rw [f]; exact List.mem_cons_self
        obtain ⟨mx, fx⟩ := List.mem_filter.mp mx
        have lt := less_lt mx
        rw [f] at c5
        have c7 : compL (.nm 5) (blOf (bind2 (dVar 5) (bind2 (dVar 4) (dC (.int 0)) ixF) (eqD true))) (dVar 5) [some (.sh, bk), some (.sh, usesD rs), some (.sh, .lst (S2 left)), some (.sh, .lst (S2 (found ++ [x]))), some (.sh, .lst (S2 (x :: fs))), none, none] (S2 left) = .ok (S2 (lessOne left x)) := by
          unfold S2 lessOne
          exact compL_map D.str D.str (fun y => !decide (y = x)) left fun y my => ⟨[some (.sh, bk), some (.sh, usesD rs), some (.sh, .lst (S2 left)), some (.sh, .lst (S2 (found ++ [x]))), some (.sh, .lst (S2 (x :: fs))), some (.sh, .str y), none], by simp [asg], by
            simp [defF, defIO, xSeq, xIf, xRet_app, xRetN_app, xVal, xSet_app, xExpr_app, xNext_app, xBreak_app, xRaise_app, xFor_app, xForK_app, xForW, xSh, xTgt_app, xPar, xApp_app, xExt_app, xMutL, appK, extK, andV, orV, notV, andT, orT, notT, tru1, blOf, boolF, chainF, ifV, bind1, bind2, bind2p, callF, consA, nilA, dVar, dC, startD, compF, walkI, isiF, tyD, isiK, lenF, truD1, truD, up, imm, immL, Out.res, noIf, tupF, lstF, inF, ixF, asg, asgL, noPart, partF, flOk, lenSet_app, sortSet_app, xExprE_app, xRetE_app, ltI, leI, gtI, Ow.own, atI, ixN, eqD, ok_str (h.str y (hl y my)), ok_str (h.str x (hl x mx)), eqv_str], fun _ => by simp [defF, defIO, xSeq, xIf, xRet_app, xRetN_app, xVal, xSet_app, xExpr_app, xNext_app, xBreak_app, xRaise_app, xFor_app, xForK_app, xForW, xSh, xTgt_app, xPar, xApp_app, xExt_app, xMutL, appK, extK, andV, orV, notV, andT, orT, notT, tru1, blOf, boolF, chainF, ifV, bind1, bind2, bind2p, callF, consA, nilA, dVar, dC, startD, compF, walkI, isiF, tyD, isiK, lenF, truD1, truD, up, imm, immL, Out.res, noIf, tupF, lstF, inF, ixF, asg, asgL, noPart, partF, flOk, lenSet_app, sortSet_app, xExprE_app, xRetE_app, ltI, leI, gtI, Ow.own]⟩
        have zf : found.length < sizeLine := by rw [sizeLine_eq]; omega
        have st : xLeast [some (.sh, bk), some (.loc, usesD rs), some (.loc, .lst (S2 left)), some (.loc, .lst (S2 found)), a4, none, none] = .nx [some (.sh, bk), some (.loc, usesD rs), some (.loc, .lst (S2 (lessOne left x))), some (.loc, .lst (S2 (found ++ [x]))), some (.loc, .lst (S2 (x :: fs))), none, none] := by
          unfold S2 at c7 c5 ⊢
          simp only [List.map_append, List.map_cons, List.map_nil] at c7 c5 ⊢
          simp [xLeast, defF, defIO, xSeq, xIf, xRet_app, xRetN_app, xVal, xSet_app, xExpr_app, xNext_app, xBreak_app, xRaise_app, xFor_app, xForK_app, xForW, xSh, xTgt_app, xPar, xApp_app, xExt_app, xMutL, appK, extK, andV, orV, notV, andT, orT, notT, tru1, blOf, boolF, chainF, ifV, bind1, bind2, bind2p, callF, consA, nilA, dVar, dC, startD, compF, walkI, isiF, tyD, isiK, lenF, truD1, truD, up, imm, immL, Out.res, noIf, tupF, lstF, inF, ixF, asg, asgL, noPart, partF, flOk, lenSet_app, sortSet_app, xExprE_app, xRetE_app, ltI, leI, gtI, Ow.own, wipeE, fzE, l8, c5, truD, atI, ixN, zf, c7]
        have ih := least_while h bk n k (lessOne left x) (found ++ [x]) (some (.loc, .lst (S2 (x :: fs)))) (by omega) (by omega) (fun y my => hl y (List.mem_filter.mp my).1) (by omega) (by rw [List.length_append]; simp; omega)
        unfold xWhile greedy
        rw [t1, if_neg c, f]
        dsimp only
        rw [st]
        dsimp only
        cases g : greedy (usesOf rs) n (lessOne left x) with
        | none => rw [g] at ih; exact ih
        | some o =>
          rw [g] at ih
          obtain ⟨b2, b4, b5, b6, e⟩ := ih
          exact ⟨b2, b4, b5, b6, by rw [e]; simp⟩
def optD : Option (List Str) → D
  | none => .non
  | some o => .lst (S2 o)
theorem f_least {b : Book} (h : BookOk b) : F_least_order [bookD b] = .ok (optD (ords (usesOf b.rows) (sortS (namesOf b.rows))).head?) := by
  have l := f_look h
  have u := f_uses_of h
  have s := sort_uses b.rows h.rows.few
  have sl := sort_len h.rows.few
  have ib := imm_book b
  have w := least_while h.rows (bookD b) 8 1000 (sortS (namesOf b.rows)) [] none sl (by decide) sort_sub (by decide) (by simp)
  rw [greedy_head (usesOf b.rows) 8 (sortS (namesOf b.rows)) sl] at w
  simp only [List.map_nil] at w
  unfold xLeast at w
  cases g : (ords (usesOf b.rows) (sortS (namesOf b.rows))).head? with
  | none =>
    rw [g] at w
    obtain ⟨ρ, e⟩ := w
    simp [F_least_order, x_least_order, defF, defIO, xSeq, xIf, xRet_app, xRetN_app, xVal, xSet_app, xExpr_app, xNext_app, xBreak_app, xRaise_app, xFor_app, xForK_app, xForW, xSh, xTgt_app, xPar, xApp_app, xExt_app, xMutL, appK, extK, andV, orV, notV, andT, orT, notT, tru1, blOf, boolF, chainF, ifV, bind1, bind2, bind2p, callF, consA, nilA, dVar, dC, startD, compF, walkI, isiF, tyD, isiK, lenF, truD1, truD, up, imm, immL, Out.res, noIf, tupF, lstF, inF, ixF, asg, asgL, noPart, partF, flOk, lenSet_app, sortSet_app, xExprE_app, xRetE_app, ltI, leI, gtI, Ow.own, l, u, ib, s, e, optD]
  | some o =>
    rw [g] at w
    obtain ⟨b2, b4, b5, b6, e⟩ := w
    simp [F_least_order, x_least_order, defF, defIO, xSeq, xIf, xRet_app, xRetN_app, xVal, xSet_app, xExpr_app, xNext_app, xBreak_app, xRaise_app, xFor_app, xForK_app, xForW, xSh, xTgt_app, xPar, xApp_app, xExt_app, xMutL, appK, extK, andV, orV, notV, andT, orT, notT, tru1, blOf, boolF, chainF, ifV, bind1, bind2, bind2p, callF, consA, nilA, dVar, dC, startD, compF, walkI, isiF, tyD, isiK, lenF, truD1, truD, up, imm, immL, Out.res, noIf, tupF, lstF, inF, ixF, asg, asgL, noPart, partF, flOk, lenSet_app, sortSet_app, xExprE_app, xRetE_app, ltI, leI, gtI, Ow.own, l, u, ib, s, e, optD]
end DL
/-! RK: ranks by how long a chain of uses may be. -/
namespace DL
open PySem L2
/-- no chain of k uses begins at x -/
def H (U : Str → List Str) : Nat → Str → Bool
  | 0, _ => false
  | k + 1, x => (U x).all (H U k)
theorem H_succ {U : Str → List Str} : ∀ (k : Nat) (x : Str), H U k x = true → H U (k + 1) x = true
  | 0, x, h => by cases h
  | k + 1, x, h => by
    unfold H at h ⊢
    rw [List.all_eq_true] at h ⊢
    exact fun u mu => H_succ k u (h u mu)
theorem H_mono {U : Str → List Str} {k m : Nat} (le : k ≤ m) {x : Str} (h : H U k x = true) : H U m x = true := by
  induction le with
  | refl => exact h
  | step _ ih => exact H_succ _ x ih
def isRank (U : Str → List Str) (x : Str) (r : Nat) : Prop := H U (r + 1) x = true ∧ H U r x = false
theorem isRank_uniq {U : Str → List Str} {x : Str} {r s : Nat} (a : isRank U x r) (b : isRank U x s) : r = s := by
  rcases Nat.lt_trichotomy r s with l | l | l
  · have := H_mono (show r + 1 ≤ s by omega) a.1
    rw [b.2] at this; cases this
  · exact l
  · have := H_mono (show s + 1 ≤ r by omega) b.1
    rw [a.2] at this; cases this
/-- the names done at k: the same at k + 1 means the same for ever -/
theorem H_still {U : Str → List Str} {names : List Str} (sub : ∀ x ∈ names, ∀ u ∈ U x, u ∈ names) {k : Nat} (st : ∀ x ∈ names, H U (k + 1) x = H U k x) : ∀ m, ∀ x ∈ names, H U (k + m) x = H U k x
  | 0, x, _ => rfl
  | m + 1, x, mx => by
    have ih := H_still sub st m
    show (U x).all (H U (k + m)) = _
    rw [← st x mx]
    show _ = (U x).all (H U k)
    rw [Bool.eq_iff_iff, List.all_eq_true, List.all_eq_true]
    exact ⟨fun h u mu => by rw [← ih u (sub x mx u mu)]; exact h u mu, fun h u mu => by rw [ih u (sub x mx u mu)]; exact h u mu⟩
def doneAt (U : Str → List Str) (names : List Str) (k : Nat) : Nat := (names.filter (H U k)).length
theorem filter_lt {α : Type} {p q : α → Bool} : ∀ {l : List α}, (∀ x ∈ l, p x = true → q x = true) → (∃ x ∈ l, p x = false ∧ q x = true) → (l.filter p).length < (l.filter q).length
  | [], _, ⟨_, m, _⟩ => by cases m
  | a :: l, h, ⟨x, m, e1, e2⟩ => by
    have le : ∀ l' : List α, (∀ x ∈ l', p x = true → q x = true) → (l'.filter p).length ≤ (l'.filter q).length := fun l' => by
      induction l' with
      | nil => exact fun _ => Nat.le_refl _
      | cons b l' ih =>
        intro h'
        have := ih fun y my => h' y (List.mem_cons_of_mem _ my)
        cases pb : p b with
        | true => rw [List.filter_cons_of_pos pb, List.filter_cons_of_pos (h' b List.mem_cons_self pb)]; simpa using this
        | false =>
          rw [List.filter_cons_of_neg (by rw [pb]; decide)]
          cases qb : q b with
          | true => rw [List.filter_cons_of_pos qb, List.length_cons]; omega
          | false => rw [List.filter_cons_of_neg (by rw [qb]; decide)]; exact this
    have tl := fun y my => h y (List.mem_cons_of_mem a my)
    rcases List.mem_cons.mp m with rfl | m
    · rw [List.filter_cons_of_neg (by rw [e1]; decide), List.filter_cons_of_pos e2, List.length_cons]
      have := le l tl
      omega
    · have ih := filter_lt tl ⟨x, m, e1, e2⟩
      cases pa : p a with
      | true => rw [List.filter_cons_of_pos pa, List.filter_cons_of_pos (h a List.mem_cons_self pa)]; simpa using ih
      | false =>
        rw [List.filter_cons_of_neg (by rw [pa]; decide)]
        cases qa : q a with
        | true => rw [List.filter_cons_of_pos qa, List.length_cons]; omega
        | false => rw [List.filter_cons_of_neg (by rw [qa]; decide)]; exact ih
theorem done_grows (U : Str → List Str) (names : List Str) (sub : ∀ x ∈ names, ∀ u ∈ U x, u ∈ names) : ∀ k : Nat, k ≤ doneAt U names k ∨ ∀ m, ∀ x ∈ names, H U (k + m) x = H U k x
  | 0 => .inl (Nat.zero_le _)
  | k + 1 => by
    rcases done_grows U names sub k with g | s
    · by_cases e : ∃ x ∈ names, H U k x = false ∧ H U (k + 1) x = true
      · have := filter_lt (p := H U k) (q := H U (k + 1)) (fun x _ h => H_succ k x h) e
        left
        unfold doneAt at g ⊢
        omega
      · have st : ∀ x ∈ names, H U (k + 1) x = H U k x := fun x mx => by
          cases a : H U k x with
          | true => exact H_succ k x a
          | false => cases b : H U (k + 1) x with
            | false => rfl
            | true => exact absurd ⟨x, mx, a, b⟩ e
        have all := H_still sub st
        right
        intro m x mx
        have a1 := all (1 + m) x mx
        rw [← Nat.add_assoc] at a1
        rw [a1, st x mx]
    · right
      intro m x mx
      have a1 := s (1 + m) x mx
      rw [← Nat.add_assoc] at a1
      rw [a1, ← s 1 x mx]
/-- after as many steps as there are names all stands -/
theorem H_end (U : Str → List Str) (names : List Str) (sub : ∀ x ∈ names, ∀ u ∈ U x, u ∈ names) {m : Nat} {x : Str} (mx : x ∈ names) (h : H U m x = true) : H U names.length x = true := by
  rcases Nat.le_total m names.length with l | l
  · exact H_mono l h
  · rcases done_grows U names sub names.length with g | s
    · unfold doneAt at g
      have := List.length_filter_le (H U names.length) names
      have e : names.filter (H U names.length) = names := List.filter_sublist.eq_of_length (by omega)
      exact (List.filter_eq_self.mp e) x mx
    · obtain ⟨d, rfl⟩ := Nat.exists_eq_add_of_le l
      rw [← s d x mx]
      exact h
/-! ### what is known so far -/
abbrev Kn := List (Str × Nat)
def knD (kn : Kn) : D := .dK (kn.map fun p => Sum.inr p.1) (kn.map fun p => .int (p.2 : Nat))
def knN (kn : Kn) : List Str := kn.map (·.1)
def valOf (kn : Kn) (x : Str) : Nat := match kn.find? (fun p => decide (p.1 = x)) with
  | some p => p.2
  | none => 0
theorem knD_in (kn : Kn) (x : Str) : inD (.str x) (knD kn) = some (decide (x ∈ knN kn)) := by
  have := in_dict (x := x) (xs := knN kn) (ds := kn.map fun p => .int (p.2 : Nat)) (by unfold knN; rw [List.length_map, List.length_map])
  unfold knD
  unfold knN at this ⊢
  rw [List.map_map] at this
  exact this
theorem knD_get (x : Str) : ∀ kn : Kn, x ∈ knN kn → lookD (kn.map fun p => (Sum.inr p.1 : Key)) (kn.map fun p => .int (p.2 : Nat)) (.inr x) = some (.int (valOf kn x : Nat))
  | p :: kn, m => by
    unfold valOf
    rw [List.map_cons, List.map_cons, List.find?_cons]
    unfold lookD
    by_cases e : p.1 = x
    · simp [e]
    · have e2 : ¬ (Sum.inr p.1 : Key) = .inr x := fun z => e (Sum.inr.inj z)
      have m2 : x ∈ knN kn := by
        rcases List.mem_cons.mp m with q | q
        · exact absurd q.symm e
        · exact q
      rw [if_neg e2]
      simp only [e, decide_false]
      exact knD_get x kn m2
theorem knD_none (x : Str) : ∀ kn : Kn, x ∉ knN kn → lookD (kn.map fun p => (Sum.inr p.1 : Key)) (kn.map fun p => .int (p.2 : Nat)) (.inr x) = none
  | [], _ => rfl
  | p :: kn, m => by
    rw [List.map_cons, List.map_cons]
    unfold lookD
    have e2 : ¬ (Sum.inr p.1 : Key) = .inr x := fun z => m (by rw [← Sum.inr.inj z]; exact List.mem_cons_self)
    rw [if_neg e2]
    exact knD_none x kn fun q => m (List.mem_cons_of_mem _ q)
structure KnOk (U : Str → List Str) (names : List Str) (kn : Kn) : Prop where
  nd : (knN kn).Nodup
  sub : ∀ x ∈ knN kn, x ∈ names
  rank : ∀ x ∈ knN kn, isRank U x (valOf kn x)
theorem valOf_app {kn : Kn} {x : Str} {r : Nat} {y : Str} (hx : x ∉ knN kn) : valOf (kn ++ [(x, r)]) y = if x = y then r else valOf kn y := by
  unfold valOf
  rw [List.find?_append]
  by_cases e : x = y
  · subst e
    have : kn.find? (fun p => decide (p.1 = x)) = none := List.find?_eq_none.mpr fun p mp => by
      simp
      exact fun z => hx (by rw [← z]; exact List.mem_map_of_mem mp)
    rw [this]
    simp
  · cases q : kn.find? (fun p => decide (p.1 = y)) with
    | some p => simp [e]
    | none => simp [e]
theorem KnOk.add {U : Str → List Str} {names : List Str} {kn : Kn} (g : KnOk U names kn) {x : Str} {r : Nat} (mx : x ∈ names) (nx : x ∉ knN kn) (hr : isRank U x r) : KnOk U names (kn ++ [(x, r)]) := by
  have e : knN (kn ++ [(x, r)]) = knN kn ++ [x] := by unfold knN; rw [List.map_append]; rfl
  refine ⟨?_, ?_, ?_⟩
  · rw [e, List.nodup_append]
    exact ⟨g.nd, by simp, fun a ma b mb z => nx (by rw [List.mem_singleton] at mb; rw [← mb, ← z]; exact ma)⟩
  · intro y my
    rw [e] at my
    rcases List.mem_append.mp my with q | q
    · exact g.sub y q
    · rw [List.mem_singleton] at q; rw [q]; exact mx
  · intro y my
    rw [valOf_app nx]
    by_cases z : x = y
    · subst z; rw [if_pos rfl]; exact hr
    · rw [if_neg z]
      rw [e] at my
      rcases List.mem_append.mp my with q | q
      · exact g.rank y q
      · rw [List.mem_singleton] at q; exact absurd q.symm z
/-- the greatest of 0 and the uses' ranks and one -/
def topR (kn : Kn) (us : List Str) : Nat := us.foldr (fun u r => max (valOf kn u + 1) r) 0
theorem topR_ge {kn : Kn} : ∀ {us : List Str}, ∀ u ∈ us, valOf kn u + 1 ≤ topR kn us
  | v :: us, u, m => by
    show _ ≤ max (valOf kn v + 1) (topR kn us)
    rcases List.mem_cons.mp m with rfl | m
    · omega
    · have := topR_ge (kn := kn) u m
      omega
theorem topR_is {kn : Kn} : ∀ us : List Str, topR kn us = 0 ∨ ∃ u ∈ us, topR kn us = valOf kn u + 1
  | [] => .inl rfl
  | v :: us => by
    have e : topR kn (v :: us) = max (valOf kn v + 1) (topR kn us) := rfl
    rcases Nat.le_total (topR kn us) (valOf kn v + 1) with l | l
    · exact .inr ⟨v, List.mem_cons_self, by omega⟩
    · rcases topR_is (kn := kn) us with h | ⟨u, mu, h⟩
      · omega
      · exact .inr ⟨u, List.mem_cons_of_mem _ mu, by omega⟩
theorem topR_rank {U : Str → List Str} {names : List Str} {kn : Kn} (g : KnOk U names kn) {x : Str} (all : ∀ u ∈ U x, u ∈ knN kn) : isRank U x (topR kn (U x)) := by
  refine ⟨?_, ?_⟩
  · show (U x).all (H U (topR kn (U x))) = true
    rw [List.all_eq_true]
    exact fun u mu => H_mono (topR_ge u mu) (g.rank u (all u mu)).1
  · rcases topR_is (kn := kn) (U x) with h | ⟨u, mu, h⟩
    · rw [h]; rfl
    · rw [h]
      cases e : H U (valOf kn u + 1) x with
      | false => rfl
      | true =>
        have q : (U x).all (H U (valOf kn u)) = true := e
        rw [List.all_eq_true] at q
        have := q u mu
        rw [(g.rank u (all u mu)).2] at this
        cases this
theorem topR_max (kn : Kn) : ∀ us : List Str, us ≠ [] → maxI (us.map fun u => ((valOf kn u : Nat) : Int) + 1) = (topR kn us : Nat)
  | [u], _ => by
    show ((valOf kn u : Nat) : Int) + 1 = ((max (valOf kn u + 1) 0 : Nat) : Int)
    omega
  | u :: v :: us, _ => by
    have ih := topR_max kn (v :: us) (by simp)
    have e : topR kn (u :: v :: us) = max (valOf kn u + 1) (topR kn (v :: us)) := rfl
    rw [List.map_cons, List.map_cons]
    unfold maxI
    rw [List.map_cons] at ih
    rw [ih, e]
    split <;> omega
theorem max_top (kn : Kn) (us : List Str) : maxI (0 :: us.map fun u => ((valOf kn u : Nat) : Int) + 1) = (topR kn us : Nat) := by
  cases us with
  | nil => rfl
  | cons u us =>
    have h := topR_max kn (u :: us) (by simp)
    rw [List.map_cons] at h ⊢
    unfold maxI
    rw [h]
    split <;> omega
def xRankB : XS := (xIf (andT (blOf (bind2 (dVar 4) (dVar 2) (inF true))) (notT (tru1 (compF (walkI (bind2 (dVar 1) (dVar 4) ixF)) (.nm 6) (blOf (bind2 (dVar 6) (dVar 2) (inF true))) (dVar 6) [6]))))
    (xPut 2 (dVar 4) (callF maxF (consA (bind2 (lstF (consA (dC (.int 0)) nilA)) (compF (walkI (bind2 (dVar 1) (dVar 4) ixF)) (.nm 6) noIf (bind2 (bind2 (dVar 2) (dVar 6) ixF) (dC (.int 1)) addD) [6]) addD) nilA)))
    xNext)
end DL
/-! RK2: ranks as the program finds them. -/
namespace DL
open PySem L2
/-- one name's step -/
def knStep (U : Str → List Str) (kn : Kn) (x : Str) : Kn := if x ∉ knN kn ∧ ∀ u ∈ U x, u ∈ knN kn then kn ++ [(x, topR kn (U x))] else kn
theorem knStep_ok {U : Str → List Str} {names : List Str} {kn : Kn} (g : KnOk U names kn) {x : Str} (mx : x ∈ names) : KnOk U names (knStep U kn x) := by
  unfold knStep
  by_cases c : x ∉ knN kn ∧ ∀ u ∈ U x, u ∈ knN kn
  · rw [if_pos c]; exact g.add mx c.1 (topR_rank g c.2)
  · rw [if_neg c]; exact g
theorem knStep_keep {U : Str → List Str} {kn : Kn} {x y : Str} (h : y ∈ knN kn) : y ∈ knN (knStep U kn x) := by
  unfold knStep
  split
  · unfold knN at h ⊢; rw [List.map_append]; exact List.mem_append_left _ h
  · exact h
theorem knStep_got {U : Str → List Str} {kn : Kn} {x : Str} (h : ∀ u ∈ U x, u ∈ knN kn) : x ∈ knN (knStep U kn x) := by
  unfold knStep
  by_cases c : x ∈ knN kn
  · rw [if_neg fun z => z.1 c]; exact c
  · rw [if_pos ⟨c, h⟩]; unfold knN; rw [List.map_append]; exact List.mem_append_right _ (by simp)
theorem turn_ok {U : Str → List Str} {names : List Str} : ∀ (todo : List Str) (kn : Kn), (∀ x ∈ todo, x ∈ names) → KnOk U names kn → KnOk U names (todo.foldl (knStep U) kn) ∧ (∀ y ∈ knN kn, y ∈ knN (todo.foldl (knStep U) kn)) ∧ ∀ x ∈ todo, (∀ u ∈ U x, u ∈ knN kn) → x ∈ knN (todo.foldl (knStep U) kn)
  | [], kn, _, g => ⟨g, fun _ h => h, fun _ m => nomatch m⟩
  | x :: todo, kn, sub, g => by
    obtain ⟨g2, k2, h2⟩ := turn_ok todo (knStep U kn x) (fun y m => sub y (List.mem_cons_of_mem _ m)) (knStep_ok g (sub x List.mem_cons_self))
    refine ⟨g2, fun y m => k2 y (knStep_keep m), fun y my hu => ?_⟩
    rcases List.mem_cons.mp my with rfl | my
    · exact k2 _ (knStep_got hu)
    · exact h2 y my fun u mu => knStep_keep (hu u mu)
def turnsK (U : Str → List Str) (names : List Str) : Nat → Kn
  | 0 => []
  | t + 1 => names.foldl (knStep U) (turnsK U names t)
theorem turns_ok {U : Str → List Str} {names : List Str} (sub : ∀ x ∈ names, ∀ u ∈ U x, u ∈ names) : ∀ t, KnOk U names (turnsK U names t) ∧ ∀ x ∈ names, H U t x = true → x ∈ knN (turnsK U names t)
  | 0 => ⟨⟨List.nodup_nil, fun _ m => (nomatch m), fun _ m => (nomatch m)⟩, fun x _ h => by cases h⟩
  | t + 1 => by
    obtain ⟨g, d⟩ := turns_ok sub t
    obtain ⟨g2, _, h2⟩ := turn_ok names (turnsK U names t) (fun _ m => m) g
    refine ⟨g2, fun x mx hx => h2 x mx fun u mu => d u (sub x mx u mu) ?_⟩
    have : (U x).all (H U t) = true := hx
    exact List.all_eq_true.mp this u mu
/-- a name's rank as it is told -/
def rankD (U : Str → List Str) (n : Nat) (x : Str) : D := match (List.range (n + 1)).find? (fun k => H U k x) with
  | some (k + 1) => .int (k : Nat)
  | _ => .non
theorem rank_known {U : Str → List Str} {names : List Str} {n : Nat} {x : Str} {r : Nat} (hr : isRank U x r) (le : r < n) : rankD U n x = .int (r : Nat) := by
  unfold rankD
  have : (List.range (n + 1)).find? (fun k => H U k x) = some (r + 1) := by
    rw [List.find?_range_eq_some]
    refine ⟨hr.1, by rw [List.mem_range]; omega, fun j hj => ?_⟩
    cases e : H U j x with
    | false => rfl
    | true =>
      have := H_mono (show j ≤ r by omega) e
      rw [hr.2] at this; cases this
  rw [this]
theorem rank_unknown {U : Str → List Str} {n : Nat} {x : Str} (h : H U n x = false) : rankD U n x = .non := by
  unfold rankD
  have : (List.range (n + 1)).find? (fun k => H U k x) = none := by
    rw [List.find?_eq_none]
    intro k mk
    rw [List.mem_range] at mk
    cases e : H U k x with
    | false => simp
    | true => have := H_mono (show k ≤ n by omega) e; rw [h] at this; cases this
  rw [this]
theorem knD_len (kn : Kn) : (kn.map fun p => D.int (p.2 : Nat)).length = kn.length := by rw [List.length_map]
theorem rank_step {rs : List Row} (h : RowsOk rs) (bk : D) {kn : Kn} (g : KnOk (usesOf rs) (namesOf rs) kn) {x : Str} (mx : x ∈ namesOf rs) (a3 : Sl) : xRankB [some (.sh, bk), some (.sh, usesD rs), some (.loc, knD kn), a3, some (.sh, .str x), none, none] = .nx [some (.sh, bk), some (.sh, usesD rs), some (.loc, knD (knStep (usesOf rs) kn x)), a3, some (.sh, .str x), none, none] := by
  have gu := get_uses mx
  have us : (usesOf rs x).length ≤ sizeLine := small4 (usesOf_few h x)
  have ki := knD_in kn
  have c6 : compL (.nm 6) (blOf (bind2 (dVar 6) (dVar 2) (inF true))) (dVar 6) (wipeE (fzE [some (.sh, bk), some (.sh, usesD rs), some (.loc, knD kn), a3, some (.sh, .str x), none, none]) [6]) (S2 (usesOf rs x)) = .ok (S2 ((usesOf rs x).filter fun u => !decide (u ∈ knN kn))) := by
    unfold S2
    exact compL_map D.str D.str (fun u => !decide (u ∈ knN kn)) (usesOf rs x) fun u mu => ⟨[some (.sh, bk), some (.sh, usesD rs), some (.sh, knD kn), a3.map fun p => (.sh, p.2), some (.sh, .str x), none, some (.sh, .str u)], by simp [asg, wipeE, fzE], by simp [defF, defIO, xSeq, xIf, xRet_app, xRetN_app, xVal, xSet_app, xExpr_app, xNext_app, xBreak_app, xRaise_app, xFor_app, xForK_app, xForW, xSh, xTgt_app, xPar, xApp_app, xExt_app, xMutL, appK, extK, andV, orV, notV, andT, orT, notT, tru1, blOf, boolF, chainF, ifV, bind1, bind2, bind2p, callF, consA, nilA, dVar, dC, startD, compF, walkI, isiF, tyD, isiK, lenF, truD1, truD, up, imm, immL, Out.res, noIf, tupF, lstF, inF, ixF, asg, asgL, noPart, partF, flOk, lenSet_app, sortSet_app, xExprE_app, xRetE_app, ltI, leI, gtI, Ow.own, ki], fun _ => by simp [defF, defIO, xSeq, xIf, xRet_app, xRetN_app, xVal, xSet_app, xExpr_app, xNext_app, xBreak_app, xRaise_app, xFor_app, xForK_app, xForW, xSh, xTgt_app, xPar, xApp_app, xExt_app, xMutL, appK, extK, andV, orV, notV, andT, orT, notT, tru1, blOf, boolF, chainF, ifV, bind1, bind2, bind2p, callF, consA, nilA, dVar, dC, startD, compF, walkI, isiF, tyD, isiK, lenF, truD1, truD, up, imm, immL, Out.res, noIf, tupF, lstF, inF, ixF, asg, asgL, noPart, partF, flOk, lenSet_app, sortSet_app, xExprE_app, xRetE_app, ltI, leI, gtI, Ow.own]⟩
  unfold knStep
  by_cases c1 : x ∈ knN kn
  · rw [if_neg fun z => z.1 c1]
    simp [xRankB, defF, defIO, xSeq, xIf, xRet_app, xRetN_app, xVal, xSet_app, xExpr_app, xNext_app, xBreak_app, xRaise_app, xFor_app, xForK_app, xForW, xSh, xTgt_app, xPar, xApp_app, xExt_app, xMutL, appK, extK, andV, orV, notV, andT, orT, notT, tru1, blOf, boolF, chainF, ifV, bind1, bind2, bind2p, callF, consA, nilA, dVar, dC, startD, compF, walkI, isiF, tyD, isiK, lenF, truD1, truD, up, imm, immL, Out.res, noIf, tupF, lstF, inF, ixF, asg, asgL, noPart, partF, flOk, lenSet_app, sortSet_app, xExprE_app, xRetE_app, ltI, leI, gtI, Ow.own, ki, c1]
  · by_cases c2 : ∀ u ∈ usesOf rs x, u ∈ knN kn
    · rw [if_pos ⟨c1, c2⟩]
      have f0 : (usesOf rs x).filter (fun u => !decide (u ∈ knN kn)) = [] := List.filter_eq_nil_iff.mpr fun u mu => by simp [c2 u mu]
      rw [f0] at c6
      have c7 : compL (.nm 6) noIf (bind2 (bind2 (dVar 2) (dVar 6) ixF) (dC (.int 1)) addD) (wipeE (fzE [some (.sh, bk), some (.sh, usesD rs), some (.loc, knD kn), a3, some (.sh, .str x), none, none]) [6]) (S2 (usesOf rs x)) = .ok ((usesOf rs x).map fun u => .int (((valOf kn u : Nat) : Int) + 1)) := by
        unfold S2
        exact compL_all D.str _ (usesOf rs x) fun u mu => ⟨[some (.sh, bk), some (.sh, usesD rs), some (.sh, knD kn), a3.map fun p => (.sh, p.2), some (.sh, .str x), none, some (.sh, .str u)], by simp [asg, wipeE, fzE], by
          have q : dGet (knD kn) (.str u) = some (some (.int (valOf kn u : Nat))) := by
            unfold knD dGet keyOf
            simp only [Option.map_some]
            rw [knD_get u kn (c2 u mu)]
          have q2 : ixF (.sf, knD kn) (.fr, .str u) = .ok (.fr, .int (valOf kn u : Nat)) := by
            unfold ixF
            unfold knD at q ⊢
            dsimp only
            rw [q]
            rfl
          have ik : imm (knD kn) = false := rfl
          simp [defF, defIO, xSeq, xIf, xRet_app, xRetN_app, xVal, xSet_app, xExpr_app, xNext_app, xBreak_app, xRaise_app, xFor_app, xForK_app, xForW, xSh, xTgt_app, xPar, xApp_app, xExt_app, xMutL, appK, extK, andV, orV, notV, andT, orT, notT, tru1, blOf, boolF, chainF, ifV, bind1, bind2, bind2p, callF, consA, nilA, dVar, dC, startD, compF, walkI, isiF, tyD, isiK, lenF, truD1, truD, up, imm, immL, Out.res, noIf, tupF, lstF, inF, ixF, asg, asgL, noPart, partF, flOk, lenSet_app, sortSet_app, xExprE_app, xRetE_app, ltI, leI, gtI, Ow.own, q, imm, addD]⟩
      have it : ∀ ns : List Int, intsD (ns.map D.int) = some ns := fun ns => by
        induction ns with
        | nil => rfl
        | cons n ns ih => show (intsD (ns.map D.int)).map (n :: ·) = _; rw [ih]; rfl
      have it1 := it (0 :: (usesOf rs x).map fun u => ((valOf kn u : Nat) : Int) + 1)
      have mt := max_top kn (usesOf rs x)
      have z0 : kn.length < sizeLine := by
        have := nodup_le g.nd g.sub
        have q := h.few
        unfold knN namesOf at this
        rw [List.length_map, List.length_map] at this
        rw [sizeLine_eq]; omega
      have z1 : (usesOf rs x).length + 1 ≤ sizeLine := by have := usesOf_few h x; rw [sizeLine_eq]; omega
      have ii : immL ((usesOf rs x).map fun u => D.int (((valOf kn u : Nat) : Int) + 1)) = true := immL_map _ _ fun _ _ => rfl
      have ad : addD (.fr, .lst [.int 0]) (.fr, .lst ((usesOf rs x).map fun u => D.int (((valOf kn u : Nat) : Int) + 1))) = .ok (.fr, .lst (.int 0 :: (usesOf rs x).map fun u => D.int (((valOf kn u : Nat) : Int) + 1))) := by
        unfold addD
        dsimp only
        rw [ii]
        simp [immL, imm]
        omega
      have mf : maxF [.lst (.int 0 :: (usesOf rs x).map fun u => D.int (((valOf kn u : Nat) : Int) + 1))] = .ok (.int (topR kn (usesOf rs x) : Nat)) := by
        unfold maxF overI
        dsimp only
        rw [List.map_cons, List.map_map] at it1
        have e : (D.int ∘ fun u => ((valOf kn u : Nat) : Int) + 1) = fun u => D.int (((valOf kn u : Nat) : Int) + 1) := rfl
        rw [e] at it1
        rw [it1]
        dsimp only
        rw [if_neg (by simp), mt]
      have pt : putF (knD kn) (.str x) (.fr, .int (topR kn (usesOf rs x) : Nat)) = some (knD (kn ++ [(x, topR kn (usesOf rs x))])) := by
        have nk : (Sum.inr x : Key) ∉ kn.map fun p => (Sum.inr p.1 : Key) := fun m => by
          obtain ⟨p, mp, e⟩ := List.mem_map.mp m
          cases e
          exact c1 (List.mem_map_of_mem mp)
        unfold putF knD keyOf
        dsimp only
        rw [List.length_map]
        rw [if_pos ⟨.inr rfl, z0⟩]
        unfold putD
        rw [if_neg nk]
        simp
      have ik : imm (knD kn) = false := rfl
      have gu2 : ixF (.sf, usesD rs) (.fr, .str x) = .ok (.fr, .tup (S2 (usesOf rs x))) := ix_uses mx
      have z9 : 1 ≤ sizeLine := by rw [sizeLine_eq]; omega
      simp [xRankB, defF, defIO, xSeq, xIf, xRet_app, xRetN_app, xVal, xSet_app, xExpr_app, xNext_app, xBreak_app, xRaise_app, xFor_app, xForK_app, xForW, xSh, xTgt_app, xPar, xApp_app, xExt_app, xMutL, appK, extK, andV, orV, notV, andT, orT, notT, tru1, blOf, boolF, chainF, ifV, bind1, bind2, bind2p, callF, consA, nilA, dVar, dC, startD, compF, walkI, isiF, tyD, isiK, lenF, truD1, truD, up, imm, immL, Out.res, noIf, tupF, lstF, inF, ixF, asg, asgL, noPart, partF, flOk, lenSet_app, sortSet_app, xExprE_app, xRetE_app, ltI, leI, gtI, Ow.own, ki, c1, gu, imm_strs, us, c6, c7, xPut, z9, ad, mf, pt]
    · rw [if_neg fun z => c2 z.2]
      have ne : (S2 ((usesOf rs x).filter fun u => !decide (u ∈ knN kn))).isEmpty = false := by
        cases q : (usesOf rs x).filter fun u => !decide (u ∈ knN kn) with
        | nil =>
          rw [List.filter_eq_nil_iff] at q
          exact absurd (fun u mu => by have := q u mu; simpa using this) c2
        | cons _ _ => rfl
      have gu2 : ixF (.sf, usesD rs) (.fr, .str x) = .ok (.fr, .tup (S2 (usesOf rs x))) := ix_uses mx
      simp [xRankB, defF, defIO, xSeq, xIf, xRet_app, xRetN_app, xVal, xSet_app, xExpr_app, xNext_app, xBreak_app, xRaise_app, xFor_app, xForK_app, xForW, xSh, xTgt_app, xPar, xApp_app, xExt_app, xMutL, appK, extK, andV, orV, notV, andT, orT, notT, tru1, blOf, boolF, chainF, ifV, bind1, bind2, bind2p, callF, consA, nilA, dVar, dC, startD, compF, walkI, isiF, tyD, isiK, lenF, truD1, truD, up, imm, immL, Out.res, noIf, tupF, lstF, inF, ixF, asg, asgL, noPart, partF, flOk, lenSet_app, sortSet_app, xExprE_app, xRetE_app, ltI, leI, gtI, Ow.own, ki, c1, gu, imm_strs, us, c6, ne]
end DL
/-! RK3: the program's ranks and the law's. -/
namespace DL
open PySem L2
def nextS (U : Str → List Str) (xs : List Str) : List Str := xs.foldl (fun acc x => acc ++ (U x).filter fun u => !decide (u ∈ acc)) []
theorem next_fold {U : Str → List Str} (nd : ∀ x, (U x).Nodup) : ∀ (xs acc : List Str), acc.Nodup → (xs.foldl (fun acc x => acc ++ (U x).filter fun u => !decide (u ∈ acc)) acc).Nodup ∧ ∀ u, u ∈ xs.foldl (fun acc x => acc ++ (U x).filter fun u => !decide (u ∈ acc)) acc ↔ u ∈ acc ∨ ∃ x ∈ xs, u ∈ U x
  | [], acc, na => ⟨na, fun u => by simp⟩
  | x :: xs, acc, na => by
    have n2 : (acc ++ (U x).filter fun u => !decide (u ∈ acc)).Nodup := by
      rw [List.nodup_append]
      refine ⟨na, (nd x).filter _, fun a ma b mb e => ?_⟩
      subst e
      simpa [ma] using (List.mem_filter.mp mb).2
    obtain ⟨h1, h2⟩ := next_fold nd xs _ n2
    rw [List.foldl_cons]
    refine ⟨h1, fun u => ?_⟩
    rw [h2 u, List.mem_append, List.mem_filter]
    by_cases m : u ∈ acc
    · simp [m]
    · simp [m]
theorem next_mem {U : Str → List Str} (nd : ∀ x, (U x).Nodup) {xs : List Str} {u : Str} : u ∈ nextS U xs ↔ ∃ x ∈ xs, u ∈ U x := by
  have := (next_fold nd xs [] List.nodup_nil).2 u
  unfold nextS
  simpa using this
theorem next_nd {U : Str → List Str} (nd : ∀ x, (U x).Nodup) (xs : List Str) : (nextS U xs).Nodup := (next_fold nd xs [] List.nodup_nil).1
def iterS (U : Str → List Str) : Nat → List Str → List Str
  | 0, xs => xs
  | k + 1, xs => nextS U (iterS U k xs)
theorem iter_in (U : Str → List Str) : ∀ (k : Nat) (xs : List Str), iterS U (k + 1) xs = iterS U k (nextS U xs)
  | 0, _ => rfl
  | k + 1, xs => by show nextS U (iterS U (k + 1) xs) = _; rw [iter_in U k xs]; rfl
theorem iter_nil {U : Str → List Str} (nd : ∀ x, (U x).Nodup) : ∀ (k : Nat) (xs : List Str), iterS U k xs = [] ↔ ∀ x ∈ xs, H U k x = true
  | 0, xs => by
    show xs = [] ↔ _
    constructor
    · rintro rfl x m; cases m
    · intro h; cases xs with
      | nil => rfl
      | cons x xs => have := h x List.mem_cons_self; cases this
  | k + 1, xs => by
    rw [iter_in, iter_nil nd k]
    constructor
    · intro h x mx
      show (U x).all (H U k) = true
      rw [List.all_eq_true]
      exact fun u mu => h u ((next_mem nd).mpr ⟨x, mx, mu⟩)
    · intro h u mu
      obtain ⟨x, mx, mu⟩ := (next_mem nd).mp mu
      have q : (U x).all (H U k) = true := h x mx
      exact List.all_eq_true.mp q u mu
theorem iter_sub {U : Str → List Str} (nd : ∀ x, (U x).Nodup) {names : List Str} (sub : ∀ x ∈ names, ∀ u ∈ U x, u ∈ names) {x : Str} (mx : x ∈ names) : ∀ k, (∀ y ∈ iterS U k [x], y ∈ names) ∧ (iterS U k [x]).Nodup
  | 0 => ⟨fun y m => by rw [List.mem_singleton.mp m]; exact mx, by show [x].Nodup; simp⟩
  | k + 1 => ⟨fun y m => by
    obtain ⟨z, mz, mu⟩ := (next_mem nd).mp m
    exact sub z ((iter_sub nd sub mx k).1 z mz) y mu, next_nd nd _⟩
theorem f_law_next {rs : List Row} (h : RowsOk rs) {xs : List Str} (hx : ∀ x ∈ xs, x ∈ namesOf rs) : F__law_next [usesD rs, .lst (S2 xs)] = .ok (.lst (S2 (nextS (usesOf rs) xs))) := by
  have nd := usesOf_nodup h
  have body : ∀ (acc : List Str) (x : Str) (a3 : Sl), x ∈ xs → acc.Nodup ∧ (∀ y ∈ acc, y ∈ namesOf rs) → (xSet 2 (bind2 (dVar 2) (compF (walkI (bind2 (dVar 0) (dVar 3) ixF)) (.nm 4) (blOf (bind2 (dVar 4) (dVar 2) (inF true))) (dVar 4) [4]) addD)) [some (.sh, usesD rs), some (.sh, .lst (S2 xs)), some (.loc, .lst (S2 acc)), some (.sh, .str x), none] = .nx [some (.sh, usesD rs), some (.sh, .lst (S2 xs)), some (.loc, .lst (S2 (acc ++ (usesOf rs x).filter fun u => !decide (u ∈ acc)))), some (.sh, .str x), none] := fun acc x a3 mx ⟨na, sa⟩ => by
    have gu2 : ixF (.sf, usesD rs) (.fr, .str x) = .ok (.fr, .tup (S2 (usesOf rs x))) := ix_uses (hx x mx)
    have gu := get_uses (hx x mx)
    have us : (usesOf rs x).length ≤ sizeLine := small4 (usesOf_few h x)
    have iu : imm (usesD rs) = false := rfl
    have c4 : compL (.nm 4) (blOf (bind2 (dVar 4) (dVar 2) (inF true))) (dVar 4) (wipeE (fzE [some (.sh, usesD rs), some (.sh, .lst (S2 xs)), some (.loc, .lst (S2 acc)), some (.sh, .str x), none]) [4]) (S2 (usesOf rs x)) = .ok (S2 ((usesOf rs x).filter fun u => !decide (u ∈ acc))) := by
      unfold S2
      exact compL_map D.str D.str (fun u => !decide (u ∈ acc)) (usesOf rs x) fun u mu => ⟨[some (.sh, usesD rs), some (.sh, .lst (S2 xs)), some (.sh, .lst (S2 acc)), some (.sh, .str x), some (.sh, .str u)], by simp [asg, wipeE, fzE], by
        have i1 := in_lst (h.str u (usesOf_sub h u mu)) fun y my => h.str y (sa y my)
        simp [defF, defIO, xSeq, xIf, xRet_app, xRetN_app, xVal, xSet_app, xExpr_app, xNext_app, xBreak_app, xRaise_app, xFor_app, xForK_app, xForW, xSh, xTgt_app, xPar, xApp_app, xExt_app, xMutL, appK, extK, andV, orV, notV, andT, orT, notT, tru1, blOf, boolF, chainF, ifV, bind1, bind2, bind2p, callF, consA, nilA, dVar, dC, startD, compF, walkI, isiF, tyD, isiK, lenF, truD1, truD, up, imm, immL, Out.res, noIf, tupF, lstF, inF, ixF, asg, asgL, noPart, partF, flOk, lenSet_app, sortSet_app, xExprE_app, xRetE_app, ltI, leI, gtI, Ow.own, i1], fun _ => by simp [defF, defIO, xSeq, xIf, xRet_app, xRetN_app, xVal, xSet_app, xExpr_app, xNext_app, xBreak_app, xRaise_app, xFor_app, xForK_app, xForW, xSh, xTgt_app, xPar, xApp_app, xExt_app, xMutL, appK, extK, andV, orV, notV, andT, orT, notT, tru1, blOf, boolF, chainF, ifV, bind1, bind2, bind2p, callF, consA, nilA, dVar, dC, startD, compF, walkI, isiF, tyD, isiK, lenF, truD1, truD, up, imm, immL, Out.res, noIf, tupF, lstF, inF, ixF, asg, asgL, noPart, partF, flOk, lenSet_app, sortSet_app, xExprE_app, xRetE_app, ltI, leI, gtI, Ow.own]⟩
    have z : acc.length + ((usesOf rs x).filter fun u => !decide (u ∈ acc)).length ≤ sizeLine := by
      have l1 := nodup_le na sa
      have l2 : ((usesOf rs x).filter fun u => !decide (u ∈ acc)).length ≤ (usesOf rs x).length := List.length_filter_le _ _
      have l3 := usesOf_few h x
      have l4 := h.few
      unfold namesOf at l1
      rw [List.length_map] at l1
      rw [sizeLine_eq]; omega
    have i1 := imm_strs acc
    have i2 := imm_strs ((usesOf rs x).filter fun u => !decide (u ∈ acc))
    have ad : addD (.mv, .lst (S2 acc)) (.fr, .lst (S2 ((usesOf rs x).filter fun u => !decide (u ∈ acc)))) = .ok (.fr, .lst (S2 (acc ++ (usesOf rs x).filter fun u => !decide (u ∈ acc)))) := by
      unfold addD
      dsimp only
      rw [i1, i2]
      unfold S2
      rw [if_pos ⟨rfl, by rw [List.length_map, List.length_map]; exact z⟩, List.map_append]
    simp [defF, defIO, xSeq, xIf, xRet_app, xRetN_app, xVal, xSet_app, xExpr_app, xNext_app, xBreak_app, xRaise_app, xFor_app, xForK_app, xForW, xSh, xTgt_app, xPar, xApp_app, xExt_app, xMutL, appK, extK, andV, orV, notV, andT, orT, notT, tru1, blOf, boolF, chainF, ifV, bind1, bind2, bind2p, callF, consA, nilA, dVar, dC, startD, compF, walkI, isiF, tyD, isiK, lenF, truD1, truD, up, imm, immL, Out.res, noIf, tupF, lstF, inF, ixF, asg, asgL, noPart, partF, flOk, lenSet_app, sortSet_app, xExprE_app, xRetE_app, ltI, leI, gtI, Ow.own, gu, imm_strs, us, c4, ad]
  obtain ⟨ρ2, e, ⟨na, sa⟩, c, e2⟩ := xLoop_fold (t := .nm 3) D.str (fun acc x => acc ++ (usesOf rs x).filter fun u => !decide (u ∈ acc)) (fun acc ρ => (acc.Nodup ∧ ∀ y ∈ acc, y ∈ namesOf rs) ∧ ∃ c, ρ = [some (.sh, usesD rs), some (.sh, .lst (S2 xs)), some (.loc, .lst (S2 acc)), c, none]) xs (fun acc x ρ mx ⟨g, c, e⟩ => by
      subst e
      refine ⟨_, _, rfl, .inl (body acc x c mx g), ⟨?_, ?_⟩, _, rfl⟩
      · have := (next_fold nd [x] acc g.1).1
        simpa using this
      · intro y my
        rcases List.mem_append.mp my with m | m
        · exact g.2 y m
        · exact usesOf_sub h y (List.mem_filter.mp m).1) [] [some (.sh, usesD rs), some (.sh, .lst (S2 xs)), some (.loc, .lst []), none, none] ⟨⟨List.nodup_nil, fun _ m => nomatch m⟩, none, rfl⟩
  subst e2
  have e' : xLoop (.nm 3) (xSet 2 (bind2 (dVar 2) (compF (walkI (bind2 (dVar 0) (dVar 3) ixF)) (.nm 4) (blOf (bind2 (dVar 4) (dVar 2) (inF true))) (dVar 4) [4]) addD)) (S2 xs) [some (.sh, usesD rs), some (.sh, .lst (S2 xs)), some (.loc, .lst []), none, none] = .nx [some (.sh, usesD rs), some (.sh, .lst (S2 xs)), some (.loc, .lst (S2 (nextS (usesOf rs) xs))), c, none] := e
  have i1 := imm_strs (nextS (usesOf rs) xs)
  have ix := imm_strs xs
  simp [F__law_next, x__law_next, defF, startD, xSeq, xSh, xFor_app, xForW, shE, walkI, dVar, up, imm, flOk, lstF, nilA, xSet_app, immL, i1, ix, xRet_app, Out.res] at e' ⊢
  simp [e', imm]
end DL
/-! RK4: ranks as the law finds them; the whole. -/
namespace DL
open PySem L2
def xRankW : XS := (xSeq (xSet 4 (callF F__law_next (consA (dVar 1) (consA (dVar 4) nilA))))
    (xAug 5 (dC (.int 1)) fun m n => m + n))
def longOf (n : Nat) (ρ : Env) : Nat := match ρ[5]? with
  | some (some (_, D.int k)) => n + 2 - k.toNat
  | _ => 0
theorem rank_while {b : Book} (h : BookOk b) {x : Str} (mx : x ∈ namesOf b.rows) (found : List D) :
    ∃ k, xWhile (andT (blOf (bind2 (dVar 4) (lstF nilA) (eqD true))) (blOf (bind2 (dVar 5) (callF lenF (consA (dVar 1) nilA)) (ordD leI)))) xRankW 1000 [some (.sh, bookD b), some (.loc, usesD b.rows), some (.loc, .lst found), some (.sh, .str x), some (.loc, .lst (S2 [x])), some (.loc, .int 0), none] = .nx [some (.sh, bookD b), some (.loc, usesD b.rows), some (.loc, .lst found), some (.sh, .str x), some (.loc, .lst (S2 (iterS (usesOf b.rows) k [x]))), some (.loc, .int (k : Nat)), none]
      ∧ k ≤ b.rows.length + 1 ∧ (∀ j, j < k → iterS (usesOf b.rows) j [x] ≠ []) ∧ (iterS (usesOf b.rows) k [x] = [] ∨ k = b.rows.length + 1) := by
  have nd := usesOf_nodup h.rows
  have sub := iter_sub nd (fun y my => usesOf_sub h.rows (x := y)) mx
  have few := h.rows.few
  obtain ⟨ρ2, e, k, hk, rfl, hj, hd⟩ := xWhile_inv (c := andT (blOf (bind2 (dVar 4) (lstF nilA) (eqD true))) (blOf (bind2 (dVar 5) (callF lenF (consA (dVar 1) nilA)) (ordD leI)))) (x := xRankW)
    (fun ρ => ∃ k, k ≤ b.rows.length + 1 ∧ ρ = [some (.sh, bookD b), some (.loc, usesD b.rows), some (.loc, .lst found), some (.sh, .str x), some (.loc, .lst (S2 (iterS (usesOf b.rows) k [x]))), some (.loc, .int (k : Nat)), none] ∧ ∀ j, j < k → iterS (usesOf b.rows) j [x] ≠ [])
    (fun ρ => ∃ k, k ≤ b.rows.length + 1 ∧ ρ = [some (.sh, bookD b), some (.loc, usesD b.rows), some (.loc, .lst found), some (.sh, .str x), some (.loc, .lst (S2 (iterS (usesOf b.rows) k [x]))), some (.loc, .int (k : Nat)), none] ∧ (∀ j, j < k → iterS (usesOf b.rows) j [x] ≠ []) ∧ (iterS (usesOf b.rows) k [x] = [] ∨ k = b.rows.length + 1))
    (longOf b.rows.length)
    (fun ρ ⟨k, hk, e, hj⟩ => by
      subst e
      have st : ∀ y ∈ iterS (usesOf b.rows) k [x], PyData.strOk y = true := fun y my => h.rows.str y ((sub k).1 y my)
      have eq1 : eqD true (.mv, .lst (S2 (iterS (usesOf b.rows) k [x]))) (.fr, .lst []) = .ok (.fr, .bl (!decide (iterS (usesOf b.rows) k [x] = []))) := by
        have o2 : okP (.lst []) = true := ok_lst (xs := []) (by simp)
        have e1 : eqvD (.lst (S2 (iterS (usesOf b.rows) k [x]))) (.lst []) = decide (iterS (usesOf b.rows) k [x] = []) := eqv_lst _ []
        unfold eqD
        rw [ok_lst st, o2, e1]
        rfl
      have ul : (usesD b.rows) = .dK ((namesOf b.rows).map Sum.inr) (b.rows.map fun r => .tup (S2 r.uses)) := rfl
      have ln : lenF [usesD b.rows] = .ok (.int (b.rows.length : Nat)) := by
        rw [ul]; unfold lenF; simp
      have iu : imm (usesD b.rows) = false := rfl
      by_cases c1 : iterS (usesOf b.rows) k [x] = []
      · left
        refine ⟨?_, k, hk, rfl, hj, .inl c1⟩
        simp [defF, defIO, xSeq, xIf, xRet_app, xRetN_app, xVal, xSet_app, xExpr_app, xNext_app, xBreak_app, xRaise_app, xFor_app, xForK_app, xForW, xSh, xTgt_app, xPar, xApp_app, xExt_app, xMutL, appK, extK, andV, orV, notV, andT, orT, notT, tru1, blOf, boolF, chainF, ifV, bind1, bind2, bind2p, callF, consA, nilA, dVar, dC, startD, compF, walkI, isiF, tyD, isiK, lenF, truD1, truD, up, imm, immL, Out.res, noIf, tupF, lstF, inF, ixF, asg, asgL, noPart, partF, flOk, lenSet_app, sortSet_app, xExprE_app, xRetE_app, ltI, leI, gtI, Ow.own, eq1, c1] at eq1 ⊢
        simp [eq1]
      · by_cases c2 : k ≤ b.rows.length
        · right
          have nx := f_law_next h.rows (sub k).1
          refine ⟨?_, [some (.sh, bookD b), some (.loc, usesD b.rows), some (.loc, .lst found), some (.sh, .str x), some (.loc, .lst (S2 (iterS (usesOf b.rows) (k + 1) [x]))), some (.loc, .int ((k + 1 : Nat) : Int)), none], .inl ?_, ⟨k + 1, by omega, rfl, fun j hj' => ?_⟩, ?_⟩
          · simp [defF, defIO, xSeq, xIf, xRet_app, xRetN_app, xVal, xSet_app, xExpr_app, xNext_app, xBreak_app, xRaise_app, xFor_app, xForK_app, xForW, xSh, xTgt_app, xPar, xApp_app, xExt_app, xMutL, appK, extK, andV, orV, notV, andT, orT, notT, tru1, blOf, boolF, chainF, ifV, bind1, bind2, bind2p, callF, consA, nilA, dVar, dC, startD, compF, walkI, isiF, tyD, isiK, lenF, truD1, truD, up, imm, immL, Out.res, noIf, tupF, lstF, inF, ixF, asg, asgL, noPart, partF, flOk, lenSet_app, sortSet_app, xExprE_app, xRetE_app, ltI, leI, gtI, Ow.own, eq1, c1, ul, ordD, c2]
          · simp [xRankW, defF, defIO, xSeq, xIf, xRet_app, xRetN_app, xVal, xSet_app, xExpr_app, xNext_app, xBreak_app, xRaise_app, xFor_app, xForK_app, xForW, xSh, xTgt_app, xPar, xApp_app, xExt_app, xMutL, appK, extK, andV, orV, notV, andT, orT, notT, tru1, blOf, boolF, chainF, ifV, bind1, bind2, bind2p, callF, consA, nilA, dVar, dC, startD, compF, walkI, isiF, tyD, isiK, lenF, truD1, truD, up, imm, immL, Out.res, noIf, tupF, lstF, inF, ixF, asg, asgL, noPart, partF, flOk, lenSet_app, sortSet_app, xExprE_app, xRetE_app, ltI, leI, gtI, Ow.own, nx, iu, xAug]
            rfl
          · by_cases jk : j = k
            · subst jk; exact c1
            · exact hj j (by omega)
          · simp [longOf]
            omega
        · left
          refine ⟨?_, k, hk, rfl, hj, .inr (by omega)⟩
          simp [defF, defIO, xSeq, xIf, xRet_app, xRetN_app, xVal, xSet_app, xExpr_app, xNext_app, xBreak_app, xRaise_app, xFor_app, xForK_app, xForW, xSh, xTgt_app, xPar, xApp_app, xExt_app, xMutL, appK, extK, andV, orV, notV, andT, orT, notT, tru1, blOf, boolF, chainF, ifV, bind1, bind2, bind2p, callF, consA, nilA, dVar, dC, startD, compF, walkI, isiF, tyD, isiK, lenF, truD1, truD, up, imm, immL, Out.res, noIf, tupF, lstF, inF, ixF, asg, asgL, noPart, partF, flOk, lenSet_app, sortSet_app, xExprE_app, xRetE_app, ltI, leI, gtI, Ow.own, eq1, c1, ul, ordD, c2]) 1000 [some (.sh, bookD b), some (.loc, usesD b.rows), some (.loc, .lst found), some (.sh, .str x), some (.loc, .lst (S2 [x])), some (.loc, .int 0), none] (by simp [longOf]; omega) ⟨0, by omega, rfl, fun j hj => by omega⟩
  exact ⟨k, e, hk, hj, hd⟩
theorem rank_chain {U : Str → List Str} (nd : ∀ x, (U x).Nodup) {names : List Str} (sub : ∀ x ∈ names, ∀ u ∈ U x, u ∈ names) {x : Str} (mx : x ∈ names) {k : Nat} (hk : k ≤ names.length + 1) (hj : ∀ j, j < k → iterS U j [x] ≠ []) (hd : iterS U k [x] = [] ∨ k = names.length + 1) :
    (if iterS U k [x] = [] then D.int ((k : Int) - 1) else .non) = rankD U names.length x := by
  have hi : ∀ j, iterS U j [x] = [] ↔ H U j x = true := fun j => by rw [iter_nil nd]; simp
  by_cases c : iterS U k [x] = []
  · rw [if_pos c]
    cases k with
    | zero => cases c
    | succ r =>
      have a : H U (r + 1) x = true := (hi _).mp c
      have b : H U r x = false := by
        cases e : H U r x with
        | false => rfl
        | true => exact absurd ((hi r).mpr e) (hj r (by omega))
      have le : r < names.length := by
        rcases Nat.lt_or_ge r names.length with l | l
        · exact l
        · have := H_mono l (H_end U names sub mx a)
          rw [b] at this; cases this
      rw [rank_known (names := names) ⟨a, b⟩ le]
      congr 1
      omega
  · rw [if_neg c]
    rcases hd with hd | hd
    · exact absurd hd c
    · refine (rank_unknown ?_).symm
      cases e : H U names.length x with
      | false => rfl
      | true => exact absurd ((hi k).mpr (H_mono (by omega) e)) c
def ranksD (b : Book) : D := .lst (b.rows.map fun r => .tup [.str r.name, rankD (usesOf b.rows) b.rows.length r.name])

theorem rankD_imm (U : Str → List Str) (n : Nat) (x : Str) : imm (rankD U n x) = true := by
  unfold rankD
  split <;> rfl
theorem f_law_ranks {b : Book} (h : BookOk b) : F__law_ranks [bookD b] = .ok (ranksD b) := by
  have u := f_law_uses h
  have few := h.rows.few
  have nd := usesOf_nodup h.rows
  have i0 := imm_rows b.rows
  have ib := imm_book b
  have c6 : compL (.nm 6) noIf (bind2 (dVar 6) (dC (.int 0)) ixF) (wipeE (fzE [some (.sh, bookD b), some (.loc, usesD b.rows), some (.loc, .lst []), none, none, none, none]) [6]) (b.rows.map rowD) = .ok (S2 (namesOf b.rows)) := by
    rw [compL_all rowD (fun r => .str r.name) b.rows fun r m => ⟨[some (.sh, bookD b), some (.sh, usesD b.rows), some (.sh, .lst []), none, none, none, some (.sh, rowD r)], by simp [asg, wipeE, fzE], by simp [rowD, defF, defIO, xSeq, xIf, xRet_app, xRetN_app, xVal, xSet_app, xExpr_app, xNext_app, xBreak_app, xRaise_app, xFor_app, xForK_app, xForW, xSh, xTgt_app, xPar, xApp_app, xExt_app, xMutL, appK, extK, andV, orV, notV, andT, orT, notT, tru1, blOf, boolF, chainF, ifV, bind1, bind2, bind2p, callF, consA, nilA, dVar, dC, startD, compF, walkI, isiF, tyD, isiK, lenF, truD1, truD, up, imm, immL, Out.res, noIf, tupF, lstF, inF, ixF, asg, asgL, noPart, partF, flOk, lenSet_app, sortSet_app, xExprE_app, xRetE_app, ltI, leI, gtI, Ow.own, atI, ixN]⟩]
    unfold S2 namesOf
    rw [List.map_map]
    rfl
  have z3 : b.rows.length ≤ sizeLine := small8 few
  have hl : (namesOf b.rows).length = b.rows.length := by unfold namesOf; rw [List.length_map]
  obtain ⟨ρ2, e, d3, d4, d5, e2⟩ := xLoop_inv (t := .nm 3) (x := (xSeq (xPar [4, 5] (consA (lstF (consA (dVar 3) nilA)) (consA (dC (.int 0)) nilA)))
    (xSeq (xWhile (andT (blOf (bind2 (dVar 4) (lstF nilA) (eqD true))) (blOf (bind2 (dVar 5) (callF lenF (consA (dVar 1) nilA)) (ordD leI)))) xRankW 1000)
    (xApp 2 (tupF (consA (dVar 3) (consA (ifV (blOf (bind2 (dVar 4) (lstF nilA) (eqD false))) (bind2 (dVar 5) (dC (.int 1)) subK) (dC .non)) nilA))))))) (S2 (namesOf b.rows))
    (fun i ρ => ∃ d3 d4 d5 : Sl, ρ = [some (.sh, bookD b), some (.loc, usesD b.rows), some (.loc, .lst (((namesOf b.rows).take i).map fun x => .tup [.str x, rankD (usesOf b.rows) b.rows.length x])), d3, d4, d5, none]) (fun i d ρ ei ⟨d3, d4, d5, e⟩ => by
      subst e
      unfold S2 at ei
      rw [List.getElem?_map] at ei
      obtain ⟨x, ex, rfl⟩ := Option.map_eq_some_iff.mp ei
      have mx := List.mem_of_getElem? ex
      obtain ⟨k, w, hk, hj, hd⟩ := rank_while h mx (((namesOf b.rows).take i).map fun x => .tup [.str x, rankD (usesOf b.rows) b.rows.length x])
      have rc := rank_chain nd (names := namesOf b.rows) (fun y my => usesOf_sub h.rows (x := y)) mx (by rw [hl]; exact hk) hj (by rw [hl]; exact hd)
      rw [hl] at rc
      have st : ∀ y ∈ iterS (usesOf b.rows) k [x], PyData.strOk y = true := fun y my => h.rows.str y ((iter_sub nd (fun y my => usesOf_sub h.rows (x := y)) mx k).1 y my)
      have o1 := ok_lst st
      have o2 : okP (.lst []) = true := ok_lst (xs := []) (by simp)
      have e1 : eqvD (.lst (S2 (iterS (usesOf b.rows) k [x]))) (.lst []) = decide (iterS (usesOf b.rows) k [x] = []) := eqv_lst _ []
      have tk : (namesOf b.rows).take (i + 1) = (namesOf b.rows).take i ++ [x] := by rw [List.take_succ, ex]; rfl
      have z1 : 1 ≤ sizeLine := by rw [sizeLine_eq]; omega
      have z2 : 2 ≤ sizeLine := by rw [sizeLine_eq]; omega
      have zt : min i (namesOf b.rows).length < sizeLine := by rw [sizeLine_eq, hl]; omega
      have ri := rankD_imm (usesOf b.rows) b.rows.length x
      refine ⟨_, _, rfl, .inl ?_, some (.sh, .str x), some (.loc, .lst (S2 (iterS (usesOf b.rows) k [x]))), some (.loc, .int (k : Nat)), rfl⟩
      · rw [tk, List.map_append, List.map_cons, List.map_nil]
        have zl : (((namesOf b.rows).take i).map fun x => D.tup [.str x, rankD (usesOf b.rows) b.rows.length x]).length < sizeLine := by rw [List.length_map, List.length_take]; exact zt
        generalize (((namesOf b.rows).take i).map fun x => D.tup [.str x, rankD (usesOf b.rows) b.rows.length x]) = fd at w zl ⊢
        simp only [S2, List.map_cons, List.map_nil] at w
        have en : eqvD (.lst []) (.lst []) = true := eqv_lst [] []
        by_cases c : iterS (usesOf b.rows) k [x] = []
        · rw [if_pos c] at rc
          rw [← rc]
          simp [defF, defIO, xSeq, xIf, xRet_app, xRetN_app, xVal, xSet_app, xExpr_app, xNext_app, xBreak_app, xRaise_app, xFor_app, xForK_app, xForW, xSh, xTgt_app, xPar, xApp_app, xExt_app, xMutL, appK, extK, andV, orV, notV, andT, orT, notT, tru1, blOf, boolF, chainF, ifV, bind1, bind2, bind2p, callF, consA, nilA, dVar, dC, startD, compF, walkI, isiF, tyD, isiK, lenF, truD1, truD, up, imm, immL, Out.res, noIf, tupF, lstF, inF, ixF, asg, asgL, noPart, partF, flOk, lenSet_app, sortSet_app, xExprE_app, xRetE_app, ltI, leI, gtI, Ow.own, z1, z2, w, o1, o2, eqD, e1, en, c, subK, arI, zl]
          done
        · rw [if_neg c] at rc
          rw [← rc]
          simp [defF, defIO, xSeq, xIf, xRet_app, xRetN_app, xVal, xSet_app, xExpr_app, xNext_app, xBreak_app, xRaise_app, xFor_app, xForK_app, xForW, xSh, xTgt_app, xPar, xApp_app, xExt_app, xMutL, appK, extK, andV, orV, notV, andT, orT, notT, tru1, blOf, boolF, chainF, ifV, bind1, bind2, bind2p, callF, consA, nilA, dVar, dC, startD, compF, walkI, isiF, tyD, isiK, lenF, truD1, truD, up, imm, immL, Out.res, noIf, tupF, lstF, inF, ixF, asg, asgL, noPart, partF, flOk, lenSet_app, sortSet_app, xExprE_app, xRetE_app, ltI, leI, gtI, Ow.own, z1, z2, w, o1, o2, eqD, e1, c, zl]
          done
      ) [some (.sh, bookD b), some (.loc, usesD b.rows), some (.loc, .lst []), none, none, none, none] ⟨none, none, none, rfl⟩
  subst e2
  have lS : (S2 (namesOf b.rows)).length = (namesOf b.rows).length := by unfold S2; rw [List.length_map]
  rw [lS, List.take_length] at e
  have e3 : (namesOf b.rows).map (fun x => D.tup [.str x, rankD (usesOf b.rows) b.rows.length x]) = b.rows.map fun r => .tup [.str r.name, rankD (usesOf b.rows) b.rows.length r.name] := by unfold namesOf; rw [List.map_map]; rfl
  rw [e3] at e
  unfold xRankW at e
  unfold bookD rowsD at u ib c6 e ⊢
  simp [F__law_ranks, x__law_ranks, ranksD, defF, defIO, xSeq, xIf, xRet_app, xRetN_app, xVal, xSet_app, xExpr_app, xNext_app, xBreak_app, xRaise_app, xFor_app, xForK_app, xForW, xSh, xTgt_app, xPar, xApp_app, xExt_app, xMutL, appK, extK, andV, orV, notV, andT, orT, notT, tru1, blOf, boolF, chainF, ifV, bind1, bind2, bind2p, callF, consA, nilA, dVar, dC, startD, compF, walkI, isiF, tyD, isiK, lenF, truD1, truD, up, imm, immL, Out.res, noIf, tupF, lstF, inF, ixF, asg, asgL, noPart, partF, flOk, lenSet_app, sortSet_app, xExprE_app, xRetE_app, ltI, leI, gtI, Ow.own, u, i0, ib, c6, z3, e, atI, ixN]
end DL
/-! RK5: ranks; the law. -/
namespace DL
open PySem L2
theorem turn_loop {rs : List Row} (h : RowsOk rs) (bk : D) {kn : Kn} (g : KnOk (usesOf rs) (namesOf rs) kn) (o : Ow) (a3 a4 : Sl) :
    ∃ b3 b4, xForK 1 (.nm 4) xRankB [some (.sh, bk), some (o, usesD rs), some (.loc, knD kn), a3, a4, none, none] = .nx [some (.sh, bk), some (.sh, usesD rs), some (.loc, knD ((namesOf rs).foldl (knStep (usesOf rs)) kn)), b3, b4, none, none] := by
  have sub : ∀ x ∈ namesOf rs, x ∈ namesOf rs := fun _ m => m
  obtain ⟨ρ2, e, g2, b3, b4, e2⟩ := xLoop_fold (t := .nm 4) (x := xRankB) D.str (knStep (usesOf rs)) (fun kn ρ => KnOk (usesOf rs) (namesOf rs) kn ∧ ∃ b3 b4 : Sl, ρ = [some (.sh, bk), some (.sh, usesD rs), some (.loc, knD kn), b3, b4, none, none]) (namesOf rs) (fun kn x ρ mx ⟨g, b3, b4, e⟩ => by
    subst e
    exact ⟨_, _, rfl, .inl (rank_step h bk g mx b3), knStep_ok g mx, b3, some (.sh, .str x), rfl⟩) kn [some (.sh, bk), some (.sh, usesD rs), some (.loc, knD kn), a3.map fun p => (match p.1 with | .lk => .sh | o => o, p.2), a4.map fun p => (match p.1 with | .lk => .sh | o => o, p.2), none, none] ⟨g, _, _, rfl⟩
  subst e2
  have ek : keysDk (usesD rs) = some (S2 (namesOf rs)) := by
    show some (((namesOf rs).map Sum.inr).map kD) = _
    rw [List.map_map]; rfl
  have ei : isDictD (usesD rs) = true := rfl
  refine ⟨b3.map fun p => (match p.1 with | .lk => .sh | o => o, p.2), b4.map fun p => (match p.1 with | .lk => .sh | o => o, p.2), ?_⟩
  rw [xForK_app]
  unfold xLock
  simp only [List.getElem?_cons_succ, List.getElem?_cons_zero, ei, if_true]
  have e' : xForW (shE 1) (keysI 1) (.nm 4) xRankB ((unlkE [some (.sh, bk), some (o, usesD rs), some (.loc, knD kn), a3, a4, none, none]).set 1 (some (.lk, usesD rs))) = .nx [some (.sh, bk), some (.sh, usesD rs), some (.loc, knD ((namesOf rs).foldl (knStep (usesOf rs)) kn)), b3, b4, none, none] := by
    unfold xForW keysI
    simp [unlkE, ek, shE]
    exact e
  rw [e']
  rfl
theorem rank_said {U : Str → List Str} {names : List Str} (sub : ∀ x ∈ names, ∀ u ∈ U x, u ∈ names) {x : Str} (mx : x ∈ names) : (if x ∈ knN (turnsK U names names.length) then D.int (valOf (turnsK U names names.length) x : Nat) else .non) = rankD U names.length x := by
  obtain ⟨g, d⟩ := turns_ok sub names.length
  by_cases c : x ∈ knN (turnsK U names names.length)
  · rw [if_pos c]
    have r := g.rank x c
    have le : valOf (turnsK U names names.length) x < names.length := by
      rcases Nat.lt_or_ge (valOf (turnsK U names names.length) x) names.length with l | l
      · exact l
      · have := H_mono l (H_end U names sub mx r.1)
        rw [r.2] at this; cases this
    exact (rank_known (names := names) r le).symm
  · rw [if_neg c]
    refine (rank_unknown ?_).symm
    cases e : H U names.length x with
    | false => rfl
    | true => exact absurd (d x mx e) c
theorem xFor_of {fi : Env → Res ID} {t : Tg} {x : XS} {ρ : Env} {ds : List D} {r : Out} (h : fi ρ = .ok ([], ds)) (e : xLoop t x ds ρ = r) : xFor fi t x ρ = r := by
  rw [xFor_app]
  unfold xForW
  rw [h]
  exact e
theorem xSeq_nx {x y : XS} {ρ ρ' : Env} (h : x ρ = .nx ρ') : xSeq x y ρ = y ρ' := by
  unfold xSeq
  rw [h]
theorem ranks_loop {b : Book} (h : BookOk b) : ∃ (o : Ow) (b3 b4 : Sl), xFor (rng1I (callF lenF (consA (dVar 1) nilA))) (.nm 3) (xForK 1 (.nm 4) xRankB) [some (.sh, bookD b), some (.loc, usesD b.rows), some (.loc, knD []), none, none, none, none] = .nx [some (.sh, bookD b), some (o, usesD b.rows), some (.loc, knD (turnsK (usesOf b.rows) (namesOf b.rows) b.rows.length)), b3, b4, none, none] := by
  have few := h.rows.few
  have sub : ∀ x ∈ namesOf b.rows, ∀ u ∈ usesOf b.rows x, u ∈ namesOf b.rows := fun x mx => usesOf_sub h.rows (x := x)
  have ul : (usesD b.rows) = .dK ((namesOf b.rows).map Sum.inr) (b.rows.map fun r => .tup (S2 r.uses)) := rfl
  obtain ⟨ρ2, e, o, b3, b4, e2⟩ := xLoop_inv (t := .nm 3) (x := xForK 1 (.nm 4) xRankB) (rngD 0 (b.rows.length : Nat))
    (fun i ρ => ∃ (o : Ow) (b3 b4 : Sl), ρ = [some (.sh, bookD b), some (o, usesD b.rows), some (.loc, knD (turnsK (usesOf b.rows) (namesOf b.rows) i)), b3, b4, none, none]) (fun i d ρ ei ⟨o, b3, b4, e⟩ => by
      subst e
      obtain ⟨c3, c4, e⟩ := turn_loop h.rows (bookD b) (turns_ok sub i).1 o (some (.sh, d)) b4
      exact ⟨_, _, rfl, .inl e, .sh, c3, c4, rfl⟩) [some (.sh, bookD b), some (.loc, usesD b.rows), some (.loc, knD []), none, none, none, none] ⟨.loc, none, none, rfl⟩
  subst e2
  have rl : (rngD 0 (b.rows.length : Nat)).length = b.rows.length := by unfold rngD; simp
  rw [rl] at e
  have rg : rng1I (callF lenF (consA (dVar 1) nilA)) [some (.sh, bookD b), some (.loc, usesD b.rows), some (.loc, knD []), none, none, none, none] = .ok ([], rngD 0 (b.rows.length : Nat)) := by
    refine rng1_ok (fl := .fr) ?_ (by omega) (by omega)
    simp [defF, defIO, xSeq, xIf, xRet_app, xRetN_app, xVal, xSet_app, xExpr_app, xNext_app, xBreak_app, xRaise_app, xFor_app, xForK_app, xForW, xSh, xTgt_app, xPar, xApp_app, xExt_app, xMutL, appK, extK, andV, orV, notV, andT, orT, notT, tru1, blOf, boolF, chainF, ifV, bind1, bind2, bind2p, callF, consA, nilA, dVar, dC, startD, compF, walkI, isiF, tyD, isiK, lenF, truD1, truD, up, imm, immL, Out.res, noIf, tupF, lstF, inF, ixF, asg, asgL, noPart, partF, flOk, lenSet_app, sortSet_app, xExprE_app, xRetE_app, ltI, leI, gtI, Ow.own, ul]
  exact ⟨o, b3, b4, xFor_of rg e⟩
theorem f_ranks {b : Book} (h : BookOk b) : F_ranks [bookD b] = .ok (ranksD b) := by
  have l := f_look h
  have u := f_uses_of h
  have ib := imm_book b
  have i0 := imm_rows b.rows
  have few := h.rows.few
  have hl : (namesOf b.rows).length = b.rows.length := by unfold namesOf; rw [List.length_map]
  have sub : ∀ x ∈ namesOf b.rows, ∀ u ∈ usesOf b.rows x, u ∈ namesOf b.rows := fun x mx => usesOf_sub h.rows (x := x)
  obtain ⟨o, b3, b4, fl⟩ := ranks_loop h
  have z3 := small8 few
  have nk : newK = fun _ => .ok (.fr, knD []) := rfl
  have c5 : compL (.nm 5) noIf (tupF (consA (bind2 (dVar 5) (dC (.int 0)) ixF) (consA (bind2p (dVar 2) (bind2 (dVar 5) (dC (.int 0)) ixF) isDictD getK) nilA))) (wipeE (fzE [some (.sh, bookD b), some (o, usesD b.rows), some (.loc, knD (turnsK (usesOf b.rows) (namesOf b.rows) b.rows.length)), b3, b4, none, none]) [5]) (b.rows.map rowD) = .ok (b.rows.map fun r => .tup [.str r.name, rankD (usesOf b.rows) b.rows.length r.name]) := by
    refine compL_all rowD _ b.rows fun r mr => ⟨[some (.sh, bookD b), some (.sh, usesD b.rows), some (.sh, knD (turnsK (usesOf b.rows) (namesOf b.rows) b.rows.length)), b3.map fun p => (.sh, p.2), b4.map fun p => (.sh, p.2), some (.sh, rowD r), none], by simp [asg, wipeE, fzE], ?_⟩
    have mx : r.name ∈ namesOf b.rows := List.mem_map_of_mem mr
    have rs := rank_said sub mx
    rw [hl] at rs
    have z2 : 2 ≤ sizeLine := by rw [sizeLine_eq]; omega
    have gt : getK (.sf, knD (turnsK (usesOf b.rows) (namesOf b.rows) b.rows.length)) (.fr, .str r.name) = .ok (.fr, rankD (usesOf b.rows) b.rows.length r.name) := by
      rw [← rs]
      unfold getK knD dGet keyOf
      simp only [Option.map_some]
      by_cases c : r.name ∈ knN (turnsK (usesOf b.rows) (namesOf b.rows) b.rows.length)
      · rw [if_pos c, knD_get _ _ c]; rfl
      · rw [if_neg c, knD_none _ _ c]
    have ik : imm (knD (turnsK (usesOf b.rows) (namesOf b.rows) b.rows.length)) = false := rfl
    have dk : isDictD (knD (turnsK (usesOf b.rows) (namesOf b.rows) b.rows.length)) = true := rfl
    have ri := rankD_imm (usesOf b.rows) b.rows.length r.name
    simp [rowD, defF, defIO, xSeq, xIf, xRet_app, xRetN_app, xVal, xSet_app, xExpr_app, xNext_app, xBreak_app, xRaise_app, xFor_app, xForK_app, xForW, xSh, xTgt_app, xPar, xApp_app, xExt_app, xMutL, appK, extK, andV, orV, notV, andT, orT, notT, tru1, blOf, boolF, chainF, ifV, bind1, bind2, bind2p, callF, consA, nilA, dVar, dC, startD, compF, walkI, isiF, tyD, isiK, lenF, truD1, truD, up, imm, immL, Out.res, noIf, tupF, lstF, inF, ixF, asg, asgL, noPart, partF, flOk, lenSet_app, sortSet_app, xExprE_app, xRetE_app, ltI, leI, gtI, Ow.own, z2, atI, ixN, ik, dk, gt, ri]
  have st : startD 7 [bookD b] = [some (.sh, bookD b), none, none, none, none, none, none] := rfl
  have x1 : xExpr (callF F_look (consA (dVar 0) nilA)) [some (.sh, bookD b), none, none, none, none, none, none] = .nx [some (.sh, bookD b), none, none, none, none, none, none] := by
    simp [defF, defIO, xSeq, xIf, xRet_app, xRetN_app, xVal, xSet_app, xExpr_app, xNext_app, xBreak_app, xRaise_app, xFor_app, xForK_app, xForW, xSh, xTgt_app, xPar, xApp_app, xExt_app, xMutL, appK, extK, andV, orV, notV, andT, orT, notT, tru1, blOf, boolF, chainF, ifV, bind1, bind2, bind2p, callF, consA, nilA, dVar, dC, startD, compF, walkI, isiF, tyD, isiK, lenF, truD1, truD, up, imm, immL, Out.res, noIf, tupF, lstF, inF, ixF, asg, asgL, noPart, partF, flOk, lenSet_app, sortSet_app, xExprE_app, xRetE_app, ltI, leI, gtI, Ow.own, l, ib]
  have x2 : xSet 1 (callF F_uses_of (consA (dVar 0) nilA)) [some (.sh, bookD b), none, none, none, none, none, none] = .nx [some (.sh, bookD b), some (.loc, usesD b.rows), none, none, none, none, none] := by
    simp [defF, defIO, xSeq, xIf, xRet_app, xRetN_app, xVal, xSet_app, xExpr_app, xNext_app, xBreak_app, xRaise_app, xFor_app, xForK_app, xForW, xSh, xTgt_app, xPar, xApp_app, xExt_app, xMutL, appK, extK, andV, orV, notV, andT, orT, notT, tru1, blOf, boolF, chainF, ifV, bind1, bind2, bind2p, callF, consA, nilA, dVar, dC, startD, compF, walkI, isiF, tyD, isiK, lenF, truD1, truD, up, imm, immL, Out.res, noIf, tupF, lstF, inF, ixF, asg, asgL, noPart, partF, flOk, lenSet_app, sortSet_app, xExprE_app, xRetE_app, ltI, leI, gtI, Ow.own, u, ib]
  have x3 : xSet 2 newK [some (.sh, bookD b), some (.loc, usesD b.rows), none, none, none, none, none] = .nx [some (.sh, bookD b), some (.loc, usesD b.rows), some (.loc, knD []), none, none, none, none] := by
    simp [defF, defIO, xSeq, xIf, xRet_app, xRetN_app, xVal, xSet_app, xExpr_app, xNext_app, xBreak_app, xRaise_app, xFor_app, xForK_app, xForW, xSh, xTgt_app, xPar, xApp_app, xExt_app, xMutL, appK, extK, andV, orV, notV, andT, orT, notT, tru1, blOf, boolF, chainF, ifV, bind1, bind2, bind2p, callF, consA, nilA, dVar, dC, startD, compF, walkI, isiF, tyD, isiK, lenF, truD1, truD, up, imm, immL, Out.res, noIf, tupF, lstF, inF, ixF, asg, asgL, noPart, partF, flOk, lenSet_app, sortSet_app, xExprE_app, xRetE_app, ltI, leI, gtI, Ow.own, nk]
  have w5 : walkI (bind2 (dVar 0) (dC (.int 0)) ixF) [some (.sh, bookD b), some (o, usesD b.rows), some (.loc, knD (turnsK (usesOf b.rows) (namesOf b.rows) b.rows.length)), b3, b4, none, none] = .ok ([(.fr, rowsD b.rows)], b.rows.map rowD) := by
    have i0' : immL (b.rows.map rowD) = true := i0
    unfold bookD rowsD
    simp [defF, defIO, xSeq, xIf, xRet_app, xRetN_app, xVal, xSet_app, xExpr_app, xNext_app, xBreak_app, xRaise_app, xFor_app, xForK_app, xForW, xSh, xTgt_app, xPar, xApp_app, xExt_app, xMutL, appK, extK, andV, orV, notV, andT, orT, notT, tru1, blOf, boolF, chainF, ifV, bind1, bind2, bind2p, callF, consA, nilA, dVar, dC, startD, compF, walkI, isiF, tyD, isiK, lenF, truD1, truD, up, imm, immL, Out.res, noIf, tupF, lstF, inF, ixF, asg, asgL, noPart, partF, flOk, lenSet_app, sortSet_app, xExprE_app, xRetE_app, ltI, leI, gtI, Ow.own, i0', atI, ixN]
  unfold xRankB at fl
  unfold F_ranks x_ranks defF
  rw [if_pos (by rfl), st, xSeq_nx x1, xSeq_nx x2, xSeq_nx x3, xSeq_nx fl, xRet_app]
  have c : compF (walkI (bind2 (dVar 0) (dC (.int 0)) ixF)) (.nm 5) noIf (tupF (consA (bind2 (dVar 5) (dC (.int 0)) ixF) (consA (bind2p (dVar 2) (bind2 (dVar 5) (dC (.int 0)) ixF) isDictD getK) nilA))) [5] [some (.sh, bookD b), some (o, usesD b.rows), some (.loc, knD (turnsK (usesOf b.rows) (namesOf b.rows) b.rows.length)), b3, b4, none, none] = .ok (.fr, ranksD b) := by
    unfold compF
    rw [w5, Res.ok_bind]
    dsimp only
    rw [if_pos (by rw [List.length_map]; exact z3), c5, Res.ok_bind]
    rfl
  rw [c]
  rfl
end DL
/-! K15: the law. -/
namespace DL
open PySem L2
theorem depthAll_le {n : Nat} : ∀ ds : List D, (∀ d ∈ ds, PyData.depth (toP d) ≤ n) → PyData.depthAll (toPL ds) ≤ n + 1
  | [], _ => by simp [toPL, PyData.depthAll]
  | d :: ds, h => by
    have ih := depthAll_le ds fun x m => h x (List.mem_cons_of_mem _ m)
    have := h d List.mem_cons_self
    rw [toPL]
    simp only [PyData.depthAll]
    omega
theorem layAll_of : ∀ ds : List D, (∀ d ∈ ds, PyData.canLay0 (toP d) = true) → PyData.canLayAll0 (toPL ds) = true
  | [], _ => by simp [toPL, PyData.canLayAll0]
  | d :: ds, h => by
    have ih := layAll_of ds fun x m => h x (List.mem_cons_of_mem _ m)
    rw [toPL]
    simp [PyData.canLayAll0, h d List.mem_cons_self, ih]
theorem lay_ranks {b : Book} (h : BookOk b) : okP (ranksD b) = true := by
  have e1 : ∀ d ∈ b.rows.map (fun r => D.tup [.str r.name, rankD (usesOf b.rows) b.rows.length r.name]), PyData.canLay0 (toP d) = true ∧ PyData.depth (toP d) ≤ 3 := fun d m => by
    obtain ⟨r, mr, rfl⟩ := List.mem_map.mp m
    have s := (h.rows.row r mr).name.str
    rw [toP]
    unfold rankD
    split <;> simp [toPL, toP, PyData.canLay0, PyData.canLayAll0, PyData.depth, PyData.depthAll, s]
  have d2 := depthAll_le _ fun d m => (e1 d m).2
  have l2 := layAll_of _ fun d m => (e1 d m).1
  unfold okP SeqAt.shaped ranksD
  rw [toP]
  simp [PyData.canLay0, PyData.depth, l2]
  omega
theorem eqv_self {d : D} (h : okP d = true) : eqvD d d = true := by
  unfold okP SeqAt.shaped at h
  rw [Bool.and_eq_true] at h
  exact PySem.SeqAt.eqv_refl _ h.1
theorem orders_mem (U : Str → List Str) : ∀ (n : Nat) (left o : List Str), o ∈ orders U n left → ∀ x ∈ o, x ∈ left
  | 0, left, o, m => by simp [orders] at m; subst m; simp
  | n + 1, left, o, m => by
    unfold orders at m
    split at m
    · rw [List.mem_singleton] at m; subst m; simp
    · obtain ⟨y, my, m2⟩ := List.mem_flatMap.mp m
      obtain ⟨p, mp, rfl⟩ := List.mem_map.mp m2
      intro x mx
      rcases List.mem_cons.mp mx with rfl | mx
      · exact (List.mem_filter.mp my).1
      · exact (List.mem_filter.mp (orders_mem U n _ p mp x mx)).1
theorem callF1 {F : List D → Res D} {f : Env → Res FD} {ρ : Env} {fl : Fl} {d r : D} (h : f ρ = .ok (fl, d)) (e : F [d] = .ok r) : callF F (consA f nilA) ρ = .ok (.fr, r) := by
  unfold callF consA nilA
  rw [h]
  simp [e]
theorem main_law (ns : List Int) (_ : ns.length ≤ 63) : F_law [.fz (ns.map D.int)] = .ok (.bl true) := by
  obtain ⟨b, h, l6, e⟩ := f_little ns 0
  have u := f_law_uses h
  have os := f_law_orders h.rows
  have hm := f_many h
  have hl := f_least h
  have r1 := f_ranks h
  have r2 := f_law_ranks h
  have or := lay_ranks h
  have rr := eqv_self or
  have ib := imm_book b
  have im : immL (ns.map D.int) = true := imm_ints ns
  have wh : F__law_whole [.int (cnt b.rows (sortS (namesOf b.rows)))] = .ok (.bl true) := by
    simp [F__law_whole, x__law_whole, defF, defIO, xSeq, xIf, xRet_app, xRetN_app, xVal, xSet_app, xExpr_app, xNext_app, xBreak_app, xRaise_app, xFor_app, xForK_app, xForW, xSh, xTgt_app, xPar, xApp_app, xExt_app, xMutL, appK, extK, andV, orV, notV, andT, orT, notT, tru1, blOf, boolF, chainF, ifV, bind1, bind2, bind2p, callF, consA, nilA, dVar, dC, startD, compF, walkI, isiF, tyD, isiK, lenF, truD1, truD, up, imm, immL, Out.res, noIf, tupF, lstF, inF, ixF, asg, asgL, noPart, partF, flOk, lenSet_app, sortSet_app, xExprE_app, xRetE_app, ltI, leI, gtI, Ow.own]
  have iR := imm_ints ns
  have i3 : imm (.fz (ns.map D.int)) = true := im
  have ob : immL [bookD b] = true := by simp [immL, ib]
  have e' : F__law_little_book [.fz (ns.map D.int), .int 0] = .ok (bookD b) := e
  have x1 : xSet 1 (callF F__law_little_book (consA (dVar 0) (consA (dC (.int 0)) nilA))) [some (.sh, .fz (ns.map D.int)), none, none] = .nx [some (.sh, .fz (ns.map D.int)), some (.loc, bookD b), none] := by
    simp [defF, defIO, xSeq, xIf, xRet_app, xRetN_app, xVal, xSet_app, xExpr_app, xNext_app, xBreak_app, xRaise_app, xFor_app, xForK_app, xForW, xSh, xTgt_app, xPar, xApp_app, xExt_app, xMutL, appK, extK, andV, orV, notV, andT, orT, notT, tru1, blOf, boolF, chainF, ifV, bind1, bind2, bind2p, callF, consA, nilA, dVar, dC, startD, compF, walkI, isiF, tyD, isiK, lenF, truD1, truD, up, imm, immL, Out.res, noIf, tupF, lstF, inF, ixF, asg, asgL, noPart, partF, flOk, lenSet_app, sortSet_app, xExprE_app, xRetE_app, ltI, leI, gtI, Ow.own, im, e']
  have x2 : xSet 2 (callF F__law_orders (consA (callF F__law_uses (consA (dVar 1) nilA)) (consA (lstF nilA) nilA))) [some (.sh, .fz (ns.map D.int)), some (.loc, bookD b), none] = .nx [some (.sh, .fz (ns.map D.int)), some (.loc, bookD b), some (.loc, ordersD (ords (usesOf b.rows) (sortS (namesOf b.rows))))] := by
    simp [defF, defIO, xSeq, xIf, xRet_app, xRetN_app, xVal, xSet_app, xExpr_app, xNext_app, xBreak_app, xRaise_app, xFor_app, xForK_app, xForW, xSh, xTgt_app, xPar, xApp_app, xExt_app, xMutL, appK, extK, andV, orV, notV, andT, orT, notT, tru1, blOf, boolF, chainF, ifV, bind1, bind2, bind2p, callF, consA, nilA, dVar, dC, startD, compF, walkI, isiF, tyD, isiK, lenF, truD1, truD, up, imm, immL, Out.res, noIf, tupF, lstF, inF, ixF, asg, asgL, noPart, partF, flOk, lenSet_app, sortSet_app, xExprE_app, xRetE_app, ltI, leI, gtI, Ow.own, ib, u, os]
  have lo : lenF [ordersD (ords (usesOf b.rows) (sortS (namesOf b.rows)))] = .ok (.int (cnt b.rows (sortS (namesOf b.rows)))) := by
    unfold lenF ordersD ordD2 cnt
    dsimp only
    rw [List.length_map]
  have io : imm (ordersD (ords (usesOf b.rows) (sortS (namesOf b.rows)))) = false := rfl
  have x3 : xIf (orT (blOf (bind2 (callF F_how_many_orders (consA (dVar 1) nilA)) (callF lenF (consA (dVar 2) nilA)) (eqD true))) (notT (tru1 (callF F__law_whole (consA (callF F_how_many_orders (consA (dVar 1) nilA)) nilA)))))
    (xRet (dC (.bl false))) xNext [some (.sh, .fz (ns.map D.int)), some (.loc, bookD b), some (.loc, ordersD (ords (usesOf b.rows) (sortS (namesOf b.rows))))] = .nx [some (.sh, .fz (ns.map D.int)), some (.loc, bookD b), some (.loc, ordersD (ords (usesOf b.rows) (sortS (namesOf b.rows))))] := by
    have v1 : dVar 1 [some (.sh, .fz (ns.map D.int)), some (.loc, bookD b), some (.loc, ordersD (ords (usesOf b.rows) (sortS (namesOf b.rows))))] = .ok (.fr, bookD b) := by simp [dVar, up, ib]
    have v2 : dVar 2 [some (.sh, .fz (ns.map D.int)), some (.loc, bookD b), some (.loc, ordersD (ords (usesOf b.rows) (sortS (namesOf b.rows))))] = .ok (.mv, ordersD (ords (usesOf b.rows) (sortS (namesOf b.rows)))) := by simp [dVar, up, io]
    have c1 := callF1 v2 lo
    have c2 := callF1 v1 hm
    have c3 := callF1 c2 wh
    unfold xIf orT notT blOf bind2 tru1
    rw [c1, c2, c3]
    simp [eqD, truD1, truD, xNext]
  have nmL : ∀ o ∈ ords (usesOf b.rows) (sortS (namesOf b.rows)), ∀ x ∈ o, PyData.strOk x = true := fun o mo x mx => h.rows.str x (sort_sub x (orders_mem _ _ _ o mo x mx))
  have x4 : xIf (blOf (bind2 (callF F_least_order (consA (dVar 1) nilA)) (bind2 (bind2 (dVar 2) (lstF (consA (dC .non) nilA)) addE) (dC (.int 0)) ixF) (eqD true)))
    (xRet (dC (.bl false))) xNext [some (.sh, .fz (ns.map D.int)), some (.loc, bookD b), some (.loc, ordersD (ords (usesOf b.rows) (sortS (namesOf b.rows))))] = .nx [some (.sh, .fz (ns.map D.int)), some (.loc, bookD b), some (.loc, ordersD (ords (usesOf b.rows) (sortS (namesOf b.rows))))] := by
    have v1 : dVar 1 [some (.sh, .fz (ns.map D.int)), some (.loc, bookD b), some (.loc, ordersD (ords (usesOf b.rows) (sortS (namesOf b.rows))))] = .ok (.fr, bookD b) := by simp [dVar, up, ib]
    have v2 : dVar 2 [some (.sh, .fz (ns.map D.int)), some (.loc, bookD b), some (.loc, ordersD (ords (usesOf b.rows) (sortS (namesOf b.rows))))] = .ok (.mv, ordersD (ords (usesOf b.rows) (sortS (namesOf b.rows)))) := by simp [dVar, up, io]
    have c1 := callF1 v1 hl
    have few : (ords (usesOf b.rows) (sortS (namesOf b.rows))).length < 1000000 := by
      have l8 := sort_len h.rows.few
      have l : (sortS (namesOf b.rows)).length ≤ 6 := by rw [(sortS_perm _).length_eq]; unfold namesOf; rw [List.length_map]; exact l6
      have a := (orders_small (usesOf b.rows) (sortS (namesOf b.rows)).length _ l8).1
      have p : 8 ^ (sortS (namesOf b.rows)).length ≤ 8 ^ 6 := Nat.pow_le_pow_right (by decide) l
      show (orders _ _ _).length < _
      omega
    have hd : bind2 (bind2 (dVar 2) (lstF (consA (dC .non) nilA)) addE) (dC (.int 0)) ixF [some (.sh, .fz (ns.map D.int)), some (.loc, bookD b), some (.loc, ordersD (ords (usesOf b.rows) (sortS (namesOf b.rows))))] = .ok (match (ords (usesOf b.rows) (sortS (namesOf b.rows))) with | [] => (.fr, .non) | o :: _ => (.bo, .lst (S2 o))) := by
      have z1 : 1 ≤ sizeLine := by rw [sizeLine_eq]; omega
      have lf : lstF (consA (dC .non) nilA) [some (.sh, .fz (ns.map D.int)), some (.loc, bookD b), some (.loc, ordersD (ords (usesOf b.rows) (sortS (namesOf b.rows))))] = .ok (.fr, .lst [.non]) := by
        simp [lstF, consA, nilA, dC, z1]
      unfold bind2
      rw [v2, lf]
      cases q : ords (usesOf b.rows) (sortS (namesOf b.rows)) with
      | nil => simp [ordersD, ordD2, addE, addD, immL, imm, z1, dC, ixF, atI, ixN, up]
      | cons o os =>
        rw [q] at few
        have z : os.length + 1 + 1 ≤ sizeLine := by rw [sizeLine_eq]; simp at few; omega
        have p : (0 : Int) < ((os.length : Nat) : Int) + 1 + 1 := by omega
        simp [ordersD, ordD2, addE, addD, addN, immL, imm, z, dC, ixF, atI, ixN, up, p]
    unfold xIf blOf bind2
    unfold bind2 at hd
    rw [c1, hd]
    cases q : ords (usesOf b.rows) (sortS (namesOf b.rows)) with
    | nil => simp [optD, eqD, okP, toP, SeqAt.shaped, PyData.canLay0, PyData.depth, eqvD, PyData.eqv, xNext]
    | cons o os =>
      have o1 := ok_lst (nmL o (by rw [q]; exact List.mem_cons_self))
      simp [optD, eqD, o1, eqv_lst, xNext]
  have x5 : xRet (bind2 (callF F_ranks (consA (dVar 1) nilA)) (callF F__law_ranks (consA (dVar 1) nilA)) (eqD false)) [some (.sh, .fz (ns.map D.int)), some (.loc, bookD b), some (.loc, ordersD (ords (usesOf b.rows) (sortS (namesOf b.rows))))] = .rt (.bl true) [some (.sh, .fz (ns.map D.int)), some (.loc, bookD b), some (.loc, ordersD (ords (usesOf b.rows) (sortS (namesOf b.rows))))] := by
    have v1 : dVar 1 [some (.sh, .fz (ns.map D.int)), some (.loc, bookD b), some (.loc, ordersD (ords (usesOf b.rows) (sortS (namesOf b.rows))))] = .ok (.fr, bookD b) := by simp [dVar, up, ib]
    have c1 := callF1 v1 r1
    have c2 := callF1 v1 r2
    rw [xRet_app]
    unfold bind2
    rw [c1, c2]
    simp [eqD, or, rr]
  have st : startD 3 [D.fz (ns.map D.int)] = [some (.sh, .fz (ns.map D.int)), none, none] := rfl
  unfold F_law x_law defF
  rw [if_pos (by rfl), st, xSeq_nx x1, xSeq_nx x2, xSeq_nx x3, xSeq_nx x4, x5]
  rfl
end DL
namespace DL
open PySem L2
abbrev top (i : Nat) : Stmt := PySem.Challenge.pw_latebring_k15_orders.main.body.getD i (.Pass ⟨0, 0, 0, 0⟩)
section
variable {P : Program} {w : World} {K : PySem.W.Frag} {mg : Str → Option Value} {base : Heap} {cls : Str → Addr}
theorem sc_is_within : FnScope ["thing", "low", "high"] ["thing", "low", "high"] (defScope (top 7)) := ⟨rfl, rfl, rfl, by decide +kernel, rfl, by decide +kernel, by decide +kernel⟩
theorem ok_is_within {f : Addr} {fd : FuncData} (Fu : FnP K "is_within" (top 7) f fd) (m_ : mg "is_within" = some (.ref f)) (m_int : mg "int" = none) (m_isinstance : mg "isinstance" = none) (m_bool : mg "bool" = none) : Fn P w K mg base cls "is_within" 1 F_is_within := by
  refine fn_make (k := 0) (t := tX x_is_within) Fu m_ sc_is_within (fun _ _ _ _ _ _ us hl => match us, hl with | [_, _, _], _ => rfl) (fun cdv A outer s H E C W ec F => ?_) (fun ds h => defF_len ds h) (fun ds h => defF_sem ds h)
  subst ec
  exact (xs_one (xs_ret (pd_and (pd_b (b_isi) isiF_nx rfl m_isinstance (by decide +kernel) (pl_cons (pd_var 0) (pl_cons (pd_ty (n := "int") rfl m_int (by decide +kernel)) pl_nil))) (pd_and (pd_not (pd_b (b_isi) isiF_nx rfl m_isinstance (by decide +kernel) (pl_cons (pd_var 0) (pl_cons (pd_ty (n := "bool") rfl m_bool (by decide +kernel)) pl_nil)))) (pd_one (pd_lele (pd_var 1) (pd_var 0) (pd_var 2)))))))
theorem sc_is_name : FnScope ["thing", "sign"] ["thing"] (defScope (top 8)) := ⟨rfl, rfl, rfl, by decide +kernel, rfl, by decide +kernel, by decide +kernel⟩
theorem ok_is_name {f : Addr} {fd : FuncData} (Fu : FnP K "is_name" (top 8) f fd) (m_ : mg "is_name" = some (.ref f)) (m_str : mg "str" = none) (m_isinstance : mg "isinstance" = none) (m_len : mg "len" = none) {k_LETTERS : Tok} (m_LETTERS : mg "LETTERS" = some (.str "abcdefghijklmnopqrstuvwxyz" k_LETTERS)) : Fn P w K mg base cls "is_name" 1 F_is_name := by
  refine fn_make (k := 0) (t := tX x_is_name) Fu m_ sc_is_name (fun _ _ _ _ _ _ us hl => match us, hl with | [_], _ => rfl) (fun cdv A outer s H E C W ec F => ?_) (fun ds h => defF_len ds h) (fun ds h => defF_sem ds h)
  subst ec
  exact (xs_one (xs_ret (pd_and (pd_b (b_isi) isiF_nx rfl m_isinstance (by decide +kernel) (pl_cons (pd_var 0) (pl_cons (pd_ty (n := "str") rfl m_str (by decide +kernel)) pl_nil))) (pd_and (pd_lele pd_int (pd_b (b_len F.hK) lenF_nx rfl m_len (by decide +kernel) (pl_cons (pd_var 0) pl_nil)) pd_int) (pd_one (pd_not (pd_lc [("sign", 1)] F (di_walk (pd_var 0)) (by kernel_rfl) (by rfl) (fun _ _ _ _ _ F1 => (dg_name (i := 1) F1 rfl (by first | exact .inl rfl | exact .inr rfl))) (fun _ _ _ _ _ F1 => (dts_one (td_notIn F1 (pd_var 1) (pd_gstr rfl m_LETTERS)))) (fun _ _ _ _ _ F1 => (pd_var 1)))))))))
theorem sc_is_row : FnScope ["thing", "one"] ["thing"] (defScope (top 9)) := ⟨rfl, rfl, rfl, by decide +kernel, rfl, by decide +kernel, by decide +kernel⟩
theorem ok_is_row {f : Addr} {fd : FuncData} (Fu : FnP K "is_row" (top 9) f fd) (m_ : mg "is_row" = some (.ref f)) (m_tuple : mg "tuple" = none) (m_isinstance : mg "isinstance" = none) (m_len : mg "len" = none) (G_is_name : Fn P w K mg base cls "is_name" 1 F_is_name) (G_is_within : Fn P w K mg base cls "is_within" 1 F_is_within) : Fn P w K mg base cls "is_row" 2 F_is_row := by
  refine fn_make (k := 1) (t := tX x_is_row) Fu m_ sc_is_row (fun _ _ _ _ _ _ us hl => match us, hl with | [_], _ => rfl) (fun cdv A outer s H E C W ec F => ?_) (fun ds h => defF_len ds h) (fun ds h => defF_sem ds h)
  subst ec
  exact (xs_cons (xs_if (td_orW (tw_or (td_not (pt_of (pd_b (b_isi) isiF_nx rfl m_isinstance (by decide +kernel) (pl_cons (pd_var 0) (pl_cons (pd_ty (n := "tuple") rfl m_tuple (by decide +kernel)) pl_nil))))) (tw_or (td_ne F (pd_b (b_len F.hK) lenF_nx rfl m_len (by decide +kernel) (pl_cons (pd_var 0) pl_nil)) pd_int) (tw_or (td_not (pt_of (pd_call F G_is_name (by decide) rfl (pl_cons (pd_ix F (pd_var 0) pd_int) pl_nil)))) (tw_or1 (td_not (pt_of (pd_call F G_is_within (by decide) rfl (pl_cons (pd_ix F (pd_var 0) pd_int) (pl_cons (pd_neg pd_int) (pl_cons pd_int pl_nil)))))))))))
    (xs_one (xs_ret pd_bl))
    xs_nil)
    (xs_one (xs_ret (pd_and (pd_b (b_isi) isiF_nx rfl m_isinstance (by decide +kernel) (pl_cons (pd_ix F (pd_var 0) pd_int) (pl_cons (pd_ty (n := "tuple") rfl m_tuple (by decide +kernel)) pl_nil))) (pd_and (pd_le (pd_b (b_len F.hK) lenF_nx rfl m_len (by decide +kernel) (pl_cons (pd_ix F (pd_var 0) pd_int) pl_nil)) pd_int) (pd_one (pd_not (pd_lc [("one", 1)] F (di_walk (pd_ix F (pd_var 0) pd_int)) (by kernel_rfl) (by rfl) (fun _ _ _ _ _ F1 => (dg_name (i := 1) F1 rfl (by first | exact .inl rfl | exact .inr rfl))) (fun _ _ _ _ _ F1 => (dts_one (td_not (pt_of (pd_call F1 G_is_name (by decide) rfl (pl_cons (pd_var 1) pl_nil)))))) (fun _ _ _ _ _ F1 => (pd_var 1))))))))))
theorem sc_are_rows : FnScope ["thing", "names", "name", "number", "uses", "row", "use"] ["thing"] (defScope (top 10)) := ⟨rfl, rfl, rfl, by decide +kernel, rfl, by decide +kernel, by decide +kernel⟩
theorem ok_are_rows {f : Addr} {fd : FuncData} (Fu : FnP K "are_rows" (top 10) f fd) (m_ : mg "are_rows" = some (.ref f)) (m_tuple : mg "tuple" = none) (m_isinstance : mg "isinstance" = none) (m_len : mg "len" = none) (m_set : mg "set" = none) {k_MOST_NAMES : Tok} (m_MOST_NAMES : mg "MOST_NAMES" = some (.int 8 k_MOST_NAMES)) (G_is_row : Fn P w K mg base cls "is_row" 2 F_is_row) : Fn P w K mg base cls "are_rows" 3 F_are_rows := by
  refine fn_make (k := 2) (t := tX x_are_rows) Fu m_ sc_are_rows (fun _ _ _ _ _ _ us hl => match us, hl with | [_], _ => rfl) (fun cdv A outer s H E C W ec F => ?_) (fun ds h => defF_len ds h) (fun ds h => defF_sem ds h)
  subst ec
  exact (xs_cons (xs_if (td_orW (tw_or (td_not (pt_of (pd_b (b_isi) isiF_nx rfl m_isinstance (by decide +kernel) (pl_cons (pd_var 0) (pl_cons (pd_ty (n := "tuple") rfl m_tuple (by decide +kernel)) pl_nil))))) (tw_or (td_not (td_lele pd_int (pd_b (b_len F.hK) lenF_nx rfl m_len (by decide +kernel) (pl_cons (pd_var 0) pl_nil)) (pd_gint rfl m_MOST_NAMES))) (tw_or1 (pt_of (pd_lc [("row", 5)] F (di_walk (pd_var 0)) (by kernel_rfl) (by rfl) (fun _ _ _ _ _ F1 => (dg_name (i := 5) F1 rfl (by first | exact .inl rfl | exact .inr rfl))) (fun _ _ _ _ _ F1 => (dts_one (td_not (pt_of (pd_call F1 G_is_row (by decide) rfl (pl_cons (pd_var 5) pl_nil)))))) (fun _ _ _ _ _ F1 => (pd_var 5))))))))
    (xs_one (xs_ret pd_bl))
    xs_nil)
    (xs_cons (xs_set (i := 1) F rfl (by first | exact .inl rfl | exact .inr rfl) (pd_lc [("row", 5)] F (di_walk (pd_var 0)) (by kernel_rfl) (by rfl) (fun _ _ _ _ _ F1 => (dg_name (i := 5) F1 rfl (by first | exact .inl rfl | exact .inr rfl))) (fun _ _ _ _ _ F1 => dts_nil) (fun _ _ _ _ _ F1 => (pd_ix F1 (pd_var 5) pd_int))))
    (xs_cons (xs_sh 0 (xs_for F (di_walk (pd_var 0)) (dg_tup F (dgs_cons (dg_name (i := 2) F rfl (by first | exact .inl rfl | exact .inr rfl)) (dgs_cons (dg_name (i := 3) F rfl (by first | exact .inl rfl | exact .inr rfl)) (dgs_cons (dg_name (i := 4) F rfl (by first | exact .inl rfl | exact .inr rfl)) dgs_nil))))
    (xs_one (xs_if (td_orW (tw_or (td_in F (pd_var 2) (pd_var 4)) (tw_or (td_ne F (pd_lenSet F rfl m_len rfl m_set (pd_var 4)) (pd_b (b_len F.hK) lenF_nx rfl m_len (by decide +kernel) (pl_cons (pd_var 4) pl_nil))) (tw_or1 (pt_of (pd_lc [("use", 6)] F (di_walk (pd_var 4)) (by kernel_rfl) (by rfl) (fun _ _ _ _ _ F1 => (dg_name (i := 6) F1 rfl (by first | exact .inl rfl | exact .inr rfl))) (fun _ _ _ _ _ F1 => (dts_one (td_notIn F1 (pd_var 6) (pd_var 1)))) (fun _ _ _ _ _ F1 => (pd_var 6))))))))
    (xs_one (xs_ret pd_bl))
    xs_nil))))
    (xs_one (xs_ret (pd_eq F (pd_lenSet F rfl m_len rfl m_set (pd_var 1)) (pd_b (b_len F.hK) lenF_nx rfl m_len (by decide +kernel) (pl_cons (pd_var 1) pl_nil))))))))
theorem sc_are_places : FnScope ["rows", "thing", "file"] ["rows", "thing"] (defScope (top 11)) := ⟨rfl, rfl, rfl, by decide +kernel, rfl, by decide +kernel, by decide +kernel⟩
theorem ok_are_places {f : Addr} {fd : FuncData} (Fu : FnP K "are_places" (top 11) f fd) (m_ : mg "are_places" = some (.ref f)) (m_tuple : mg "tuple" = none) (m_isinstance : mg "isinstance" = none) (m_len : mg "len" = none) {k_MOST_FILE : Tok} (m_MOST_FILE : mg "MOST_FILE" = some (.int 3 k_MOST_FILE)) (G_is_within : Fn P w K mg base cls "is_within" 1 F_is_within) : Fn P w K mg base cls "are_places" 2 F_are_places := by
  refine fn_make (k := 1) (t := tX x_are_places) Fu m_ sc_are_places (fun _ _ _ _ _ _ us hl => match us, hl with | [_, _], _ => rfl) (fun cdv A outer s H E C W ec F => ?_) (fun ds h => defF_len ds h) (fun ds h => defF_sem ds h)
  subst ec
  exact (xs_cons (xs_if (td_orW (tw_or (td_not (pt_of (pd_b (b_isi) isiF_nx rfl m_isinstance (by decide +kernel) (pl_cons (pd_var 1) (pl_cons (pd_ty (n := "tuple") rfl m_tuple (by decide +kernel)) pl_nil))))) (tw_or1 (td_ne F (pd_b (b_len F.hK) lenF_nx rfl m_len (by decide +kernel) (pl_cons (pd_var 1) pl_nil)) (pd_b (b_len F.hK) lenF_nx rfl m_len (by decide +kernel) (pl_cons (pd_var 0) pl_nil))))))
    (xs_one (xs_ret pd_bl))
    xs_nil)
    (xs_one (xs_ret (pd_not (pd_lc [("file", 2)] F (di_walk (pd_var 1)) (by kernel_rfl) (by rfl) (fun _ _ _ _ _ F1 => (dg_name (i := 2) F1 rfl (by first | exact .inl rfl | exact .inr rfl))) (fun _ _ _ _ _ F1 => (dts_one (td_not (pt_of (pd_call F1 G_is_within (by decide) rfl (pl_cons (pd_var 2) (pl_cons pd_int (pl_cons (pd_gint rfl m_MOST_FILE) pl_nil)))))))) (fun _ _ _ _ _ F1 => (pd_var 2)))))))
theorem sc_are_late : FnScope ["rows", "thing", "names", "row", "name"] ["rows", "thing"] (defScope (top 12)) := ⟨rfl, rfl, rfl, by decide +kernel, rfl, by decide +kernel, by decide +kernel⟩
theorem ok_are_late {f : Addr} {fd : FuncData} (Fu : FnP K "are_late" (top 12) f fd) (m_ : mg "are_late" = some (.ref f)) (m_tuple : mg "tuple" = none) (m_isinstance : mg "isinstance" = none) (m_list : mg "list" = none) (m_sorted : mg "sorted" = none) (m_set : mg "set" = none) (G_is_name : Fn P w K mg base cls "is_name" 1 F_is_name) : Fn P w K mg base cls "are_late" 2 F_are_late := by
  refine fn_make (k := 1) (t := tX x_are_late) Fu m_ sc_are_late (fun _ _ _ _ _ _ us hl => match us, hl with | [_, _], _ => rfl) (fun cdv A outer s H E C W ec F => ?_) (fun ds h => defF_len ds h) (fun ds h => defF_sem ds h)
  subst ec
  exact (xs_cons (xs_if (td_orW (tw_or (td_not (pt_of (pd_b (b_isi) isiF_nx rfl m_isinstance (by decide +kernel) (pl_cons (pd_var 1) (pl_cons (pd_ty (n := "tuple") rfl m_tuple (by decide +kernel)) pl_nil))))) (tw_or1 (pt_of (pd_lc [("name", 4)] F (di_walk (pd_var 1)) (by kernel_rfl) (by rfl) (fun _ _ _ _ _ F1 => (dg_name (i := 4) F1 rfl (by first | exact .inl rfl | exact .inr rfl))) (fun _ _ _ _ _ F1 => (dts_one (td_not (pt_of (pd_call F1 G_is_name (by decide) rfl (pl_cons (pd_var 4) pl_nil)))))) (fun _ _ _ _ _ F1 => (pd_var 4)))))))
    (xs_one (xs_ret pd_bl))
    xs_nil)
    (xs_cons (xs_set (i := 2) F rfl (by first | exact .inl rfl | exact .inr rfl) (pd_lc [("row", 3)] F (di_walk (pd_var 0)) (by kernel_rfl) (by rfl) (fun _ _ _ _ _ F1 => (dg_name (i := 3) F1 rfl (by first | exact .inl rfl | exact .inr rfl))) (fun _ _ _ _ _ F1 => dts_nil) (fun _ _ _ _ _ F1 => (pd_ix F1 (pd_var 3) pd_int))))
    (xs_one (xs_ret (pd_and (pd_eq F (pd_bT (b_list F) listF_nx rfl m_list (by decide +kernel) (pl_cons (pd_var 1) pl_nil)) (pd_sortSet F rfl m_sorted rfl m_set (pd_var 1))) (pd_one (pd_not (pd_lc [("name", 4)] F (di_walk (pd_var 1)) (by kernel_rfl) (by rfl) (fun _ _ _ _ _ F1 => (dg_name (i := 4) F1 rfl (by first | exact .inl rfl | exact .inr rfl))) (fun _ _ _ _ _ F1 => (dts_one (td_notIn F1 (pd_var 4) (pd_var 2)))) (fun _ _ _ _ _ F1 => (pd_var 4))))))))))
theorem sc_is_book : FnScope ["thing"] ["thing"] (defScope (top 13)) := ⟨rfl, rfl, rfl, by decide +kernel, rfl, by decide +kernel, by decide +kernel⟩
theorem ok_is_book {f : Addr} {fd : FuncData} (Fu : FnP K "is_book" (top 13) f fd) (m_ : mg "is_book" = some (.ref f)) (m_tuple : mg "tuple" = none) (m_isinstance : mg "isinstance" = none) (m_len : mg "len" = none) (G_are_rows : Fn P w K mg base cls "are_rows" 3 F_are_rows) (G_are_places : Fn P w K mg base cls "are_places" 2 F_are_places) (G_are_late : Fn P w K mg base cls "are_late" 2 F_are_late) : Fn P w K mg base cls "is_book" 4 F_is_book := by
  refine fn_make (k := 3) (t := tX x_is_book) Fu m_ sc_is_book (fun _ _ _ _ _ _ us hl => match us, hl with | [_], _ => rfl) (fun cdv A outer s H E C W ec F => ?_) (fun ds h => defF_len ds h) (fun ds h => defF_sem ds h)
  subst ec
  exact (xs_cons (xs_if (td_orW (tw_or (td_not (pt_of (pd_b (b_isi) isiF_nx rfl m_isinstance (by decide +kernel) (pl_cons (pd_var 0) (pl_cons (pd_ty (n := "tuple") rfl m_tuple (by decide +kernel)) pl_nil))))) (tw_or (td_ne F (pd_b (b_len F.hK) lenF_nx rfl m_len (by decide +kernel) (pl_cons (pd_var 0) pl_nil)) pd_int) (tw_or1 (td_not (pt_of (pd_call F G_are_rows (by decide) rfl (pl_cons (pd_ix F (pd_var 0) pd_int) pl_nil))))))))
    (xs_one (xs_ret pd_bl))
    xs_nil)
    (xs_one (xs_ret (pd_and (pd_call F G_are_places (by decide) rfl (pl_cons (pd_ix F (pd_var 0) pd_int) (pl_cons (pd_ix F (pd_var 0) pd_int) pl_nil))) (pd_one (pd_call F G_are_late (by decide) rfl (pl_cons (pd_ix F (pd_var 0) pd_int) (pl_cons (pd_ix F (pd_var 0) pd_int) pl_nil))))))))
theorem sc_look : FnScope ["book"] ["book"] (defScope (top 14)) := ⟨rfl, rfl, rfl, by decide +kernel, rfl, by decide +kernel, by decide +kernel⟩
theorem ok_look {f : Addr} {fd : FuncData} (Fu : FnP K "look" (top 14) f fd) (m_ : mg "look" = some (.ref f)) (G_is_book : Fn P w K mg base cls "is_book" 4 F_is_book) (X_NoBook : ExcT K mg cls "NoBook") : Fn P w K mg base cls "look" 5 F_look := by
  refine fn_make (k := 4) (t := tX x_look) Fu m_ sc_look (fun _ _ _ _ _ _ us hl => match us, hl with | [_], _ => rfl) (fun cdv A outer s H E C W ec F => ?_) (fun ds h => defF_len ds h) (fun ds h => defF_sem ds h)
  subst ec
  exact (xs_one (xs_if (td_not (pt_of (pd_call F G_is_book (by decide) rfl (pl_cons (pd_var 0) pl_nil))))
    (xs_one (xs_raise F X_NoBook rfl))
    xs_nil))
theorem sc_uses_of : FnScope ["book", "name", "number", "uses"] ["book"] (defScope (top 15)) := ⟨rfl, rfl, rfl, by decide +kernel, rfl, by decide +kernel, by decide +kernel⟩
theorem ok_uses_of {f : Addr} {fd : FuncData} (Fu : FnP K "uses_of" (top 15) f fd) (m_ : mg "uses_of" = some (.ref f)) (m_dict : mg "dict" = none) : Fn P w K mg base cls "uses_of" 1 F_uses_of := by
  refine fn_make (k := 0) (t := tX x_uses_of) Fu m_ sc_uses_of (fun _ _ _ _ _ _ us hl => match us, hl with | [_], _ => rfl) (fun cdv A outer s H E C W ec F => ?_) (fun ds h => defF_len ds h) (fun ds h => defF_sem ds h)
  subst ec
  exact (xs_one (xs_ret (pd_bT (b_dict F) dictF_nx rfl m_dict (by decide +kernel) (pl_cons (pd_lc [("name", 1), ("number", 2), ("uses", 3)] F (di_walk (pd_ix F (pd_var 0) pd_int)) (by kernel_rfl) (by rfl) (fun _ _ _ _ _ F1 => (dg_tup F1 (dgs_cons (dg_name (i := 1) F1 rfl (by first | exact .inl rfl | exact .inr rfl)) (dgs_cons (dg_name (i := 2) F1 rfl (by first | exact .inl rfl | exact .inr rfl)) (dgs_cons (dg_name (i := 3) F1 rfl (by first | exact .inl rfl | exact .inr rfl)) dgs_nil))))) (fun _ _ _ _ _ F1 => dts_nil) (fun _ _ _ _ _ F1 => (pd_tup (pl_cons (pd_var 1) (pl_cons (pd_var 3) pl_nil))))) pl_nil))))
theorem sc_ways_from : FnScope ["uses", "left", "known", "found", "name", "use", "one"] ["uses", "left", "known"] (defScope (top 17)) := ⟨rfl, rfl, rfl, by decide +kernel, rfl, by decide +kernel, by decide +kernel⟩
theorem rec_ways_from {f : Addr} {fd : FuncData} (Fu : FnP K "ways_from" (top 17) f fd) (m_ : mg "ways_from" = some (.ref f)) (m_tuple : mg "tuple" = none) : ∀ n : Nat, FnIO P w K mg base cls "ways_from" 2 (n + 1) (R_ways_from n)
  | 0 => fn_makeIO (k := 0) (t := dNever) Fu m_ sc_ways_from (fun _ _ _ _ _ _ us hl => match us, hl with | [_, _, _], _ => rfl) (fun cdv A outer s H E C W ec F => dss_never) (fun ds h => absurd rfl h) (fun ds h => absurd rfl h)
  | n + 1 => by
    have G_ways_from := rec_ways_from Fu m_ m_tuple n
    refine fn_makeIO (k := n + 1) (t := tX (x_ways_from (R_ways_from n))) Fu m_ sc_ways_from (fun _ _ _ _ _ _ us hl => match us, hl with | [_, _, _], _ => rfl) (fun cdv A outer s H E C W ec F => ?_) (fun ds h => defIO_len ds h) (fun ds h => defIO_sem ds h)
    subst ec
    have h_rec : n + 1 ≤ n + 1 := Nat.le_refl _
    exact (xs_cons (xs_if (td_not (pt_of (pd_var 1)))
    (xs_one (xs_ret pd_int))
    xs_nil)
    (xs_cons (xs_if (td_notIn F (pd_var 1) (pd_var 2))
    (xs_cons (xs_set (i := 3) F rfl (by first | exact .inl rfl | exact .inr rfl) pd_int)
    (xs_cons (xs_sh 1 (xs_for F (di_walk (pd_var 1)) (dg_name (i := 4) F rfl (by first | exact .inl rfl | exact .inr rfl))
    (xs_one (xs_if (td_not (pt_of (pd_lc [("use", 5)] F (di_walk (pd_ix F (pd_var 0) (pd_var 4))) (by kernel_rfl) (by rfl) (fun _ _ _ _ _ F1 => (dg_name (i := 5) F1 rfl (by first | exact .inl rfl | exact .inr rfl))) (fun _ _ _ _ _ F1 => (dts_one (td_in F1 (pd_var 5) (pd_var 1)))) (fun _ _ _ _ _ F1 => (pd_var 5)))))
    (xs_one (xs_iaddE 3 F (pe_callIo F G_ways_from h_rec rfl (px_var 0 (px_cons (pd_bT (b_tuple F.hK) tupB_nx rfl m_tuple (by decide +kernel) (pl_cons (pd_lc [("one", 6)] F (di_walk (pd_var 1)) (by kernel_rfl) (by rfl) (fun _ _ _ _ _ F1 => (dg_name (i := 6) F1 rfl (by first | exact .inl rfl | exact .inr rfl))) (fun _ _ _ _ _ F1 => (dts_one (td_ne F1 (pd_var 6) (pd_var 4)))) (fun _ _ _ _ _ F1 => (pd_var 6))) pl_nil)) (px_var 2 px_nil))))))
    xs_nil))))
    (xs_one (xs_put 2 F (pd_var 1) (pd_var 3)))))
    xs_nil)
    (xs_one (xs_ret (pd_ix F (pd_var 2) (pd_var 1))))))
theorem ok_ways_from {f : Addr} {fd : FuncData} (Fu : FnP K "ways_from" (top 17) f fd) (m_ : mg "ways_from" = some (.ref f)) (m_tuple : mg "tuple" = none) : FnIO P w K mg base cls "ways_from" 2 13 F_ways_from := rec_ways_from Fu m_ m_tuple 12
theorem sc_how_many_orders : FnScope ["book", "uses"] ["book"] (defScope (top 18)) := ⟨rfl, rfl, rfl, by decide +kernel, rfl, by decide +kernel, by decide +kernel⟩
theorem ok_how_many_orders {f : Addr} {fd : FuncData} (Fu : FnP K "how_many_orders" (top 18) f fd) (m_ : mg "how_many_orders" = some (.ref f)) (m_sorted : mg "sorted" = none) (m_tuple : mg "tuple" = none) (G_look : Fn P w K mg base cls "look" 5 F_look) (G_uses_of : Fn P w K mg base cls "uses_of" 1 F_uses_of) (G_ways_from : FnIO P w K mg base cls "ways_from" 2 13 F_ways_from) : Fn P w K mg base cls "how_many_orders" 14 F_how_many_orders := by
  refine fn_make (k := 13) (t := tX x_how_many_orders) Fu m_ sc_how_many_orders (fun _ _ _ _ _ _ us hl => match us, hl with | [_], _ => rfl) (fun cdv A outer s H E C W ec F => ?_) (fun ds h => defF_len ds h) (fun ds h => defF_sem ds h)
  subst ec
  exact (xs_cons (xs_expr (pd_call F G_look (by decide) rfl (pl_cons (pd_var 0) pl_nil)))
    (xs_cons (xs_set (i := 1) F rfl (by first | exact .inl rfl | exact .inr rfl) (pd_call F G_uses_of (by decide) rfl (pl_cons (pd_var 0) pl_nil)))
    (xs_one (xs_retE (pe_callIo F G_ways_from (by decide) rfl (px_var 1 (px_cons (pd_bT (b_tuple F.hK) tupB_nx rfl m_tuple (by decide +kernel) (pl_cons (pd_b (b_sorted F) sortF_nx rfl m_sorted (by decide +kernel) (pl_cons (pd_var 1) pl_nil)) pl_nil)) (px_cons pd_dnewT px_nil))))))))
theorem sc_least_order : FnScope ["book", "uses", "left", "found", "free", "name", "use"] ["book"] (defScope (top 19)) := ⟨rfl, rfl, rfl, by decide +kernel, rfl, by decide +kernel, by decide +kernel⟩
theorem ok_least_order {f : Addr} {fd : FuncData} (Fu : FnP K "least_order" (top 19) f fd) (m_ : mg "least_order" = some (.ref f)) (m_sorted : mg "sorted" = none) (G_look : Fn P w K mg base cls "look" 5 F_look) (G_uses_of : Fn P w K mg base cls "uses_of" 1 F_uses_of) : Fn P w K mg base cls "least_order" 6 F_least_order := by
  refine fn_make (k := 5) (t := tX x_least_order) Fu m_ sc_least_order (fun _ _ _ _ _ _ us hl => match us, hl with | [_], _ => rfl) (fun cdv A outer s H E C W ec F => ?_) (fun ds h => defF_len ds h) (fun ds h => defF_sem ds h)
  subst ec
  exact (xs_cons (xs_expr (pd_call F G_look (by decide) rfl (pl_cons (pd_var 0) pl_nil)))
    (xs_cons (xs_set (i := 1) F rfl (by first | exact .inl rfl | exact .inr rfl) (pd_call F G_uses_of (by decide) rfl (pl_cons (pd_var 0) pl_nil)))
    (xs_cons (xs_set (i := 2) F rfl (by first | exact .inl rfl | exact .inr rfl) (pd_b (b_sorted F) sortF_nx rfl m_sorted (by decide +kernel) (pl_cons (pd_var 1) pl_nil)))
    (xs_cons (xs_set (i := 3) F rfl (by first | exact .inl rfl | exact .inr rfl) (pd_lst pl_nil))
    (xs_cons (xs_while 1000 F (pt_of (pd_var 2))
    (xs_cons (xs_set (i := 4) F rfl (by first | exact .inl rfl | exact .inr rfl) (pd_lc [("name", 5)] F (di_walk (pd_var 2)) (by kernel_rfl) (by rfl) (fun _ _ _ _ _ F1 => (dg_name (i := 5) F1 rfl (by first | exact .inl rfl | exact .inr rfl))) (fun _ _ _ _ _ F1 => (dts_one (td_not (pt_of (pd_lc [("use", 6)] F1 (di_walk (pd_ix F1 (pd_var 1) (pd_var 5))) (by kernel_rfl) (by rfl) (fun _ _ _ _ _ F2 => (dg_name (i := 6) F2 rfl (by first | exact .inl rfl | exact .inr rfl))) (fun _ _ _ _ _ F2 => (dts_one (td_in F2 (pd_var 6) (pd_var 2)))) (fun _ _ _ _ _ F2 => (pd_var 6))))))) (fun _ _ _ _ _ F1 => (pd_var 5))))
    (xs_cons (xs_if (td_not (pt_of (pd_var 4)))
    (xs_one (xs_ret pd_non))
    xs_nil)
    (xs_cons (xs_app 3 F (pd_ix F (pd_var 4) pd_int))
    (xs_one (xs_set (i := 2) F rfl (by first | exact .inl rfl | exact .inr rfl) (pd_lc [("name", 5)] F (di_walk (pd_var 2)) (by kernel_rfl) (by rfl) (fun _ _ _ _ _ F1 => (dg_name (i := 5) F1 rfl (by first | exact .inl rfl | exact .inr rfl))) (fun _ _ _ _ _ F1 => (dts_one (td_ne F1 (pd_var 5) (pd_ix F1 (pd_var 4) pd_int)))) (fun _ _ _ _ _ F1 => (pd_var 5)))))))))
    (xs_one (xs_ret (pd_var 3))))))))
theorem sc_ranks : FnScope ["book", "uses", "known", "turn", "name", "row", "use"] ["book"] (defScope (top 20)) := ⟨rfl, rfl, rfl, by decide +kernel, rfl, by decide +kernel, by decide +kernel⟩
theorem ok_ranks {f : Addr} {fd : FuncData} (Fu : FnP K "ranks" (top 20) f fd) (m_ : mg "ranks" = some (.ref f)) (m_range : mg "range" = none) (m_len : mg "len" = none) (m_max : mg "max" = none) (G_look : Fn P w K mg base cls "look" 5 F_look) (G_uses_of : Fn P w K mg base cls "uses_of" 1 F_uses_of) : Fn P w K mg base cls "ranks" 6 F_ranks := by
  refine fn_make (k := 5) (t := tX x_ranks) Fu m_ sc_ranks (fun _ _ _ _ _ _ us hl => match us, hl with | [_], _ => rfl) (fun cdv A outer s H E C W ec F => ?_) (fun ds h => defF_len ds h) (fun ds h => defF_sem ds h)
  subst ec
  exact (xs_cons (xs_expr (pd_call F G_look (by decide) rfl (pl_cons (pd_var 0) pl_nil)))
    (xs_cons (xs_set (i := 1) F rfl (by first | exact .inl rfl | exact .inr rfl) (pd_call F G_uses_of (by decide) rfl (pl_cons (pd_var 0) pl_nil)))
    (xs_cons (xs_set (i := 2) F rfl (by first | exact .inl rfl | exact .inr rfl) pd_dnewK)
    (xs_cons (xs_for F (di_rng1 rfl m_range (pd_b (b_len F.hK) lenF_nx rfl m_len (by decide +kernel) (pl_cons (pd_var 1) pl_nil))) (dg_name (i := 3) F rfl (by first | exact .inl rfl | exact .inr rfl))
    (xs_one (xs_forK 1 F (dg_name (i := 4) F rfl (by first | exact .inl rfl | exact .inr rfl))
    (xs_one (xs_if (td_andW (tw_and (td_notIn F (pd_var 4) (pd_var 2)) (tw_and1 (td_not (pt_of (pd_lc [("use", 6)] F (di_walk (pd_ix F (pd_var 1) (pd_var 4))) (by kernel_rfl) (by rfl) (fun _ _ _ _ _ F1 => (dg_name (i := 6) F1 rfl (by first | exact .inl rfl | exact .inr rfl))) (fun _ _ _ _ _ F1 => (dts_one (td_notIn F1 (pd_var 6) (pd_var 2)))) (fun _ _ _ _ _ F1 => (pd_var 6))))))))
    (xs_one (xs_put 2 F (pd_var 4) (pd_b (b_max F) overI_nx rfl m_max (by decide +kernel) (pl_cons (pd_add F (pd_lst (pl_cons pd_int pl_nil)) (pd_lc [("use", 6)] F (di_walk (pd_ix F (pd_var 1) (pd_var 4))) (by kernel_rfl) (by rfl) (fun _ _ _ _ _ F1 => (dg_name (i := 6) F1 rfl (by first | exact .inl rfl | exact .inr rfl))) (fun _ _ _ _ _ F1 => dts_nil) (fun _ _ _ _ _ F1 => (pd_add F1 (pd_ix F1 (pd_var 2) (pd_var 6)) pd_int)))) pl_nil))))
    xs_nil)))))
    (xs_one (xs_ret (pd_lc [("row", 5)] F (di_walk (pd_ix F (pd_var 0) pd_int)) (by kernel_rfl) (by rfl) (fun _ _ _ _ _ F1 => (dg_name (i := 5) F1 rfl (by first | exact .inl rfl | exact .inr rfl))) (fun _ _ _ _ _ F1 => dts_nil) (fun _ _ _ _ _ F1 => (pd_tup (pl_cons (pd_ix F1 (pd_var 5) pd_int) (pl_cons (pd_get F1 (pd_var 2) (pd_ix F1 (pd_var 5) pd_int)) pl_nil)))))))))))
theorem sc__law_cell : FnScope ["_law_script", "_law_k"] ["_law_script", "_law_k"] (defScope (top 22)) := ⟨rfl, rfl, rfl, by decide +kernel, rfl, by decide +kernel, by decide +kernel⟩
theorem ok__law_cell {f : Addr} {fd : FuncData} (Fu : FnP K "_law_cell" (top 22) f fd) (m_ : mg "_law_cell" = some (.ref f)) (m_len : mg "len" = none) : Fn P w K mg base cls "_law_cell" 1 F__law_cell := by
  refine fn_make (k := 0) (t := tX x__law_cell) Fu m_ sc__law_cell (fun _ _ _ _ _ _ us hl => match us, hl with | [_, _], _ => rfl) (fun cdv A outer s H E C W ec F => ?_) (fun ds h => defF_len ds h) (fun ds h => defF_sem ds h)
  subst ec
  exact (xs_cons (xs_if (td_lt (pd_var 1) (pd_b (b_len F.hK) lenF_nx rfl m_len (by decide +kernel) (pl_cons (pd_var 0) pl_nil)))
    (xs_one (xs_ret (pd_ix F (pd_var 0) (pd_var 1))))
    xs_nil)
    (xs_one (xs_ret pd_int)))
theorem sc__law_whole : FnScope ["_law_found"] ["_law_found"] (defScope (top 23)) := ⟨rfl, rfl, rfl, by decide +kernel, rfl, by decide +kernel, by decide +kernel⟩
theorem ok__law_whole {f : Addr} {fd : FuncData} (Fu : FnP K "_law_whole" (top 23) f fd) (m_ : mg "_law_whole" = some (.ref f)) (m_int : mg "int" = none) (m_isinstance : mg "isinstance" = none) (m_bool : mg "bool" = none) : Fn P w K mg base cls "_law_whole" 1 F__law_whole := by
  refine fn_make (k := 0) (t := tX x__law_whole) Fu m_ sc__law_whole (fun _ _ _ _ _ _ us hl => match us, hl with | [_], _ => rfl) (fun cdv A outer s H E C W ec F => ?_) (fun ds h => defF_len ds h) (fun ds h => defF_sem ds h)
  subst ec
  exact (xs_one (xs_ret (pd_and (pd_b (b_isi) isiF_nx rfl m_isinstance (by decide +kernel) (pl_cons (pd_var 0) (pl_cons (pd_ty (n := "int") rfl m_int (by decide +kernel)) pl_nil))) (pd_one (pd_not (pd_b (b_isi) isiF_nx rfl m_isinstance (by decide +kernel) (pl_cons (pd_var 0) (pl_cons (pd_ty (n := "bool") rfl m_bool (by decide +kernel)) pl_nil))))))))
theorem sc__law_seed : FnScope ["_law_seed_here", "_law_k"] ["_law_seed_here", "_law_k"] (defScope (top 24)) := ⟨rfl, rfl, rfl, by decide +kernel, rfl, by decide +kernel, by decide +kernel⟩
theorem ok__law_seed {f : Addr} {fd : FuncData} (Fu : FnP K "_law_seed" (top 24) f fd) (m_ : mg "_law_seed" = some (.ref f)) : Fn P w K mg base cls "_law_seed" 1 F__law_seed := by
  refine fn_make (k := 0) (t := tX x__law_seed) Fu m_ sc__law_seed (fun _ _ _ _ _ _ us hl => match us, hl with | [_, _], _ => rfl) (fun cdv A outer s H E C W ec F => ?_) (fun ds h => defF_len ds h) (fun ds h => defF_sem ds h)
  subst ec
  exact (xs_one (xs_ret (pd_mod (pd_pow (pd_mod (pd_add F (pd_add F (pd_mul (pd_var 0) pd_int) (pd_mul pd_int (pd_var 1))) pd_int) pd_int) pd_int) pd_int)))
theorem sc__law_pick : FnScope ["_law_seed_here", "_law_many"] ["_law_seed_here", "_law_many"] (defScope (top 25)) := ⟨rfl, rfl, rfl, by decide +kernel, rfl, by decide +kernel, by decide +kernel⟩
theorem ok__law_pick {f : Addr} {fd : FuncData} (Fu : FnP K "_law_pick" (top 25) f fd) (m_ : mg "_law_pick" = some (.ref f)) : Fn P w K mg base cls "_law_pick" 1 F__law_pick := by
  refine fn_make (k := 0) (t := tX x__law_pick) Fu m_ sc__law_pick (fun _ _ _ _ _ _ us hl => match us, hl with | [_, _], _ => rfl) (fun cdv A outer s H E C W ec F => ?_) (fun ds h => defF_len ds h) (fun ds h => defF_sem ds h)
  subst ec
  exact (xs_one (xs_ret (pd_mod (pd_fdiv (pd_var 0) pd_int) (pd_var 1))))
theorem sc__law_book : FnScope ["_law_seed_here", "_law_most", "_law_names", "_law_k", "_law_name", "_law_rows", "_law_places", "_law_late", "_law_thick", "_law_uses_here", "_law_j", "_law_other"] ["_law_seed_here", "_law_most"] (defScope (top 26)) := ⟨rfl, rfl, rfl, by decide +kernel, rfl, by decide +kernel, by decide +kernel⟩
theorem ok__law_book {f : Addr} {fd : FuncData} (Fu : FnP K "_law_book" (top 26) f fd) (m_ : mg "_law_book" = some (.ref f)) (m_range : mg "range" = none) (m_enumerate : mg "enumerate" = none) (m_len : mg "len" = none) (m_tuple : mg "tuple" = none) (m_int : mg "int" = none) (m_sorted : mg "sorted" = none) (G__law_seed : Fn P w K mg base cls "_law_seed" 1 F__law_seed) (G__law_pick : Fn P w K mg base cls "_law_pick" 1 F__law_pick) : Fn P w K mg base cls "_law_book" 2 F__law_book := by
  refine fn_make (k := 1) (t := tX x__law_book) Fu m_ sc__law_book (fun _ _ _ _ _ _ us hl => match us, hl with | [_, _], _ => rfl) (fun cdv A outer s H E C W ec F => ?_) (fun ds h => defF_len ds h) (fun ds h => defF_sem ds h)
  subst ec
  exact (xs_cons (xs_set (i := 2) F rfl (by first | exact .inl rfl | exact .inr rfl) (pd_lst pl_nil))
    (xs_cons (xs_for F (di_rng1 rfl m_range (pd_add F pd_int (pd_call F G__law_pick (by decide) rfl (pl_cons (pd_call F G__law_seed (by decide) rfl (pl_cons (pd_var 0) (pl_cons pd_int pl_nil))) (pl_cons (pd_var 1) pl_nil))))) (dg_name (i := 3) F rfl (by first | exact .inl rfl | exact .inr rfl))
    (xs_cons (xs_set (i := 4) F rfl (by first | exact .inl rfl | exact .inr rfl) (pd_join F pd_str (pd_lc [("_law_j", 10)] F (di_rng1 rfl m_range (pd_add F pd_int (pd_mod (pd_fdiv (pd_var 0) pd_int) pd_int))) (by kernel_rfl) (by rfl) (fun _ _ _ _ _ F1 => (dg_name (i := 10) F1 rfl (by first | exact .inl rfl | exact .inr rfl))) (fun _ _ _ _ _ F1 => dts_nil) (fun _ _ _ _ _ F1 => (pd_ix F1 pd_str (pd_call F1 G__law_pick (by decide) rfl (pl_cons (pd_call F1 G__law_seed (by decide) rfl (pl_cons (pd_var 0) (pl_cons (pd_add F1 (pd_add F1 pd_int (pd_mul pd_int (pd_var 3))) (pd_var 10)) pl_nil))) (pl_cons pd_int pl_nil))))))))
    (xs_one (xs_if (td_notIn F (pd_var 4) (pd_var 2))
    (xs_one (xs_app 2 F (pd_var 4)))
    xs_nil))))
    (xs_cons (xs_par3 (i := 5) (j := 6) (l := 7) F rfl rfl rfl (by decide) (by decide) (by decide) rfl rfl rfl (pl_cons (pd_lst pl_nil) (pl_cons (pd_lst pl_nil) (pl_cons (pd_lst pl_nil) pl_nil))) (by rfl))
    (xs_cons (xs_set (i := 8) F rfl (by first | exact .inl rfl | exact .inr rfl) (pd_add F pd_int (pd_call F G__law_pick (by decide) rfl (pl_cons (pd_call F G__law_seed (by decide) rfl (pl_cons (pd_var 0) (pl_cons pd_int pl_nil))) (pl_cons pd_int pl_nil)))))
    (xs_cons (xs_sh 2 (xs_for F (di_enum rfl m_enumerate (pd_var 2)) (dg_tup F (dgs_cons (dg_name (i := 3) F rfl (by first | exact .inl rfl | exact .inr rfl)) (dgs_cons (dg_name (i := 4) F rfl (by first | exact .inl rfl | exact .inr rfl)) dgs_nil)))
    (xs_cons (xs_set (i := 9) F rfl (by first | exact .inl rfl | exact .inr rfl) (pd_lst pl_nil))
    (xs_cons (xs_for F (di_rng1 rfl m_range (pd_call F G__law_pick (by decide) rfl (pl_cons (pd_call F G__law_seed (by decide) rfl (pl_cons (pd_var 0) (pl_cons (pd_add F pd_int (pd_var 3)) pl_nil))) (pl_cons (pd_add F (pd_var 8) pd_int) pl_nil)))) (dg_name (i := 10) F rfl (by first | exact .inl rfl | exact .inr rfl))
    (xs_cons (xs_set (i := 11) F rfl (by first | exact .inl rfl | exact .inr rfl) (pd_ix F (pd_var 2) (pd_call F G__law_pick (by decide) rfl (pl_cons (pd_call F G__law_seed (by decide) rfl (pl_cons (pd_var 0) (pl_cons (pd_add F (pd_add F pd_int (pd_mul pd_int (pd_var 3))) (pd_var 10)) pl_nil))) (pl_cons (pd_b (b_len F.hK) lenF_nx rfl m_len (by decide +kernel) (pl_cons (pd_var 2) pl_nil)) pl_nil)))))
    (xs_one (xs_if (td_andW (tw_and (td_ne F (pd_var 11) (pd_var 4)) (tw_and (td_notIn F (pd_var 11) (pd_var 9)) (tw_and1 (td_orW (tw_or (td_gt (pd_mod (pd_fdiv (pd_var 0) pd_int) pd_int) pd_int) (tw_or1 (td_lt (pd_index F (pd_var 2) (pd_var 11)) (pd_var 3)))))))))
    (xs_one (xs_app 9 F (pd_var 11)))
    xs_nil))))
    (xs_cons (xs_app 5 F (pd_tup (pl_cons (pd_var 4) (pl_cons (pd_sub (pd_call F G__law_pick (by decide) rfl (pl_cons (pd_call F G__law_seed (by decide) rfl (pl_cons (pd_var 0) (pl_cons (pd_add F pd_int (pd_var 3)) pl_nil))) (pl_cons pd_int pl_nil))) pd_int) (pl_cons (pd_bT (b_tuple F.hK) tupB_nx rfl m_tuple (by decide +kernel) (pl_cons (pd_var 9) pl_nil)) pl_nil)))))
    (xs_cons (xs_app 6 F (pd_call F G__law_pick (by decide) rfl (pl_cons (pd_call F G__law_seed (by decide) rfl (pl_cons (pd_var 0) (pl_cons (pd_add F pd_int (pd_var 3)) pl_nil))) (pl_cons (pd_add F pd_int (pd_mod (pd_fdiv (pd_var 0) pd_int) pd_int)) pl_nil))))
    (xs_one (xs_set (i := 7) F rfl (by first | exact .inl rfl | exact .inr rfl) (pd_add F (pd_var 7) (pd_mul (pd_lst (pl_cons (pd_var 4) pl_nil)) (pd_bT (b_int) intF_nx rfl m_int (by decide +kernel) (pl_cons (pd_eq F (pd_call F G__law_pick (by decide) rfl (pl_cons (pd_call F G__law_seed (by decide) rfl (pl_cons (pd_var 0) (pl_cons (pd_add F pd_int (pd_var 3)) pl_nil))) (pl_cons (pd_ix F (pd_lst (pl_cons pd_int (pl_cons pd_int (pl_cons pd_int pl_nil)))) (pd_mod (pd_fdiv (pd_var 0) pd_int) pd_int)) pl_nil))) pd_int) pl_nil))))))))))))
    (xs_one (xs_ret (pd_tup (pl_cons (pd_bT (b_tuple F.hK) tupB_nx rfl m_tuple (by decide +kernel) (pl_cons (pd_var 5) pl_nil)) (pl_cons (pd_bT (b_tuple F.hK) tupB_nx rfl m_tuple (by decide +kernel) (pl_cons (pd_var 6) pl_nil)) (pl_cons (pd_bT (b_tuple F.hK) tupB_nx rfl m_tuple (by decide +kernel) (pl_cons (pd_b (b_sorted F) sortF_nx rfl m_sorted (by decide +kernel) (pl_cons (pd_var 7) pl_nil)) pl_nil)) pl_nil)))))))))))
theorem sc__law_uses : FnScope ["_law_book_here", "_law_row"] ["_law_book_here"] (defScope (top 27)) := ⟨rfl, rfl, rfl, by decide +kernel, rfl, by decide +kernel, by decide +kernel⟩
theorem ok__law_uses {f : Addr} {fd : FuncData} (Fu : FnP K "_law_uses" (top 27) f fd) (m_ : mg "_law_uses" = some (.ref f)) (m_dict : mg "dict" = none) : Fn P w K mg base cls "_law_uses" 1 F__law_uses := by
  refine fn_make (k := 0) (t := tX x__law_uses) Fu m_ sc__law_uses (fun _ _ _ _ _ _ us hl => match us, hl with | [_], _ => rfl) (fun cdv A outer s H E C W ec F => ?_) (fun ds h => defF_len ds h) (fun ds h => defF_sem ds h)
  subst ec
  exact (xs_one (xs_ret (pd_bT (b_dict F) dictF_nx rfl m_dict (by decide +kernel) (pl_cons (pd_lc [("_law_row", 1)] F (di_walk (pd_ix F (pd_var 0) pd_int)) (by kernel_rfl) (by rfl) (fun _ _ _ _ _ F1 => (dg_name (i := 1) F1 rfl (by first | exact .inl rfl | exact .inr rfl))) (fun _ _ _ _ _ F1 => dts_nil) (fun _ _ _ _ _ F1 => (pd_tup (pl_cons (pd_ix F1 (pd_var 1) pd_int) (pl_cons (pd_ix F1 (pd_var 1) pd_int) pl_nil))))) pl_nil))))
theorem sc__law_orders : FnScope ["_law_uses_here", "_law_done", "_law_left", "_law_found", "_law_name", "_law_use", "_law_rest"] ["_law_uses_here", "_law_done"] (defScope (top 28)) := ⟨rfl, rfl, rfl, by decide +kernel, rfl, by decide +kernel, by decide +kernel⟩
theorem rec__law_orders {f : Addr} {fd : FuncData} (Fu : FnP K "_law_orders" (top 28) f fd) (m_ : mg "_law_orders" = some (.ref f)) (m_sorted : mg "sorted" = none) : ∀ n : Nat, Fn P w K mg base cls "_law_orders" (n + 1) (R__law_orders n)
  | 0 => fn_make (k := 0) (t := dNever) Fu m_ sc__law_orders (fun _ _ _ _ _ _ us hl => match us, hl with | [_, _], _ => rfl) (fun cdv A outer s H E C W ec F => dss_never) (fun ds h => absurd rfl h) (fun ds h => absurd rfl h)
  | n + 1 => by
    have G__law_orders := rec__law_orders Fu m_ m_sorted n
    refine fn_make (k := n + 1) (t := tX (x__law_orders (R__law_orders n))) Fu m_ sc__law_orders (fun _ _ _ _ _ _ us hl => match us, hl with | [_, _], _ => rfl) (fun cdv A outer s H E C W ec F => ?_) (fun ds h => defF_len ds h) (fun ds h => defF_sem ds h)
    subst ec
    have h_rec : n + 1 ≤ n + 1 := Nat.le_refl _
    exact (xs_cons (xs_set (i := 2) F rfl (by first | exact .inl rfl | exact .inr rfl) (pd_b (b_sorted F) sortF_nx rfl m_sorted (by decide +kernel) (pl_cons (pd_lock 0 (pd_lc [("_law_name", 4)] F (di_keys 0) (by kernel_rfl) (by rfl) (fun _ _ _ _ _ F1 => (dg_name (i := 4) F1 rfl (by first | exact .inl rfl | exact .inr rfl))) (fun _ _ _ _ _ F1 => (dts_one (td_notIn F1 (pd_var 4) (pd_var 1)))) (fun _ _ _ _ _ F1 => (pd_var 4)))) pl_nil)))
    (xs_cons (xs_if (td_eq F (pd_var 2) (pd_lst pl_nil))
    (xs_one (xs_ret (pd_lst (pl_cons (pd_lst pl_nil) pl_nil))))
    xs_nil)
    (xs_cons (xs_set (i := 3) F rfl (by first | exact .inl rfl | exact .inr rfl) (pd_lst pl_nil))
    (xs_cons (xs_sh 2 (xs_for F (di_walk (pd_var 2)) (dg_name (i := 4) F rfl (by first | exact .inl rfl | exact .inr rfl))
    (xs_one (xs_if (td_eq F (pd_lc [("_law_use", 5)] F (di_walk (pd_ix F (pd_var 0) (pd_var 4))) (by kernel_rfl) (by rfl) (fun _ _ _ _ _ F1 => (dg_name (i := 5) F1 rfl (by first | exact .inl rfl | exact .inr rfl))) (fun _ _ _ _ _ F1 => (dts_one (td_notIn F1 (pd_var 5) (pd_var 1)))) (fun _ _ _ _ _ F1 => (pd_var 5))) (pd_lst pl_nil))
    (xs_one (xs_cat 3 F (pd_lc [("_law_rest", 6)] F (di_walk (pd_call F G__law_orders h_rec rfl (pl_cons (pd_var 0) (pl_cons (pd_add F (pd_var 1) (pd_lst (pl_cons (pd_var 4) pl_nil))) pl_nil)))) (by kernel_rfl) (by rfl) (fun _ _ _ _ _ F1 => (dg_name (i := 6) F1 rfl (by first | exact .inl rfl | exact .inr rfl))) (fun _ _ _ _ _ F1 => dts_nil) (fun _ _ _ _ _ F1 => (pd_add F1 (pd_lst (pl_cons (pd_var 4) pl_nil)) (pd_var 6))))))
    xs_nil))))
    (xs_one (xs_ret (pd_var 3)))))))
theorem ok__law_orders {f : Addr} {fd : FuncData} (Fu : FnP K "_law_orders" (top 28) f fd) (m_ : mg "_law_orders" = some (.ref f)) (m_sorted : mg "sorted" = none) : Fn P w K mg base cls "_law_orders" 13 F__law_orders := rec__law_orders Fu m_ m_sorted 12
theorem sc__law_little_book : FnScope ["_law_script", "_law_at"] ["_law_script", "_law_at"] (defScope (top 29)) := ⟨rfl, rfl, rfl, by decide +kernel, rfl, by decide +kernel, by decide +kernel⟩
theorem ok__law_little_book {f : Addr} {fd : FuncData} (Fu : FnP K "_law_little_book" (top 29) f fd) (m_ : mg "_law_little_book" = some (.ref f)) (G__law_cell : Fn P w K mg base cls "_law_cell" 1 F__law_cell) (G__law_seed : Fn P w K mg base cls "_law_seed" 1 F__law_seed) (G__law_book : Fn P w K mg base cls "_law_book" 2 F__law_book) : Fn P w K mg base cls "_law_little_book" 3 F__law_little_book := by
  refine fn_make (k := 2) (t := tX x__law_little_book) Fu m_ sc__law_little_book (fun _ _ _ _ _ _ us hl => match us, hl with | [_, _], _ => rfl) (fun cdv A outer s H E C W ec F => ?_) (fun ds h => defF_len ds h) (fun ds h => defF_sem ds h)
  subst ec
  exact (xs_one (xs_ret (pd_call F G__law_book (by decide) rfl (pl_cons (pd_call F G__law_seed (by decide) rfl (pl_cons (pd_call F G__law_cell (by decide) rfl (pl_cons (pd_var 0) (pl_cons (pd_var 1) pl_nil))) (pl_cons (pd_mod (pd_call F G__law_cell (by decide) rfl (pl_cons (pd_var 0) (pl_cons (pd_add F (pd_var 1) pd_int) pl_nil))) pd_int) pl_nil))) (pl_cons pd_int pl_nil)))))
theorem sc__law_next : FnScope ["_law_uses_here", "_law_some", "_law_found", "_law_name", "_law_use"] ["_law_uses_here", "_law_some"] (defScope (top 31)) := ⟨rfl, rfl, rfl, by decide +kernel, rfl, by decide +kernel, by decide +kernel⟩
theorem ok__law_next {f : Addr} {fd : FuncData} (Fu : FnP K "_law_next" (top 31) f fd) (m_ : mg "_law_next" = some (.ref f)) : Fn P w K mg base cls "_law_next" 1 F__law_next := by
  refine fn_make (k := 0) (t := tX x__law_next) Fu m_ sc__law_next (fun _ _ _ _ _ _ us hl => match us, hl with | [_, _], _ => rfl) (fun cdv A outer s H E C W ec F => ?_) (fun ds h => defF_len ds h) (fun ds h => defF_sem ds h)
  subst ec
  exact (xs_cons (xs_set (i := 2) F rfl (by first | exact .inl rfl | exact .inr rfl) (pd_lst pl_nil))
    (xs_cons (xs_sh 1 (xs_for F (di_walk (pd_var 1)) (dg_name (i := 3) F rfl (by first | exact .inl rfl | exact .inr rfl))
    (xs_one (xs_set (i := 2) F rfl (by first | exact .inl rfl | exact .inr rfl) (pd_add F (pd_var 2) (pd_lc [("_law_use", 4)] F (di_walk (pd_ix F (pd_var 0) (pd_var 3))) (by kernel_rfl) (by rfl) (fun _ _ _ _ _ F1 => (dg_name (i := 4) F1 rfl (by first | exact .inl rfl | exact .inr rfl))) (fun _ _ _ _ _ F1 => (dts_one (td_notIn F1 (pd_var 4) (pd_var 2)))) (fun _ _ _ _ _ F1 => (pd_var 4))))))))
    (xs_one (xs_ret (pd_var 2)))))
theorem sc__law_ranks : FnScope ["_law_book_here", "_law_uses_here", "_law_found", "_law_name", "_law_here", "_law_long", "_law_row"] ["_law_book_here"] (defScope (top 30)) := ⟨rfl, rfl, rfl, by decide +kernel, rfl, by decide +kernel, by decide +kernel⟩
theorem ok__law_ranks {f : Addr} {fd : FuncData} (Fu : FnP K "_law_ranks" (top 30) f fd) (m_ : mg "_law_ranks" = some (.ref f)) (m_len : mg "len" = none) (G__law_uses : Fn P w K mg base cls "_law_uses" 1 F__law_uses) (G__law_next : Fn P w K mg base cls "_law_next" 1 F__law_next) : Fn P w K mg base cls "_law_ranks" 2 F__law_ranks := by
  refine fn_make (k := 1) (t := tX x__law_ranks) Fu m_ sc__law_ranks (fun _ _ _ _ _ _ us hl => match us, hl with | [_], _ => rfl) (fun cdv A outer s H E C W ec F => ?_) (fun ds h => defF_len ds h) (fun ds h => defF_sem ds h)
  subst ec
  exact (xs_cons (xs_set (i := 1) F rfl (by first | exact .inl rfl | exact .inr rfl) (pd_call F G__law_uses (by decide) rfl (pl_cons (pd_var 0) pl_nil)))
    (xs_cons (xs_set (i := 2) F rfl (by first | exact .inl rfl | exact .inr rfl) (pd_lst pl_nil))
    (xs_cons (xs_for F (di_walk (pd_lc [("_law_row", 6)] F (di_walk (pd_ix F (pd_var 0) pd_int)) (by kernel_rfl) (by rfl) (fun _ _ _ _ _ F1 => (dg_name (i := 6) F1 rfl (by first | exact .inl rfl | exact .inr rfl))) (fun _ _ _ _ _ F1 => dts_nil) (fun _ _ _ _ _ F1 => (pd_ix F1 (pd_var 6) pd_int)))) (dg_name (i := 3) F rfl (by first | exact .inl rfl | exact .inr rfl))
    (xs_cons (xs_par (i := 4) (j := 5) F rfl rfl (by decide) rfl rfl (pl_cons (pd_lst (pl_cons (pd_var 3) pl_nil)) (pl_cons pd_int pl_nil)) (by rfl))
    (xs_cons (xs_while 1000 F (td_andW (tw_and (td_ne F (pd_var 4) (pd_lst pl_nil)) (tw_and1 (td_le (pd_var 5) (pd_b (b_len F.hK) lenF_nx rfl m_len (by decide +kernel) (pl_cons (pd_var 1) pl_nil))))))
    (xs_cons (xs_set (i := 4) F rfl (by first | exact .inl rfl | exact .inr rfl) (pd_call F G__law_next (by decide) rfl (pl_cons (pd_var 1) (pl_cons (pd_var 4) pl_nil))))
    (xs_one (xs_iadd 5 F pd_int))))
    (xs_one (xs_app 2 F (pd_tup (pl_cons (pd_var 3) (pl_cons (pd_if (td_eq F (pd_var 4) (pd_lst pl_nil)) (pd_sub (pd_var 5) pd_int) pd_non) pl_nil))))))))
    (xs_one (xs_ret (pd_var 2))))))
theorem sc_law : FnScope ["_law_script", "_law_book_here", "_law_some"] ["_law_script"] (defScope (top 32)) := ⟨rfl, rfl, rfl, by decide +kernel, rfl, by decide +kernel, by decide +kernel⟩
theorem ok_law {f : Addr} {fd : FuncData} (Fu : FnP K "law" (top 32) f fd) (m_len : mg "len" = none) (G__law_little_book : Fn P w K mg base cls "_law_little_book" 3 F__law_little_book) (G__law_uses : Fn P w K mg base cls "_law_uses" 1 F__law_uses) (G__law_orders : Fn P w K mg base cls "_law_orders" 13 F__law_orders) (G_how_many_orders : Fn P w K mg base cls "how_many_orders" 14 F_how_many_orders) (G__law_whole : Fn P w K mg base cls "_law_whole" 1 F__law_whole) (G_least_order : Fn P w K mg base cls "least_order" 6 F_least_order) (G_ranks : Fn P w K mg base cls "ranks" 6 F_ranks) (G__law_ranks : Fn P w K mg base cls "_law_ranks" 2 F__law_ranks) : FnOk P w K mg base (L2.CX P w) 15 f fd ["_law_script"] (SpP K cls F_law) := by
  refine fn_ok (k := 14) (t := tX x_law) Fu sc_law (fun cdv A outer s H E C W ec F => ?_) (fun ds h => defF_len ds h) (fun ds h => defF_sem ds h)
  subst ec
  exact (xs_cons (xs_set (i := 1) F rfl (by first | exact .inl rfl | exact .inr rfl) (pd_call F G__law_little_book (by decide) rfl (pl_cons (pd_var 0) (pl_cons pd_int pl_nil))))
    (xs_cons (xs_set (i := 2) F rfl (by first | exact .inl rfl | exact .inr rfl) (pd_call F G__law_orders (by decide) rfl (pl_cons (pd_call F G__law_uses (by decide) rfl (pl_cons (pd_var 1) pl_nil)) (pl_cons (pd_lst pl_nil) pl_nil))))
    (xs_cons (xs_if (td_orW (tw_or (td_ne F (pd_call F G_how_many_orders (by decide) rfl (pl_cons (pd_var 1) pl_nil)) (pd_b (b_len F.hK) lenF_nx rfl m_len (by decide +kernel) (pl_cons (pd_var 2) pl_nil))) (tw_or1 (td_not (pt_of (pd_call F G__law_whole (by decide) rfl (pl_cons (pd_call F G_how_many_orders (by decide) rfl (pl_cons (pd_var 1) pl_nil)) pl_nil)))))))
    (xs_one (xs_ret pd_bl))
    xs_nil)
    (xs_cons (xs_if (td_ne F (pd_call F G_least_order (by decide) rfl (pl_cons (pd_var 1) pl_nil)) (pd_ix F (pd_addE F (pd_var 2) (pd_lst (pl_cons pd_non pl_nil))) pd_int))
    (xs_one (xs_ret pd_bl))
    xs_nil)
    (xs_one (xs_ret (pd_eq F (pd_call F G_ranks (by decide) rfl (pl_cons (pd_var 1) pl_nil)) (pd_call F G__law_ranks (by decide) rfl (pl_cons (pd_var 1) pl_nil)))))))))
end
namespace Hd
def fn : List He.DefD := [⟨("is_within", none), "is_within", "is_within", defArgs (top 7), defBody (top 7), defScope (top 7), [], []⟩,
  ⟨("is_name", none), "is_name", "is_name", defArgs (top 8), defBody (top 8), defScope (top 8), [], []⟩,
  ⟨("is_row", none), "is_row", "is_row", defArgs (top 9), defBody (top 9), defScope (top 9), [], []⟩,
  ⟨("are_rows", none), "are_rows", "are_rows", defArgs (top 10), defBody (top 10), defScope (top 10), [], []⟩,
  ⟨("are_places", none), "are_places", "are_places", defArgs (top 11), defBody (top 11), defScope (top 11), [], []⟩,
  ⟨("are_late", none), "are_late", "are_late", defArgs (top 12), defBody (top 12), defScope (top 12), [], []⟩,
  ⟨("is_book", none), "is_book", "is_book", defArgs (top 13), defBody (top 13), defScope (top 13), [], []⟩,
  ⟨("look", none), "look", "look", defArgs (top 14), defBody (top 14), defScope (top 14), [], []⟩,
  ⟨("uses_of", none), "uses_of", "uses_of", defArgs (top 15), defBody (top 15), defScope (top 15), [], []⟩,
  ⟨("ways_from", none), "ways_from", "ways_from", defArgs (top 17), defBody (top 17), defScope (top 17), [], []⟩,
  ⟨("how_many_orders", none), "how_many_orders", "how_many_orders", defArgs (top 18), defBody (top 18), defScope (top 18), [], []⟩,
  ⟨("least_order", none), "least_order", "least_order", defArgs (top 19), defBody (top 19), defScope (top 19), [], []⟩,
  ⟨("ranks", none), "ranks", "ranks", defArgs (top 20), defBody (top 20), defScope (top 20), [], []⟩,
  ⟨("_law_cell", none), "_law_cell", "_law_cell", defArgs (top 22), defBody (top 22), defScope (top 22), [], []⟩,
  ⟨("_law_whole", none), "_law_whole", "_law_whole", defArgs (top 23), defBody (top 23), defScope (top 23), [], []⟩,
  ⟨("_law_seed", none), "_law_seed", "_law_seed", defArgs (top 24), defBody (top 24), defScope (top 24), [], []⟩,
  ⟨("_law_pick", none), "_law_pick", "_law_pick", defArgs (top 25), defBody (top 25), defScope (top 25), [], []⟩,
  ⟨("_law_book", none), "_law_book", "_law_book", defArgs (top 26), defBody (top 26), defScope (top 26), [], []⟩,
  ⟨("_law_uses", none), "_law_uses", "_law_uses", defArgs (top 27), defBody (top 27), defScope (top 27), [], []⟩,
  ⟨("_law_orders", none), "_law_orders", "_law_orders", defArgs (top 28), defBody (top 28), defScope (top 28), [], []⟩,
  ⟨("_law_little_book", none), "_law_little_book", "_law_little_book", defArgs (top 29), defBody (top 29), defScope (top 29), [], []⟩,
  ⟨("_law_next", none), "_law_next", "_law_next", defArgs (top 31), defBody (top 31), defScope (top 31), [], []⟩,
  ⟨("_law_ranks", none), "_law_ranks", "_law_ranks", defArgs (top 30), defBody (top 30), defScope (top 30), [], []⟩,
  ⟨("law", none), "law", "law", defArgs (top 32), defBody (top 32), defScope (top 32), [], []⟩]
def fa : List He.Fa := [.glo "is_within", .glo "is_name", .glo "is_row", .glo "are_rows", .glo "are_places", .glo "are_late", .glo "is_book", .glo "look", .glo "uses_of", .glo "ways_from", .glo "how_many_orders", .glo "least_order", .glo "ranks", .glo "_law_cell", .glo "_law_whole", .glo "_law_seed", .glo "_law_pick", .glo "_law_book", .glo "_law_uses", .glo "_law_orders", .glo "_law_little_book", .glo "_law_next", .glo "_law_ranks", .glo "law", .free "int", .free "isinstance", .free "bool", .free "str", .free "len", .free "tuple", .free "set", .free "list", .free "sorted", .free "dict", .free "range", .free "max", .free "enumerate", .str "LETTERS" "abcdefghijklmnopqrstuvwxyz", .int "MOST_NAMES" 8, .int "MOST_FILE" 3, .glo "NoBook", .exc "NoBook"]
abbrev Rw : PySem.W.OpenRow := PySem.W.OpenLaw.row PySem.Challenge.rw_latebring_k15_orders
abbrev hk : PySem.W.Hook := He.hookD 4 fa fn
def ob (s : PySem.W.SharedT) : He.AlD := He.obsDG 4 fa fn (HandSHeadRun.getT s)
theorem ob_eq (s : PySem.W.SharedT) : ob s = hk.obs s.abs := He.obsDG_eq (HandSHeadRun.getT_eq s)
def loose0 : List Str := ["BringError", "NoBook", "LETTERS", "MOST_NAMES", "MOST_FILE", "is_within", "is_name", "is_row", "are_rows", "are_places", "are_late", "is_book", "look", "uses_of", "ways_from", "how_many_orders", "least_order", "ranks", "_law_cell", "_law_whole", "_law_seed", "_law_pick", "_law_book", "_law_uses", "_law_orders", "_law_little_book", "_law_ranks", "_law_next"]
abbrev loose : List Str := loose0
theorem run (w : World) : HandSHeadRun.RunEq Rw (PySem.W.view Rw.prog [32]) hk ob 6000 loose w := by
  intro os
  kernel_rfl
theorem facts {P : Program} {w : World} {K : PySem.W.Frag} {h : Heap} {mg : Str → Option Value} {f : Addr} (X : K.In h) (G : h.Ns mainGlobals mg) (hfa : mg ("law" : Str) = some (.ref f)) (c : He.SaysD fa fn K) :
    ∃ fd : FuncData, (∀ (s : Shared) (v : Value), BindsTo s fd ⟨[v], []⟩ [("_law_script", v)]) ∧ ∀ base : Heap, K.In base → base.Ns mainGlobals mg → FnOk P w K mg base (L2.CX P w) 15 f fd ["_law_script"] (SpP K (He.ga K) F_law) := by
  have m_int := He.free_ok X G (c.fact 24 (f := .free "int") rfl)
  have m_isinstance := He.free_ok X G (c.fact 25 (f := .free "isinstance") rfl)
  have m_bool := He.free_ok X G (c.fact 26 (f := .free "bool") rfl)
  have m_str := He.free_ok X G (c.fact 27 (f := .free "str") rfl)
  have m_len := He.free_ok X G (c.fact 28 (f := .free "len") rfl)
  have m_tuple := He.free_ok X G (c.fact 29 (f := .free "tuple") rfl)
  have m_set := He.free_ok X G (c.fact 30 (f := .free "set") rfl)
  have m_list := He.free_ok X G (c.fact 31 (f := .free "list") rfl)
  have m_sorted := He.free_ok X G (c.fact 32 (f := .free "sorted") rfl)
  have m_dict := He.free_ok X G (c.fact 33 (f := .free "dict") rfl)
  have m_range := He.free_ok X G (c.fact 34 (f := .free "range") rfl)
  have m_max := He.free_ok X G (c.fact 35 (f := .free "max") rfl)
  have m_enumerate := He.free_ok X G (c.fact 36 (f := .free "enumerate") rfl)
  obtain ⟨k_LETTERS, m_LETTERS⟩ := He.str_ok X G (c.fact 37 (f := .str "LETTERS" "abcdefghijklmnopqrstuvwxyz") rfl)
  obtain ⟨k_MOST_NAMES, m_MOST_NAMES⟩ := He.int_ok X G (c.fact 38 (f := .int "MOST_NAMES" 8) rfl)
  obtain ⟨k_MOST_FILE, m_MOST_FILE⟩ := He.int_ok X G (c.fact 39 (f := .int "MOST_FILE" 3) rfl)
  have X_NoBook := exc_of X G (c.fact 40 (f := .glo "NoBook") rfl) (c.fact 41 (f := .exc "NoBook") rfl)
  obtain ⟨fd_is_within, Fu_is_within⟩ := c.def_ 0 (d := fn[0]) rfl
  have g_is_within := He.glo_ok X G (c.fact 0 (f := .glo "is_within") rfl)
  obtain ⟨fd_is_name, Fu_is_name⟩ := c.def_ 1 (d := fn[1]) rfl
  have g_is_name := He.glo_ok X G (c.fact 1 (f := .glo "is_name") rfl)
  obtain ⟨fd_is_row, Fu_is_row⟩ := c.def_ 2 (d := fn[2]) rfl
  have g_is_row := He.glo_ok X G (c.fact 2 (f := .glo "is_row") rfl)
  obtain ⟨fd_are_rows, Fu_are_rows⟩ := c.def_ 3 (d := fn[3]) rfl
  have g_are_rows := He.glo_ok X G (c.fact 3 (f := .glo "are_rows") rfl)
  obtain ⟨fd_are_places, Fu_are_places⟩ := c.def_ 4 (d := fn[4]) rfl
  have g_are_places := He.glo_ok X G (c.fact 4 (f := .glo "are_places") rfl)
  obtain ⟨fd_are_late, Fu_are_late⟩ := c.def_ 5 (d := fn[5]) rfl
  have g_are_late := He.glo_ok X G (c.fact 5 (f := .glo "are_late") rfl)
  obtain ⟨fd_is_book, Fu_is_book⟩ := c.def_ 6 (d := fn[6]) rfl
  have g_is_book := He.glo_ok X G (c.fact 6 (f := .glo "is_book") rfl)
  obtain ⟨fd_look, Fu_look⟩ := c.def_ 7 (d := fn[7]) rfl
  have g_look := He.glo_ok X G (c.fact 7 (f := .glo "look") rfl)
  obtain ⟨fd_uses_of, Fu_uses_of⟩ := c.def_ 8 (d := fn[8]) rfl
  have g_uses_of := He.glo_ok X G (c.fact 8 (f := .glo "uses_of") rfl)
  obtain ⟨fd_ways_from, Fu_ways_from⟩ := c.def_ 9 (d := fn[9]) rfl
  have g_ways_from := He.glo_ok X G (c.fact 9 (f := .glo "ways_from") rfl)
  obtain ⟨fd_how_many_orders, Fu_how_many_orders⟩ := c.def_ 10 (d := fn[10]) rfl
  have g_how_many_orders := He.glo_ok X G (c.fact 10 (f := .glo "how_many_orders") rfl)
  obtain ⟨fd_least_order, Fu_least_order⟩ := c.def_ 11 (d := fn[11]) rfl
  have g_least_order := He.glo_ok X G (c.fact 11 (f := .glo "least_order") rfl)
  obtain ⟨fd_ranks, Fu_ranks⟩ := c.def_ 12 (d := fn[12]) rfl
  have g_ranks := He.glo_ok X G (c.fact 12 (f := .glo "ranks") rfl)
  obtain ⟨fd__law_cell, Fu__law_cell⟩ := c.def_ 13 (d := fn[13]) rfl
  have g__law_cell := He.glo_ok X G (c.fact 13 (f := .glo "_law_cell") rfl)
  obtain ⟨fd__law_whole, Fu__law_whole⟩ := c.def_ 14 (d := fn[14]) rfl
  have g__law_whole := He.glo_ok X G (c.fact 14 (f := .glo "_law_whole") rfl)
  obtain ⟨fd__law_seed, Fu__law_seed⟩ := c.def_ 15 (d := fn[15]) rfl
  have g__law_seed := He.glo_ok X G (c.fact 15 (f := .glo "_law_seed") rfl)
  obtain ⟨fd__law_pick, Fu__law_pick⟩ := c.def_ 16 (d := fn[16]) rfl
  have g__law_pick := He.glo_ok X G (c.fact 16 (f := .glo "_law_pick") rfl)
  obtain ⟨fd__law_book, Fu__law_book⟩ := c.def_ 17 (d := fn[17]) rfl
  have g__law_book := He.glo_ok X G (c.fact 17 (f := .glo "_law_book") rfl)
  obtain ⟨fd__law_uses, Fu__law_uses⟩ := c.def_ 18 (d := fn[18]) rfl
  have g__law_uses := He.glo_ok X G (c.fact 18 (f := .glo "_law_uses") rfl)
  obtain ⟨fd__law_orders, Fu__law_orders⟩ := c.def_ 19 (d := fn[19]) rfl
  have g__law_orders := He.glo_ok X G (c.fact 19 (f := .glo "_law_orders") rfl)
  obtain ⟨fd__law_little_book, Fu__law_little_book⟩ := c.def_ 20 (d := fn[20]) rfl
  have g__law_little_book := He.glo_ok X G (c.fact 20 (f := .glo "_law_little_book") rfl)
  obtain ⟨fd__law_next, Fu__law_next⟩ := c.def_ 21 (d := fn[21]) rfl
  have g__law_next := He.glo_ok X G (c.fact 21 (f := .glo "_law_next") rfl)
  obtain ⟨fd__law_ranks, Fu__law_ranks⟩ := c.def_ 22 (d := fn[22]) rfl
  have g__law_ranks := He.glo_ok X G (c.fact 22 (f := .glo "_law_ranks") rfl)
  obtain ⟨fd_law, Fu_law⟩ := c.def_ 23 (d := fn[23]) rfl
  have g_law := He.glo_ok X G (c.fact 23 (f := .glo "law") rfl)
  have e := hfa.symm.trans g_law
  cases e
  have b := FunD.bindsA (ps := ["_law_script"]) Fu_law fun _ _ _ _ _ _ us hl => match us, hl with | [_], _ => rfl
  refine ⟨fd_law, fun s v => b s [v] rfl, fun base _ _ => ?_⟩
  have G_is_within := ok_is_within (P := P) (w := w) (base := base) (cls := He.ga K) Fu_is_within g_is_within m_int m_isinstance m_bool
  have G_is_name := ok_is_name (P := P) (w := w) (base := base) (cls := He.ga K) Fu_is_name g_is_name m_str m_isinstance m_len m_LETTERS
  have G_is_row := ok_is_row (P := P) (w := w) (base := base) (cls := He.ga K) Fu_is_row g_is_row m_tuple m_isinstance m_len G_is_name G_is_within
  have G_are_rows := ok_are_rows (P := P) (w := w) (base := base) (cls := He.ga K) Fu_are_rows g_are_rows m_tuple m_isinstance m_len m_set m_MOST_NAMES G_is_row
  have G_are_places := ok_are_places (P := P) (w := w) (base := base) (cls := He.ga K) Fu_are_places g_are_places m_tuple m_isinstance m_len m_MOST_FILE G_is_within
  have G_are_late := ok_are_late (P := P) (w := w) (base := base) (cls := He.ga K) Fu_are_late g_are_late m_tuple m_isinstance m_list m_sorted m_set G_is_name
  have G_is_book := ok_is_book (P := P) (w := w) (base := base) (cls := He.ga K) Fu_is_book g_is_book m_tuple m_isinstance m_len G_are_rows G_are_places G_are_late
  have G_look := ok_look (P := P) (w := w) (base := base) (cls := He.ga K) Fu_look g_look G_is_book X_NoBook
  have G_uses_of := ok_uses_of (P := P) (w := w) (base := base) (cls := He.ga K) Fu_uses_of g_uses_of m_dict
  have G_ways_from := ok_ways_from (P := P) (w := w) (base := base) (cls := He.ga K) Fu_ways_from g_ways_from m_tuple
  have G_how_many_orders := ok_how_many_orders (P := P) (w := w) (base := base) (cls := He.ga K) Fu_how_many_orders g_how_many_orders m_sorted m_tuple G_look G_uses_of G_ways_from
  have G_least_order := ok_least_order (P := P) (w := w) (base := base) (cls := He.ga K) Fu_least_order g_least_order m_sorted G_look G_uses_of
  have G_ranks := ok_ranks (P := P) (w := w) (base := base) (cls := He.ga K) Fu_ranks g_ranks m_range m_len m_max G_look G_uses_of
  have G__law_cell := ok__law_cell (P := P) (w := w) (base := base) (cls := He.ga K) Fu__law_cell g__law_cell m_len
  have G__law_whole := ok__law_whole (P := P) (w := w) (base := base) (cls := He.ga K) Fu__law_whole g__law_whole m_int m_isinstance m_bool
  have G__law_seed := ok__law_seed (P := P) (w := w) (base := base) (cls := He.ga K) Fu__law_seed g__law_seed
  have G__law_pick := ok__law_pick (P := P) (w := w) (base := base) (cls := He.ga K) Fu__law_pick g__law_pick
  have G__law_book := ok__law_book (P := P) (w := w) (base := base) (cls := He.ga K) Fu__law_book g__law_book m_range m_enumerate m_len m_tuple m_int m_sorted G__law_seed G__law_pick
  have G__law_uses := ok__law_uses (P := P) (w := w) (base := base) (cls := He.ga K) Fu__law_uses g__law_uses m_dict
  have G__law_orders := ok__law_orders (P := P) (w := w) (base := base) (cls := He.ga K) Fu__law_orders g__law_orders m_sorted
  have G__law_little_book := ok__law_little_book (P := P) (w := w) (base := base) (cls := He.ga K) Fu__law_little_book g__law_little_book G__law_cell G__law_seed G__law_book
  have G__law_next := ok__law_next (P := P) (w := w) (base := base) (cls := He.ga K) Fu__law_next g__law_next
  have G__law_ranks := ok__law_ranks (P := P) (w := w) (base := base) (cls := He.ga K) Fu__law_ranks g__law_ranks m_len G__law_uses G__law_next
  exact ok_law (P := P) (w := w) (base := base) (cls := He.ga K) Fu_law m_len G__law_little_book G__law_uses G__law_orders G_how_many_orders G__law_whole G_least_order G_ranks G__law_ranks
end Hd
end DL
open PySem PySem.W PySem.Calls PyProof.Rows
theorem PySem.Challenge.cw_latebring_k15_orders_holds : PySem.Challenge.rw_latebring_k15_orders.Holds := by
  w_on; o_law
  refine HandSHeadRun.head_any (r := OpenLaw.row PySem.Challenge.rw_latebring_k15_orders) (q := view (OpenLaw.row PySem.Challenge.rw_latebring_k15_orders).prog [32]) (H := DL.Hd.hk) (ob := DL.Hd.ob) (M := 6000) (loose := DL.Hd.loose) (d := HandSHeadRun.topDef (OpenLaw.row PySem.Challenge.rw_latebring_k15_orders).prog 32) (kwd := []) DL.Hd.ob_eq
    (by kernel_rfl) (fun s => by kernel_rfl) DL.Hd.run (by kernel_rfl) (by kernel_rfl) (by kernel_rfl) (by rfl) (by first | assumption | decide +kernel) (by decide +kernel) ⟨rfl, rfl, rfl, rfl, rfl, by decide +kernel⟩ ?hw ?hc
  case hw => w_witness2
  case hc =>
    refine DL.walk_law (l := PySem.Challenge.rw_latebring_k15_orders) (n := 63) (k := 15) (x := "_law_script") (CX := fun w => L2.CX (PySem.Challenge.rw_latebring_k15_orders).prog w) rfl (by decide) (by kernel_rfl) ⟨rfl, by decide, by decide⟩ ?F (fun w => DL.cx_none)
    intro w mg fa h Y G hmg0
    obtain ⟨K, KX, c⟩ := Y
    have hmg : mg ("law" : PySem.Str) = some (.ref fa) := by
      have e : (HandSHeadRun.topDef (OpenLaw.row PySem.Challenge.rw_latebring_k15_orders).prog 32).name = ("law" : PySem.Str) := by kernel_rfl
      rw [← e]
      exact hmg0
    obtain ⟨fd, hb, hF⟩ := DL.Hd.facts (P := (PySem.Challenge.rw_latebring_k15_orders).prog) (w := w) KX G hmg c
    exact ⟨K, fd, DL.SpP K (He.ga K) DL.F_law, KX, hb, DL.law_sp (by decide) DL.main_law, hF⟩
