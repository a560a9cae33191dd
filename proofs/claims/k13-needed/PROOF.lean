import PyProof.Rows.All
import Wide.All
import OpenK.AllK
import Wide.FinOn
import HandS.ForMost
import HandS.ForExc
import HandS.Deep
import HandS.Flow
import HandS.Zip
import HandS.TryMany
import HandS.TupAny
import HandS.IsInst
import HandS.Codes
import HandS.Style
import KE.SortData
import HandS.More
import HandS.Set
import HandS.SetFor
import HandS.Defaults
import HandS.HeadHook1
import HandS.HeadHook2
import HandS.Head0
import HandS.Head1
import HandS.Head2
import HandS.HeadEnd
import PyProof.DictUpdate
import HandS.TupSets
import KE.KDictCopyH
import KE.KDictSum
import KE.GoesEnum
import KE.GoesMore
import PyProof.Draws
import PyProof.P3Eq
import PySem.Challenge.RW_latebring_k13_needed
set_option Elab.async false
set_option linter.all false
set_option maxRecDepth 100000
/-! DL1: data trees over the heap; an environment of trees. -/
namespace DL
open PySem L2

/-- a datum as a tree -/
inductive D where
  | non | bl (b : Bool) | int (i : Int) | str (x : Str) | ty (n : String)
  | tup (ds : List D) | lst (ds : List D) | fz (ds : List D)
  | dK (ks : List Key) (ds : List D) | dT (ks : List (List Key)) (ds : List D)
  | ins (c : Str) (ns : List Str) (ds : List D)

structure Ctx where
  K : PySem.W.Frag
  H0 : Hp
  io : List Addr
  iov : Option V
  cls : Str → Addr

/-- the list at a: given and never changed -/
def FzL (C : Ctx) (H : Hp) (a : Addr) (vs : List V) : Prop := (∃ o, H a = some (.frz o (.lst vs))) ∨
  ∃ (o : Obj) (its : Array Value) (n : Nat), C.K.lookup a = some o ∧ o.cls = .type "list" ∧ o.dict = none ∧ o.data = .seq its n ∧ its.size ≤ sizeLine ∧ Vals vs its.toList
mutual
/-- v stands for the datum; M: its lists, dicts, instances -/
def Rep (C : Ctx) (H : Hp) : D → V → List Addr → Prop
  | .non, v, M => v = .non ∧ M = []
  | .bl b, v, M => v = .bl b ∧ M = []
  | .int i, v, M => v = .int i ∧ M = []
  | .str x, v, M => v = .str x ∧ M = []
  | .ty n, v, M => v = .ty n ∧ M = []
  | .tup ds, v, M => ∃ a vs, v = .ref a ∧ H a = some (.tup vs) ∧ ds.length ≤ sizeLine ∧ RepL C H ds vs M
  | .lst ds, v, M => ∃ a vs M', v = .ref a ∧ H a = some (.lst vs) ∧ ds.length ≤ sizeLine ∧ RepL C H ds vs M' ∧ M = a :: M'
  | .fz ds, v, M => ∃ a vs, v = .ref a ∧ FzL C H a vs ∧ ds.length ≤ sizeLine ∧ RepL C H ds vs [] ∧ M = []
  | .dK ks ds, v, M => ∃ a kvs M', v = .ref a ∧ Rd H a (.dK kvs) ∧ ks = kvs.map (·.1) ∧ ds.length ≤ sizeLine ∧ RepL C H ds (kvs.map (·.2)) M' ∧ M = a :: M'
  | .dT ks ds, v, M => ∃ a kvs M', v = .ref a ∧ Rd H a (.dT kvs) ∧ ks = kvs.map (·.1) ∧ ds.length ≤ sizeLine ∧ RepL C H ds (kvs.map (·.2)) M' ∧ M = a :: M'
  | .ins c ns ds, v, M => ∃ a dx fs M', v = .ref a ∧ H a = some (.ins (C.cls c) dx fs) ∧ ns = fs.map (·.1) ∧ RepL C H ds (fs.map (·.2)) M' ∧ M = a :: M'
def RepL (C : Ctx) (H : Hp) : List D → List V → List Addr → Prop
  | [], vs, M => vs = [] ∧ M = []
  | d :: ds, vs, M => ∃ v r M1 M2, vs = v :: r ∧ Rep C H d v M1 ∧ RepL C H ds r M2 ∧ M = M1 ++ M2
end

def isTup : HO → Bool
  | .tup _ => true
  | _ => false

/-- the cells that a tree leans on are kept -/
def KeepOn (M : List Addr) (H H' : Hp) : Prop := (∀ a o, a ∈ M → H a = some o → H' a = some o) ∧ (∀ a vs, H a = some (.tup vs) → H' a = some (.tup vs)) ∧ ∀ a o vs, H a = some (.frz o (.lst vs)) → H' a = some (.frz o (.lst vs))
theorem KeepOn.sub {M N : List Addr} {H H' : Hp} (k : KeepOn M H H') (h : ∀ a ∈ N, a ∈ M) : KeepOn N H H' := ⟨fun a o m e => k.1 a o (h a m) e, k.2⟩
theorem KeepOn.rd {M : List Addr} {H H' : Hp} (k : KeepOn M H H') {a : Addr} {u : HO} (h : a ∈ M) (r : Rd H a u) : Rd H' a u := by
  rcases r with r | ⟨o, r⟩
  · exact .inl (k.1 a _ h r)
  · exact .inr ⟨o, k.1 a _ h r⟩
theorem KeepOn.same {M : List Addr} {H H' : Hp} (s : Same H H') : KeepOn M H H' := ⟨fun a o _ e => s a o e, fun a vs e => s a _ e, fun a o vs e => s a _ e⟩

theorem FzL.sq {C : Ctx} {H : Hp} {a : Addr} {vs : List V} (h : FzL C H a vs) : SqL C.K H a vs := h.imp (fun ⟨o, e⟩ => .inr ⟨o, e⟩) id
mutual
theorem Rep.keep {C : Ctx} {H H' : Hp} : ∀ {d : D} {v : V} {M : List Addr}, Rep C H d v M → KeepOn M H H' → Rep C H' d v M
  | .non, _, _, h, _ => h
  | .bl _, _, _, h, _ => h
  | .int _, _, _, h, _ => h
  | .str _, _, _, h, _ => h
  | .ty _, _, _, h, _ => h
  | .tup ds, v, M, h, k => by
    obtain ⟨a, vs, rfl, e, z, r⟩ := h
    exact ⟨a, vs, rfl, k.2.1 a vs e, z, RepL.keep r k⟩
  | .lst ds, v, M, h, k => by
    obtain ⟨a, vs, M', rfl, e, z, r, rfl⟩ := h
    exact ⟨a, vs, M', rfl, k.1 a _ (by simp) e, z, RepL.keep r (k.sub fun b hb => List.mem_cons_of_mem _ hb), rfl⟩
  | .fz ds, v, M, h, k => by
    obtain ⟨a, vs, rfl, e, z, r, rfl⟩ := h
    exact ⟨a, vs, rfl, e.imp (fun ⟨o, e⟩ => ⟨o, k.2.2 a o vs e⟩) id, z, RepL.keep r k, rfl⟩
  | .dK ks ds, v, M, h, k => by
    obtain ⟨a, kvs, M', rfl, e, q, z, r, rfl⟩ := h
    exact ⟨a, kvs, M', rfl, k.rd (by simp) e, q, z, RepL.keep r (k.sub fun b hb => List.mem_cons_of_mem _ hb), rfl⟩
  | .dT ks ds, v, M, h, k => by
    obtain ⟨a, kvs, M', rfl, e, q, z, r, rfl⟩ := h
    exact ⟨a, kvs, M', rfl, k.rd (by simp) e, q, z, RepL.keep r (k.sub fun b hb => List.mem_cons_of_mem _ hb), rfl⟩
  | .ins c ns ds, v, M, h, k => by
    obtain ⟨a, dx, fs, M', rfl, e, q, r, rfl⟩ := h
    exact ⟨a, dx, fs, M', rfl, k.1 a _ (by simp) e, q, RepL.keep r (k.sub fun b hb => List.mem_cons_of_mem _ hb), rfl⟩
theorem RepL.keep {C : Ctx} {H H' : Hp} : ∀ {ds : List D} {vs : List V} {M : List Addr}, RepL C H ds vs M → KeepOn M H H' → RepL C H' ds vs M
  | [], _, _, h, _ => h
  | d :: ds, vs, M, h, k => by
    obtain ⟨v, r, M1, M2, rfl, h1, h2, rfl⟩ := h
    exact ⟨v, r, M1, M2, rfl, Rep.keep h1 (k.sub fun b hb => List.mem_append_left _ hb), RepL.keep h2 (k.sub fun b hb => List.mem_append_right _ hb), rfl⟩
end
theorem Rep.same {C : Ctx} {H H' : Hp} {d : D} {v : V} {M : List Addr} (h : Rep C H d v M) (s : Same H H') : Rep C H' d v M := h.keep (.same s)
theorem RepL.same {C : Ctx} {H H' : Hp} {ds : List D} {vs : List V} {M : List Addr} (h : RepL C H ds vs M) (s : Same H H') : RepL C H' ds vs M := h.keep (.same s)

theorem Rd.uniqL {H : Hp} {a : Addr} {xs ys : List V} (h : Rd H a (.lst xs)) (k : Rd H a (.lst ys)) : xs = ys := by
  rcases h with h | ⟨o, h⟩ <;> rcases k with k | ⟨o', k⟩ <;> rw [h] at k <;> cases k <;> rfl
theorem Rd.uniqK {H : Hp} {a : Addr} {xs ys : List (Key × V)} (h : Rd H a (.dK xs)) (k : Rd H a (.dK ys)) : xs = ys := by
  rcases h with h | ⟨o, h⟩ <;> rcases k with k | ⟨o', k⟩ <;> rw [h] at k <;> cases k <;> rfl
theorem Rd.uniqT {H : Hp} {a : Addr} {xs ys : List (List Key × V)} (h : Rd H a (.dT xs)) (k : Rd H a (.dT ys)) : xs = ys := by
  rcases h with h | ⟨o, h⟩ <;> rcases k with k | ⟨o', k⟩ <;> rw [h] at k <;> cases k <;> rfl

mutual
theorem Rep.uniq {C : Ctx} {H : Hp} : ∀ {d : D} {v : V} {M N : List Addr}, Rep C H d v M → Rep C H d v N → M = N
  | .non, _, _, _, h, k => h.2.trans k.2.symm
  | .bl _, _, _, _, h, k => h.2.trans k.2.symm
  | .int _, _, _, _, h, k => h.2.trans k.2.symm
  | .str _, _, _, _, h, k => h.2.trans k.2.symm
  | .ty _, _, _, _, h, k => h.2.trans k.2.symm
  | .tup ds, v, M, N, h, k => by
    obtain ⟨a, vs, rfl, e, _, r⟩ := h
    obtain ⟨a', vs', e1, e', _, r'⟩ := k
    cases e1
    rw [e] at e'; cases e'
    exact RepL.uniq r r'
  | .lst ds, v, M, N, h, k => by
    obtain ⟨a, vs, M', rfl, e, _, r, rfl⟩ := h
    obtain ⟨a', vs', N', e1, e', _, r', rfl⟩ := k
    cases e1
    rw [e] at e'; cases e'
    rw [RepL.uniq r r']
  | .fz ds, v, M, N, h, k => by
    obtain ⟨_, _, _, _, _, _, rfl⟩ := h
    obtain ⟨_, _, _, _, _, _, rfl⟩ := k
    rfl
  | .dK ks ds, v, M, N, h, k => by
    obtain ⟨a, vs, M', rfl, e, _, _, r, rfl⟩ := h
    obtain ⟨a', vs', N', e1, e', _, _, r', rfl⟩ := k
    cases e1
    rw [Rd.uniqK e e'] at r
    rw [RepL.uniq r r']
  | .dT ks ds, v, M, N, h, k => by
    obtain ⟨a, vs, M', rfl, e, _, _, r, rfl⟩ := h
    obtain ⟨a', vs', N', e1, e', _, _, r', rfl⟩ := k
    cases e1
    rw [Rd.uniqT e e'] at r
    rw [RepL.uniq r r']
  | .ins c ns ds, v, M, N, h, k => by
    obtain ⟨a, dx, fs, M', rfl, e, _, r, rfl⟩ := h
    obtain ⟨a', dx', fs', N', e1, e', _, r', rfl⟩ := k
    cases e1
    rw [e] at e'; cases e'
    rw [RepL.uniq r r']
theorem RepL.uniq {C : Ctx} {H : Hp} : ∀ {ds : List D} {vs : List V} {M N : List Addr}, RepL C H ds vs M → RepL C H ds vs N → M = N
  | [], _, _, _, h, k => h.2.trans k.2.symm
  | d :: ds, vs, M, N, h, k => by
    obtain ⟨v, r, M1, M2, rfl, h1, h2, rfl⟩ := h
    obtain ⟨v', r', N1, N2, e, k1, k2, rfl⟩ := k
    cases e
    rw [Rep.uniq h1 k1, RepL.uniq h2 k2]
end

theorem rdSome {H : Hp} {a : Addr} {u : HO} (h : Rd H a u) : ∃ o, H a = some o := by
  rcases h with h | ⟨o, h⟩ <;> exact ⟨_, h⟩
mutual
/-- every node is tracked -/
theorem Rep.dom {C : Ctx} {H : Hp} : ∀ {d : D} {v : V} {M : List Addr}, Rep C H d v M → ∀ a ∈ M, ∃ o, H a = some o
  | .non, _, _, h => by intro a m; rw [h.2] at m; cases m
  | .bl _, _, _, h => by intro a m; rw [h.2] at m; cases m
  | .int _, _, _, h => by intro a m; rw [h.2] at m; cases m
  | .str _, _, _, h => by intro a m; rw [h.2] at m; cases m
  | .ty _, _, _, h => by intro a m; rw [h.2] at m; cases m
  | .tup ds, v, M, h => by
    obtain ⟨a, vs, rfl, e, _, r⟩ := h
    exact RepL.dom r
  | .lst ds, v, M, h => by
    obtain ⟨a, vs, M', rfl, e, _, r, rfl⟩ := h
    intro b m
    rcases List.mem_cons.mp m with rfl | m
    · exact ⟨_, e⟩
    · exact RepL.dom r b m
  | .fz ds, v, M, h => by
    obtain ⟨_, _, _, _, _, _, rfl⟩ := h
    exact fun b m => nomatch m
  | .dK ks ds, v, M, h => by
    obtain ⟨a, vs, M', rfl, e, _, _, r, rfl⟩ := h
    intro b m
    rcases List.mem_cons.mp m with rfl | m
    · exact rdSome e
    · exact RepL.dom r b m
  | .dT ks ds, v, M, h => by
    obtain ⟨a, vs, M', rfl, e, _, _, r, rfl⟩ := h
    intro b m
    rcases List.mem_cons.mp m with rfl | m
    · exact rdSome e
    · exact RepL.dom r b m
  | .ins c ns ds, v, M, h => by
    obtain ⟨a, dx, fs, M', rfl, e, _, r, rfl⟩ := h
    intro b m
    rcases List.mem_cons.mp m with rfl | m
    · exact ⟨_, e⟩
    · exact RepL.dom r b m
theorem RepL.dom {C : Ctx} {H : Hp} : ∀ {ds : List D} {vs : List V} {M : List Addr}, RepL C H ds vs M → ∀ a ∈ M, ∃ o, H a = some o
  | [], _, _, h => by intro a m; rw [h.2] at m; cases m
  | d :: ds, vs, M, h => by
    obtain ⟨v, r, M1, M2, rfl, h1, h2, rfl⟩ := h
    intro a m
    rcases List.mem_append.mp m with m | m
    · exact Rep.dom h1 a m
    · exact RepL.dom h2 a m
end
mutual
/-- no list, dict, instance within -/
def imm : D → Bool
  | .tup ds => immL ds
  | .fz ds => immL ds
  | .lst _ => false
  | .dK _ _ => false
  | .dT _ _ => false
  | .ins _ _ _ => false
  | _ => true
def immL : List D → Bool
  | [] => true
  | d :: ds => imm d && immL ds
end
mutual
theorem Rep.imm {C : Ctx} {H : Hp} : ∀ {d : D} {v : V} {M : List Addr}, Rep C H d v M → DL.imm d = true → M = []
  | .non, _, _, h, _ => h.2
  | .bl _, _, _, h, _ => h.2
  | .int _, _, _, h, _ => h.2
  | .str _, _, _, h, _ => h.2
  | .ty _, _, _, h, _ => h.2
  | .tup ds, v, M, h, i => by
    obtain ⟨a, vs, rfl, e, _, r⟩ := h
    exact RepL.imm r (by simpa [DL.imm] using i)
  | .lst ds, v, M, h, i => by simp [DL.imm] at i
  | .fz ds, v, M, h, i => by
    obtain ⟨_, _, _, _, _, _, rfl⟩ := h
    rfl
  | .dK _ _, v, M, h, i => by simp [DL.imm] at i
  | .dT _ _, v, M, h, i => by simp [DL.imm] at i
  | .ins _ _ _, v, M, h, i => by simp [DL.imm] at i
theorem RepL.imm {C : Ctx} {H : Hp} : ∀ {ds : List D} {vs : List V} {M : List Addr}, RepL C H ds vs M → immL ds = true → M = []
  | [], _, _, h, _ => h.2
  | d :: ds, vs, M, h, i => by
    obtain ⟨v, r, M1, M2, rfl, h1, h2, rfl⟩ := h
    have i' : DL.imm d = true ∧ immL ds = true := by simpa [immL] using i
    rw [Rep.imm h1 i'.1, RepL.imm h2 i'.2]
    rfl
end
theorem RepL.length {C : Ctx} {H : Hp} : ∀ {ds : List D} {vs : List V} {M : List Addr}, RepL C H ds vs M → ds.length = vs.length
  | [], _, _, h => by rw [h.1]; rfl
  | d :: ds, vs, M, h => by
    obtain ⟨v, r, M1, M2, rfl, h1, h2, rfl⟩ := h
    rw [List.length_cons, List.length_cons, RepL.length h2]
theorem RepL.get {C : Ctx} {H : Hp} : ∀ {ds : List D} {vs : List V} {M : List Addr} {i : Nat} {d : D}, RepL C H ds vs M → ds[i]? = some d → ∃ v M', vs[i]? = some v ∧ Rep C H d v M' ∧ M'.Sublist M
  | [], _, _, _, _, _, e => by simp at e
  | d :: ds, vs, M, 0, d', h, e => by
    obtain ⟨v, r, M1, M2, rfl, h1, h2, rfl⟩ := h
    simp at e; subst e
    exact ⟨v, M1, rfl, h1, List.sublist_append_left _ _⟩
  | d :: ds, vs, M, i + 1, d', h, e => by
    obtain ⟨v, r, M1, M2, rfl, h1, h2, rfl⟩ := h
    obtain ⟨v', M', e1, r', s⟩ := RepL.get (i := i) h2 (by simpa using e)
    exact ⟨v', M', by simpa using e1, r', s.trans (List.sublist_append_right _ _)⟩
theorem RepL.append {C : Ctx} {H : Hp} : ∀ {ds es : List D} {vs ws : List V} {M N : List Addr}, RepL C H ds vs M → RepL C H es ws N → RepL C H (ds ++ es) (vs ++ ws) (M ++ N)
  | [], _, _, _, _, _, h, k => by rw [h.1, h.2]; exact k
  | d :: ds, es, vs, ws, M, N, h, k => by
    obtain ⟨v, r, M1, M2, rfl, h1, h2, rfl⟩ := h
    exact ⟨v, r ++ ws, M1, M2 ++ N, rfl, h1, RepL.append h2 k, by rw [List.append_assoc]⟩
theorem RepL.one {C : Ctx} {H : Hp} {d : D} {v : V} {M : List Addr} (h : Rep C H d v M) : RepL C H [d] [v] M := ⟨v, [], M, [], rfl, h, ⟨rfl, rfl⟩, by simp⟩
theorem RepL.split {C : Ctx} {H : Hp} : ∀ {ds es : List D} {vs : List V} {M : List Addr}, RepL C H (ds ++ es) vs M → ∃ vs1 vs2 M1 M2, vs = vs1 ++ vs2 ∧ M = M1 ++ M2 ∧ RepL C H ds vs1 M1 ∧ RepL C H es vs2 M2
  | [], es, vs, M, h => ⟨[], vs, [], M, rfl, rfl, ⟨rfl, rfl⟩, h⟩
  | d :: ds, es, vs, M, h => by
    obtain ⟨v, r, M1, M2, rfl, h1, h2, rfl⟩ := h
    obtain ⟨vs1, vs2, N1, N2, rfl, rfl, k1, k2⟩ := RepL.split h2
    exact ⟨v :: vs1, vs2, M1 ++ N1, N2, rfl, by rw [List.append_assoc], ⟨v, vs1, M1, N1, rfl, h1, k1, rfl⟩, k2⟩
end DL
/-! DL2: the environment, values with flags, readings over trees. -/
namespace DL
open PySem L2

inductive Res (α : Type) where
  | ok (a : α) | ex (c : Str) | bad
def Res.bind {α β : Type} (r : Res α) (f : α → Res β) : Res β := match r with
  | .ok a => f a
  | .ex c => .ex c
  | .bad => .bad
@[simp] theorem Res.ok_bind {α β : Type} (a : α) (f : α → Res β) : (Res.ok a).bind f = f a := rfl
@[simp] theorem Res.ex_bind {α β : Type} (c : Str) (f : α → Res β) : (Res.ex c : Res α).bind f = .ex c := rfl
@[simp] theorem Res.bad_bind {α β : Type} (f : α → Res β) : (Res.bad : Res α).bind f = .bad := rfl

/-- whose a slot's datum is: shared, the def's own, the caller's (handed in to be changed) -/
inductive Ow where
  | sh | loc | io | lk
def Ow.own : Ow → Bool
  | .sh => false
  | .lk => false
  | _ => true
/-- a value's flag: new; apart from all own slots; the def's own; any -/
inductive Fl where
  | fr | sf | mv | bo
  deriving DecidableEq
abbrev Env := List (Option (Ow × D))
abbrev FD := Fl × D

def Apart (C : Ctx) (H : Hp) (σ : St) (ρ : Env) (M : List Addr) : Prop :=
  ∀ (i : Nat) (o : Ow) (d : D) (w : V) (N : List Addr), ρ[i]? = some (some (o, d)) → o.own = true → σ[i]? = some (some w) → Rep C H d w N → ∀ a ∈ M, a ∉ N
/-- what is walked meanwhile: a value, a locked object -/
abbrev Pt := (V × D) ⊕ (Addr × Obj × HO)
def PRep (C : Ctx) (H : Hp) : Pt → List Addr → Prop
  | .inl p, N => Rep C H p.2 p.1 N
  | .inr q, N => H q.1 = some (.frz q.2.1 q.2.2) ∧ N = []
/-- the def's frame and its heap hold the environment; P: what is walked meanwhile -/
structure EnvOk (C : Ctx) (P : List Pt) (H : Hp) (σ : St) (ρ : Env) : Prop where
  len : σ.length = ρ.length
  at_ : ∀ (i : Nat) (o : Ow) (d : D), ρ[i]? = some (some (o, d)) → ∃ (v : V) (M : List Addr), σ[i]? = some (some v) ∧ Rep C H d v M ∧
    (o.own = true → M.Nodup ∧ (∀ a ∈ M, Mut (H a)) ∧
      (∀ (j : Nat) (o' : Ow) (d' : D) (w : V) (N : List Addr), j ≠ i → ρ[j]? = some (some (o', d')) → σ[j]? = some (some w) → Rep C H d' w N → ∀ a ∈ M, a ∉ N) ∧
      (∀ p ∈ P, ∀ N, PRep C H p N → ∀ a ∈ M, a ∉ N)) ∧
    (o = .loc → ∀ a ∈ M, C.H0 a = none) ∧ (o = .io → (∀ a ∈ M, a ∈ C.io ∨ C.H0 a = none) ∧ C.iov = some v) ∧ (o = .lk → ∃ a od u, v = .ref a ∧ Sum.inr (a, od, u) ∈ P)
  prot : ∀ p ∈ P, ∃ N, PRep C H p N
  kept : ∀ a o, C.H0 a = some o → a ∉ C.io → H a = some o ∨ ∃ od, .inr (a, od, o) ∈ P
  keptd : ∀ a, H a = none → C.H0 a = none

section
variable {C : Ctx} {P : List Pt} {H H' H'' : Hp} {σ : St} {ρ : Env} {d : D} {v : V} {M N : List Addr} {fl : Fl}

theorem Rep.back {N0 : List Addr} (h : Rep C H d v N0) (s : Same H H') (k : Rep C H' d v N) : Rep C H d v N := by
  rw [(h.same s).uniq k] at h
  exact h
theorem PRep.same {p : Pt} (h : PRep C H p N) (s : Same H H') : PRep C H' p N := by
  cases p with
  | inl p => exact Rep.same h s
  | inr q => exact ⟨s _ _ h.1, h.2⟩
theorem PRep.uniq {p : Pt} (h : PRep C H p M) (k : PRep C H p N) : M = N := by
  cases p with
  | inl p => exact Rep.uniq h k
  | inr q => exact h.2.trans k.2.symm
theorem PRep.back {p : Pt} {N0 : List Addr} (h : PRep C H p N0) (s : Same H H') (k : PRep C H' p N) : PRep C H p N := by
  rw [(h.same s).uniq k] at h
  exact h
theorem mut_some {o : Option HO} (m : Mut o) : ∃ u, o = some u := by
  cases o with
  | none => exact (show False from m).elim
  | some u => exact ⟨u, rfl⟩
theorem mut_same (s : Same H H') {a : Addr} (m : Mut (H a)) : Mut (H' a) := by
  obtain ⟨u, e⟩ := mut_some m
  rw [s a u e, ← e]
  exact m
theorem EnvOk.same (E : EnvOk C P H σ ρ) (s : Same H H') : EnvOk C P H' σ ρ := by
  refine ⟨E.len, fun i o d e => ?_, fun p hp => ?_, fun a o e n => (E.kept a o e n).imp_left (s a o), fun a e => E.keptd a (s.free e)⟩
  · obtain ⟨v, M, e1, r, ow, lo, io⟩ := E.at_ i o d e
    refine ⟨v, M, e1, r.same s, fun hw => ?_, lo, io⟩
    obtain ⟨nd, mu, ap, pr⟩ := ow hw
    refine ⟨nd, fun a m => mut_same s (mu a m), fun j o' d' w N ne ej sj rj => ?_, fun p hp N rp => ?_⟩
    · obtain ⟨w', N', e', r', _⟩ := E.at_ j o' d' ej
      rw [sj] at e'; cases e'
      exact ap j o' d' w N ne ej sj (r'.back s rj)
    · obtain ⟨N', r'⟩ := E.prot p hp
      exact pr p hp N (r'.back s rp)
  · obtain ⟨N, r⟩ := E.prot p hp
    exact ⟨N, r.same s⟩
theorem Apart.back (E : EnvOk C P H σ ρ) (s : Same H H') (h : Apart C H σ ρ M) : Apart C H' σ ρ M := fun i o d w N e ow e1 r => by
  obtain ⟨w', N', e', r', _⟩ := E.at_ i o d e
  rw [e1] at e'; cases e'
  exact h i o d w N e ow e1 (r'.back s r)

/-- what a flag tells of the value's nodes; H: ahead of it, H': behind -/
def FlOk (C : Ctx) (H : Hp) (σ : St) (ρ : Env) (H' : Hp) : Fl → List Addr → Prop
  | .fr, M => M.Nodup ∧ (∀ a ∈ M, H a = none) ∧ ∀ a ∈ M, Mut (H' a)
  | .sf, M => Apart C H σ ρ M
  | .mv, M => M.Nodup ∧ (∀ a ∈ M, C.H0 a = none) ∧ ∀ a ∈ M, Mut (H' a)
  | .bo, _ => True
theorem FlOk.nil : FlOk C H σ ρ H' fl [] := by
  cases fl with
  | fr => exact ⟨List.nodup_nil, (fun a m => nomatch m), (fun a m => nomatch m)⟩
  | sf => exact fun _ _ _ _ _ _ _ _ _ a m => nomatch m
  | mv => exact ⟨List.nodup_nil, (fun a m => nomatch m), (fun a m => nomatch m)⟩
  | bo => trivial
theorem FlOk.sub (h : FlOk C H σ ρ H' fl M) (s : N.Sublist M) : FlOk C H σ ρ H' fl N := by
  cases fl with
  | fr => exact ⟨h.1.sublist s, fun a m => h.2.1 a (s.subset m), fun a m => h.2.2 a (s.subset m)⟩
  | sf => exact fun i o d w L e ow e1 r a m => h i o d w L e ow e1 r a (s.subset m)
  | mv => exact ⟨h.1.sublist s, fun a m => h.2.1 a (s.subset m), fun a m => h.2.2 a (s.subset m)⟩
  | bo => trivial
/-- a value further on -/
theorem FlOk.on (s : Same H' H'') (h : FlOk C H σ ρ H' fl M) : FlOk C H σ ρ H'' fl M := by
  cases fl with
  | fr => exact ⟨h.1, h.2.1, fun a m => mut_same s (h.2.2 a m)⟩
  | sf => exact h
  | mv => exact ⟨h.1, h.2.1, fun a m => mut_same s (h.2.2 a m)⟩
  | bo => trivial
/-- told from an earlier heap -/
theorem FlOk.early {H0 : Hp} (E : EnvOk C P H0 σ ρ) (s : Same H0 H) (h : FlOk C H σ ρ H' fl M) : FlOk C H0 σ ρ H' fl M := by
  cases fl with
  | fr => exact ⟨h.1, fun a m => s.free (h.2.1 a m), h.2.2⟩
  | sf => exact fun i o d w N e ow e1 r a m => h i o d w N e ow e1 (r.same s) a m
  | mv => exact h
  | bo => trivial
def up (fl : Fl) (d : D) : FD := (if imm d = true then .fr else fl, d)
theorem FlOk.up (r : Rep C H' d v M) (h : FlOk C H σ ρ H' fl M) : FlOk C H σ ρ H' (DL.up fl d).1 M := by
  unfold DL.up
  by_cases i : imm d = true
  · rw [if_pos i, r.imm i]
    exact .nil
  · rw [if_neg i]
    exact h
def VOk (C : Ctx) (H : Hp) (σ : St) (ρ : Env) (H' : Hp) (fd : FD) (v : V) : Prop := Same H H' ∧ ∃ M, Rep C H' fd.2 v M ∧ FlOk C H σ ρ H' fd.1 M

/-- a new list, dict, tuple, text, number: its nodes are new -/
def New (C : Ctx) (H H' : Hp) (d : D) (v : V) : Prop := Same H H' ∧ ∃ M, Rep C H' d v M ∧ M.Nodup ∧ (∀ a ∈ M, H a = none) ∧ ∀ a ∈ M, Mut (H' a)
theorem New.vok (h : New C H H' d v) : VOk C H σ ρ H' (.fr, d) v := ⟨h.1, h.2.elim fun M x => ⟨M, x.1, x.2⟩⟩
theorem New.imm (s : Same H H') (r : Rep C H' d v []) : New C H H' d v := ⟨s, [], r, List.nodup_nil, (fun a m => nomatch m), (fun a m => nomatch m)⟩

/-- an expression's reading over trees -/
def RV (C : Ctx) (W : WX) (f : Env → Res FD) : TE := fun σ H Q => ∃ ρ P, EnvOk C P H σ ρ ∧ match f ρ with
  | .ok fd => ∀ v H', VOk C H σ ρ H' fd v → Q v H'
  | .ex c => ∀ H', Same H H' → W (.ref (C.cls c)) none σ H'
  | .bad => False
/-- a test's -/
def RT (C : Ctx) (W : WX) (f : Env → Res Bool) : TT := fun σ H Q => ∃ ρ P, EnvOk C P H σ ρ ∧ match f ρ with
  | .ok b => ∀ H', Same H H' → Q b H'
  | .ex c => ∀ H', Same H H' → W (.ref (C.cls c)) none σ H'
  | .bad => False
/-- an argument list's; the items' flags are kept -/
def RA (C : Ctx) (W : WX) (f : Env → Res (List FD)) : TA := fun σ H Q => ∃ ρ P, EnvOk C P H σ ρ ∧ match f ρ with
  | .ok fds => ∀ vs H', Same H H' → (∃ Ms : List (List Addr), RepL C H' (fds.map (·.2)) vs Ms.flatten ∧ Ms.length = fds.length ∧
      (∀ (i : Nat) (fd : FD) (M : List Addr), fds[i]? = some fd → Ms[i]? = some M → FlOk C H σ ρ H' fd.1 M) ∧ (fds.all (fun fd => fd.1 == .fr) = true → Ms.flatten.Nodup)) → Q vs H'
  | .ex c => ∀ H', Same H H' → W (.ref (C.cls c)) none σ H'
  | .bad => False
end

theorem _root_.L2.PE.imp {X : Cx} {e : Expr} {t t' : TE} (h : PE X e t) (i : ∀ σ H Q, t' σ H Q → t σ H Q) : PE X e t' := ⟨fun pins s σ H Q I q => h.run pins s σ H Q I (i σ H Q q)⟩
theorem _root_.L2.PT.imp {X : Cx} {e : Expr} {t t' : TT} (h : PT X e t) (i : ∀ σ H Q, t' σ H Q → t σ H Q) : PT X e t' := ⟨fun pins s σ H Q I q => h.run pins s σ H Q I (i σ H Q q)⟩
theorem _root_.L2.PA.imp {X : Cx} {e : List Expr} {t t' : TA} (h : PA X e t) (i : ∀ σ H Q, t' σ H Q → t σ H Q) : PA X e t' := ⟨fun pos pins s σ H Q I q => h.run pos pins s σ H Q I (i σ H Q q)⟩
theorem _root_.L2.PS.imp {X : Cx} {e : Stmt} {t t' : TS} (h : PS X e t) (i : ∀ D σ H, t' D σ H → t D σ H) : PS X e t' := ⟨fun pins s σ H Q I q => h.run pins s σ H Q I (i Q σ H q)⟩
theorem _root_.L2.PSs.imp {X : Cx} {e : List Stmt} {t t' : TS} (h : PSs X e t) (i : ∀ D σ H, t' D σ H → t D σ H) : PSs X e t' := ⟨fun pins s σ H Q I q => h.run pins s σ H Q I (i Q σ H q)⟩

/-- what the rules lean on -/
structure Fx (R : Nat) (C : Ctx) (X : Cx) (W : WX) : Prop where
  hK : X.K = C.K
  tk : Takes X W
  ps : PassesOwn (model X.prog X.w) X.A X.env X.xe
  calm : X.calm = true
  hu : X.A.units + 200 < cLine
  nd : X.N.Nodup
  room : Room R X.A

section
variable {C : Ctx} {X : Cx} {W : WX} {pos : Pos}
/-- a name's datum -/
def dVar (i : Nat) : Env → Res FD := fun ρ => match ρ[i]? with
  | some (some (.sh, d)) => .ok (up .sf d)
  | some (some (.loc, d)) => .ok (up .mv d)
  | some (some (.io, d)) => .ok (up .bo d)
  | some (some (.lk, d)) => .ok (up .sf d)
  | _ => .bad
theorem rv_var {i : Nat} {σ : St} {H : Hp} {Q : VK} (h : RV C W (dVar i) σ H Q) : tVar i σ H Q := by
  obtain ⟨ρ, P, E, h⟩ := h
  unfold dVar at h
  cases e : ρ[i]? with
  | none => rw [e] at h; exact h.elim
  | some s =>
    cases s with
    | none => rw [e] at h; exact h.elim
    | some p =>
      obtain ⟨o, d⟩ := p
      obtain ⟨v, M, e1, r, ow, lo, io⟩ := E.at_ i o d e
      rw [e] at h
      refine ⟨v, e1, ?_⟩
      cases o with
      | sh =>
        refine h v H ⟨Same.refl H, M, r, FlOk.up r ?_⟩
        intro j o' d' w N ej oj sj rj a ma na
        obtain ⟨w', N', e', r', ow', _⟩ := E.at_ j o' d' ej
        rw [sj] at e'; cases e'
        rw [r'.uniq rj] at ow'
        refine (ow' oj).2.2.1 i .sh d v M (fun z => ?_) e e1 r a na ma
        subst z
        rw [e] at ej; cases ej; cases oj
      | loc => exact h v H ⟨Same.refl H, M, r, FlOk.up r ⟨(ow rfl).1, lo rfl, (ow rfl).2.1⟩⟩
      | io => exact h v H ⟨Same.refl H, M, r, FlOk.up r trivial⟩
      | lk =>
        refine h v H ⟨Same.refl H, M, r, FlOk.up r ?_⟩
        intro j o' d' w N ej oj sj rj a ma na
        obtain ⟨w', N', e', r', ow', _⟩ := E.at_ j o' d' ej
        rw [sj] at e'; cases e'
        rw [r'.uniq rj] at ow'
        refine (ow' oj).2.2.1 i .lk d v M (fun z => ?_) e e1 r a na ma
        subst z
        rw [e] at ej; cases ej; cases oj
theorem pd_var (i : Nat) {x : Str} (hN : X.N[i]? = some x := by rfl) (hv : Vis X.env.scope x := by first | exact Or.inl rfl | exact Or.inr (Or.inl rfl) | exact Or.inr (Or.inr rfl)) (hd : (x == ("__debug__" : Str)) = false := by decide)
    (hcd : (x == ("__classdict__" : Str)) = false := by decide) : PE X (.Name x pos) (RV C W (dVar i)) := (pe_var hN hv hd hcd).imp fun _ _ _ => rv_var

/-- a constant -/
def dC (d : D) : Env → Res FD := fun _ => .ok (.fr, d)
theorem rv_c {d : D} {v : V} (hd : ∀ (C : Ctx) (H : Hp), Rep C H d v []) {σ : St} {H : Hp} {Q : VK} (h : RV C W (dC d) σ H Q) : tC v σ H Q := by
  obtain ⟨ρ, P, E, h⟩ := h
  exact h v H ⟨Same.refl H, [], hd C H, .nil⟩
theorem pd_int {i j} : PE X (.Constant (.int i) j pos) (RV C W (dC (.int i))) := pe_int.imp fun _ _ _ => rv_c (d := .int i) (v := .int i) fun _ _ => ⟨rfl, rfl⟩
theorem pd_bl {b j} : PE X (.Constant (.bool b) j pos) (RV C W (dC (.bl b))) := pe_bl.imp fun _ _ _ => rv_c (d := .bl b) (v := .bl b) fun _ _ => ⟨rfl, rfl⟩
theorem pd_non {j} : PE X (.Constant .none j pos) (RV C W (dC .non)) := pe_non.imp fun _ _ _ => rv_c (d := .non) (v := .non) fun _ _ => ⟨rfl, rfl⟩
theorem pd_str {x j} : PE X (.Constant (.str x) j pos) (RV C W (dC (.str x))) := pe_str.imp fun _ _ _ => rv_c (d := .str x) (v := .str x) fun _ _ => ⟨rfl, rfl⟩
theorem pd_gint {x : Str} {i : Int} {t : Tok} (hg : Gl X x) (hm : X.mg x = some (.int i t)) (hd : (x == ("__debug__" : Str)) = false := by decide) : PE X (.Name x pos) (RV C W (dC (.int i))) :=
  (pe_glob hg hm (v := .int i) ⟨_, rfl⟩ hd).imp fun _ _ _ => rv_c (d := .int i) (v := .int i) fun _ _ => ⟨rfl, rfl⟩
theorem pd_gstr {x y : Str} {t : Tok} (hg : Gl X x) (hm : X.mg x = some (.str y t)) (hd : (x == ("__debug__" : Str)) = false := by decide) : PE X (.Name x pos) (RV C W (dC (.str y))) :=
  (pe_glob hg hm (v := .str y) ⟨_, rfl⟩ hd).imp fun _ _ _ => rv_c (d := .str y) (v := .str y) fun _ _ => ⟨rfl, rfl⟩
/-- a built-in class's name -/
theorem pd_ty {x : Str} {n : String} (hg : Gl X x) (hm : X.mg x = none) (hv : bootBuiltins x = some (.type n)) (hn : x ≠ "__name__" := by decide) (hd : (x == ("__debug__" : Str)) = false := by decide) : PE X (.Name x pos) (RV C W (dC (.ty n))) :=
  (pe_bltn hg hm hv (v := .ty n) rfl hn hd).imp fun _ _ _ => rv_c (d := .ty n) (v := .ty n) fun _ _ => ⟨rfl, rfl⟩

/-! ### one, two operands -/
def bind1 (f : Env → Res FD) (k : FD → Res FD) : Env → Res FD := fun ρ => (f ρ).bind k
def bind2 (f g : Env → Res FD) (k : FD → FD → Res FD) : Env → Res FD := fun ρ => (f ρ).bind fun x => (g ρ).bind fun y => k x y
/-- an operation on values by trees: the answer new, or a part of the left one -/
def Op1 (C : Ctx) (r : V → Hp → VK → Prop) (k : FD → Res FD) : Prop :=
  ∀ (H : Hp) (x : V) (fx : FD) (M : List Addr) (Q : VK) (z : FD), Rep C H fx.2 x M → k fx = .ok z →
    ((∀ v H', New C H H' z.2 v → z.1 = .fr → Q v H') ∧ (∀ v N, Rep C H z.2 v N → N.Sublist M → z.1 = (up fx.1 z.2).1 → Q v H)) → r x H Q
def Op2 (C : Ctx) (r : R2) (k : FD → FD → Res FD) : Prop :=
  ∀ (H : Hp) (x y : V) (fx fy : FD) (M N : List Addr) (Q : VK) (z : FD), Rep C H fx.2 x M → Rep C H fy.2 y N → k fx fy = .ok z →
    ((∀ v H', New C H H' z.2 v → z.1 = .fr → Q v H') ∧ (∀ v L, Rep C H z.2 v L → L.Sublist M → z.1 = (up fx.1 z.2).1 → Q v H)) → r x y H Q
theorem New.early {H0 H H' : Hp} {d : D} {v : V} (s : Same H0 H) (h : New C H H' d v) : New C H0 H' d v := by
  obtain ⟨s', M, r, nd, nw, mu⟩ := h
  exact ⟨s.trans s', M, r, nd, fun a m => s.free (nw a m), mu⟩
theorem rv1 {r : V → Hp → VK → Prop} {f : Env → Res FD} {k : FD → Res FD} (hk : Op1 C r k) (hx : ∀ x c, k x ≠ .ex c) {σ : St} {H : Hp} {Q : VK} (h : RV C W (bind1 f k) σ H Q) : RV C W f σ H fun x H1 => r x H1 Q := by
  obtain ⟨ρ, P, E, h⟩ := h
  refine ⟨ρ, P, E, ?_⟩
  unfold bind1 at h
  cases e : f ρ with
  | bad => rw [e] at h; exact h
  | ex c => rw [e] at h; exact h
  | ok fx =>
    rw [e] at h
    intro x H1 ⟨s1, M, r1, f1⟩
    simp only [Res.ok_bind] at h
    cases ek : k fx with
    | bad => rw [ek] at h; exact h.elim
    | ex c => exact absurd ek (hx _ c)
    | ok z =>
      rw [ek] at h
      refine hk H1 x fx M Q z r1 ek ⟨fun v H' n ez => h v H' ?_, fun v N rz sub ez => h v H1 ⟨s1, N, rz, ?_⟩⟩
      · obtain ⟨fl, z⟩ := z
        cases ez
        exact (n.early s1).vok
      · rw [ez]
        exact FlOk.up rz (f1.sub sub)
theorem rv2 {r : R2} {f g : Env → Res FD} {k : FD → FD → Res FD} (hk : Op2 C r k) (hx : ∀ x y c, k x y ≠ .ex c) {σ : St} {H : Hp} {Q : VK} (h : RV C W (bind2 f g k) σ H Q) : tOp r (RV C W f) (RV C W g) σ H Q := by
  obtain ⟨ρ, P, E, h⟩ := h
  refine ⟨ρ, P, E, ?_⟩
  unfold bind2 at h
  cases e : f ρ with
  | bad => rw [e] at h; exact h
  | ex c => rw [e] at h; exact h
  | ok fx =>
    rw [e] at h
    simp only [Res.ok_bind] at h
    intro x H1 ⟨s1, M, r1, f1⟩
    refine ⟨ρ, P, E.same s1, ?_⟩
    cases e2 : g ρ with
    | bad => rw [e2] at h; exact h
    | ex c => rw [e2] at h; exact fun H' s' => h H' (s1.trans s')
    | ok fy =>
      rw [e2] at h
      simp only [Res.ok_bind] at h
      intro y H2 ⟨s2, N, r2, f2⟩
      cases ek : k fx fy with
      | bad => rw [ek] at h; exact h.elim
      | ex c => exact absurd ek (hx _ _ c)
      | ok z =>
        rw [ek] at h
        have s12 := s1.trans s2
        refine hk H2 x y fx fy M N Q z (r1.same s2) r2 ek ⟨fun v H' n ez => h v H' ?_, fun v L rz sub ez => h v H2 ⟨s12, L, rz, ?_⟩⟩
        · obtain ⟨fl, z⟩ := z
          cases ez
          exact (n.early s12).vok
        · rw [ez]
          exact FlOk.up rz ((f1.on s2).sub sub)
theorem pd_bin {op : Operator} {r : R2} {k : FD → FD → Res FD} {a b : Expr} {f g : Env → Res FD} (ho : OpR X (binaryOp op) r) (hk : Op2 C r k) (hx : ∀ x y c, k x y ≠ .ex c) (ha : PE X a (RV C W f)) (hb : PE X b (RV C W g)) :
    PE X (.BinOp a op b pos) (RV C W (bind2 f g k)) := (pe_op ho ha hb).imp fun _ _ _ => rv2 hk hx
theorem pd_cmp {op : CmpOp} {r : R2} {k : FD → FD → Res FD} {a b : Expr} {f g : Env → Res FD} (ho : OpR X (compareOp op) r) (hk : Op2 C r k) (hx : ∀ x y c, k x y ≠ .ex c) (ha : PE X a (RV C W f)) (hb : PE X b (RV C W g)) (hm : behindInMarks op b = false) :
    PE X (.Compare a [op] [b] pos) (RV C W (bind2 f g k)) := (pe_cmpR ho ha hb hm).imp fun _ _ _ => rv2 hk hx
end
end DL
/-! DL3: operators on trees. -/
namespace DL
open PySem L2

mutual
/-- a tree as the model's data -/
def toP : D → PyData
  | .non => .none
  | .bl b => .bool b
  | .int i => .int i
  | .str x => .str x
  | .tup ds => .tuple (toPL ds)
  | .lst ds => .list (toPL ds)
  | _ => .dict []
def toPL : List D → List PyData
  | [] => []
  | d :: ds => toP d :: toPL ds
end
theorem toPL_map : ∀ ds : List D, toPL ds = ds.map toP
  | [] => by rw [toPL]; rfl
  | d :: ds => by rw [toPL, toPL_map ds]; rfl
mutual
theorem Rep.dp {C : Ctx} {H : Hp} : ∀ {d : D} {v : V} {M : List Addr}, Rep C H d v M → (toP d).canLay0 = true → Dp C.K H v (toP d)
  | .non, v, M, h, _ => by rw [h.1, toP]; exact .non
  | .bl b, v, M, h, _ => by rw [h.1, toP]; exact .bl b
  | .int i, v, M, h, _ => by rw [h.1, toP]; exact .int i
  | .str x, v, M, h, _ => by rw [h.1, toP]; exact .str x
  | .ty n, v, M, h, c => by simp [toP, PyData.canLay0] at c
  | .tup ds, v, M, h, c => by
    obtain ⟨a, vs, rfl, e, _, r⟩ := h
    rw [toP]
    exact .tup (.inl (.inl e)) (RepL.dp r (by simpa [toP, PyData.canLay0] using c))
  | .lst ds, v, M, h, c => by
    obtain ⟨a, vs, M', rfl, e, _, r, rfl⟩ := h
    rw [toP]
    exact .lst (.inl (.inl e)) (RepL.dp r (by simpa [toP, PyData.canLay0] using c))
  | .fz _, v, M, h, c => by simp [toP, PyData.canLay0] at c
  | .dK _ _, v, M, h, c => by simp [toP, PyData.canLay0] at c
  | .dT _ _, v, M, h, c => by simp [toP, PyData.canLay0] at c
  | .ins _ _ _, v, M, h, c => by simp [toP, PyData.canLay0] at c
theorem RepL.dp {C : Ctx} {H : Hp} : ∀ {ds : List D} {vs : List V} {M : List Addr}, RepL C H ds vs M → PyData.canLayAll0 (toPL ds) = true → DpAll C.K H vs (toPL ds)
  | [], vs, M, h, _ => by rw [h.1, toPL]; exact .nil
  | d :: ds, vs, M, h, c => by
    obtain ⟨v, r, M1, M2, rfl, h1, h2, rfl⟩ := h
    have c' : (toP d).canLay0 = true ∧ PyData.canLayAll0 (toPL ds) = true := by simpa [toPL, PyData.canLayAll0] using c
    rw [toPL]
    exact .cons (Rep.dp h1 c'.1) (RepL.dp h2 c'.2)
end
/-- what can be compared -/
def okP (d : D) : Bool := SeqAt.shaped (toP d)
def eqvD (a b : D) : Bool := PyData.eqv (toP a) (toP b)
theorem layOk {d : D} (h : okP d = true) : (toP d).canLay0 = true := SeqAt.canLay_of_shaped h

section
variable {C : Ctx} {X : Cx} {W : WX}
def isOk {α : Type} : Res α → Bool
  | .ok _ => true
  | _ => false
/-- the answer True or False -/
theorem bl_new {H : Hp} {b : Bool} : New C H H (.bl b) (.bl b) := .imm (Same.refl H) ⟨rfl, rfl⟩
theorem int_new {H : Hp} {i : Int} : New C H H (.int i) (.int i) := .imm (Same.refl H) ⟨rfl, rfl⟩
theorem str_new {H : Hp} {x : Str} : New C H H (.str x) (.str x) := .imm (Same.refl H) ⟨rfl, rfl⟩
theorem non_new {H : Hp} : New C H H .non .non := .imm (Same.refl H) ⟨rfl, rfl⟩

/-! ### == and != -/
def eqD (neg : Bool) : FD → FD → Res FD := fun x y => if (okP x.2 && okP y.2) = true then .ok (.fr, .bl (if neg then !eqvD x.2 y.2 else eqvD x.2 y.2)) else .bad
theorem eqD_nx {neg : Bool} : ∀ x y c, eqD neg x y ≠ .ex c := fun x y c e => by
  unfold eqD at e
  split at e <;> cases e
theorem eqD_op (hK : X.K = C.K) : Op2 C (rEqD X.K) (eqD false) := by
  intro H x y fx fy M N Q z r1 r2 e h
  unfold eqD at e
  split at e
  · rename_i o
    cases e
    rw [Bool.and_eq_true] at o
    rw [hK]
    exact ⟨toP fx.2, toP fy.2, r1.dp (layOk o.1), r2.dp (layOk o.2), o.1, o.2, h.1 _ H bl_new rfl⟩
  · cases e
theorem neD_op (hK : X.K = C.K) : Op2 C (rNeD X.K) (eqD true) := by
  intro H x y fx fy M N Q z r1 r2 e h
  unfold eqD at e
  split at e
  · rename_i o
    cases e
    rw [Bool.and_eq_true] at o
    rw [hK]
    exact ⟨toP fx.2, toP fy.2, r1.dp (layOk o.1), r2.dp (layOk o.2), o.1, o.2, h.1 _ H bl_new rfl⟩
  · cases e
variable {a b : Expr} {f g : Env → Res FD} {pos : Pos}
theorem pd_eq (F : Fx R C X W) (ha : PE X a (RV C W f)) (hb : PE X b (RV C W g)) : PE X (.Compare a [.Eq] [b] pos) (RV C W (bind2 f g (eqD false))) :=
  pd_cmp (op_eqD (by have := F.hu; omega)) (eqD_op F.hK) eqD_nx ha hb (nomark _)
theorem pd_ne (F : Fx R C X W) (ha : PE X a (RV C W f)) (hb : PE X b (RV C W g)) : PE X (.Compare a [.NotEq] [b] pos) (RV C W (bind2 f g (eqD true))) :=
  pd_cmp (op_neD (by have := F.hu; omega)) (neD_op F.hK) eqD_nx ha hb (nomark _)

/-! ### is None -/
def isNonD : D → Bool
  | .non => true
  | _ => false
def isND (neg : Bool) : FD → FD → Res FD := fun x y => match y.2 with
  | .non => .ok (.fr, .bl (if neg then !isNonD x.2 else isNonD x.2))
  | _ => .bad
theorem isND_nx {neg : Bool} : ∀ x y c, isND neg x y ≠ .ex c := fun x y c e => by
  unfold isND at e
  split at e <;> cases e
theorem rep_non {H : Hp} {d : D} {v : V} {M : List Addr} (r : Rep C H d v M) : decide (v = .non) = isNonD d := by
  cases d with
  | non => rw [r.1]; rfl
  | bl b => rw [r.1]; rfl
  | int i => rw [r.1]; rfl
  | str x => rw [r.1]; rfl
  | ty n => rw [r.1]; rfl
  | tup ds => obtain ⟨a, _, rfl, _⟩ := r; rfl
  | lst ds => obtain ⟨a, _, _, rfl, _⟩ := r; rfl
  | fz ds => obtain ⟨a, _, rfl, _⟩ := r; rfl
  | dK _ _ => obtain ⟨a, _, _, rfl, _⟩ := r; rfl
  | dT _ _ => obtain ⟨a, _, _, rfl, _⟩ := r; rfl
  | ins _ _ _ => obtain ⟨a, _, _, _, rfl, _⟩ := r; rfl
theorem isND_op : Op2 C (fun x y H Q => y = .non ∧ Q (.bl (decide (x = .non))) H) (isND false) := by
  intro H x y fx fy M N Q z r1 r2 e h
  obtain ⟨fl, dy⟩ := fy
  cases dy <;> first | (cases e; done) | skip
  cases e
  refine ⟨r2.1, ?_⟩
  rw [rep_non r1]
  exact h.1 _ H bl_new rfl
theorem isNND_op : Op2 C (fun x y H Q => y = .non ∧ Q (.bl (!decide (x = .non))) H) (isND true) := by
  intro H x y fx fy M N Q z r1 r2 e h
  obtain ⟨fl, dy⟩ := fy
  cases dy <;> first | (cases e; done) | skip
  cases e
  refine ⟨r2.1, ?_⟩
  rw [rep_non r1]
  exact h.1 _ H bl_new rfl
theorem pd_isN (ha : PE X a (RV C W f)) (hb : PE X b (RV C W g)) : PE X (.Compare a [.Is] [b] pos) (RV C W (bind2 f g (isND false))) := pd_cmp op_isN isND_op isND_nx ha hb (nomark _)
theorem pd_isNN (ha : PE X a (RV C W f)) (hb : PE X b (RV C W g)) : PE X (.Compare a [.IsNot] [b] pos) (RV C W (bind2 f g (isND true))) := pd_cmp op_notN isNND_op isND_nx ha hb (nomark _)

/-! ### the order of ints -/
def ordD (p : Int → Int → Bool) : FD → FD → Res FD := fun x y => match x.2, y.2 with
  | .int i, .int j => .ok (.fr, .bl (p i j))
  | _, _ => .bad
theorem ordD_nx {p : Int → Int → Bool} : ∀ x y c, ordD p x y ≠ .ex c := fun x y c e => by
  unfold ordD at e
  split at e <;> cases e
theorem ordD_op {p : Int → Int → Bool} : Op2 C (rI0 fun i j => .bl (p i j)) (ordD p) := by
  intro H x y fx fy M N Q z r1 r2 e h
  obtain ⟨fl, dx⟩ := fx
  obtain ⟨fl', dy⟩ := fy
  cases dx <;> first | (cases e; done) | skip
  cases dy <;> first | (cases e; done) | skip
  cases e
  exact ⟨_, _, r1.1, r2.1, h.1 _ H bl_new rfl⟩
abbrev ltI (i j : Int) : Bool := decide (i < j)
abbrev leI (i j : Int) : Bool := decide (i ≤ j)
abbrev gtI (i j : Int) : Bool := decide (j < i)
abbrev geI (i j : Int) : Bool := decide (j ≤ i)
theorem pd_lt (ha : PE X a (RV C W f)) (hb : PE X b (RV C W g)) : PE X (.Compare a [.Lt] [b] pos) (RV C W (bind2 f g (ordD ltI))) := pd_cmp op_lt ordD_op ordD_nx ha hb (nomark _)
theorem pd_le (ha : PE X a (RV C W f)) (hb : PE X b (RV C W g)) : PE X (.Compare a [.LtE] [b] pos) (RV C W (bind2 f g (ordD leI))) := pd_cmp op_le ordD_op ordD_nx ha hb (nomark _)
theorem pd_gt (ha : PE X a (RV C W f)) (hb : PE X b (RV C W g)) : PE X (.Compare a [.Gt] [b] pos) (RV C W (bind2 f g (ordD gtI))) := pd_cmp op_gt ordD_op ordD_nx ha hb (nomark _)
theorem pd_ge (ha : PE X a (RV C W f)) (hb : PE X b (RV C W g)) : PE X (.Compare a [.GtE] [b] pos) (RV C W (bind2 f g (ordD geI))) := pd_cmp op_ge ordD_op ordD_nx ha hb (nomark _)

/-! ### arithmetic -/
def arI (p : Int → Int → Bool) (k : Int → Int → Int) : FD → FD → Res FD := fun x y => match x.2, y.2 with
  | .int i, .int j => if p i j = true then .ok (.fr, .int (k i j)) else .bad
  | _, _ => .bad
theorem arI_nx {p : Int → Int → Bool} {k : Int → Int → Int} : ∀ x y c, arI p k x y ≠ .ex c := fun x y c e => by
  unfold arI at e
  split at e
  · split at e <;> cases e
  · cases e
theorem arI_op {p : Int → Int → Bool} {k : Int → Int → Int} {c : Int → Int → Prop} (hp : ∀ i j, p i j = true → c i j) : Op2 C (rI c fun i j => .int (k i j)) (arI p k) := by
  intro H x y fx fy M N Q z r1 r2 e h
  obtain ⟨fl, dx⟩ := fx
  obtain ⟨fl', dy⟩ := fy
  cases dx <;> first | (cases e; done) | skip
  cases dy <;> first | (cases e; done) | skip
  rename_i i j
  unfold arI at e
  dsimp only at e
  split at e
  · rename_i q
    cases e
    exact ⟨i, j, r1.1, r2.1, hp _ _ q, h.1 _ H int_new rfl⟩
  · cases e
def divP (i j : Int) : Bool := decide (0 < j) && decide (j < 1073741824)
def modP (i j : Int) : Bool := decide (0 < j)
def powP (i j : Int) : Bool := decide (0 ≤ j) && decide (j ≤ 1000000) && decide (i.natAbs < 2 ^ 64)
theorem pd_fdiv (ha : PE X a (RV C W f)) (hb : PE X b (RV C W g)) : PE X (.BinOp a .FloorDiv b pos) (RV C W (bind2 f g (arI divP fun i j => i / j))) :=
  pd_bin op_fdiv (arI_op fun i j h => by simp only [divP, Bool.and_eq_true, decide_eq_true_eq] at h; exact h) arI_nx ha hb
theorem pd_mod (ha : PE X a (RV C W f)) (hb : PE X b (RV C W g)) : PE X (.BinOp a .Mod b pos) (RV C W (bind2 f g (arI modP fun i j => i % j))) :=
  pd_bin op_mod (arI_op fun i j h => by simp only [modP, decide_eq_true_eq] at h; exact h) arI_nx ha hb
theorem pd_pow (ha : PE X a (RV C W f)) (hb : PE X b (RV C W g)) : PE X (.BinOp a .Pow b pos) (RV C W (bind2 f g (arI powP fun i j => i ^ j.toNat))) :=
  pd_bin op_pow (arI_op fun i j h => by simp only [powP, Bool.and_eq_true, decide_eq_true_eq] at h; exact ⟨h.1.1, h.1.2, h.2⟩) arI_nx ha hb
theorem pd_sub (ha : PE X a (RV C W f)) (hb : PE X b (RV C W g)) : PE X (.BinOp a .Sub b pos) (RV C W (bind2 f g (arI (fun _ _ => true) fun i j => i - j))) :=
  pd_bin (r := rI (fun _ _ => True) fun i j => .int (i - j)) (fun pins s σ H x y v u Q I rx ry h => op_sub pins s σ H x y v u Q I rx ry (by obtain ⟨i, j, e1, e2, _, q⟩ := h; exact ⟨i, j, e1, e2, q⟩)) (arI_op fun _ _ _ => trivial) arI_nx ha hb
/-- a new list of immutable items -/
theorem lst_new {H : Hp} {p : Addr} {ds : List D} {vs : List V} (hp : H p = none) (hz : ds.length ≤ sizeLine) (r : RepL C H ds vs []) : New C H (upd H p (.lst vs)) (.lst ds) (.ref p) := by
  have s : Same H (upd H p (.lst vs)) := fun b o e => by rw [upd_ne (ne_of_none e hp)]; exact e
  refine ⟨s, [p], ⟨p, vs, [], rfl, upd_same, hz, r.same s, rfl⟩, by simp, fun a m => ?_, fun a m => ?_⟩
  · obtain rfl : a = p := by simpa using m
    exact hp
  · obtain rfl : a = p := by simpa using m
    rw [upd_same]; exact trivial
theorem tup_new {H : Hp} {p : Addr} {ds : List D} {vs : List V} (hp : H p = none) (hz : ds.length ≤ sizeLine) (r : RepL C H ds vs []) : New C H (upd H p (.tup vs)) (.tup ds) (.ref p) := by
  have s : Same H (upd H p (.tup vs)) := fun b o e => by rw [upd_ne (ne_of_none e hp)]; exact e
  exact .imm s ⟨p, vs, rfl, upd_same, hz, r.same s⟩
/-- + -/
def addD : FD → FD → Res FD := fun x y => match x.2, y.2 with
  | .int i, .int j => .ok (.fr, .int (i + j))
  | .str s, .str t => if s.length + t.length ≤ sizeLine then .ok (.fr, .str (s ++ t)) else .bad
  | .lst xs, .lst ys => if (immL xs && immL ys) = true ∧ xs.length + ys.length ≤ sizeLine then .ok (.fr, .lst (xs ++ ys)) else .bad
  | .tup xs, .tup ys => if (immL xs && immL ys) = true ∧ xs.length + ys.length ≤ sizeLine then .ok (.fr, .tup (xs ++ ys)) else .bad
  | _, _ => .bad
theorem addD_nx : ∀ x y c, addD x y ≠ .ex c := fun x y c e => by
  unfold addD at e
  split at e <;> first | cases e | (split at e <;> cases e)
theorem RepL.nil0 {H : Hp} {ds : List D} {vs : List V} {M : List Addr} (r : RepL C H ds vs M) (i : immL ds = true) : RepL C H ds vs [] := by
  have e := r.imm i
  rw [e] at r
  exact r
theorem addD_op (hK : X.K = C.K) : Op2 C (fun x y H Q => (rI0 (fun i j => .int (i + j)) x y H Q) ∨ (∃ i j, x = .str i ∧ y = .str j ∧ i.length + j.length ≤ sizeLine ∧ Q (.str (i ++ j)) H) ∨ rCat x y H Q ∨ rCatA X.K x y H Q) addD := by
  intro H x y fx fy M N Q z r1 r2 e h
  obtain ⟨fl, dx⟩ := fx
  obtain ⟨fl', dy⟩ := fy
  cases dx with
  | int i =>
    cases dy <;> first | (cases e; done) | skip
    cases e
    exact .inl ⟨_, _, r1.1, r2.1, h.1 _ H int_new rfl⟩
  | str i =>
    cases dy <;> first | (cases e; done) | skip
    unfold addD at e
    dsimp only at e
    split at e
    · rename_i q
      cases e
      exact .inr (.inl ⟨_, _, r1.1, r2.1, q, h.1 _ H str_new rfl⟩)
    · cases e
  | lst xs =>
    cases dy <;> first | (cases e; done) | skip
    rename_i ys
    unfold addD at e
    dsimp only at e
    split at e
    · rename_i q
      cases e
      rw [Bool.and_eq_true] at q
      obtain ⟨a, vs, M', rfl, e1, z1, k1, rfl⟩ := r1
      obtain ⟨b, ws, N', rfl, e2, z2, k2, rfl⟩ := r2
      refine .inr (.inr (.inl ⟨a, b, vs, ws, rfl, rfl, e1, e2, by rw [← k1.length, ← k2.length]; exact q.2, fun p hp => h.1 _ _ (lst_new hp (by rw [List.length_append]; exact q.2) ?_) rfl⟩))
      exact (k1.nil0 q.1.1).append (k2.nil0 q.1.2)
    · cases e
  | tup xs =>
    cases dy <;> first | (cases e; done) | skip
    rename_i ys
    unfold addD at e
    dsimp only at e
    split at e
    · rename_i q
      cases e
      rw [Bool.and_eq_true] at q
      have r1' := r1
      have r2' := r2
      obtain ⟨a, vs, rfl, e1, z1, k1⟩ := r1
      obtain ⟨b, ws, rfl, e2, z2, k2⟩ := r2
      refine .inr (.inr (.inr ⟨a, b, vs, ws, rfl, rfl, .inl (.inl e1), .inl (.inl e2), by rw [← k1.length, ← k2.length]; exact q.2, fun n => ?_, fun _ n => ?_, fun _ _ p hp => h.1 _ _ (tup_new hp (by rw [List.length_append]; exact q.2) ?_) rfl⟩))
      · have z0 : xs = [] := List.length_eq_zero_iff.mp (by rw [k1.length, n]; rfl)
        refine h.1 _ H (.imm (Same.refl H) ?_) rfl
        rw [z0, List.nil_append]
        exact ⟨b, ws, rfl, e2, z2, k2.nil0 q.1.2⟩
      · have z0 : ys = [] := List.length_eq_zero_iff.mp (by rw [k2.length, n]; rfl)
        refine h.1 _ H (.imm (Same.refl H) ?_) rfl
        rw [z0, List.append_nil]
        exact ⟨a, vs, rfl, e1, z1, k1.nil0 q.1.1⟩
      · exact (k1.nil0 q.1.1).append (k2.nil0 q.1.2)
    · cases e
  | _ => cases dy <;> cases e
theorem pd_add (F : Fx R C X W) (ha : PE X a (RV C W f)) (hb : PE X b (RV C W g)) : PE X (.BinOp a .Add b pos) (RV C W (bind2 f g addD)) :=
  pd_bin (op_add.or (op_add_str.or (op_cat.or op_catA))) (addD_op F.hK) addD_nx ha hb
/-- *: numbers; a list so many times -/
def mulD : FD → FD → Res FD := fun x y => match x.2, y.2 with
  | .int i, .int j => if ((decide (-(2 ^ 64) < i) && decide (i < 2 ^ 64)) || (decide (-(2 ^ 64) < j) && decide (j < 2 ^ 64))) = true then .ok (.fr, .int (i * j)) else .bad
  | .lst xs, .int k => if immL xs = true ∧ -(2 ^ 63) ≤ k ∧ k < 2 ^ 63 ∧ xs.length * k.toNat ≤ sizeLine then .ok (.fr, .lst (List.replicate k.toNat xs).flatten) else .bad
  | _, _ => .bad
theorem mulD_nx : ∀ x y c, mulD x y ≠ .ex c := fun x y c e => by
  unfold mulD at e
  split at e <;> first | cases e | (split at e <;> cases e)
theorem RepL.rep {H : Hp} {ds : List D} {vs : List V} (r : RepL C H ds vs []) : ∀ n : Nat, RepL C H (List.replicate n ds).flatten (List.replicate n vs).flatten []
  | 0 => ⟨rfl, rfl⟩
  | n + 1 => by
    rw [List.replicate_succ, List.flatten_cons, List.replicate_succ, List.flatten_cons]
    exact r.append (RepL.rep r n)
theorem rep_len {α : Type} (xs : List α) : ∀ n : Nat, (List.replicate n xs).flatten.length = xs.length * n
  | 0 => rfl
  | n + 1 => by rw [List.replicate_succ, List.flatten_cons, List.length_append, rep_len xs n, Nat.mul_succ, Nat.add_comm]
theorem mulD_op : Op2 C (fun x y H Q => (rI CMul (fun i j => .int (i * j)) x y H Q) ∨ rRep x y H Q) mulD := by
  intro H x y fx fy M N Q z r1 r2 e h
  obtain ⟨fl, dx⟩ := fx
  obtain ⟨fl', dy⟩ := fy
  cases dx with
  | int i =>
    cases dy <;> first | (cases e; done) | skip
    unfold mulD at e
    dsimp only at e
    split at e
    · rename_i q
      cases e
      simp only [Bool.or_eq_true, Bool.and_eq_true, decide_eq_true_eq] at q
      exact .inl ⟨_, _, r1.1, r2.1, q, h.1 _ H int_new rfl⟩
    · cases e
  | lst xs =>
    cases dy <;> first | (cases e; done) | skip
    rename_i k
    unfold mulD at e
    dsimp only at e
    split at e
    · rename_i q
      cases e
      obtain ⟨a, vs, M', rfl, e1, z1, k1, rfl⟩ := r1
      refine .inr ⟨a, k, vs, rfl, r2.1, e1, q.2.1, q.2.2.1, by rw [← k1.length]; exact q.2.2.2, fun p hp => h.1 _ _ (lst_new hp (by rw [rep_len]; exact q.2.2.2) ?_) rfl⟩
      exact (k1.nil0 q.1).rep _
    · cases e
  | _ => cases dy <;> cases e
theorem pd_mul (ha : PE X a (RV C W f)) (hb : PE X b (RV C W g)) : PE X (.BinOp a .Mult b pos) (RV C W (bind2 f g mulD)) :=
  pd_bin (op_mul.or op_rep) mulD_op mulD_nx ha hb
/-- -n -/
def negD : FD → Res FD := fun x => match x.2 with
  | .int i => .ok (.fr, .int (-i))
  | _ => .bad
theorem negD_nx : ∀ x c, negD x ≠ .ex c := fun x c e => by
  unfold negD at e
  split at e <;> cases e
theorem negD_op : Op1 C (rU fun i => .int (-i)) negD := by
  intro H x fx M Q z r1 e h
  obtain ⟨fl, dx⟩ := fx
  cases dx <;> first | (cases e; done) | skip
  cases e
  exact ⟨_, r1.1, h.1 _ H int_new rfl⟩
theorem pd_neg (ha : PE X a (RV C W f)) : PE X (.UnaryOp .USub a pos) (RV C W (bind1 f negD)) := (pe_un un_neg ha).imp fun _ _ _ => rv1 negD_op negD_nx
end
end DL
/-! DL4: in, items, slices, displays, truth, tests. -/
namespace DL
open PySem L2

/-! ### keys -/
def keyOf : D → Option Key
  | .int i => some (.inl i)
  | .str x => some (.inr x)
  | _ => none
def keysOf : List D → Option (List Key)
  | [] => some []
  | d :: ds => match keyOf d, keysOf ds with
    | some k, some ks => some (k :: ks)
    | _, _ => none
def lookD {κ : Type} [DecidableEq κ] : List κ → List D → κ → Option D
  | k' :: ks, d :: ds, k => if k' = k then some d else lookD ks ds k
  | _, _, _ => none
def kD : Key → D
  | .inl i => .int i
  | .inr x => .str x
section
variable {C : Ctx} {H : Hp}
theorem key_rep {d : D} {v : V} {M : List Addr} {k : Key} (r : Rep C H d v M) (e : keyOf d = some k) : v = kV k := by
  cases d <;> cases e <;> exact r.1
theorem keys_rep : ∀ {ds : List D} {vs : List V} {M : List Addr} {ks : List Key}, RepL C H ds vs M → keysOf ds = some ks → vs = ks.map kV
  | [], vs, M, ks, r, e => by cases e; exact r.1
  | d :: ds, vs, M, ks, r, e => by
    obtain ⟨v, w, M1, M2, rfl, r1, r2, rfl⟩ := r
    unfold keysOf at e
    split at e
    · rename_i k ks' e1 e2
      cases e
      rw [key_rep r1 e1, keys_rep r2 e2]
      rfl
    · cases e
theorem look_rep {κ : Type} [DecidableEq κ] : ∀ {kvs : List (κ × V)} {ds : List D} {M : List Addr} {k : κ}, RepL C H ds (kvs.map (·.2)) M →
    (lookD (kvs.map (·.1)) ds k = none → valV kvs k = none) ∧ ∀ d, lookD (kvs.map (·.1)) ds k = some d → ∃ v N, valV kvs k = some v ∧ Rep C H d v N ∧ N.Sublist M
  | [], ds, M, k, r => by
    refine ⟨fun _ => rfl, fun d e => ?_⟩
    cases ds <;> cases e
  | p :: kvs, [], M, k, r => by
    have := r.1
    cases this
  | p :: kvs, d :: ds, M, k, r => by
    obtain ⟨v, w, M1, M2, e, r1, r2, rfl⟩ := r
    cases e
    have ih := look_rep (k := k) r2
    rw [List.map_cons]
    unfold lookD
    by_cases h : p.1 = k
    · rw [if_pos h, valV_pos h]
      refine ⟨(fun z => by cases z), fun d' e => ?_⟩
      cases e
      exact ⟨p.2, M1, rfl, r1, List.sublist_append_left _ _⟩
    · rw [if_neg h, valV_neg h]
      refine ⟨ih.1, fun d' e => ?_⟩
      obtain ⟨v, N, e1, r', s⟩ := ih.2 d' e
      exact ⟨v, N, e1, r', s.trans (List.sublist_append_right _ _)⟩
/-- what a dict tells of a key -/
def dGet (d k : D) : Option (Option D) := match d with
  | .dK ks ds => (keyOf k).map fun q => lookD ks ds q
  | .dT ks ds => match k with
    | .tup es => (keysOf es).map fun q => lookD ks ds q
    | _ => none
  | _ => none
theorem dGet_ok {d k : D} {v w : V} {M N : List Addr} {o : Option D} (r : Rep C H d v M) (q : Rep C H k w N) (e : dGet d k = some o) :
    ∃ a ov, v = .ref a ∧ DGet H a w ov ∧ (o = none → ov = none) ∧ ∀ z, o = some z → ∃ u L, ov = some u ∧ Rep C H z u L ∧ L.Sublist M := by
  cases d with
  | dK ks ds =>
    obtain ⟨a, kvs, M', rfl, ea, rfl, z, rr, rfl⟩ := r
    unfold dGet at e
    dsimp only at e
    cases ek : keyOf k with
    | none => rw [ek] at e; cases e
    | some kk =>
      rw [ek] at e
      cases e
      refine ⟨a, _, rfl, .inl ⟨kvs, kk, ea, key_rep q ek, rfl⟩, (look_rep rr).1, fun z e => ?_⟩
      obtain ⟨v, N, e1, r', s⟩ := (look_rep rr).2 z e
      exact ⟨v, N, e1, r', List.Sublist.cons _ s⟩
  | dT ks ds =>
    obtain ⟨a, kvs, M', rfl, ea, rfl, z, rr, rfl⟩ := r
    unfold dGet at e
    dsimp only at e
    cases k <;> first | (cases e; done) | skip
    rename_i es
    obtain ⟨b, vs, rfl, eb, _, rb⟩ := q
    dsimp only at e
    cases ek : keysOf es with
    | none => rw [ek] at e; cases e
    | some kk =>
      rw [ek] at e
      cases e
      refine ⟨a, _, rfl, .inr ⟨kvs, kk, b, ea, rfl, by rw [← keys_rep rb ek]; exact eb, rfl⟩, (look_rep rr).1, fun z e => ?_⟩
      obtain ⟨v, N, e1, r', s⟩ := (look_rep rr).2 z e
      exact ⟨v, N, e1, r', List.Sublist.cons _ s⟩
  | _ => cases e
end

section
variable {C : Ctx} {X : Cx} {W : WX} {a b : Expr} {f g : Env → Res FD} {pos : Pos}

/-! ### in -/
def rInP (K : PySem.W.Frag) (neg : Bool) : R2 := fun x y H Q => ∃ d ds, Dp K H x d ∧ (Dp K H y (.list ds) ∨ Dp K H y (.tuple ds)) ∧ SeqAt.shaped d = true ∧ PyData.canLayAll0 ds = true ∧ Q (.bl (if neg then !(ds.any fun z => PyData.eqv z d) else ds.any fun z => PyData.eqv z d)) H
theorem op_inP (hu : X.A.units + 65 < cLine) : OpR X (compareOp .In) (rInP X.K false) := by
  intro pins s σ H x y v u Q I rx ry h
  obtain ⟨d, ds, hd, he, sd, se, q⟩ := h
  obtain ⟨as, r1⟩ := Dp.reads I d x v hd rx
  rcases he with he | he
  · obtain ⟨bs, r2⟩ := Dp.reads I (.list ds) y u he ry
    exact SeqAt.in_list_reads r2 r1 se (SeqAt.canLay_of_shaped sd) (PyProof.Rows.room_in_shaped sd hu) ⟨.bl _, H, I, rfl, q⟩
  · obtain ⟨bs, r2⟩ := Dp.reads I (.tuple ds) y u he ry
    exact SeqAt.in_tuple_reads r2 r1 se (SeqAt.canLay_of_shaped sd) (PyProof.Rows.room_in_shaped sd hu) ⟨.bl _, H, I, rfl, q⟩
theorem op_notInP (hu : X.A.units + 65 < cLine) : OpR X (compareOp .NotIn) (rInP X.K true) := by
  intro pins s σ H x y v u Q I rx ry h
  obtain ⟨d, ds, hd, he, sd, se, q⟩ := h
  obtain ⟨as, r1⟩ := Dp.reads I d x v hd rx
  rcases he with he | he
  · obtain ⟨bs, r2⟩ := Dp.reads I (.list ds) y u he ry
    exact SeqAt.notIn_list_reads r2 r1 se (SeqAt.canLay_of_shaped sd) (PyProof.Rows.room_in_shaped sd hu) ⟨.bl _, H, I, rfl, q⟩
  · obtain ⟨bs, r2⟩ := Dp.reads I (.tuple ds) y u he ry
    exact SeqAt.notIn_tuple_reads r2 r1 se (SeqAt.canLay_of_shaped sd) (PyProof.Rows.room_in_shaped sd hu) ⟨.bl _, H, I, rfl, q⟩
def rInDict (neg : Bool) : R2 := fun x y H Q => ∃ a o, y = .ref a ∧ DGet H a x o ∧ Q (.bl (if neg then !o.isSome else o.isSome)) H
theorem op_inDict (hu : X.A.units + 1 < cLine) : OpR X (compareOp .In) (rInDict false) := by
  intro pins s σ H x y v u Q I rx ry h
  obtain ⟨a, o, rfl, g, q⟩ := h
  cases (show u = Value.ref a from ry)
  exact d_in hu I g rx fun s3 I3 => ⟨.bl o.isSome, H, I3, rfl, q⟩
theorem op_notInDict (hu : X.A.units + 1 < cLine) : OpR X (compareOp .NotIn) (rInDict true) := by
  intro pins s σ H x y v u Q I rx ry h
  obtain ⟨a, o, rfl, g, q⟩ := h
  cases (show u = Value.ref a from ry)
  exact d_notIn hu I g rx fun s3 I3 => ⟨.bl (!o.isSome), H, I3, rfl, q⟩
/-- one text within another -/
def within (x y : Str) : Bool := !(Builtin.Str.occurrences y x 0 y.length 1).isEmpty
def inD (x y : D) : Option Bool := match y with
  | .lst ds => if (okP x && PyData.canLayAll0 (toPL ds)) = true then some (ds.any fun z => eqvD z x) else none
  | .tup ds => if (okP x && PyData.canLayAll0 (toPL ds)) = true then some (ds.any fun z => eqvD z x) else none
  | .str t => match x with
    | .str s => some (within s t)
    | _ => none
  | _ => (dGet y x).map (·.isSome)
def inF (neg : Bool) : FD → FD → Res FD := fun x y => match inD x.2 y.2 with
  | some k => .ok (.fr, .bl (if neg then !k else k))
  | none => .bad
theorem inF_nx {neg : Bool} : ∀ x y c, inF neg x y ≠ .ex c := fun x y c e => by
  unfold inF at e
  split at e <;> cases e
theorem any_map_eqv (d : D) (ds : List D) : ((toPL ds).any fun z => PyData.eqv z (toP d)) = ds.any fun z => eqvD z d := by
  rw [toPL_map, List.any_map]
  rfl
def rInAll (K : PySem.W.Frag) (neg : Bool) : R2 := fun x y H Q => rInP K neg x y H Q ∨ rInDict neg x y H Q ∨ (∃ i j, x = .str i ∧ y = .str j ∧ Q (.bl (if neg then !(within i j) else within i j)) H)
theorem inF_op (hK : X.K = C.K) {neg : Bool} : Op2 C (rInAll X.K neg) (inF neg) := by
  intro H x y fx fy M N Q z r1 r2 e h
  obtain ⟨fl, dx⟩ := fx
  obtain ⟨fl', dy⟩ := fy
  unfold inF at e
  cases ei : inD dx dy with
  | none => rw [ei] at e; cases e
  | some k =>
    rw [ei] at e
    cases e
    have q := h.1 _ H (bl_new (b := if neg then !k else k)) rfl
    have seq : ∀ ds : List D, (toP dy = .list (toPL ds) ∨ toP dy = .tuple (toPL ds)) → (okP dx && PyData.canLayAll0 (toPL ds)) = true → k = (ds.any fun z => eqvD z dx) → rInAll X.K neg x y H Q := by
      intro ds hd hc hk
      rw [Bool.and_eq_true] at hc
      rw [hK]
      refine .inl ⟨toP dx, toPL ds, r1.dp (layOk hc.1), ?_, hc.1, hc.2, ?_⟩
      · rcases hd with hd | hd
        · refine .inl ?_
          rw [← hd]
          exact Rep.dp r2 (by rw [hd]; simpa [PyData.canLay0] using hc.2)
        · refine .inr ?_
          rw [← hd]
          exact Rep.dp r2 (by rw [hd]; simpa [PyData.canLay0] using hc.2)
      · rw [any_map_eqv, ← hk]
        exact q
    have dct : (dGet dy dx).map (·.isSome) = some k → rInAll X.K neg x y H Q := by
      intro ed
      obtain ⟨o, eo, ek⟩ := Option.map_eq_some_iff.mp ed
      obtain ⟨a, ov, rfl, g, n0, n1⟩ := dGet_ok r2 r1 eo
      refine .inr (.inl ⟨a, ov, rfl, g, ?_⟩)
      have ek2 : ov.isSome = k := by
        rw [← ek]
        cases o with
        | none => rw [n0 rfl]; rfl
        | some z => obtain ⟨u, L, e1, _⟩ := n1 z rfl; rw [e1]; rfl
      rw [ek2]
      exact q
    cases dy with
    | lst ds =>
      unfold inD at ei
      dsimp only at ei
      split at ei
      · rename_i hc
        cases ei
        exact seq ds (.inl (by rw [toP])) hc rfl
      · cases ei
    | tup ds =>
      unfold inD at ei
      dsimp only at ei
      split at ei
      · rename_i hc
        cases ei
        exact seq ds (.inr (by rw [toP])) hc rfl
      · cases ei
    | str t =>
      cases dx <;> first | (cases ei; done) | skip
      cases ei
      exact .inr (.inr ⟨_, _, r1.1, r2.1, q⟩)
    | dK ks ds => exact dct ei
    | dT ks ds => exact dct ei
    | _ => cases ei
theorem pd_in (F : Fx R C X W) (ha : PE X a (RV C W f)) (hb : PE X b (RV C W g)) (hm : behindInMarks .In b = false) : PE X (.Compare a [.In] [b] pos) (RV C W (bind2 f g (inF false))) :=
  pd_cmp ((op_inP (by have := F.hu; omega)).or ((op_inDict (by have := F.hu; omega)).or op_in_str)) (inF_op F.hK) inF_nx ha hb hm
theorem pd_notIn (F : Fx R C X W) (ha : PE X a (RV C W f)) (hb : PE X b (RV C W g)) (hm : behindInMarks .NotIn b = false) : PE X (.Compare a [.NotIn] [b] pos) (RV C W (bind2 f g (inF true))) :=
  pd_cmp ((op_notInP (by have := F.hu; omega)).or ((op_notInDict (by have := F.hu; omega)).or op_notin_str)) (inF_op F.hK) inF_nx ha hb hm

/-! ### items -/
theorem ix_dict (hu : X.A.units + 1 < cLine) : IxR X (fun x y H Q => ∃ a v, x = .ref a ∧ DGet H a y (some v) ∧ Q v H) := by
  intro value slice pins s σ H x y v u Q I rx ry h hs
  obtain ⟨a, z, rfl, g, q⟩ := h
  cases (show v = Value.ref a from rx)
  exact PyProof.Rows.tail_any (dict_typeIs I g) PySem.F.slot_dict_getitem.lookup (d_getItem hu I g ry fun w' s3 I3 rw' => ⟨z, H, I3, rw', q⟩) hs
def ixF : FD → FD → Res FD := fun x y => match x.2, y.2 with
  | .lst ds, .int i => match atI ds i with
    | some d => .ok (up x.1 d)
    | none => .bad
  | .tup ds, .int i => match atI ds i with
    | some d => .ok (up x.1 d)
    | none => .bad
  | .fz ds, .int i => match atI ds i with
    | some d => .ok (up x.1 d)
    | none => .bad
  | .str s, .int i => match atI s.cps.toList i with
    | some c => if s.length ≤ sizeLine then .ok (.fr, .str ⟨#[c]⟩) else .bad
    | none => .bad
  | d, k => match dGet d k with
    | some (some z) => .ok (up x.1 z)
    | _ => .bad
theorem ixF_nx : ∀ x y c, ixF x y ≠ .ex c := fun x y c e => by
  unfold ixF at e
  split at e <;> (split at e <;> first | cases e | (split at e <;> cases e))
theorem at_rep {H : Hp} {ds : List D} {vs : List V} {M : List Addr} {i : Int} {d : D} (r : RepL C H ds vs M) (e : atI ds i = some d) : ∃ v N, atI vs i = some v ∧ Rep C H d v N ∧ N.Sublist M := by
  unfold atI at e ⊢
  obtain ⟨j, e1, e2⟩ := Option.bind_eq_some_iff.mp e
  rw [r.length] at e1
  obtain ⟨v, N, e3, r', s⟩ := r.get e2
  exact ⟨v, N, by rw [e1]; exact e3, r', s⟩
theorem ixF_op (hK : X.K = C.K) : Op2 C (fun x y H Q => rIx X.K x y H Q ∨ ∃ a v, x = .ref a ∧ DGet H a y (some v) ∧ Q v H) ixF := by
  intro H x y fx fy M N Q z r1 r2 e h
  obtain ⟨fl, dx⟩ := fx
  obtain ⟨fl', dy⟩ := fy
  have dct : (match dGet dx dy with | some (some z) => .ok (up fl z) | _ => .bad) = Res.ok z → (rIx X.K x y H Q ∨ ∃ a v, x = .ref a ∧ DGet H a y (some v) ∧ Q v H) := by
    intro e
    split at e
    · rename_i w ew
      cases e
      obtain ⟨a, ov, rfl, g, n0, n1⟩ := dGet_ok r1 r2 ew
      obtain ⟨u, L, e1, r', s⟩ := n1 w rfl
      subst e1
      exact .inr ⟨a, u, rfl, g, h.2 u L r' s rfl⟩
    · cases e
  cases dx with
  | lst ds =>
    cases dy <;> first | (cases e; done) | skip
    unfold ixF at e
    dsimp only at e
    split at e
    · rename_i d ed
      cases e
      obtain ⟨p, vs, M', rfl, e1, z1, k1, rfl⟩ := r1
      obtain ⟨v, L, e2, r', s⟩ := at_rep k1 ed
      exact .inl (.inl ⟨p, vs, _, v, rfl, r2.1, SqL.of e1, e2, h.2 v L r' (List.Sublist.cons _ s) rfl⟩)
    · cases e
  | tup ds =>
    cases dy <;> first | (cases e; done) | skip
    unfold ixF at e
    dsimp only at e
    split at e
    · rename_i d ed
      cases e
      obtain ⟨p, vs, rfl, e1, z1, k1⟩ := r1
      obtain ⟨v, L, e2, r', s⟩ := at_rep k1 ed
      exact .inl (.inr (.inl ⟨p, vs, _, v, rfl, r2.1, SqT.of e1, e2, h.2 v L r' s rfl⟩))
    · cases e
  | fz ds =>
    cases dy <;> first | (cases e; done) | skip
    unfold ixF at e
    dsimp only at e
    split at e
    · rename_i d ed
      cases e
      obtain ⟨p, vs, rfl, e1, z1, k1, rfl⟩ := r1
      obtain ⟨v, L, e2, r', s⟩ := at_rep k1 ed
      exact .inl (.inl ⟨p, vs, _, v, rfl, r2.1, by rw [hK]; exact FzL.sq e1, e2, h.2 v L r' s rfl⟩)
    · cases e
  | str t =>
    cases dy <;> first | (cases e; done) | skip
    unfold ixF at e
    dsimp only at e
    split at e
    · rename_i c ec
      split at e
      · rename_i hl
        cases e
        exact .inl (.inr (.inr ⟨t, _, c, r1.1, r2.1, hl, ec, h.1 _ H str_new rfl⟩))
      · cases e
    · cases e
  | dK ks ds => cases dy <;> exact dct e
  | dT ks ds => cases dy <;> exact dct e
  | _ => cases dy <;> cases e
theorem pd_ix (F : Fx R C X W) (ha : PE X a (RV C W f)) (hb : PE X b (RV C W g)) (hs : PlainIx b := by exact fun _ _ => rfl) : PE X (.Subscript a b pos) (RV C W (bind2 f g ixF)) :=
  (pe_ix (ix_seq.or (ix_dict (by have := F.hu; omega))) ha hb hs).imp fun _ _ _ => rv2 (ixF_op F.hK) ixF_nx

/-! ### truth -/
def truD : D → Option Bool
  | .non => some false
  | .bl b => some b
  | .int i => some (i != 0)
  | .str y => if y.length ≤ sizeLine then some ((y.length : Int) != 0) else none
  | .tup ds => some (!ds.isEmpty)
  | .lst ds => some (!ds.isEmpty)
  | .dK ks _ => some (!ks.isEmpty)
  | _ => none
def TruV2 (K : PySem.W.Frag) (x : V) (H : Hp) (k : Bool) : Prop := TruV K x H k ∨ ∃ a kvs, x = .ref a ∧ Rd H a (.dK kvs) ∧ k = !kvs.isEmpty
theorem tru2_ok : TruR X (fun x H Q => ∃ k, TruV2 X.K x H k ∧ Q k H) := by
  intro pins s σ H x v Q I rx h
  obtain ⟨k, e, q⟩ := h
  rcases e with e | ⟨a, kvs, rfl, e, rfl⟩
  · exact tru_ok pins s σ H x v Q I rx ⟨k, e, q⟩
  · cases (show v = Value.ref a from rx)
    exact d_truth I e fun s' I' => ⟨H, I', q⟩
theorem len_empty {α β : Type} {xs : List α} {ys : List β} (h : xs.length = ys.length) : xs.isEmpty = ys.isEmpty := by
  cases xs <;> cases ys <;> first | rfl | cases h
theorem tru_rep (K : PySem.W.Frag) {H : Hp} {d : D} {v : V} {M : List Addr} {k : Bool} (r : Rep C H d v M) (e : truD d = some k) : TruV2 K v H k := by
  cases d with
  | non => rw [r.1]; cases e; exact .inl rfl
  | bl b => rw [r.1]; cases e; exact .inl rfl
  | int i => rw [r.1]; cases e; exact .inl rfl
  | str y =>
    rw [r.1]
    unfold truD at e
    dsimp only at e
    split at e
    · rename_i h; cases e; exact .inl ⟨h, rfl⟩
    · cases e
  | tup ds =>
    obtain ⟨p, vs, rfl, e1, z1, k1⟩ := r
    cases e
    exact .inl (.inr (.inl ⟨vs, SqT.of e1, by rw [len_empty k1.length]⟩))
  | lst ds =>
    obtain ⟨p, vs, M', rfl, e1, z1, k1, rfl⟩ := r
    cases e
    exact .inl (.inl ⟨vs, SqL.of e1, by rw [len_empty k1.length]⟩)
  | dK ks ds =>
    obtain ⟨p, kvs, M', rfl, e1, rfl, z1, k1, rfl⟩ := r
    cases e
    exact .inr ⟨p, kvs, rfl, e1, by rw [len_empty (List.length_map ..)]⟩
  | _ => cases e
def tru1 (f : Env → Res FD) : Env → Res Bool := fun ρ => (f ρ).bind fun x => match truD x.2 with
  | some k => .ok k
  | none => .bad
theorem pt_truth2 {ta : TE} (ha : PE X a ta) (he : ∀ whole, isTrue a X.env whole = (do let v ← whole; standAt a.pos; holding [v] (truthy v))) :
    PT X a (fun σ H Q => ta σ H fun x H' => ∃ k, TruV2 X.K x H' k ∧ Q k H') := by
  refine ⟨fun pins s σ H Q I h => ?_⟩
  exact PyProof.Rows.isTrue_plain (thn (ha.run pins s σ H _ I h) fun v s1 ⟨x, H1, I1, r1, q1⟩ => tru2_ok pins s1 σ H1 x v Q I1 r1 q1) (he _)
theorem rt_tru {σ : St} {H : Hp} {Q : Bool → Hp → Prop} {K : PySem.W.Frag} (h : RT C W (tru1 f) σ H Q) : RV C W f σ H fun x H' => ∃ k, TruV2 K x H' k ∧ Q k H' := by
  obtain ⟨ρ, P, E, h⟩ := h
  refine ⟨ρ, P, E, ?_⟩
  unfold tru1 at h
  cases e : f ρ with
  | bad => rw [e] at h; exact h
  | ex c => rw [e] at h; exact h
  | ok fx =>
    rw [e] at h
    simp only [Res.ok_bind] at h
    intro x H1 ⟨s1, M, r1, f1⟩
    cases ek : truD fx.2 with
    | none => rw [ek] at h; exact h.elim
    | some k => rw [ek] at h; exact ⟨k, tru_rep K r1 ek, h H1 s1⟩
/-- an expression as a test -/
theorem pt_of (ha : PE X a (RV C W f)) (he : ∀ whole, isTrue a X.env whole = (do let v ← whole; standAt a.pos; holding [v] (truthy v)) := by exact fun _ => rfl) : PT X a (RT C W (tru1 f)) :=
  (pt_truth2 ha he).imp fun _ _ _ => rt_tru
/-- a comparison as a test: the value is a truth -/
def blOf (f : Env → Res FD) : Env → Res Bool := fun ρ => (f ρ).bind fun x => match x.2 with
  | .bl k => .ok k
  | _ => .bad
theorem rt_bl {σ : St} {H : Hp} {Q : Bool → Hp → Prop} (h : RT C W (blOf f) σ H Q) : RV C W f σ H fun x H' => ∃ k, x = .bl k ∧ Q k H' := by
  obtain ⟨ρ, P, E, h⟩ := h
  refine ⟨ρ, P, E, ?_⟩
  unfold blOf at h
  cases e : f ρ with
  | bad => rw [e] at h; exact h
  | ex c => rw [e] at h; exact h
  | ok fx =>
    rw [e] at h
    simp only [Res.ok_bind] at h
    intro x H1 ⟨s1, M, r1, f1⟩
    obtain ⟨fl, d⟩ := fx
    cases d <;> first | exact h.elim | skip
    exact ⟨_, r1.1, h H1 s1⟩
/-- PE of a comparison gives PT: a comparison is tested by its value's truth -/
theorem pt_ofCmp {op : CmpOp} {r : R2} {k : FD → FD → Res FD} (ho : OpR X (compareOp op) r) (hk : Op2 C r k) (hx : ∀ x y c, k x y ≠ .ex c) (ha : PE X a (RV C W f)) (hb : PE X b (RV C W g)) (hm : behindInMarks op b = false) :
    PT X (.Compare a [op] [b] pos) (RT C W (blOf (bind2 f g k))) := (pt_cmpR ho ha hb hm).imp fun σ H Q h => rv2 hk hx (rt_bl h)
def notT (f : Env → Res Bool) : Env → Res Bool := fun ρ => (f ρ).bind fun k => .ok (!k)
theorem rt_not {f : Env → Res Bool} {σ : St} {H : Hp} {Q : Bool → Hp → Prop} (h : RT C W (notT f) σ H Q) : tNot (RT C W f) σ H Q := by
  obtain ⟨ρ, P, E, h⟩ := h
  refine ⟨ρ, P, E, ?_⟩
  unfold notT at h
  cases e : f ρ with
  | bad => rw [e] at h; exact h
  | ex c => rw [e] at h; exact h
  | ok k => rw [e] at h; exact h
theorem td_not {f : Env → Res Bool} (ha : PT X a (RT C W f)) : PT X (.UnaryOp .Not a pos) (RT C W (notT f)) := (pt_not ha).imp fun _ _ _ => rt_not
def andT (f g : Env → Res Bool) : Env → Res Bool := fun ρ => (f ρ).bind fun k => if k = true then g ρ else .ok false
def orT (f g : Env → Res Bool) : Env → Res Bool := fun ρ => (f ρ).bind fun k => if k = true then .ok true else g ρ
theorem RT.early {f : Env → Res Bool} {ρ : Env} {P : List Pt} {σ : St} {H H1 : Hp} {Q : Bool → Hp → Prop} (E : EnvOk C P H σ ρ) (s : Same H H1)
    (h : match f ρ with | .ok b => ∀ H', Same H H' → Q b H' | .ex c => ∀ H', Same H H' → W (.ref (C.cls c)) none σ H' | .bad => False) : RT C W f σ H1 Q := by
  refine ⟨ρ, P, E.same s, ?_⟩
  cases e : f ρ with
  | bad => rw [e] at h; exact h
  | ex c => rw [e] at h; exact fun H' s' => h H' (s.trans s')
  | ok k => rw [e] at h; exact fun H' s' => h H' (s.trans s')
theorem rt_and {f g : Env → Res Bool} {σ : St} {H : Hp} {Q : Bool → Hp → Prop} (h : RT C W (andT f g) σ H Q) : tAnd (RT C W f) (RT C W g) σ H Q := by
  obtain ⟨ρ, P, E, h⟩ := h
  refine ⟨ρ, P, E, ?_⟩
  unfold andT at h
  cases e : f ρ with
  | bad => rw [e] at h; exact h
  | ex c => rw [e] at h; exact h
  | ok k =>
    rw [e] at h
    simp only [Res.ok_bind] at h
    intro H1 s1
    cases k with
    | true => rw [if_pos rfl] at h ⊢; exact RT.early E s1 h
    | false => rw [if_neg Bool.false_ne_true] at h ⊢; exact h H1 s1
theorem rt_or {f g : Env → Res Bool} {σ : St} {H : Hp} {Q : Bool → Hp → Prop} (h : RT C W (orT f g) σ H Q) : tOr (RT C W f) (RT C W g) σ H Q := by
  obtain ⟨ρ, P, E, h⟩ := h
  refine ⟨ρ, P, E, ?_⟩
  unfold orT at h
  cases e : f ρ with
  | bad => rw [e] at h; exact h
  | ex c => rw [e] at h; exact h
  | ok k =>
    rw [e] at h
    simp only [Res.ok_bind] at h
    intro H1 s1
    cases k with
    | true => rw [if_pos rfl] at h ⊢; exact h H1 s1
    | false => rw [if_neg Bool.false_ne_true] at h ⊢; exact RT.early E s1 h
theorem _root_.L2.PW.imp {X : Cx} {e : Expr} {t t' : TT} (h : PW X e t) (i : ∀ σ H Q, t' σ H Q → t σ H Q) : PW X e t' := ⟨fun wh pins s σ H Q I q => h.run wh pins s σ H Q I (i σ H Q q)⟩
variable {rest : List Expr}
theorem tw_and1 {f : Env → Res Bool} (ha : PT X a (RT C W f)) : PW X (.BoolOp .And [a] pos) (RT C W f) := pw_and1 ha
theorem tw_or1 {f : Env → Res Bool} (ha : PT X a (RT C W f)) : PW X (.BoolOp .Or [a] pos) (RT C W f) := pw_or1 ha
theorem tw_and {f g : Env → Res Bool} (ha : PT X a (RT C W f)) (hb : PW X (.BoolOp .And (b :: rest) pos) (RT C W g)) : PW X (.BoolOp .And (a :: b :: rest) pos) (RT C W (andT f g)) := (pw_and ha hb).imp fun _ _ _ => rt_and
theorem tw_or {f g : Env → Res Bool} (ha : PT X a (RT C W f)) (hb : PW X (.BoolOp .Or (b :: rest) pos) (RT C W g)) : PW X (.BoolOp .Or (a :: b :: rest) pos) (RT C W (orT f g)) := (pw_or ha hb).imp fun _ _ _ => rt_or
end
end DL
/-! DL5: and, or, if as values; displays; slices; calls of the text's own defs. -/
namespace DL
open PySem L2

theorem RV.early {C : Ctx} {W : WX} {f : Env → Res FD} {ρ : Env} {P : List Pt} {σ : St} {H H1 : Hp} {Q : VK} (E : EnvOk C P H σ ρ) (s : Same H H1)
    (h : match f ρ with | .ok fd => ∀ v H', VOk C H σ ρ H' fd v → Q v H' | .ex c => ∀ H', Same H H' → W (.ref (C.cls c)) none σ H' | .bad => False) : RV C W f σ H1 Q := by
  refine ⟨ρ, P, E.same s, ?_⟩
  cases e : f ρ with
  | bad => rw [e] at h; exact h
  | ex c => rw [e] at h; exact fun H' s' => h H' (s.trans s')
  | ok fx =>
    rw [e] at h
    exact fun v H' ⟨s', M, r, q⟩ => h v H' ⟨s.trans s', M, r, FlOk.early E s q⟩

section
variable {C : Ctx} {X : Cx} {W : WX} {a b c : Expr} {f g : Env → Res FD} {ft : Env → Res Bool} {rest : List Expr} {pos p2 : Pos}

/-! ### and, or as values, by truth -/
def truD1 (d : D) : Option Bool := match d with
  | .dK _ _ => none
  | d => truD d
theorem tru_rep1 (K : PySem.W.Frag) {H : Hp} {d : D} {v : V} {M : List Addr} {k : Bool} (r : Rep C H d v M) (e : truD1 d = some k) : TruV K v H k := by
  have h : truD d = some k := by
    cases d <;> first | exact e | cases e
  rcases tru_rep K r h with q | ⟨p, kvs, rfl, e1, _⟩
  · exact q
  · cases d with
    | dK ks ds => cases e
    | non => cases r.1
    | bl _ => cases r.1
    | int _ => cases r.1
    | str _ => cases r.1
    | ty _ => cases r.1
    | tup ds =>
      obtain ⟨a, vs, e0, e2, _⟩ := r
      cases e0
      rcases e1 with e1 | ⟨o, e1⟩ <;> rw [e2] at e1 <;> cases e1
    | lst ds =>
      obtain ⟨a, vs, _, e0, e2, _⟩ := r
      cases e0
      rcases e1 with e1 | ⟨o, e1⟩ <;> rw [e2] at e1 <;> cases e1
    | fz ds => cases e
    | dT _ _ => cases h
    | ins _ _ _ => cases h
def andV (f g : Env → Res FD) : Env → Res FD := fun ρ => (f ρ).bind fun x => match truD1 x.2 with
  | some k => if k = true then g ρ else .ok x
  | none => .bad
def orV (f g : Env → Res FD) : Env → Res FD := fun ρ => (f ρ).bind fun x => match truD1 x.2 with
  | some k => if k = true then .ok x else g ρ
  | none => .bad
theorem rv_and {σ : St} {H : Hp} {Q : VK} {K : PySem.W.Frag} (h : RV C W (andV f g) σ H Q) : tAndT K (RV C W f) (RV C W g) σ H Q := by
  obtain ⟨ρ, P, E, h⟩ := h
  refine ⟨ρ, P, E, ?_⟩
  unfold andV at h
  cases e : f ρ with
  | bad => rw [e] at h; exact h
  | ex c => rw [e] at h; exact h
  | ok fx =>
    rw [e] at h
    simp only [Res.ok_bind] at h
    intro x H1 vo
    obtain ⟨s1, M, r1, f1⟩ := id vo
    cases ek : truD1 fx.2 with
    | none => rw [ek] at h; exact h.elim
    | some k =>
      rw [ek] at h
      refine ⟨k, tru_rep1 K r1 ek, ?_⟩
      cases k with
      | true =>
        simp only [if_true] at h ⊢
        exact RV.early E s1 h
      | false =>
        simp only [Bool.false_eq_true, if_false] at h ⊢
        exact h x H1 vo
theorem rv_or {σ : St} {H : Hp} {Q : VK} {K : PySem.W.Frag} (h : RV C W (orV f g) σ H Q) : tOrT K (RV C W f) (RV C W g) σ H Q := by
  obtain ⟨ρ, P, E, h⟩ := h
  refine ⟨ρ, P, E, ?_⟩
  unfold orV at h
  cases e : f ρ with
  | bad => rw [e] at h; exact h
  | ex c => rw [e] at h; exact h
  | ok fx =>
    rw [e] at h
    simp only [Res.ok_bind] at h
    intro x H1 vo
    obtain ⟨s1, M, r1, f1⟩ := id vo
    cases ek : truD1 fx.2 with
    | none => rw [ek] at h; exact h.elim
    | some k =>
      rw [ek] at h
      refine ⟨k, tru_rep1 K r1 ek, ?_⟩
      cases k with
      | true =>
        simp only [if_true] at h ⊢
        exact h x H1 vo
      | false =>
        simp only [Bool.false_eq_true, if_false] at h ⊢
        exact RV.early E s1 h
theorem pd_and (ha : PE X a (RV C W f)) (hb : PE X (.BoolOp .And (b :: rest) pos) (RV C W g)) : PE X (.BoolOp .And (a :: b :: rest) pos) (RV C W (andV f g)) := (pe_andT ha hb).imp fun _ _ _ => rv_and
theorem pd_or (ha : PE X a (RV C W f)) (hb : PE X (.BoolOp .Or (b :: rest) pos) (RV C W g)) : PE X (.BoolOp .Or (a :: b :: rest) pos) (RV C W (orV f g)) := (pe_orT ha hb).imp fun _ _ _ => rv_or
theorem pd_one {op} (ha : PE X a (RV C W f)) : PE X (.BoolOp op [a] pos) (RV C W f) := pe_one ha
/-- not e as a value -/
def notV (f : Env → Res FD) : Env → Res FD := fun ρ => (f ρ).bind fun x => match truD1 x.2 with
  | some k => .ok (.fr, .bl (!k))
  | none => .bad
theorem rv_notV {σ : St} {H : Hp} {Q : VK} {K : PySem.W.Frag} (h : RV C W (notV f) σ H Q) : tNotT K (RV C W f) σ H Q := by
  obtain ⟨ρ, P, E, h⟩ := h
  refine ⟨ρ, P, E, ?_⟩
  unfold notV at h
  cases e : f ρ with
  | bad => rw [e] at h; exact h
  | ex c => rw [e] at h; exact h
  | ok fx =>
    rw [e] at h
    simp only [Res.ok_bind] at h
    intro x H1 ⟨s1, M, r1, f1⟩
    cases ek : truD1 fx.2 with
    | none => rw [ek] at h; exact h.elim
    | some k =>
      rw [ek] at h
      exact ⟨k, tru_rep1 K r1 ek, h _ H1 ⟨s1, [], ⟨rfl, rfl⟩, .nil⟩⟩
theorem pd_not (ha : PE X a (RV C W f)) : PE X (.UnaryOp .Not a pos) (RV C W (notV f)) := (pe_notT ha).imp fun _ _ _ => rv_notV
/-- a if t else b -/
def ifV (t : Env → Res Bool) (f g : Env → Res FD) : Env → Res FD := fun ρ => (t ρ).bind fun k => if k = true then f ρ else g ρ
theorem rv_if {σ : St} {H : Hp} {Q : VK} (h : RV C W (ifV ft f g) σ H Q) : tIf (RT C W ft) (RV C W f) (RV C W g) σ H Q := by
  obtain ⟨ρ, P, E, h⟩ := h
  refine ⟨ρ, P, E, ?_⟩
  unfold ifV at h
  cases e : ft ρ with
  | bad => rw [e] at h; exact h
  | ex c => rw [e] at h; exact h
  | ok k =>
    rw [e] at h
    simp only [Res.ok_bind] at h
    intro H1 s1
    cases k with
    | true =>
      simp only [if_true] at h ⊢
      exact RV.early E s1 h
    | false =>
      simp only [Bool.false_eq_true, if_false] at h ⊢
      exact RV.early E s1 h
theorem pd_if (hc : PT X c (RT C W ft)) (ha : PE X a (RV C W f)) (hb : PE X b (RV C W g)) : PE X (.IfExp c a b pos) (RV C W (ifV ft f g)) := (pe_ifExp hc ha hb).imp fun _ _ _ => rv_if
/-- what is never come to -/
theorem pd_never {e : Expr} : PE X e (RV C W fun _ => .bad) := ⟨fun _ _ _ _ _ _ h => by obtain ⟨_, _, _, h⟩ := h; exact h.elim⟩
theorem td_never {e : Expr} : PT X e (RT C W fun _ => .bad) := ⟨fun _ _ _ _ _ _ h => by obtain ⟨_, _, _, h⟩ := h; exact h.elim⟩

/-! ### lists of expressions -/
/-- all new?, the data -/
abbrev AD := Bool × List D
def RL (C : Ctx) (W : WX) (f : Env → Res AD) : TA := fun σ H Q => ∃ ρ P, EnvOk C P H σ ρ ∧ match f ρ with
  | .ok bd => ∀ vs H', Same H H' → (∃ M, RepL C H' bd.2 vs M ∧ (bd.1 = true → M.Nodup ∧ (∀ a ∈ M, H a = none) ∧ ∀ a ∈ M, Mut (H' a))) → Q vs H'
  | .ex c => ∀ H', Same H H' → W (.ref (C.cls c)) none σ H'
  | .bad => False
def nilA : Env → Res AD := fun _ => .ok (true, [])
def consA (f : Env → Res FD) (g : Env → Res AD) : Env → Res AD := fun ρ => (f ρ).bind fun x => (g ρ).bind fun y => .ok (decide (x.1 = .fr) && y.1, x.2 :: y.2)
theorem rl_nil {σ : St} {H : Hp} {Q : List V → Hp → Prop} (h : RL C W nilA σ H Q) : tNil σ H Q := by
  obtain ⟨ρ, P, E, h⟩ := h
  exact h [] H (Same.refl H) ⟨[], ⟨rfl, rfl⟩, fun _ => ⟨List.nodup_nil, (fun a m => nomatch m), (fun a m => nomatch m)⟩⟩
theorem rl_cons {fa : Env → Res AD} {σ : St} {H : Hp} {Q : List V → Hp → Prop} (h : RL C W (consA f fa) σ H Q) : tCons (RV C W f) (RL C W fa) σ H Q := by
  obtain ⟨ρ, P, E, h⟩ := h
  refine ⟨ρ, P, E, ?_⟩
  unfold consA at h
  cases e : f ρ with
  | bad => rw [e] at h; exact h
  | ex c => rw [e] at h; exact h
  | ok fx =>
    rw [e] at h
    simp only [Res.ok_bind] at h
    intro x H1 ⟨s1, M, r1, f1⟩
    refine ⟨ρ, P, E.same s1, ?_⟩
    cases e2 : fa ρ with
    | bad => rw [e2] at h; exact h
    | ex c => rw [e2] at h; exact fun H' s' => h H' (s1.trans s')
    | ok y =>
      rw [e2] at h
      simp only [Res.ok_bind] at h
      intro vs H2 s2 ⟨N, r2, q2⟩
      refine h (x :: vs) H2 (s1.trans s2) ⟨M ++ N, ⟨x, vs, M, N, rfl, r1.same s2, r2, rfl⟩, fun hb => ?_⟩
      simp only [Bool.and_eq_true, decide_eq_true_eq] at hb
      rw [hb.1] at f1
      obtain ⟨n1, w1, u1⟩ := f1
      obtain ⟨n2, w2, u2⟩ := q2 hb.2
      refine ⟨List.nodup_append.mpr ⟨n1, n2, fun z hz y hy e => ?_⟩, fun z hz => ?_, fun z hz => ?_⟩
      · subst e
        obtain ⟨o, ho⟩ := r1.dom z hz
        rw [w2 z hy] at ho; cases ho
      · rcases List.mem_append.mp hz with m | m
        · exact w1 z m
        · exact s1.free (w2 z m)
      · rcases List.mem_append.mp hz with m | m
        · exact mut_same s2 (u1 z m)
        · exact u2 z m
variable {e : Expr} {es : List Expr} {fa : Env → Res AD}
theorem pl_nil : PA X [] (RL C W nilA) := pa_nil.imp fun _ _ _ => rl_nil
theorem pl_cons (ha : PE X e (RV C W f)) (hr : PA X es (RL C W fa)) (hs : starEach (e :: es) X.env = (false, eval e X.env) :: starEach es X.env := by rfl) : PA X (e :: es) (RL C W (consA f fa)) := (pa_cons ha hr hs).imp fun _ _ _ => rl_cons

/-! ### displays -/
def tupF (fa : Env → Res AD) : Env → Res FD := fun ρ => (fa ρ).bind fun y => if y.2.length ≤ sizeLine then .ok (up (if y.1 = true then .fr else .bo) (.tup y.2)) else .bad
def lstF (fa : Env → Res AD) : Env → Res FD := fun ρ => (fa ρ).bind fun y => if y.2.length ≤ sizeLine then .ok (if (y.1 || immL y.2) = true then .fr else .bo, .lst y.2) else .bad
theorem upd_sameH {H : Hp} {p : Addr} {o : HO} (hp : H p = none) : Same H (upd H p o) := fun b u e => by rw [upd_ne (ne_of_none e hp)]; exact e
theorem rv_tup {σ : St} {H : Hp} {Q : VK} (h : RV C W (tupF fa) σ H Q) : tTup (RL C W fa) σ H Q := by
  obtain ⟨ρ, P, E, h⟩ := h
  refine ⟨ρ, P, E, ?_⟩
  unfold tupF at h
  cases e : fa ρ with
  | bad => rw [e] at h; exact h
  | ex c => rw [e] at h; exact h
  | ok y =>
    rw [e] at h
    simp only [Res.ok_bind] at h
    by_cases hz : y.2.length ≤ sizeLine
    · rw [if_pos hz] at h
      intro vs H1 s1 ⟨M, r, q⟩
      refine ⟨by rw [← r.length]; exact hz, fun p hp => ?_⟩
      have s2 := upd_sameH (o := .tup vs) hp
      have rr : Rep C (upd H1 p (.tup vs)) (.tup y.2) (.ref p) M := ⟨p, vs, rfl, upd_same, hz, r.same s2⟩
      refine h _ _ ⟨s1.trans s2, M, rr, FlOk.up rr ?_⟩
      by_cases hb : y.1 = true
      · rw [if_pos hb]
        obtain ⟨n1, w1, u1⟩ := q hb
        exact ⟨n1, w1, fun a m => mut_same s2 (u1 a m)⟩
      · rw [if_neg hb]; trivial
    · rw [if_neg hz] at h; exact h.elim
theorem rv_lst {σ : St} {H : Hp} {Q : VK} (h : RV C W (lstF fa) σ H Q) : tLst (RL C W fa) σ H Q := by
  obtain ⟨ρ, P, E, h⟩ := h
  refine ⟨ρ, P, E, ?_⟩
  unfold lstF at h
  cases e : fa ρ with
  | bad => rw [e] at h; exact h
  | ex c => rw [e] at h; exact h
  | ok y =>
    rw [e] at h
    simp only [Res.ok_bind] at h
    by_cases hz : y.2.length ≤ sizeLine
    · rw [if_pos hz] at h
      intro vs H1 s1 ⟨M, r, q⟩
      refine ⟨by rw [← r.length]; exact hz, fun p hp => ?_⟩
      have s2 := upd_sameH (o := .lst vs) hp
      have rr : Rep C (upd H1 p (.lst vs)) (.lst y.2) (.ref p) (p :: M) := ⟨p, vs, M, rfl, upd_same, hz, r.same s2, rfl⟩
      refine h _ _ ⟨s1.trans s2, p :: M, rr, ?_⟩
      by_cases hb : (y.1 || immL y.2) = true
      · show FlOk _ _ _ _ _ (if (y.1 || immL y.2) = true then Fl.fr else Fl.bo) _
        rw [if_pos hb]
        have q' : M.Nodup ∧ (∀ a ∈ M, H a = none) ∧ ∀ a ∈ M, Mut (H1 a) := by
          rcases Bool.or_eq_true_iff.mp hb with hb | hb
          · exact q hb
          · rw [r.imm hb]
            exact ⟨List.nodup_nil, (fun a m => nomatch m), (fun a m => nomatch m)⟩
        obtain ⟨n1, w1, u1⟩ := q'
        refine ⟨List.nodup_cons.mpr ⟨fun m => ?_, n1⟩, fun a m => ?_, fun a m => ?_⟩
        · obtain ⟨o, ho⟩ := r.dom p m
          rw [hp] at ho; cases ho
        · rcases List.mem_cons.mp m with rfl | m
          · exact s1.free hp
          · exact w1 a m
        · rcases List.mem_cons.mp m with rfl | m
          · rw [upd_same]; trivial
          · exact mut_same s2 (u1 a m)
      · show FlOk _ _ _ _ _ (if (y.1 || immL y.2) = true then Fl.fr else Fl.bo) _
        rw [if_neg hb]; trivial
    · rw [if_neg hz] at h; exact h.elim
theorem pd_tup {k} (h : PA X es (RL C W fa)) : PE X (.Tuple es k pos) (RV C W (tupF fa)) := (pe_tup h).imp fun _ _ _ => rv_tup
theorem pd_lst (h : PA X es (RL C W fa)) : PE X (.List es pos) (RV C W (lstF fa)) := (pe_lst h).imp fun _ _ _ => rv_lst
def newK : Env → Res FD := fun _ => .ok (.fr, .dK [] [])
def newT : Env → Res FD := fun _ => .ok (.fr, .dT [] [])
theorem pd_dnewK : PE X (.Dict [] [] pos) (RV C W newK) := pe_dnewK.imp fun σ H Q h p hp => by
  obtain ⟨ρ, P, E, h⟩ := h
  refine h _ _ ⟨upd_sameH hp, [p], ⟨p, [], [], rfl, .inl upd_same, rfl, Nat.zero_le _, ⟨rfl, rfl⟩, rfl⟩, by simp, fun a m => ?_, fun a m => ?_⟩
  · obtain rfl : a = p := by simpa using m
    exact hp
  · obtain rfl : a = p := by simpa using m
    rw [upd_same]; trivial
theorem pd_dnewT : PE X (.Dict [] [] pos) (RV C W newT) := pe_dnewT.imp fun σ H Q h p hp => by
  obtain ⟨ρ, P, E, h⟩ := h
  refine h _ _ ⟨upd_sameH hp, [p], ⟨p, [], [], rfl, .inl upd_same, rfl, Nat.zero_le _, ⟨rfl, rfl⟩, rfl⟩, by simp, fun a m => ?_, fun a m => ?_⟩
  · obtain rfl : a = p := by simpa using m
    exact hp
  · obtain rfl : a = p := by simpa using m
    rw [upd_same]; trivial

/-! ### slices -/
def cutL {α : Type} (xs : List α) (lo hi : Option Int) : List α := (xs.drop (HT.sIx xs.length 0 lo)).take (HT.sIx xs.length xs.length hi - HT.sIx xs.length 0 lo)
theorem cutL_length {α : Type} (xs : List α) (lo hi : Option Int) : (cutL xs lo hi).length ≤ xs.length := by
  unfold cutL
  rw [List.length_take, List.length_drop]
  omega
theorem RepL.take {H : Hp} : ∀ {ds : List D} {vs : List V} (n : Nat), RepL C H ds vs [] → RepL C H (ds.take n) (vs.take n) []
  | [], _, n, r => by rw [r.1]; simp only [List.take_nil]; exact ⟨rfl, rfl⟩
  | d :: ds, _, 0, r => ⟨rfl, rfl⟩
  | d :: ds, _, n + 1, r => by
    obtain ⟨v, w, M1, M2, rfl, r1, r2, e⟩ := r
    obtain ⟨rfl, rfl⟩ := List.append_eq_nil_iff.mp e.symm
    exact ⟨v, w.take n, [], [], rfl, r1, RepL.take n r2, rfl⟩
theorem RepL.drop {H : Hp} : ∀ {ds : List D} {vs : List V} (n : Nat), RepL C H ds vs [] → RepL C H (ds.drop n) (vs.drop n) []
  | [], _, n, r => by rw [r.1]; simp only [List.drop_nil]; exact ⟨rfl, rfl⟩
  | d :: ds, _, 0, r => r
  | d :: ds, _, n + 1, r => by
    obtain ⟨v, w, M1, M2, rfl, r1, r2, e⟩ := r
    obtain ⟨rfl, rfl⟩ := List.append_eq_nil_iff.mp e.symm
    exact RepL.drop n r2
theorem RepL.cut {H : Hp} {ds : List D} {vs : List V} {lo hi : Option Int} (r : RepL C H ds vs []) : RepL C H (cutL ds lo hi) (cutV vs lo hi) [] := by
  unfold cutL cutV
  rw [r.length]
  exact RepL.take _ (RepL.drop _ r)
def sliceD (x : FD) (lo hi : Option Int) : Res FD := match x.2 with
  | .lst ds => if immL ds = true then .ok (.fr, .lst (cutL ds lo hi)) else .bad
  | .tup ds => if immL ds = true then .ok (.fr, .tup (cutL ds lo hi)) else .bad
  | .str s => if s.length ≤ sizeLine then .ok (.fr, .str (Txt.slice s lo hi)) else .bad
  | _ => .bad
def rSlD (K : PySem.W.Frag) : V → Option Int → Option Int → Hp → VK → Prop := fun x lo hi H Q => rSlL K x lo hi H Q ∨ rSlA K x lo hi H Q ∨ C8.rSlX x lo hi H Q
theorem slice_op (hK : X.K = C.K) {H : Hp} {x : V} {fx : FD} {M : List Addr} {lo hi : Option Int} {Q : VK} {z : FD} (r : Rep C H fx.2 x M) (e : sliceD fx lo hi = .ok z) (h : ∀ v H', New C H H' z.2 v → z.1 = .fr → Q v H') : rSlD X.K x lo hi H Q := by
  obtain ⟨fl, dx⟩ := fx
  cases dx with
  | lst ds =>
    unfold sliceD at e
    dsimp only at e
    split at e
    · rename_i i
      cases e
      obtain ⟨p, vs, M', rfl, e1, z1, k1, rfl⟩ := r
      refine .inl ⟨p, vs, rfl, SqL.of e1, fun q hq => h _ _ (lst_new hq (Nat.le_trans (cutL_length _ _ _) z1) ?_) rfl⟩
      exact RepL.cut (k1.nil0 i)
    · cases e
  | tup ds =>
    unfold sliceD at e
    dsimp only at e
    split at e
    · rename_i i
      cases e
      obtain ⟨p, vs, rfl, e1, z1, k1⟩ := r
      have k0 := k1.nil0 i
      refine .inr (.inl ⟨p, vs, rfl, SqT.of e1, fun w => ?_, fun _ q hq => h _ _ (tup_new hq (Nat.le_trans (cutL_length _ _ _) z1) (RepL.cut k0)) rfl⟩)
      have ec : cutL ds lo hi = ds := by
        unfold cutL
        rw [k1.length, w.1, w.2]
        simp only [List.drop_zero, Nat.sub_zero]
        rw [← k1.length, List.take_length]
      refine h _ H (.imm (Same.refl H) ?_) rfl
      show Rep C H (.tup (cutL ds lo hi)) _ _
      rw [ec]
      exact ⟨p, vs, rfl, e1, z1, k0⟩
    · cases e
  | str s =>
    unfold sliceD at e
    dsimp only at e
    split at e
    · rename_i i
      cases e
      exact .inr (.inr ⟨s, r.1, i, h _ H str_new rfl⟩)
    · cases e
  | _ => cases e
/-- a slice's part -/
def RO (C : Ctx) (W : WX) (f : Env → Res (Option Int)) : TO := fun σ H Q => ∃ ρ P, EnvOk C P H σ ρ ∧ match f ρ with
  | .ok o => ∀ H', Same H H' → Q o H'
  | .ex c => ∀ H', Same H H' → W (.ref (C.cls c)) none σ H'
  | .bad => False
def partF (f : Env → Res FD) : Env → Res (Option Int) := fun ρ => (f ρ).bind fun x => match x.2 with
  | .int i => .ok (some i)
  | _ => .bad
def noPart : Env → Res (Option Int) := fun _ => .ok none
theorem _root_.L2.PO.imp {X : Cx} {e : Option Expr} {t t' : TO} (h : PO X e t) (i : ∀ σ H Q, t' σ H Q → t σ H Q) : PO X e t' := ⟨fun pins s σ H Q I q => h.run pins s σ H Q I (i σ H Q q)⟩
theorem po_no : PO X none (RO C W noPart) := po_none.imp fun σ H Q h => by
  obtain ⟨ρ, P, E, h⟩ := h
  exact h H (Same.refl H)
theorem po_yes (ha : PE X a (RV C W f)) : PO X (some a) (RO C W (partF f)) := (po_some ha).imp fun σ H Q h => by
  obtain ⟨ρ, P, E, h⟩ := h
  refine ⟨ρ, P, E, ?_⟩
  unfold partF at h
  cases e : f ρ with
  | bad => rw [e] at h; exact h
  | ex c => rw [e] at h; exact h
  | ok fx =>
    rw [e] at h
    simp only [Res.ok_bind] at h
    intro x H1 ⟨s1, M, r1, f1⟩
    obtain ⟨fl, d⟩ := fx
    cases d <;> first | exact h.elim | skip
    exact ⟨_, r1.1, h H1 s1⟩
def slF (f : Env → Res FD) (l u : Env → Res (Option Int)) : Env → Res FD := fun ρ => (f ρ).bind fun x => (l ρ).bind fun lo => (u ρ).bind fun hi => sliceD x lo hi
theorem sliceD_nx : ∀ x lo hi c, sliceD x lo hi ≠ .ex c := fun x lo hi c e => by
  unfold sliceD at e
  split at e <;> first | cases e | (split at e <;> cases e)
theorem rv_slice (hK : X.K = C.K) {l u : Env → Res (Option Int)} {σ : St} {H : Hp} {Q : VK} (h : RV C W (slF f l u) σ H Q) : tSl (rSlD X.K) (RV C W f) (RO C W l) (RO C W u) σ H Q := by
  obtain ⟨ρ, P, E, h⟩ := h
  refine ⟨ρ, P, E, ?_⟩
  unfold slF at h
  cases e : f ρ with
  | bad => rw [e] at h; exact h
  | ex c => rw [e] at h; exact h
  | ok fx =>
    rw [e] at h
    simp only [Res.ok_bind] at h
    intro x H1 ⟨s1, M, r1, f1⟩
    refine ⟨ρ, P, E.same s1, ?_⟩
    cases e2 : l ρ with
    | bad => rw [e2] at h; exact h
    | ex c => rw [e2] at h; exact fun H' s' => h H' (s1.trans s')
    | ok lo =>
      rw [e2] at h
      simp only [Res.ok_bind] at h
      intro H2 s2
      refine ⟨ρ, P, E.same (s1.trans s2), ?_⟩
      cases e3 : u ρ with
      | bad => rw [e3] at h; exact h
      | ex c => rw [e3] at h; exact fun H' s' => h H' ((s1.trans s2).trans s')
      | ok hi =>
        rw [e3] at h
        simp only [Res.ok_bind] at h
        intro H3 s3
        cases ek : sliceD fx lo hi with
        | bad => rw [ek] at h; exact h.elim
        | ex c => exact absurd ek (sliceD_nx _ _ _ c)
        | ok z =>
          rw [ek] at h
          refine slice_op hK (r1.same (s2.trans s3)) ek fun v H' n ez => h v H' ?_
          obtain ⟨fl, z⟩ := z
          cases ez
          exact (n.early ((s1.trans s2).trans s3)).vok
theorem pd_slice (F : Fx R C X W) {lo hi : Option Expr} {l u : Env → Res (Option Int)} (ha : PE X a (RV C W f)) (hl : PO X lo (RO C W l)) (hu : PO X hi (RO C W u)) : PE X (.Subscript a (.Slice lo hi none p2) pos) (RV C W (slF f l u)) :=
  (pe_slice (sl_list.or (sl_tupA.or C8.sl_txt)) ha hl hu).imp fun _ _ _ => rv_slice F.hK
end
end DL
/-! DL6: the environment changed; targets; what is walked; list comprehensions. -/
namespace DL
open PySem L2

section
variable {C : Ctx} {P : List Pt} {H H' : Hp} {σ σ' : St} {ρ ρ' : Env} {d : D} {v : V} {M N : List Addr} {i : Nat} {o : Ow}

theorem set_get {α : Type} {l : List α} {i j : Nat} {x y : α} (h : (l.set i x)[j]? = some y) : (j = i ∧ y = x ∧ i < l.length) ∨ (j ≠ i ∧ l[j]? = some y) := by
  by_cases e : j = i
  · subst e
    by_cases hl : j < l.length
    · rw [List.getElem?_set_self hl] at h
      cases h
      exact .inl ⟨rfl, rfl, hl⟩
    · rw [List.getElem?_eq_none (by simpa using hl)] at h
      cases h
  · rw [List.getElem?_set_ne (Ne.symm e)] at h
    exact .inr ⟨e, h⟩
/-- a slot takes a value -/
theorem EnvOk.setG (E : EnvOk C P H σ ρ) (r : Rep C H d v M) (hi : i < ρ.length)
    (h1 : ∀ (j : Nat) (o' : Ow) (d' : D) (w : V) (N : List Addr), j ≠ i → ρ[j]? = some (some (o', d')) → σ[j]? = some (some w) → Rep C H d' w N → (o.own = true ∨ o'.own = true) → ∀ a ∈ M, a ∉ N)
    (h2 : o.own = true → M.Nodup ∧ (∀ a ∈ M, Mut (H a)) ∧ ∀ p ∈ P, ∀ N, PRep C H p N → ∀ a ∈ M, a ∉ N) (h3 : o = .loc → ∀ a ∈ M, C.H0 a = none) (h4 : (o = .io → (∀ a ∈ M, a ∈ C.io ∨ C.H0 a = none) ∧ C.iov = some v) ∧ (o = .lk → ∃ a od u, v = .ref a ∧ Sum.inr (a, od, u) ∈ P)) :
    EnvOk C P H (σ.set i (some v)) (ρ.set i (some (o, d))) := by
  refine ⟨by simpa using E.len, fun j oj dj e => ?_, E.prot, E.kept, E.keptd⟩
  rcases set_get e with ⟨rfl, e, _⟩ | ⟨hj, e3⟩
  · cases e
    refine ⟨v, M, List.getElem?_set_self (by rw [E.len]; exact hi), r, fun hw => ?_, h3, h4⟩
    obtain ⟨q1, q2, q3⟩ := h2 hw
    refine ⟨q1, q2, fun k o' d' w N hk ek sk rk => ?_, q3⟩
    rw [List.getElem?_set_ne (Ne.symm hk)] at ek sk
    exact h1 k o' d' w N hk ek sk rk (.inl hw)
  · obtain ⟨w, L, e1, rj, ow, lo, io⟩ := E.at_ j oj dj e3
    refine ⟨w, L, by rw [List.getElem?_set_ne (Ne.symm hj)]; exact e1, rj, fun hw => ?_, lo, io⟩
    obtain ⟨q1, q2, q3, q4⟩ := ow hw
    refine ⟨q1, q2, fun k o' d' w' N hk ek sk rk a ma na => ?_, q4⟩
    rcases set_get ek with ⟨rfl, ek, _⟩ | ⟨hki, ek⟩
    · cases ek
      rw [List.getElem?_set_self (by rw [E.len]; exact hi)] at sk
      cases sk
      rw [rk.uniq r] at na
      exact h1 j oj dj w L (Ne.symm hk) e3 e1 rj (.inr hw) a na ma
    · rw [List.getElem?_set_ne (Ne.symm hki)] at sk
      exact q3 k o' d' w' N hk ek sk rk a ma na
theorem EnvOk.setSh (E : EnvOk C P H σ ρ) (r : Rep C H d v M) (ap : Apart C H σ ρ M) (hi : i < ρ.length) : EnvOk C P H (σ.set i (some v)) (ρ.set i (some (.sh, d))) :=
  E.setG r hi (fun j o' d' w N _ ej sj rj h a ma => by
    rcases h with h | h
    · cases h
    · exact ap j o' d' w N ej h sj rj a ma) (fun h => by cases h) (fun h => by cases h) ⟨(fun h => by cases h), (fun h => by cases h)⟩
/-- new nodes are apart from all that stood -/
theorem EnvOk.newApart {H0 : Hp} (E : EnvOk C P H0 σ ρ) (nw : ∀ a ∈ M, H0 a = none) {j : Nat} {o' : Ow} {d' : D} {w : V} (ej : ρ[j]? = some (some (o', d'))) (sj : σ[j]? = some (some w)) (s : Same H0 H) (rj : Rep C H d' w N) : ∀ a ∈ M, a ∉ N := by
  obtain ⟨w', N', e', r', _⟩ := E.at_ j o' d' ej
  rw [sj] at e'; cases e'
  have r0 := r'.back s rj
  intro a ma na
  obtain ⟨u, hu⟩ := r0.dom a na
  rw [nw a ma] at hu
  cases hu
theorem EnvOk.newApartP {H0 : Hp} (E : EnvOk C P H0 σ ρ) (nw : ∀ a ∈ M, H0 a = none) (s : Same H0 H) : ∀ p ∈ P, ∀ N, PRep C H p N → ∀ a ∈ M, a ∉ N := by
  intro p hp N rp a ma na
  obtain ⟨N', r'⟩ := E.prot p hp
  have r0 := r'.back s rp
  cases p with
  | inl p =>
    obtain ⟨u, hu⟩ := Rep.dom r0 a na
    rw [nw a ma] at hu
    cases hu
  | inr q =>
    rw [r0.2] at na
    cases na
/-- name = a value, by its flag -/
theorem EnvOk.assign {fd : FD} (E : EnvOk C P H σ ρ) (vo : VOk C H σ ρ H' fd v) (hi : i < ρ.length) (hf : fd.1 = .fr ∨ fd.1 = .sf) :
    EnvOk C P H' (σ.set i (some v)) (ρ.set i (some (if fd.1 = .fr then .loc else .sh, fd.2))) := by
  obtain ⟨s, M, r, f⟩ := vo
  have E' := E.same s
  rcases hf with hf | hf
  · rw [if_pos hf]
    rw [hf] at f
    obtain ⟨nd, nw, mu⟩ := f
    refine E'.setG r hi (fun j o' d' w N _ ej sj rj _ => E.newApart nw ej sj s rj) (fun _ => ⟨nd, mu, E.newApartP nw s⟩) (fun _ a m => E.keptd a (nw a m)) ⟨(fun h => by cases h), (fun h => by cases h)⟩
  · rw [if_neg (by rw [hf]; exact fun h => by cases h)]
    rw [hf] at f
    exact E'.setSh r (Apart.back E s f) hi
/-- slots forgotten, shared -/
theorem EnvOk.weak (E : EnvOk C P H σ ρ) (hl : σ'.length = ρ'.length) (h : ∀ (i : Nat) (o : Ow) (d : D), ρ'[i]? = some (some (o, d)) → ∃ o', ρ[i]? = some (some (o', d)) ∧ (o = o' ∨ o = .sh) ∧ σ'[i]? = σ[i]?) : EnvOk C P H σ' ρ' := by
  refine ⟨hl, fun i o d e => ?_, E.prot, E.kept, E.keptd⟩
  obtain ⟨o', e', ho, es⟩ := h i o d e
  obtain ⟨v, M, e1, r, ow, lo, io⟩ := E.at_ i o' d e'
  refine ⟨v, M, es.trans e1, r, fun hw => ?_, fun q => ?_, fun q => ?_, fun q => ?_⟩
  · have : o = o' := ho.elim id fun z => by subst z; cases hw
    subst this
    obtain ⟨q1, q2, q3, q4⟩ := ow hw
    refine ⟨q1, q2, fun j oj dj w N hj ej sj rj => ?_, q4⟩
    obtain ⟨oj', ej', _, esj⟩ := h j oj dj ej
    exact q3 j oj' dj w N hj ej' (esj ▸ sj) rj
  · rcases ho with rfl | rfl
    · exact lo q
    · cases q
  · rcases ho with rfl | rfl
    · exact io.1 q
    · cases q
  · rcases ho with rfl | rfl
    · exact io.2 q
    · cases q
def fzE (ρ : Env) : Env := ρ.map fun s => s.map fun p => (Ow.sh, p.2)
theorem EnvOk.frozen (E : EnvOk C P H σ ρ) : EnvOk C P H σ (fzE ρ) := E.weak (by unfold fzE; rw [List.length_map]; exact E.len) fun i o d e => by
  unfold fzE at e
  rw [List.getElem?_map] at e
  cases q : ρ[i]? with
  | none => rw [q] at e; cases e
  | some s =>
    rw [q] at e
    cases s with
    | none => cases e
    | some p => cases e; exact ⟨p.1, rfl, .inr rfl, rfl⟩
theorem fzE_own {i : Nat} {o : Ow} {d : D} (e : (fzE ρ)[i]? = some (some (o, d))) : o = .sh := by
  unfold fzE at e
  rw [List.getElem?_map] at e
  cases q : ρ[i]? with
  | none => rw [q] at e; cases e
  | some s =>
    rw [q] at e
    cases s with
    | none => cases e
    | some p => cases e; rfl
def wipeE (ρ : Env) : List Nat → Env
  | [] => ρ
  | v :: vs => (wipeE ρ vs).set v none
theorem wipeE_len (ρ : Env) : ∀ vs, (wipeE ρ vs).length = ρ.length
  | [] => rfl
  | v :: vs => by unfold wipeE; rw [List.length_set, wipeE_len ρ vs]
theorem wipeE_get {ρ : Env} {i : Nat} {p : Ow × D} : ∀ {vs : List Nat}, (wipeE ρ vs)[i]? = some (some p) → ρ[i]? = some (some p) ∧ i ∉ vs
  | [], h => ⟨h, by simp⟩
  | v :: vs, h => by
    unfold wipeE at h
    rcases set_get h with ⟨_, e, _⟩ | ⟨hi, h⟩
    · cases e
    · obtain ⟨h1, h2⟩ := wipeE_get h
      exact ⟨h1, by simp only [List.mem_cons, not_or]; exact ⟨hi, h2⟩⟩
theorem wipe_get (σ : St) (i : Nat) : ∀ vs : List Nat, (wipe σ vs)[i]? = if i ∈ vs ∧ i < σ.length then some none else σ[i]?
  | [] => by simp [wipe]
  | v :: vs => by
    unfold wipe
    by_cases e : i = v
    · subst e
      by_cases hl : i < σ.length
      · rw [List.getElem?_set_self (by rw [wipe_length]; exact hl), if_pos ⟨List.mem_cons_self, hl⟩]
      · rw [List.getElem?_eq_none (by rw [List.length_set, wipe_length]; omega), if_neg (fun z => hl z.2), List.getElem?_eq_none (by omega)]
    · rw [List.getElem?_set_ne (Ne.symm e), wipe_get σ i vs]
      have : (i ∈ v :: vs ∧ i < σ.length) ↔ (i ∈ vs ∧ i < σ.length) := by simp [e]
      by_cases h : i ∈ vs ∧ i < σ.length
      · rw [if_pos h, if_pos (this.mpr h)]
      · rw [if_neg h, if_neg fun z => h (this.mp z)]
theorem EnvOk.wipe (E : EnvOk C P H σ ρ) (vs : List Nat) : EnvOk C P H (L2.wipe σ vs) (wipeE ρ vs) := E.weak (by rw [wipe_length, wipeE_len]; exact E.len) fun i o d e => by
  obtain ⟨e1, e2⟩ := wipeE_get e
  refine ⟨o, e1, .inl rfl, ?_⟩
  rw [wipe_get, if_neg fun z => e2 z.1]
theorem wipe_agree {σ σ2 : St} {vs : List Nat} (hl : σ2.length = σ.length) (h : ∀ i, i ∉ vs → σ2[i]? = (L2.wipe σ vs)[i]?) : L2.wipe σ2 vs = L2.wipe σ vs := by
  refine List.ext_getElem? fun i => ?_
  by_cases hi : i ∈ vs
  · rw [wipe_get, wipe_get, hl]
    by_cases hl2 : i < σ.length
    · rw [if_pos ⟨hi, hl2⟩, if_pos ⟨hi, hl2⟩]
    · rw [if_neg fun z => hl2 z.2, if_neg fun z => hl2 z.2, List.getElem?_eq_none (by omega), List.getElem?_eq_none (by omega)]
  · rw [wipe_get, if_neg fun z => hi z.1]
    exact h i hi
theorem EnvOk.push {Ps : List Pt} (E : EnvOk C P H σ ρ) (h : ∀ p ∈ Ps, ∃ N, PRep C H p N ∧ Apart C H σ ρ N) : EnvOk C (Ps ++ P) H σ ρ := by
  refine ⟨E.len, fun i o d e => ?_, fun p hp => ?_, fun a o e n => (E.kept a o e n).imp_right fun ⟨od, m⟩ => ⟨od, List.mem_append_right _ m⟩, E.keptd⟩
  · obtain ⟨v, M, e1, r, ow, lo, io⟩ := E.at_ i o d e
    refine ⟨v, M, e1, r, fun hw => ?_, lo, io.1, fun q => let ⟨a, od, u, e, m⟩ := io.2 q; ⟨a, od, u, e, List.mem_append_right _ m⟩⟩
    obtain ⟨q1, q2, q3, q4⟩ := ow hw
    refine ⟨q1, q2, q3, fun p hp N rp a ma na => ?_⟩
    rcases List.mem_append.mp hp with m | m
    · obtain ⟨N', r', ap⟩ := h p m
      rw [rp.uniq r'] at na
      exact ap i o d v M e hw e1 r a na ma
    · exact q4 p m N rp a ma na
  · rcases List.mem_append.mp hp with m | m
    · obtain ⟨N, r, _⟩ := h p m
      exact ⟨N, r⟩
    · exact E.prot p m
def noLock : Pt → Prop
  | .inl _ => True
  | .inr _ => False
theorem EnvOk.pop {Ps : List Pt} (E : EnvOk C (Ps ++ P) H σ ρ) (h : ∀ p ∈ Ps, noLock p) : EnvOk C P H σ ρ := by
  refine ⟨E.len, fun i o d e => ?_, fun p hp => E.prot p (List.mem_append_right _ hp), fun a o e n => ?_, E.keptd⟩
  · obtain ⟨v, M, e1, r, ow, lo, io⟩ := E.at_ i o d e
    refine ⟨v, M, e1, r, fun hw => ?_, lo, io.1, fun q => let ⟨a, od, u, e, m⟩ := io.2 q; ⟨a, od, u, e, (List.mem_append.mp m).elim (fun m => (h _ m).elim) id⟩⟩
    obtain ⟨q1, q2, q3, q4⟩ := ow hw
    exact ⟨q1, q2, q3, fun p hp => q4 p (List.mem_append_right _ hp)⟩
  · rcases E.kept a o e n with q | ⟨od, m⟩
    · exact .inl q
    · rcases List.mem_append.mp m with m | m
      · exact (h _ m).elim
      · exact .inr ⟨od, m⟩
end

/-! ### targets -/
inductive Tg where
  | nm (i : Nat) | tp (ts : List Tg)
mutual
def Tg.ix : Tg → List Nat
  | .nm i => [i]
  | .tp ts => Tg.ixL ts
def Tg.ixL : List Tg → List Nat
  | [] => []
  | t :: ts => t.ix ++ Tg.ixL ts
end
mutual
def asg (o : Ow) : Tg → D → Env → Option Env
  | .nm i, d, ρ => if i < ρ.length then some (ρ.set i (some (o, d))) else none
  | .tp ts, .tup ds, ρ => asgL o ts ds ρ
  | .tp _, _, _ => none
def asgL (o : Ow) : List Tg → List D → Env → Option Env
  | [], [], ρ => some ρ
  | t :: ts, d :: ds, ρ => (asg o t d ρ).bind (asgL o ts ds)
  | _, _, _ => none
end
mutual
def gOf (K : PySem.W.Frag) : Tg → TG
  | .nm i => gName i
  | .tp ts => gTup K ts.length (gOfL K ts)
def gOfL (K : PySem.W.Frag) : List Tg → TGs
  | [] => gNil
  | t :: ts => gCons (gOf K t) (gOfL K ts)
end
section
variable {C : Ctx} {P : List Pt} {H : Hp}
theorem apart_set {σ : St} {ρ : Env} {i : Nat} {v : V} {d : D} {M : List Addr} (ap : Apart C H σ ρ M) : Apart C H (σ.set i (some v)) (ρ.set i (some (.sh, d))) M := fun j o d' w N e ow e1 r => by
  rcases set_get e with ⟨_, e, _⟩ | ⟨hj, e⟩
  · cases e; cases ow
  · rw [List.getElem?_set_ne (Ne.symm hj)] at e1
    exact ap j o d' w N e ow e1 r
/-- what a value must be to be stored so -/
def Cnd (C : Ctx) (P : List Pt) (H : Hp) (σ : St) (ρ : Env) : Ow → List Addr → Prop
  | .sh, M => Apart C H σ ρ M
  | .loc, M => M.Nodup ∧ (∀ a ∈ M, Mut (H a) ∧ C.H0 a = none) ∧ (∀ (j : Nat) (o : Ow) (d : D) (w : V) (N : List Addr), ρ[j]? = some (some (o, d)) → σ[j]? = some (some w) → Rep C H d w N → ∀ a ∈ M, a ∉ N) ∧ ∀ p ∈ P, ∀ N, PRep C H p N → ∀ a ∈ M, a ∉ N
  | _, _ => False
theorem Cnd.sub {σ : St} {ρ : Env} {o : Ow} {M N : List Addr} (h : Cnd C P H σ ρ o M) (s : N.Sublist M) : Cnd C P H σ ρ o N := by
  cases o with
  | sh => exact fun i o d w L a b c d' x m => h i o d w L a b c d' x (s.subset m)
  | loc => exact ⟨h.1.sublist s, fun a m => h.2.1 a (s.subset m), fun j o d w L e e1 r a m => h.2.2.1 j o d w L e e1 r a (s.subset m), fun p hp L r a m => h.2.2.2 p hp L r a (s.subset m)⟩
  | io => exact h
  | lk => exact h
theorem Cnd.setOk {σ : St} {ρ : Env} {o : Ow} {M : List Addr} {v : V} {d : D} {i : Nat} (E : EnvOk C P H σ ρ) (c : Cnd C P H σ ρ o M) (r : Rep C H d v M) (hi : i < ρ.length) : EnvOk C P H (σ.set i (some v)) (ρ.set i (some (o, d))) := by
  cases o with
  | sh => exact E.setSh r c hi
  | loc => exact E.setG r hi (fun j o' d' w N _ ej sj rj _ => c.2.2.1 j o' d' w N ej sj rj) (fun _ => ⟨c.1, fun a m => (c.2.1 a m).1, c.2.2.2⟩) (fun _ a m => (c.2.1 a m).2) ⟨(fun h => by cases h), (fun h => by cases h)⟩
  | io => exact c.elim
  | lk => exact c.elim
theorem Cnd.keep {σ : St} {ρ : Env} {o : Ow} {M N : List Addr} {v : V} {d : D} {i : Nat} (E : EnvOk C P H σ ρ) (hi : i < ρ.length) (c : Cnd C P H σ ρ o N) (r : Rep C H d v M) (dj : o = .loc → ∀ a ∈ N, a ∉ M) : Cnd C P H (σ.set i (some v)) (ρ.set i (some (o, d))) o N := by
  cases o with
  | sh => exact apart_set c
  | loc =>
    refine ⟨c.1, c.2.1, fun j o' d' w L e e1 rj a ma na => ?_, c.2.2.2⟩
    rcases set_get e with ⟨rfl, e, _⟩ | ⟨hj, e⟩
    · cases e
      rw [List.getElem?_set_self (by rw [E.len]; exact hi)] at e1
      cases e1
      rw [rj.uniq r] at na
      exact dj rfl a ma na
    · rw [List.getElem?_set_ne (Ne.symm hj)] at e1
      exact c.2.2.1 j o' d' w L e e1 rj a ma na
  | io => exact c.elim
  | lk => exact c.elim
mutual
theorem asg_ok (K : PySem.W.Frag) (o : Ow) : ∀ (t : Tg) (d : D) (v : V) (M : List Addr) (σ : St) (ρ ρ' : Env) (Q : St → Hp → Prop), asg o t d ρ = some ρ' → EnvOk C P H σ ρ → Rep C H d v M → Cnd C P H σ ρ o M →
    (∀ σ', EnvOk C P H σ' ρ' → σ'.length = σ.length → (∀ i, i ∉ t.ix → σ'[i]? = σ[i]?) → (∀ N, Cnd C P H σ ρ o N → (o = .loc → ∀ a ∈ N, a ∉ M) → Cnd C P H σ' ρ' o N) → Q σ' H) → gOf K t v σ H Q
  | .nm i, d, v, M, σ, ρ, ρ', Q, e, E, r, ap, h => by
    unfold asg at e
    split at e
    · rename_i hi
      cases e
      show Q _ H
      refine h _ (ap.setOk E r hi) (by simp) (fun j hj => ?_) fun N a dj => a.keep E hi r dj
      rw [List.getElem?_set_ne (fun z => hj (by simp [Tg.ix, z]))]
    · cases e
  | .tp ts, d, v, M, σ, ρ, ρ', Q, e, E, r, ap, h => by
    cases d <;> first | (simp [asg] at e; done) | skip
    rename_i ds
    obtain ⟨a, vs, rfl, ea, _, rr⟩ := r
    have e' : asgL o ts ds ρ = some ρ' := by simpa [asg] using e
    obtain ⟨hl, hg⟩ := asgL_ok K o ts ds vs M σ ρ ρ' Q e' E rr ap (fun σ' E' h1 h2 h3 => h σ' E' h1 (by simpa [Tg.ix] using h2) h3)
    exact ⟨a, vs, rfl, SqT.of ea, hl, hg⟩
theorem asgL_ok (K : PySem.W.Frag) (o : Ow) : ∀ (ts : List Tg) (ds : List D) (vs : List V) (M : List Addr) (σ : St) (ρ ρ' : Env) (Q : St → Hp → Prop), asgL o ts ds ρ = some ρ' → EnvOk C P H σ ρ → RepL C H ds vs M → Cnd C P H σ ρ o M →
    (∀ σ', EnvOk C P H σ' ρ' → σ'.length = σ.length → (∀ i, i ∉ Tg.ixL ts → σ'[i]? = σ[i]?) → (∀ N, Cnd C P H σ ρ o N → (o = .loc → ∀ a ∈ N, a ∉ M) → Cnd C P H σ' ρ' o N) → Q σ' H) → vs.length = ts.length ∧ gOfL K ts vs σ H Q
  | [], ds, vs, M, σ, ρ, ρ', Q, e, E, r, ap, h => by
    cases ds with
    | nil =>
      simp only [asgL, Option.some.injEq] at e
      subst e
      rw [r.1]
      exact ⟨rfl, rfl, h σ E rfl (fun _ _ => rfl) fun _ a _ => a⟩
    | cons d ds => simp [asgL] at e
  | t :: ts, ds, vs, M, σ, ρ, ρ', Q, e, E, r, ap, h => by
    cases ds with
    | nil => simp [asgL] at e
    | cons d ds =>
      simp only [asgL] at e
      obtain ⟨ρ1, e1, e2⟩ := Option.bind_eq_some_iff.mp e
      obtain ⟨v, w, M1, M2, rfl, r1, r2, rfl⟩ := r
      have ap1 := ap.sub (List.sublist_append_left M1 M2)
      have ap2 := ap.sub (List.sublist_append_right M1 M2)
      have dj12 : o = .loc → ∀ a ∈ M2, a ∉ M1 := fun z a m2 m1 => by
        subst z
        exact (List.nodup_append.mp ap.1).2.2 a m1 a m2 rfl
      have hlen : w.length = ts.length := by
        have : ∀ (ts : List Tg) (ds : List D) (ρ : Env), asgL o ts ds ρ = some ρ' → ds.length = ts.length := by
          intro ts
          induction ts with
          | nil => intro ds ρ e; cases ds with
            | nil => rfl
            | cons => simp [asgL] at e
          | cons t ts ih => intro ds ρ e; cases ds with
            | nil => simp [asgL] at e
            | cons d ds =>
              simp only [asgL] at e
              obtain ⟨ρ1, _, e2⟩ := Option.bind_eq_some_iff.mp e
              rw [List.length_cons, List.length_cons, ih ds ρ1 e2]
        rw [← r2.length, this ts ds ρ1 e2]
      refine ⟨by rw [List.length_cons, List.length_cons, hlen], v, w, rfl, asg_ok K o t d v M1 σ ρ ρ1 _ e1 E r1 ap1 fun σ1 E1 l1 a1 k1 => ?_⟩
      exact (asgL_ok K o ts ds w M2 σ1 ρ1 ρ' Q e2 E1 r2 (k1 _ ap2 dj12) fun σ' E' l' a' k' => h σ' E' (l'.trans l1) (fun i hi => by
        have hi' : i ∉ t.ix ∧ i ∉ Tg.ixL ts := by simpa [Tg.ixL, List.mem_append, not_or] using hi
        rw [a' i hi'.2, a1 i hi'.1]) fun N a dj => k' N (k1 N a fun z b nb m => dj z b nb (List.mem_append_left _ m)) fun z b nb m => dj z b nb (List.mem_append_right _ m)).2
end
end

/-! ### what is walked -/
def ItOk (C : Ctx) (J : It) (items : List D) (Ps : List Pt) : Prop := ∀ (i : Nat) (H : Hp), (∀ p ∈ Ps, ∃ N, PRep C H p N) →
  (∀ d, items[i]? = some d → J.go i H ∧ ∀ x H', J.yld i H x H' → Same H H' ∧ ∃ M, Rep C H' d x M ∧ ∀ a ∈ M, ∃ p ∈ Ps, ∃ N, PRep C H p N ∧ a ∈ N) ∧ (items.length ≤ i → J.stop i H)
/-- the values walked, each with its flag, and the items -/
abbrev ID := List FD × List D
def PsOk (C : Ctx) (H : Hp) (σ : St) (ρ : Env) (H' : Hp) : List FD → List Pt → Prop
  | [], Ps => Ps = []
  | fd :: r, Ps => ∃ v Pr, Ps = .inl (v, fd.2) :: Pr ∧ (∃ M, Rep C H' fd.2 v M ∧ FlOk C H σ ρ H' fd.1 M) ∧ PsOk C H σ ρ H' r Pr
def RI (C : Ctx) (W : WX) (f : Env → Res ID) : TI := fun σ H R => ∃ ρ P, EnvOk C P H σ ρ ∧ match f ρ with
  | .ok it => ∀ J H' Ps Ls, Same H H' → PsOk C H σ ρ H' it.1 Ps → (∀ p ∈ Ls, p ∈ P ∧ ∃ q, p = Sum.inr q) → ItOk C J it.2 (Ps ++ Ls) → R J H'
  | .ex c => ∀ H', Same H H' → W (.ref (C.cls c)) none σ H'
  | .bad => False
theorem _root_.L2.PI.imp {X : Cx} {tg e : Expr} {t t' : TI} (h : PI X tg e t) (i : ∀ σ H R, t' σ H R → t σ H R) : PI X tg e t' := ⟨fun pins s σ H Q I q => h.run pins s σ H Q I (i σ H Q q)⟩
theorem PsOk.rep {C : Ctx} {H H' : Hp} {σ : St} {ρ : Env} : ∀ {r : List FD} {Ps : List Pt}, PsOk C H σ ρ H' r Ps → ∀ p ∈ Ps, (∃ N, PRep C H' p N) ∧ noLock p
  | [], Ps, h => by rw [show Ps = [] from h]; exact fun p m => nomatch m
  | fd :: r, Ps, h => by
    obtain ⟨v, Pr, rfl, ⟨M, rr, _⟩, h2⟩ := h
    intro p m
    rcases List.mem_cons.mp m with rfl | m
    · exact ⟨⟨M, rr⟩, trivial⟩
    · exact PsOk.rep h2 p m
theorem PsOk.apart {C : Ctx} {P : List Pt} {H H' : Hp} {σ : St} {ρ : Env} (E : EnvOk C P H σ ρ) (s : Same H H') : ∀ {r : List FD} {Ps : List Pt}, PsOk C H σ ρ H' r Ps → (∀ fd ∈ r, fd.1 = .fr ∨ fd.1 = .sf) → ∀ p ∈ Ps, ∃ N, PRep C H' p N ∧ Apart C H' σ ρ N
  | [], Ps, h, _ => by rw [show Ps = [] from h]; exact fun p m => nomatch m
  | fd :: r, Ps, h, hf => by
    obtain ⟨v, Pr, rfl, ⟨M, rr, f⟩, h2⟩ := h
    intro p m
    rcases List.mem_cons.mp m with rfl | m
    · refine ⟨M, rr, ?_⟩
      rcases hf fd List.mem_cons_self with z | z
      · rw [z] at f
        exact fun i o d w N e ow e1 r => E.newApart f.2.1 e e1 s r
      · rw [z] at f
        exact Apart.back E s f
    · exact PsOk.apart E s h2 (fun fd m => hf fd (List.mem_cons_of_mem _ m)) p m

section
variable {C : Ctx} {X : Cx} {W : WX} {tg a b : Expr} {f g : Env → Res FD} {pos p p2 : Pos}
def iSeq (K : PySem.W.Frag) (tl : TE) : TI := fun σ H R => tl σ H fun x H1 => ∃ a, x = .ref a ∧ (((∃ xs, SqL K H1 a xs) ∧ R (Itl K a) H1) ∨ ((∃ xs, SqT K H1 a xs) ∧ R (Itt K a) H1))
theorem pi_seq {l : Expr} {tl : TE} (hl : PE X l tl) : PI X tg l (iSeq X.K tl) := by
  refine ⟨fun pins s σ H R I h => ?_⟩
  refine thn (hl.run pins s σ H _ I h) fun v s1 ⟨x, H1, I1, r1, q1⟩ => ?_
  obtain ⟨a, e, q⟩ := q1
  subst e
  cases r1
  rcases q with ⟨⟨xs, hq⟩, q⟩ | ⟨⟨xs, hq⟩, q⟩
  · obtain ⟨its, rv, p, hz⟩ := I1.list hq
    refine wpAny_pyIter_list p.isList ?_
    refine ⟨s1.heap.objs.size, [s1.heap.objs.size], _, _, H1, rfl, I1.kept (t' := s1.toks) fun b o e => Heap.get?_push_of_some _ e, turn_list a _, ⟨_, Heap.get?_push_size _ rfl, rfl, rfl⟩, fun b hb => ?_, q⟩
    have e : b = s1.heap.objs.size := by simpa using hb
    subst e
    exact I1.fpOk (Nat.le_refl _) (I1.hok.fresh (Nat.le_refl _))
  · obtain ⟨its, rv, p, hz⟩ := I1.tuple hq
    refine wpAny_pyIter_tuple (show s1.heap.IsTuple a its.toArray from p) ?_
    refine ⟨s1.heap.objs.size, [s1.heap.objs.size], _, _, H1, rfl, I1.kept (t' := s1.toks) fun b o e => Heap.get?_push_of_some _ e, turn_tuple a _, ⟨_, Heap.get?_push_size _ rfl, rfl, rfl⟩, fun b hb => ?_, q⟩
    have e : b = s1.heap.objs.size := by simpa using hb
    subst e
    exact I1.fpOk (Nat.le_refl _) (I1.hok.fresh (Nat.le_refl _))
def seqI (f : Env → Res FD) : Env → Res ID := fun ρ => (f ρ).bind fun x => match x.2 with
  | .lst ds => .ok ([x], ds)
  | .tup ds => .ok ([x], ds)
  | _ => .bad
theorem itok_lst (K : PySem.W.Frag) (a : Addr) (ds : List D) : ItOk C (Itl K a) ds [.inl (.ref a, .lst ds)] := by
  intro i H hp
  obtain ⟨N, a', vs, M', e0, e1, z, r, eN⟩ := hp _ (List.mem_singleton.mpr rfl)
  cases e0
  refine ⟨fun d e => ?_, fun hl => ⟨vs, SqL.of e1, by rw [← r.length]; exact hl⟩⟩
  obtain ⟨v, L, e2, r', s⟩ := r.get e
  refine ⟨⟨vs, v, SqL.of e1, e2⟩, fun x H' ⟨eH, q⟩ => ?_⟩
  subst eH
  have e3 := q vs (SqL.of e1)
  rw [e2] at e3
  cases e3
  exact ⟨Same.refl _, L, r', fun b m => ⟨_, List.mem_singleton.mpr rfl, N, ⟨a, vs, M', rfl, e1, z, r, eN⟩, by rw [eN]; exact List.mem_cons_of_mem _ (s.subset m)⟩⟩
theorem itok_tup (K : PySem.W.Frag) (a : Addr) (ds : List D) : ItOk C (Itt K a) ds [.inl (.ref a, .tup ds)] := by
  intro i H hp
  obtain ⟨N, a', vs, e0, e1, z, r⟩ := hp _ (List.mem_singleton.mpr rfl)
  cases e0
  refine ⟨fun d e => ?_, fun hl => ⟨vs, SqT.of e1, by rw [← r.length]; exact hl⟩⟩
  obtain ⟨v, L, e2, r', s⟩ := r.get e
  refine ⟨⟨vs, v, SqT.of e1, e2⟩, fun x H' ⟨eH, q⟩ => ?_⟩
  subst eH
  have e3 := q vs (SqT.of e1)
  rw [e2] at e3
  cases e3
  exact ⟨Same.refl _, L, r', fun b m => ⟨_, List.mem_singleton.mpr rfl, N, ⟨a, vs, rfl, e1, z, r⟩, s.subset m⟩⟩
theorem ri_seq {K : PySem.W.Frag} {σ : St} {H : Hp} {R : It → Hp → Prop} (h : RI C W (seqI f) σ H R) : iSeq K (RV C W f) σ H R := by
  obtain ⟨ρ, P, E, h⟩ := h
  refine ⟨ρ, P, E, ?_⟩
  unfold seqI at h
  cases e : f ρ with
  | bad => rw [e] at h; exact h
  | ex c => rw [e] at h; exact h
  | ok fx =>
    rw [e] at h
    simp only [Res.ok_bind] at h
    intro x H1 ⟨s1, M, r1, f1⟩
    obtain ⟨fl, d⟩ := fx
    cases d with
    | lst ds =>
      have r0 := r1
      obtain ⟨a, vs, M', rfl, e1, z, r, rfl⟩ := r1
      exact ⟨a, rfl, .inl ⟨⟨vs, SqL.of e1⟩, h _ H1 _ [] s1 ⟨_, _, rfl, ⟨_, r0, f1⟩, rfl⟩ (fun p m => nomatch m) (itok_lst K a ds)⟩⟩
    | tup ds =>
      have r0 := r1
      obtain ⟨a, vs, rfl, e1, z, r⟩ := r1
      exact ⟨a, rfl, .inr ⟨⟨vs, SqT.of e1⟩, h _ H1 _ [] s1 ⟨_, _, rfl, ⟨_, r0, f1⟩, rfl⟩ (fun p m => nomatch m) (itok_tup K a ds)⟩⟩
    | _ => exact h.elim
theorem di_seq (ha : PE X a (RV C W f)) : PI X tg a (RI C W (seqI f)) := (pi_seq ha).imp fun _ _ _ => ri_seq
/-! range -/
def rngD (lo hi : Int) : List D := (List.range (hi - lo).toNat).map fun i => .int (lo + (i : Nat))
def rng1I (f : Env → Res FD) : Env → Res ID := fun ρ => (f ρ).bind fun x => match x.2 with
  | .int j => if (decide (-(2 ^ 62) ≤ j) && decide (j < 2 ^ 62)) = true then .ok ([], rngD 0 j) else .bad
  | _ => .bad
def rng2I (f g : Env → Res FD) : Env → Res ID := fun ρ => (f ρ).bind fun x => (g ρ).bind fun y => match x.2, y.2 with
  | .int i, .int j => if (decide (-(2 ^ 62) ≤ i) && decide (i < 2 ^ 62) && decide (-(2 ^ 62) ≤ j) && decide (j < 2 ^ 62)) = true then .ok ([], rngD i j) else .bad
  | _, _ => .bad
theorem itok_rng (lo hi : Int) : ItOk C (Itr lo (hi - lo).toNat) (rngD lo hi) [] := by
  intro i H _
  unfold rngD
  refine ⟨fun d e => ?_, fun hl => by rw [List.length_map, List.length_range] at hl; exact hl⟩
  rw [List.getElem?_map] at e
  obtain ⟨k, e1, rfl⟩ := Option.map_eq_some_iff.mp e
  obtain ⟨hk, e2⟩ := List.getElem?_eq_some_iff.mp e1
  have hki : k = i := by rw [← e2]; simp
  subst hki
  refine ⟨by rw [List.length_range] at hk; exact hk, fun x H' ⟨eH, q⟩ => ?_⟩
  subst eH
  subst q
  exact ⟨Same.refl _, [], ⟨rfl, rfl⟩, fun b m => nomatch m⟩
theorem ri_rng1 {σ : St} {H : Hp} {R : It → Hp → Prop} (h : RI C W (rng1I f) σ H R) : iRng1 (tCons (RV C W f) tNil) σ H R := by
  obtain ⟨ρ, P, E, h⟩ := h
  refine ⟨ρ, P, E, ?_⟩
  unfold rng1I at h
  cases e : f ρ with
  | bad => rw [e] at h; exact h
  | ex c => rw [e] at h; exact h
  | ok fx =>
    rw [e] at h
    simp only [Res.ok_bind] at h
    intro x H1 ⟨s1, M, r1, f1⟩
    obtain ⟨fl, d⟩ := fx
    cases d <;> first | exact h.elim | skip
    rename_i j
    dsimp only at h
    by_cases hj : (decide (-(2 ^ 62) ≤ j) && decide (j < 2 ^ 62)) = true
    · rw [if_pos hj] at h
      simp only [Bool.and_eq_true, decide_eq_true_eq] at hj
      refine ⟨j, by rw [r1.1], hj.1, hj.2, ?_⟩
      have q := h (Itr 0 j.toNat) H1 [] [] s1 rfl (fun p m => nomatch m) (by have := itok_rng (C := C) 0 j; rwa [Int.sub_zero] at this)
      exact q
    · rw [if_neg hj] at h; exact h.elim
theorem ri_rng2 {σ : St} {H : Hp} {R : It → Hp → Prop} (h : RI C W (rng2I f g) σ H R) : iRng2 (tCons (RV C W f) (tCons (RV C W g) tNil)) σ H R := by
  obtain ⟨ρ, P, E, h⟩ := h
  refine ⟨ρ, P, E, ?_⟩
  unfold rng2I at h
  cases e : f ρ with
  | bad => rw [e] at h; exact h
  | ex c => rw [e] at h; exact h
  | ok fx =>
    rw [e] at h
    simp only [Res.ok_bind] at h
    intro x H1 ⟨s1, M, r1, f1⟩
    refine ⟨ρ, P, E.same s1, ?_⟩
    cases e2 : g ρ with
    | bad => rw [e2] at h; exact h
    | ex c => rw [e2] at h; exact fun H' s' => h H' (s1.trans s')
    | ok fy =>
      rw [e2] at h
      simp only [Res.ok_bind] at h
      intro y H2 ⟨s2, N, r2, f2⟩
      obtain ⟨fl, d⟩ := fx
      obtain ⟨fl', d'⟩ := fy
      cases d <;> first | exact h.elim | skip
      cases d' <;> first | exact h.elim | skip
      rename_i i j
      dsimp only at h
      by_cases hj : (decide (-(2 ^ 62) ≤ i) && decide (i < 2 ^ 62) && decide (-(2 ^ 62) ≤ j) && decide (j < 2 ^ 62)) = true
      · rw [if_pos hj] at h
        simp only [Bool.and_eq_true, decide_eq_true_eq] at hj
        exact ⟨i, j, by rw [r1.1, r2.1], ⟨hj.1.1.1, hj.1.1.2, hj.1.2, hj.2⟩, h _ H2 [] [] (s1.trans s2) rfl (fun p m => nomatch m) (itok_rng i j)⟩
      · rw [if_neg hj] at h; exact h.elim
theorem di_rng1 (hg : Gl X "range") (hm : X.mg "range" = none) (ha : PE X a (RV C W f)) (hs : starEach [a] X.env = (false, eval a X.env) :: starEach [] X.env := by rfl) : PI X tg (.Call (.Name "range" p) [a] [] pos) (RI C W (rng1I f)) := (pi_range1 hg hm (pa_cons ha pa_nil hs) hs).imp fun _ _ _ => ri_rng1
theorem di_rng2 (hg : Gl X "range") (hm : X.mg "range" = none) (ha : PE X a (RV C W f)) (hb : PE X b (RV C W g)) (hs : starEach [a, b] X.env = (false, eval a X.env) :: starEach [b] X.env := by rfl) (hs2 : starEach [b] X.env = (false, eval b X.env) :: starEach [] X.env := by rfl) :
    PI X tg (.Call (.Name "range" p) [a, b] [] pos) (RI C W (rng2I f g)) := (pi_range2 hg hm (pa_cons ha (pa_cons hb pa_nil hs2) hs) (by rw [hs, hs2]; rfl) (by rw [hs2]; rfl)).imp fun _ _ _ => ri_rng2

/-! ### list comprehensions -/
def compL (t : Tg) (tt : Env → Res Bool) (te : Env → Res FD) (ρ : Env) : List D → Res (List D)
  | [] => .ok []
  | x :: xs => match asg .sh t x ρ with
    | none => .bad
    | some ρ1 => match tt ρ1 with
      | .ok true => match te ρ1 with
        | .ok y => if y.1 = .fr then (compL t tt te ρ xs).bind fun ys => .ok (y.2 :: ys) else .bad
        | _ => .bad
      | .ok false => compL t tt te ρ xs
      | _ => .bad
def seqLen : D → Nat
  | .lst ds => ds.length
  | .tup ds => ds.length
  | _ => 0
/-- as many as can be held -/
def szOk (it : ID) : Bool := decide (it.2.length ≤ sizeLine) || it.1.any fun x => decide (it.2.length ≤ seqLen x.2)
def compF (fi : Env → Res ID) (t : Tg) (tt : Env → Res Bool) (te : Env → Res FD) (own : List Nat) : Env → Res FD := fun ρ => (fi ρ).bind fun it => if szOk it = true then (compL t tt te (wipeE (fzE ρ) own) it.2).bind fun ds => .ok (.fr, .lst ds) else .bad
theorem seqLen_rep {C : Ctx} {H : Hp} {d : D} {v : V} {M : List Addr} (r : Rep C H d v M) : seqLen d ≤ sizeLine := by
  cases d with
  | lst ds => obtain ⟨_, _, _, _, _, z, _⟩ := r; exact z
  | tup ds => obtain ⟨_, _, _, _, z, _⟩ := r; exact z
  | _ => exact Nat.zero_le _
theorem PsOk.each {C : Ctx} {H H' : Hp} {σ : St} {ρ : Env} : ∀ {r : List FD} {Ps : List Pt}, PsOk C H σ ρ H' r Ps → ∀ x ∈ r, ∃ v M, Rep C H' x.2 v M
  | [], Ps, h => fun x m => nomatch m
  | fd :: r, Ps, h => by
    obtain ⟨v, Pr, rfl, ⟨M, rr, _⟩, h2⟩ := h
    intro x m
    rcases List.mem_cons.mp m with rfl | m
    · exact ⟨v, M, rr⟩
    · exact PsOk.each h2 x m
theorem szOk_le {C : Ctx} {H H' : Hp} {σ : St} {ρ : Env} {it : ID} {Ps : List Pt} (po : PsOk C H σ ρ H' it.1 Ps) (h : szOk it = true) : it.2.length ≤ sizeLine := by
  unfold szOk at h
  rw [Bool.or_eq_true, decide_eq_true_eq, List.any_eq_true] at h
  rcases h with h | ⟨x, mx, h⟩
  · exact h
  · obtain ⟨v, M, r⟩ := po.each x mx
    have := seqLen_rep r
    rw [decide_eq_true_eq] at h
    omega
theorem compL_nx {t : Tg} {tt : Env → Res Bool} {te : Env → Res FD} {ρ : Env} {c : Str} : ∀ xs, compL t tt te ρ xs ≠ .ex c
  | [] => fun e => by cases e
  | x :: xs => fun e => by
    unfold compL at e
    split at e
    · cases e
    · split at e
      · split at e
        · split at e
          · cases q : compL t tt te ρ xs with
            | ok ys => rw [q] at e; cases e
            | ex c' => exact compL_nx (c := c') xs q
            | bad => rw [q] at e; cases e
          · cases e
        · cases e
      · exact compL_nx xs e
      · cases e
theorem RepL.nodup_snoc {C : Ctx} {H : Hp} {ds : List D} {vs : List V} {d : D} {v : V} {M N : List Addr} (r : RepL C H ds vs M) (q : Rep C H d v N) : RepL C H (ds ++ [d]) (vs ++ [v]) (M ++ N) := r.append (RepL.one q)
def W0 : WX := fun _ _ _ _ => False
/-- the comprehension's reading -/
theorem rv_comp {fi : Env → Res ID} {t : Tg} {tt : Env → Res Bool} {te : Env → Res FD} {own : List Nat} {K : PySem.W.Frag} (ht : ∀ i ∈ t.ix, i ∈ own) {σ : St} {H : Hp} {Q : VK} (h : RV C W (compF fi t tt te own) σ H Q) :
    tLc (RI C W fi) (gOf K t) (RT C W0 tt) (RV C W0 te) own σ H Q := by
  obtain ⟨ρ, P, E, h⟩ := h
  refine ⟨ρ, P, E, ?_⟩
  unfold compF at h
  cases e : fi ρ with
  | bad => rw [e] at h; exact h
  | ex c => rw [e] at h; exact h
  | ok it =>
    rw [e] at h
    simp only [Res.ok_bind] at h
    intro J H1 Ps Ls s1 po lk ok D hD
    by_cases hz' : szOk it = true
    · rw [if_pos hz'] at h
      have hz := szOk_le po hz'
      cases ec : compL t tt te (wipeE (fzE ρ) own) it.2 with
      | bad => rw [ec] at h; exact h.elim
      | ex c => exact absurd ec (compL_nx _)
      | ok ds =>
        rw [ec] at h
        simp only [Res.ok_bind] at h
        have E1 := E.same s1
        refine ⟨fun i m Hc => m = it.2.length - i ∧ i ≤ it.2.length ∧ Same H1 Hc ∧ ∃ acc da M rest, Hc D = some (.lst acc) ∧ RepL C Hc da acc M ∧ M.Nodup ∧ (∀ a ∈ M, H1 a = none ∧ a ≠ D) ∧ (∀ a ∈ M, Mut (Hc a)) ∧ da.length ≤ i ∧
            compL t tt te (wipeE (fzE ρ) own) (it.2.drop i) = .ok rest ∧ da ++ rest = ds, ⟨it.2.length, rfl, Nat.zero_le _, upd_sameH hD, [], [], [], ds, upd_same, ⟨rfl, rfl⟩, List.nodup_nil, (fun a m => nomatch m), (fun a m => nomatch m), Nat.zero_le _, ec, rfl⟩, ?_⟩
        rintro i m Hc ⟨rfl, hi, sc, acc, da, M, rest, eD, rr, nd, nw, mu, hl, ecr, eds⟩
        have hPs : ∀ p ∈ Ps ++ Ls, ∃ N, PRep C Hc p N := fun p m => by
          rcases List.mem_append.mp m with m | m
          · obtain ⟨⟨N, q⟩, _⟩ := po.rep p m
            exact ⟨N, q.same sc⟩
          · obtain ⟨N, q⟩ := E1.prot p (lk p m).1
            exact ⟨N, q.same sc⟩
        obtain ⟨go, stop⟩ := ok i Hc hPs
        by_cases hlt : i < it.2.length
        · have ed : it.2.drop i = it.2[i] :: it.2.drop (i + 1) := List.drop_eq_getElem_cons hlt
          rw [ed] at ecr
          obtain ⟨g1, g2⟩ := go it.2[i] (List.getElem?_eq_getElem hlt)
          refine .inr ⟨g1, fun H' => ∃ m', m' < it.2.length - i ∧ (m' = it.2.length - (i + 1) ∧ i + 1 ≤ it.2.length ∧ Same H1 H' ∧ ∃ acc da M rest, H' D = some (.lst acc) ∧ RepL C H' da acc M ∧ M.Nodup ∧ (∀ a ∈ M, H1 a = none ∧ a ≠ D) ∧ (∀ a ∈ M, Mut (H' a)) ∧ da.length ≤ i + 1 ∧
            compL t tt te (wipeE (fzE ρ) own) (it.2.drop (i + 1)) = .ok rest ∧ da ++ rest = ds), fun H' q => q, fun x H2 y => ?_⟩
          obtain ⟨s2, Mx, rx, _⟩ := g2 x H2 y
          have s12 := sc.trans s2
          have Eb : EnvOk C P H2 (L2.wipe σ own) (wipeE (fzE ρ) own) := ((E1.same s12).frozen).wipe own
          unfold compL at ecr
          cases ea : asg .sh t it.2[i] (wipeE (fzE ρ) own) with
          | none => rw [ea] at ecr; cases ecr
          | some ρ1 =>
            rw [ea] at ecr
            dsimp only at ecr
            have nap : Apart C H2 (L2.wipe σ own) (wipeE (fzE ρ) own) Mx := fun j o d w N e ow _ _ => by
              have := fzE_own (wipeE_get e).1
              rw [this] at ow
              cases ow
            refine asg_ok K .sh t _ x Mx _ _ ρ1 _ ea Eb rx nap fun σ2 E2 l2 a2 k2 => ?_
            have ag : L2.wipe σ2 own = L2.wipe σ own := wipe_agree (by rw [l2, wipe_length]) fun j hj => a2 j fun hm => hj (ht j hm)
            refine ⟨ag, ρ1, P, E2, ?_⟩
            cases et : tt ρ1 with
            | bad => rw [et] at ecr; cases ecr
            | ex c => rw [et] at ecr; cases ecr
            | ok k =>
              rw [et] at ecr
              intro H3 s3
              have s13 := s12.trans s3
              have eD3 : H3 D = some (.lst acc) := s3 _ _ (s2 _ _ eD)
              have rr3 := rr.same (s2.trans s3)
              have mu3 : ∀ a ∈ M, Mut (H3 a) := fun a m => mut_same (s2.trans s3) (mu a m)
              cases k with
              | false =>
                simp only [Bool.false_eq_true, if_false]
                exact ⟨_, by omega, rfl, hlt, s13, acc, da, M, rest, eD3, rr3, nd, nw, mu3, by omega, ecr, eds⟩
              | true =>
                simp only [if_true]
                dsimp only at ecr
                refine ⟨ρ1, P, E2.same s3, ?_⟩
                cases ee : te ρ1 with
                | bad => rw [ee] at ecr; cases ecr
                | ex c => rw [ee] at ecr; cases ecr
                | ok yd =>
                  rw [ee] at ecr
                  dsimp only at ecr
                  by_cases hfr : yd.1 = .fr
                  · rw [if_pos hfr] at ecr
                    cases er : compL t tt te (wipeE (fzE ρ) own) (it.2.drop (i + 1)) with
                    | bad => rw [er] at ecr; cases ecr
                    | ex c => exact absurd er (compL_nx _)
                    | ok rest' =>
                      rw [er] at ecr
                      simp only [Res.ok_bind, Res.ok.injEq] at ecr
                      intro v H4 ⟨s4, N, rv, fv⟩
                      rw [hfr] at fv
                      obtain ⟨nd2, nw2, mu2⟩ := fv
                      have eD4 : H4 D = some (.lst acc) := s4 _ _ eD3
                      have hacc : acc.length < sizeLine := by rw [← rr.length]; omega
                      refine ⟨acc, eD4, hacc, _, by omega, rfl, hlt, ?_, acc ++ [v], da ++ [yd.2], M ++ N, rest', upd_same, ?_, ?_, ?_, ?_, ?_, rfl, ?_⟩
                      · intro b o eb
                        rw [upd_ne (ne_of_none eb hD)]
                        exact s4 _ _ (s13 _ _ eb)
                      · have kD : KeepOn (M ++ N) H4 (upd H4 D (.lst (acc ++ [v]))) := by
                          refine ⟨fun b o mb eb => ?_, fun b vs eb => ?_, fun b o vs eb => ?_⟩
                          · refine (upd_ne fun z => ?_).trans eb
                            subst z
                            rcases List.mem_append.mp mb with mb | mb
                            · exact (nw b mb).2 rfl
                            · have := nw2 b mb
                              rw [eD3] at this; cases this
                          · exact (upd_ne fun z => by subst z; rw [eD4] at eb; cases eb).trans eb
                          · exact (upd_ne fun z => by subst z; rw [eD4] at eb; cases eb).trans eb
                        exact ((rr3.same s4).append (RepL.one rv)).keep kD
                      · refine List.nodup_append.mpr ⟨nd, nd2, fun a ma b mb e => ?_⟩
                        subst e
                        obtain ⟨u, hu⟩ := rr3.dom a ma
                        rw [nw2 a mb] at hu; cases hu
                      · intro a ma
                        rcases List.mem_append.mp ma with ma | ma
                        · exact nw a ma
                        · refine ⟨s13.free (nw2 a ma), fun z => ?_⟩
                          subst z
                          rw [nw2 a ma] at eD3; cases eD3
                      · intro a ma
                        rcases List.mem_append.mp ma with ma | ma
                        · rw [upd_ne (nw a ma).2]
                          exact mut_same s4 (mu3 a ma)
                        · rw [upd_ne fun z => by subst z; have := nw2 a ma; rw [eD3] at this; cases this]
                          exact mu2 a ma
                      · rw [List.length_append, List.length_singleton]; omega
                      · rw [List.append_assoc, ← eds, ← ecr]
                        rfl
                  · rw [if_neg hfr] at ecr; cases ecr
        · have ei : i = it.2.length := by omega
          subst ei
          refine .inl ⟨stop (Nat.le_refl _), ?_⟩
          rw [List.drop_length] at ecr
          cases ecr
          rw [List.append_nil] at eds
          subst eds
          refine h _ _ ⟨s1.trans sc, D :: M, ⟨D, acc, M, rfl, eD, by omega, rr, rfl⟩, List.nodup_cons.mpr ⟨fun m => (nw D m).2 rfl, nd⟩, fun a m => ?_, fun a m => ?_⟩
          · rcases List.mem_cons.mp m with rfl | m
            · exact s1.free hD
            · exact s1.free (nw a m).1
          · rcases List.mem_cons.mp m with rfl | m
            · rw [eD]; trivial
            · exact mu a m
    · rw [if_neg hz'] at h; exact h.elim
end
end DL
/-! DL7: statements over trees; the contract of a def. -/
namespace DL
open PySem L2

/-- what is wanted behind a statement, over trees -/
structure EndsD where
  nx : Env → Prop
  rt : D → Env → Prop
  bk : Env → Prop := fun _ => False
  ct : Env → Prop := fun _ => False
  ex : Str → Env → Prop := fun _ _ => False
structure Imp (C : Ctx) (P : List Pt) (W : WX) (DD : EndsD) (D : Ends) : Prop where
  nx : ∀ σ H ρ, EnvOk C P H σ ρ → DD.nx ρ → D.nx σ H
  rt : ∀ σ H ρ d v M, EnvOk C P H σ ρ → Rep C H d v M → M.Nodup → (∀ a ∈ M, C.H0 a = none) → (∀ a ∈ M, Mut (H a)) → DD.rt d ρ → D.rt v H
  bk : ∀ σ H ρ, EnvOk C P H σ ρ → DD.bk ρ → D.bk σ H
  ct : ∀ σ H ρ, EnvOk C P H σ ρ → DD.ct ρ → D.ct σ H
  ex : ∀ σ H ρ c, EnvOk C P H σ ρ → DD.ex c ρ → W (.ref (C.cls c)) none σ H
abbrev TD := EndsD → Env → Prop
def RS (C : Ctx) (W : WX) (t : TD) : TS := fun D σ H => ∃ ρ P DD, EnvOk C P H σ ρ ∧ Imp C P W DD D ∧ t DD ρ

section
variable {C : Ctx} {X : Cx} {W : WX} {P : List Pt} {a b e : Expr} {f g : Env → Res FD} {ft : Env → Res Bool} {t u : TD} {st : Stmt} {sts rest : List Stmt} {pos pos' p : Pos}

/-! ### blocks -/
def dNext : TD := fun DD ρ => DD.nx ρ
def dSeq (t u : TD) : TD := fun DD ρ => t { DD with nx := fun ρ' => u DD ρ' } ρ
theorem rs_seq {D : Ends} {σ : St} {H : Hp} (h : RS C W (dSeq t u) D σ H) : tSeq (RS C W t) (RS C W u) D σ H := by
  obtain ⟨ρ, P, DD, E, I, h⟩ := h
  exact ⟨ρ, P, { DD with nx := fun ρ' => u DD ρ' }, E, ⟨fun σ H ρ' E' q => ⟨ρ', P, DD, E', I, q⟩, I.rt, I.bk, I.ct, I.ex⟩, h⟩
theorem rs_next {D : Ends} {σ : St} {H : Hp} (h : RS C W dNext D σ H) : tNext D σ H := by
  obtain ⟨ρ, P, DD, E, I, h⟩ := h
  exact I.nx σ H ρ E h
theorem ds_nil : PSs X [] (RS C W dNext) := pss_nil.imp fun _ _ _ => rs_next
theorem ds_cons (h1 : PS X st (RS C W t)) (h2 : PSs X rest (RS C W u)) : PSs X (st :: rest) (RS C W (dSeq t u)) := (pss_cons h1 h2).imp fun _ _ _ => rs_seq
theorem ds_one (h1 : PS X st (RS C W t)) : PSs X [st] (RS C W t) := pss_one h1
def dPass : TD := dNext
theorem ds_pass : PS X (.Pass pos) (RS C W dNext) := ps_pass.imp fun _ _ _ => rs_next
theorem ds_doc {x j} : PS X (.Expr (.Constant (.str x) j pos) pos') (RS C W dNext) := ps_doc.imp fun _ _ _ => rs_next
def dBreak : TD := fun DD ρ => DD.bk ρ
def dCont : TD := fun DD ρ => DD.ct ρ
theorem ds_break : PS X (.Break pos) (RS C W dBreak) := ps_break.imp fun _ _ _ ⟨_, _, _, E, I, h⟩ => I.bk _ _ _ E h
theorem ds_cont : PS X (.Continue pos) (RS C W dCont) := ps_continue.imp fun _ _ _ ⟨_, _, _, E, I, h⟩ => I.ct _ _ _ E h
def dNever : TD := fun _ _ => False
theorem ds_never : PS X st (RS C W dNever) := ⟨fun _ _ _ _ _ _ ⟨_, _, _, _, _, h⟩ => h.elim⟩
theorem dss_never : PSs X sts (RS C W dNever) := ⟨fun _ _ _ _ _ _ ⟨_, _, _, _, _, h⟩ => h.elim⟩

/-! ### an expression's value used -/
/-- the value is worked on by k -/
def dVal (f : Env → Res FD) (k : FD → EndsD → Env → Prop) : TD := fun DD ρ => match f ρ with
  | .ok x => k x DD ρ
  | .ex c => DD.ex c ρ
  | .bad => False
theorem rs_val {k : FD → EndsD → Env → Prop} {D : Ends} {σ : St} {H : Hp} {R : V → Hp → Prop} (h : RS C W (dVal f k) D σ H)
    (hk : ∀ ρ P DD x v H', EnvOk C P H σ ρ → Imp C P W DD D → k x DD ρ → VOk C H σ ρ H' x v → R v H') : RV C W f σ H R := by
  obtain ⟨ρ, P, DD, E, I, h⟩ := h
  refine ⟨ρ, P, E, ?_⟩
  unfold dVal at h
  cases e : f ρ with
  | bad => rw [e] at h; exact h
  | ex c => rw [e] at h; exact fun H' s => I.ex σ H' ρ c (E.same s) h
  | ok x => rw [e] at h; exact fun v H' vo => hk ρ P DD x v H' E I h vo
def dExpr (f : Env → Res FD) : TD := dVal f fun _ DD ρ => DD.nx ρ
theorem ds_expr (he : PE X e (RV C W f)) (hs : swapsWith e none pos.line X.env = pure false := by rfl) : PS X (.Expr e pos) (RS C W (dExpr f)) :=
  (ps_expr he hs).imp fun D σ H h => rs_val h fun ρ P DD x v H' E I k vo => I.nx σ H' ρ (E.same vo.1) k
/-- what may be handed back -/
def rtOk (x : FD) : Prop := x.1 = .fr ∨ x.1 = .mv
def dRet (f : Env → Res FD) : TD := dVal f fun x DD ρ => (x.1 = .fr ∨ x.1 = .mv) ∧ DD.rt x.2 ρ
theorem FlOk.ret {H H' : Hp} {σ : St} {ρ : Env} {fl : Fl} {M : List Addr} (E : EnvOk C P H σ ρ) (h : FlOk C H σ ρ H' fl M) (hf : fl = .fr ∨ fl = .mv) : M.Nodup ∧ (∀ a ∈ M, C.H0 a = none) ∧ ∀ a ∈ M, Mut (H' a) := by
  rcases hf with rfl | rfl
  · exact ⟨h.1, fun a m => E.keptd a (h.2.1 a m), h.2.2⟩
  · exact h
theorem ds_ret (he : PE X e (RV C W f)) : PS X (.Return (some e) pos) (RS C W (dRet f)) :=
  (ps_ret he).imp fun D σ H h => rs_val h fun ρ P DD x v H' E I k ⟨s, M, r, q⟩ => by
    obtain ⟨n, w, m⟩ := FlOk.ret E q k.1
    exact I.rt σ H' ρ x.2 v M (E.same s) r n w m k.2
def dRetN : TD := fun DD ρ => DD.rt .non ρ
theorem ds_retN : PS X (.Return none pos) (RS C W dRetN) := ps_retN.imp fun D σ H ⟨ρ, P, DD, E, I, h⟩ => I.rt σ H ρ .non .non [] E ⟨rfl, rfl⟩ List.nodup_nil (fun a m => nomatch m) (fun a m => nomatch m) h
/-- name = value -/
def ownOf : Fl → Ow
  | .fr => .loc
  | _ => .sh
def dSet (i : Nat) (f : Env → Res FD) : TD := dVal f fun x DD ρ => (x.1 = .fr ∨ x.1 = .sf) ∧ i < ρ.length ∧ DD.nx (ρ.set i (some (ownOf x.1, x.2)))
theorem assign_own {H H' : Hp} {σ : St} {ρ : Env} {fd : FD} {v : V} {i : Nat} (E : EnvOk C P H σ ρ) (vo : VOk C H σ ρ H' fd v) (hi : i < ρ.length) (hf : fd.1 = .fr ∨ fd.1 = .sf) : EnvOk C P H' (σ.set i (some v)) (ρ.set i (some (ownOf fd.1, fd.2))) := by
  have q := E.assign vo hi hf
  rcases hf with z | z <;> rw [z] at q ⊢ <;> exact q
theorem ds_set {i : Nat} {x : Str} (F : Fx R C X W) (hi : X.N[i]? = some x) (hx : Loc X.env.scope x) (he : PE X e (RV C W f)) (hs : swapsWith e (some (.Name x pos')) pos.line X.env = pure false := by rfl) (hf : X.fn x = true ∨ X.env.scope.names.lookup x = some .local := by first | exact .inl rfl | exact .inr rfl | assumption) :
    PS X (.Assign [.Name x pos'] e pos) (RS C W (dSet i f)) :=
  (ps_set F.nd hi hx he hs hf).imp fun D σ H h => rs_val h fun ρ P DD y v H' E I k vo => I.nx _ H' _ (assign_own E vo k.2.1 k.1) k.2.2
/-- a target of names = value -/
def dTgt (t : Tg) (f : Env → Res FD) : TD := dVal f fun x DD ρ => (x.1 = .fr ∨ x.1 = .sf) ∧ match asg (ownOf x.1) t x.2 ρ with
  | some ρ' => DD.nx ρ'
  | none => False
theorem cnd_of {H H' : Hp} {σ : St} {ρ : Env} {fl : Fl} {M : List Addr} (E : EnvOk C P H σ ρ) (s : Same H H') (q : FlOk C H σ ρ H' fl M) (hf : fl = .fr ∨ fl = .sf) : Cnd C P H' σ ρ (ownOf fl) M := by
  rcases hf with rfl | rfl
  · exact ⟨q.1, fun a m => ⟨q.2.2 a m, E.keptd a (q.2.1 a m)⟩, fun j o d w N e e1 r => E.newApart q.2.1 e e1 s r, E.newApartP q.2.1 s⟩
  · exact Apart.back E s q
theorem ds_tgt {tg : Expr} {t : Tg} (he : PE X e (RV C W f)) (hg : PG X tg (gOf X.K t)) (hs : swapsWithSole [tg] e pos.line X.env = pure false := by rfl) (hw : swappedStores [tg] e X.env = pure none := by rfl)
    (h1 : (assignEach [tg] X.env).map (·.2) = [assign tg X.env] := by rfl) : PS X (.Assign [tg] e pos) (RS C W (dTgt t f)) :=
  (ps_asg he hg hs hw h1).imp fun D σ H h => rs_val h fun ρ P DD x v H' E I k ⟨s, M, r, q⟩ => by
    obtain ⟨k1, k2⟩ := k
    cases ea : asg (ownOf x.1) t x.2 ρ with
    | none => rw [ea] at k2; exact k2.elim
    | some ρ' =>
      rw [ea] at k2
      exact asg_ok X.K (ownOf x.1) t x.2 v M σ ρ ρ' _ ea (E.same s) r (cnd_of E s q k1) fun σ' E' _ _ _ => I.nx σ' H' ρ' E' k2
theorem dg_name {i : Nat} {x : Str} (F : Fx R C X W) (hi : X.N[i]? = some x) (hx : Loc X.env.scope x) (hf : X.fn x = true ∨ X.env.scope.names.lookup x = some .local := by first | exact .inl rfl | exact .inr rfl | assumption) : PG X (.Name x pos) (gOf X.K (.nm i)) := pg_name F.nd hi hx hf
theorem dg_tup {es : List Expr} {k : Nat} {ts : List Tg} (F : Fx R C X W) (h : PGs X es (gOfL X.K ts)) (hn : (assignEach es X.env).length = ts.length := by rfl) (hst : (assignEach es X.env).findIdx? (·.1) = none := by rfl) : PG X (.Tuple es k pos) (gOf X.K (.tp ts)) := pg_tup F.calm h hn hst
theorem dgs_nil : PGs X [] (gOfL X.K []) := pgs_nil
theorem dgs_cons {e : Expr} {es : List Expr} {t : Tg} {ts : List Tg} (h1 : PG X e (gOf X.K t)) (h2 : PGs X es (gOfL X.K ts)) (hs : (assignEach (e :: es) X.env).map (·.2) = assign e X.env :: (assignEach es X.env).map (·.2) := by rfl) : PGs X (e :: es) (gOfL X.K (t :: ts)) := pgs_cons h1 h2 hs

/-! ### if, while, for -/
def dIf (c : Env → Res Bool) (t u : TD) : TD := fun DD ρ => match c ρ with
  | .ok k => if k = true then t DD ρ else u DD ρ
  | .ex c => DD.ex c ρ
  | .bad => False
theorem ds_if {ss us : List Stmt} {c : Expr} (hc : PT X c (RT C W ft)) (ha : PSs X ss (RS C W t)) (hb : PSs X us (RS C W u)) : PS X (.If c ss us pos) (RS C W (dIf ft t u)) :=
  (ps_if hc ha hb).imp fun D σ H ⟨ρ, P, DD, E, I, h⟩ => by
    refine ⟨ρ, P, E, ?_⟩
    unfold dIf at h
    cases e : ft ρ with
    | bad => rw [e] at h; exact h
    | ex c => rw [e] at h; exact fun H' s => I.ex σ H' ρ c (E.same s) h
    | ok k =>
      rw [e] at h
      intro H' s
      cases k with
      | true => simp only [if_true] at h ⊢; exact ⟨ρ, P, DD, E.same s, I, h⟩
      | false => simp only [Bool.false_eq_true, if_false] at h ⊢; exact ⟨ρ, P, DD, E.same s, I, h⟩
def dWhile (c : Env → Res Bool) (tb : TD) : TD := fun DD ρ => ∃ Wm : Nat → Env → Prop, (∃ m, Wm m ρ) ∧ ∀ m ρ, Wm m ρ → match c ρ with
  | .ok k => if k = true then tb { DD with nx := fun ρ' => ∃ m', m' < m ∧ Wm m' ρ', ct := fun ρ' => ∃ m', m' < m ∧ Wm m' ρ', bk := DD.nx } ρ else DD.nx ρ
  | .ex c => DD.ex c ρ
  | .bad => False
theorem ds_while {c : Expr} {body : List Stmt} {tb : TD} (F : Fx R C X W) (hc : PT X c (RT C W ft)) (hb : PSs X body (RS C W tb)) : PS X (.While c body [] pos) (RS C W (dWhile ft tb)) :=
  (ps_while F.ps hc hb).imp fun D σ H ⟨ρ, P, DD, E, I, Wm, ⟨m0, w0⟩, turn⟩ => by
    refine ⟨fun m σ H => ∃ ρ, EnvOk C P H σ ρ ∧ Wm m ρ, ⟨m0, ρ, E, w0⟩, fun m σ H ⟨ρ, E, w⟩ => ?_⟩
    have h := turn m ρ w
    refine ⟨ρ, P, E, ?_⟩
    cases e : ft ρ with
    | bad => rw [e] at h; exact h
    | ex c => rw [e] at h; exact fun H' s => I.ex σ H' ρ c (E.same s) h
    | ok k =>
      rw [e] at h
      intro H' s
      cases k with
      | true =>
        simp only [if_true] at h ⊢
        refine ⟨fun σ' H' => ∃ m', m' < m ∧ ∃ ρ, EnvOk C P H' σ' ρ ∧ Wm m' ρ, fun σ' H' q => q, ρ, P, { DD with nx := fun ρ' => ∃ m', m' < m ∧ Wm m' ρ', ct := fun ρ' => ∃ m', m' < m ∧ Wm m' ρ', bk := DD.nx }, E.same s, ⟨?_, I.rt, I.nx, ?_, I.ex⟩, h⟩
        · rintro σ' H' ρ' E' ⟨m', hm, w'⟩
          exact ⟨m', hm, ρ', E', w'⟩
        · rintro σ' H' ρ' E' ⟨m', hm, w'⟩
          exact ⟨m', hm, ρ', E', w'⟩
      | false => simp only [Bool.false_eq_true, if_false] at h ⊢; exact I.nx σ H' ρ (E.same s) h
/-- for: Wl by the turn -/
def dForW (wk : Env → Env) (fi : Env → Res ID) (t : Tg) (tb : TD) : TD := fun DD ρ => match fi ρ with
  | .ok it => (∀ fd ∈ it.1, fd.1 = .fr ∨ fd.1 = .sf) ∧ ∃ Wl : Nat → Env → Prop, Wl 0 (wk ρ) ∧ (∀ ρ, Wl it.2.length ρ → DD.nx ρ) ∧ ∀ i d ρ, it.2[i]? = some d → Wl i ρ → match asg .sh t d ρ with
    | some ρ' => tb { DD with nx := Wl (i + 1), ct := Wl (i + 1), bk := DD.nx } ρ'
    | none => False
  | .ex c => DD.ex c ρ
  | .bad => False
theorem Imp.pop {Ps : List Pt} {DD : EndsD} {D : Ends} (I : Imp C P W DD D) (h : ∀ p ∈ Ps, noLock p) : Imp C (Ps ++ P) W DD D :=
  ⟨fun σ H ρ E => I.nx σ H ρ (E.pop h), fun σ H ρ d v M E => I.rt σ H ρ d v M (E.pop h), fun σ H ρ E => I.bk σ H ρ (E.pop h), fun σ H ρ E => I.ct σ H ρ (E.pop h), fun σ H ρ c E => I.ex σ H ρ c (E.pop h)⟩
def dFor (fi : Env → Res ID) (t : Tg) (tb : TD) : TD := dForW id fi t tb
theorem ds_forW {wk : Env → Env} (hw : ∀ {C : Ctx} {P : List Pt} {H : Hp} {σ : St} {ρ : Env}, EnvOk C P H σ ρ → EnvOk C P H σ (wk ρ)) {tg iter : Expr} {body : List Stmt} {fi : Env → Res ID} {t : Tg} {tb : TD} (F : Fx R C X W) (hi : PI X tg iter (RI C W fi)) (hg : PG X tg (gOf X.K t)) (hb : PSs X body (RS C W tb)) (hs : ∀ x, foldedSetIterable iter X.env x = pure x := by exact fun _ => rfl) :
    PS X (.For tg iter body [] pos) (RS C W (dForW wk fi t tb)) :=
  (ps_for F.ps F.calm hi hg hb hs).imp fun D σ H ⟨ρ, P, DD, E, I, h⟩ => by
    refine ⟨ρ, P, E, ?_⟩
    unfold dForW at h
    cases e : fi ρ with
    | bad => rw [e] at h; exact h
    | ex c => rw [e] at h; exact fun H' s => I.ex σ H' ρ c (E.same s) h
    | ok it =>
      rw [e] at h
      obtain ⟨hfl, Wl, w0, wn, turn⟩ := h
      intro J H1 Ps Ls s1 po lk ok
      have E1 := hw ((E.same s1).push (po.apart E s1 hfl))
      have nl : ∀ p ∈ Ps, noLock p := fun p m => (po.rep p m).2
      have I1 := I.pop nl
      refine ⟨fun i m σ H => m = it.2.length - i ∧ i ≤ it.2.length ∧ ∃ ρ, EnvOk C (Ps ++ P) H σ ρ ∧ Wl i ρ, ⟨_, rfl, Nat.zero_le _, wk ρ, E1, w0⟩, ?_⟩
      rintro i m σ H ⟨rfl, hi, ρ, E, w⟩
      have into : ∀ p ∈ Ps ++ Ls, p ∈ Ps ++ P := fun p m => (List.mem_append.mp m).elim (fun m => List.mem_append_left _ m) fun m => List.mem_append_right _ (lk p m).1
      obtain ⟨go, stop⟩ := ok i H fun p m => E.prot p (into p m)
      by_cases hlt : i < it.2.length
      · obtain ⟨g1, g2⟩ := go it.2[i] (List.getElem?_eq_getElem hlt)
        have tn := turn i it.2[i] ρ (List.getElem?_eq_getElem hlt) w
        refine .inr ⟨g1, fun σ' H' => ∃ m', m' < it.2.length - i ∧ m' = it.2.length - (i + 1) ∧ i + 1 ≤ it.2.length ∧ ∃ ρ, EnvOk C (Ps ++ P) H' σ' ρ ∧ Wl (i + 1) ρ, fun σ' H' q => q, fun x H2 y => ?_⟩
        obtain ⟨s2, Mx, rx, sub⟩ := g2 x H2 y
        cases ea : asg .sh t it.2[i] ρ with
        | none => rw [ea] at tn; exact tn.elim
        | some ρ' =>
          rw [ea] at tn
          have ap : Apart C H2 σ ρ Mx := fun j o d w N ej ow ew rj b mb nb => by
            obtain ⟨pp, hp, N', rp, nb'⟩ := sub b mb
            obtain ⟨w', N2, e2, r2, own2, _⟩ := E.at_ j o d ej
            rw [ew] at e2; cases e2
            rw [(r2.same s2).uniq rj] at own2
            exact (own2 ow).2.2.2 pp (into pp hp) N' rp b nb nb'
          refine asg_ok X.K .sh t _ x Mx σ ρ ρ' _ ea (E.same s2) rx ap fun σ' E' _ _ _ => ?_
          refine ⟨ρ', Ps ++ P, { DD with nx := Wl (i + 1), ct := Wl (i + 1), bk := DD.nx }, E', ⟨?_, I1.rt, I1.nx, ?_, I1.ex⟩, tn⟩
          · intro σ'' H'' ρ'' E'' w''
            exact ⟨_, by omega, rfl, hlt, ρ'', E'', w''⟩
          · intro σ'' H'' ρ'' E'' w''
            exact ⟨_, by omega, rfl, hlt, ρ'', E'', w''⟩
      · have ei : i = it.2.length := by omega
        subst ei
        exact .inl ⟨stop (Nat.le_refl _), I1.nx σ H ρ E (wn ρ w)⟩
theorem ds_for {tg iter : Expr} {body : List Stmt} {fi : Env → Res ID} {t : Tg} {tb : TD} (F : Fx R C X W) (hi : PI X tg iter (RI C W fi)) (hg : PG X tg (gOf X.K t)) (hb : PSs X body (RS C W tb)) (hs : ∀ x, foldedSetIterable iter X.env x = pure x := by exact fun _ => rfl) :
    PS X (.For tg iter body [] pos) (RS C W (dFor fi t tb)) := ds_forW (wk := id) (fun E => E) F hi hg hb hs

/-! ### a slot's list, dict changed -/
/-- the object of an own slot is changed -/
theorem EnvOk.mutate {H0 H H' : Hp} {σ : St} {ρ : Env} {i : Nat} {o : Ow} {d d' : D} {v : V} {M M' : List Addr} (E : EnvOk C P H0 σ ρ) (s : Same H0 H) (ei : ρ[i]? = some (some (o, d))) (ow : o.own = true) (ev : σ[i]? = some (some v)) (r : Rep C H d v M)
    (r' : Rep C H' d' v M') (k : ∀ a u, a ∉ M → H a = some u → H' a = some u) (kd : ∀ a ∈ M, H' a ≠ none) (nd : M'.Nodup) (mu : ∀ a ∈ M', Mut (H' a)) (sub : ∀ a ∈ M', a ∈ M ∨ H0 a = none) : EnvOk C P H' σ (ρ.set i (some (o, d'))) := by
  have E1 := E.same s
  have hi : i < ρ.length := (List.getElem?_eq_some_iff.mp ei).1
  obtain ⟨w, M1, e1, r1, own1, lo1, io1⟩ := E1.at_ i o d ei
  rw [ev] at e1; cases e1
  rw [r1.uniq r] at own1 lo1 io1
  obtain ⟨q1, q2, q3, q4⟩ := own1 ow
  have ko : ∀ N : List Addr, (∀ a ∈ M, a ∉ N) → KeepOn N H H' := fun N dj => ⟨fun a u m e => k a u (fun z => dj a z m) e,
    fun a vs e => k a _ (fun z => by have := q2 a z; rw [e] at this; exact this) e, fun a ob vs e => k a _ (fun z => by have := q2 a z; rw [e] at this; exact this) e⟩
  have back : ∀ {d : D} {w : V} {N N0 : List Addr}, Rep C H d w N0 → (∀ a ∈ M, a ∉ N0) → Rep C H' d w N → N = N0 := fun h dj h' => h'.uniq (h.keep (ko _ dj))
  have fresh : ∀ {d : D} {w : V} {N : List Addr} {j : Nat} {oj : Ow}, ρ[j]? = some (some (oj, d)) → σ[j]? = some (some w) → Rep C H d w N → j ≠ i → ∀ a ∈ M', a ∉ N := fun {d w N j oj} ej sj rj hj a ma na => by
    rcases sub a ma with m | m
    · exact q3 j oj d w N hj ej sj rj a m na
    · exact E.newApart (M := [a]) (fun b hb => by rw [List.mem_singleton.mp hb]; exact m) ej sj s rj a (List.mem_singleton.mpr rfl) na
  refine ⟨by simpa using E.len, fun j oj dj e => ?_, fun p hp => ?_, fun a u e n => ?_, fun a e => ?_⟩
  · rcases set_get e with ⟨rfl, e, _⟩ | ⟨hj, ej⟩
    · cases e
      refine ⟨v, M', ev, r', fun hw => ⟨nd, mu, fun l o' dl w N hl el sl rl => ?_, fun p hp N rp => ?_⟩, fun z a ma => ?_, fun z => ⟨fun a ma => ?_, (io1.1 z).2⟩, io1.2⟩
      · rw [List.getElem?_set_ne (Ne.symm hl)] at el
        obtain ⟨w', N0, e', r0, _⟩ := E1.at_ l o' dl el
        rw [sl] at e'; cases e'
        rw [back r0 (q3 l o' dl w N0 hl el sl r0) rl]
        exact fresh el sl r0 hl
      · obtain ⟨N0, r0⟩ := E1.prot p hp
        have dj := q4 p hp N0 r0
        have eN : N = N0 := by
          cases p with
          | inl p => exact back r0 dj rp
          | inr q => exact rp.2.trans r0.2.symm
        rw [eN]
        intro a ma na
        rcases sub a ma with m | m
        · exact dj a m na
        · exact E.newApartP (M := [a]) (fun b hb => by rw [List.mem_singleton.mp hb]; exact m) s p hp N0 r0 a (List.mem_singleton.mpr rfl) na
      · rcases sub a ma with m | m
        · exact lo1 z a m
        · exact E.keptd a m
      · rcases sub a ma with m | m
        · exact (io1.1 z).1 a m
        · exact .inr (E.keptd a m)
    · obtain ⟨w, N0, e1, r0, own0, lo0, io0⟩ := E1.at_ j oj dj ej
      have dj := q3 j oj dj w N0 hj ej e1 r0
      refine ⟨w, N0, e1, r0.keep (ko _ dj), fun hw => ?_, lo0, io0⟩
      obtain ⟨p1, p2, p3, p4⟩ := own0 hw
      refine ⟨p1, fun a ma => ?_, fun l o' dl w' N hl el sl rl => ?_, fun p hp N rp => ?_⟩
      · obtain ⟨u, hu⟩ := r0.dom a ma
        rw [k a u (fun z => dj a z ma) hu, ← hu]
        exact p2 a ma
      · rcases set_get el with ⟨rfl, el, _⟩ | ⟨hli, el⟩
        · cases el
          rw [ev] at sl; cases sl
          rw [rl.uniq r']
          exact fun a ma na => fresh ej e1 r0 hj a na ma
        · obtain ⟨w2, N2, e2, r2, _⟩ := E1.at_ l o' dl el
          rw [sl] at e2; cases e2
          rw [back r2 (q3 l o' dl w' N2 hli el sl r2) rl]
          exact p3 l o' dl w' N2 hl el sl r2
      · obtain ⟨N2, r2⟩ := E1.prot p hp
        have eN : N = N2 := by
          cases p with
          | inl p => exact back r2 (q4 _ hp N2 r2) rp
          | inr q => exact rp.2.trans r2.2.symm
        rw [eN]
        exact p4 p hp N2 r2
  · obtain ⟨N0, r0⟩ := E1.prot p hp
    have dj := q4 p hp N0 r0
    cases p with
    | inl p => exact ⟨N0, Rep.keep r0 (ko _ dj)⟩
    | inr q => exact ⟨N0, k _ _ (fun z => by have := q2 _ z; rw [r0.1] at this; exact this) r0.1, r0.2⟩
  · rcases E1.kept a u e n with q | q
    · refine .inl (k a u (fun z => ?_) q)
      cases o with
      | sh => cases ow
      | loc => have := lo1 rfl a z; rw [e] at this; cases this
      | lk => cases ow
      | io =>
        rcases (io1.1 rfl).1 a z with m | m
        · exact n m
        · rw [e] at m; cases m
    · exact .inr q
  · refine E1.keptd a ?_
    cases q : H a with
    | none => rfl
    | some u =>
      by_cases z : a ∈ M
      · exact absurd e (kd a z)
      · rw [k a u z q] at e; cases e
end
end DL
/-! DL8: append, extend, d[k] = v; comprehensions; contracts, calls, raise. -/
namespace DL
open PySem L2

section
variable {R : Nat} {C : Ctx} {X : Cx} {W : WX} {P : List Pt} {a b e : Expr} {f g : Env → Res FD} {pos pos' p apos cpos : Pos}

/-- work on an own slot's list -/
def dMutL (i : Nat) (f : Env → Res FD) (k : List D → FD → Option (List D)) : TD := fun DD ρ => match ρ[i]? with
  | some (some (o, .lst ds)) => o.own = true ∧ match f ρ with
    | .ok x => match k ds x with
      | some ds' => DD.nx (ρ.set i (some (o, .lst ds')))
      | none => False
    | .ex c => DD.ex c ρ
    | .bad => False
  | _ => False
/-- x.append(e) -/
def appK (ds : List D) (x : FD) : Option (List D) := if x.1 = .fr ∧ ds.length < sizeLine then some (ds ++ [x.2]) else none
def dApp (i : Nat) (f : Env → Res FD) : TD := dMutL i f appK
/-- x.extend(e) -/
def extK (ds : List D) (x : FD) : Option (List D) := match x.2 with
  | .lst es => if (x.1 = .fr ∨ immL es = true) ∧ ds.length + es.length ≤ sizeLine then some (ds ++ es) else none
  | _ => none
def dExt (i : Nat) (f : Env → Res FD) : TD := dMutL i f extK
theorem list_upd {H2 : Hp} {l : Addr} {ds es : List D} {vs ws : List V} {M N : List Addr} (eL : H2 l = some (.lst vs)) (r : RepL C H2 ds vs M) (q : RepL C H2 es ws N) (lM : l ∉ M) (lN : l ∉ N) (hz : (ds ++ es).length ≤ sizeLine) :
    Rep C (upd H2 l (.lst (vs ++ ws))) (.lst (ds ++ es)) (.ref l) (l :: (M ++ N)) := by
  refine ⟨l, vs ++ ws, M ++ N, rfl, upd_same, hz, (r.append q).keep ⟨fun b o m eb => (upd_ne fun z => ?_).trans eb, fun b vs' eb => (upd_ne fun z => ?_).trans eb, fun b o vs' eb => (upd_ne fun z => ?_).trans eb⟩, rfl⟩
  · subst z
    exact (List.mem_append.mp m).elim lM lN
  · subst z; rw [eL] at eb; cases eb
  · subst z; rw [eL] at eb; cases eb
/-- the state behind x.append, x.extend -/
theorem app_env {H H2 : Hp} {σ : St} {ρ : Env} {i : Nat} {o : Ow} {ds es : List D} {l : Addr} {vs ws : List V} {M' N : List Addr} (E : EnvOk C P H σ ρ) (s : Same H H2) (ei : ρ[i]? = some (some (o, .lst ds))) (ow : o.own = true) (ev : σ[i]? = some (some (.ref l)))
    (eL : H l = some (.lst vs)) (z : ds.length ≤ sizeLine) (r : RepL C H ds vs M') (q : RepL C H2 es ws N) (nd : N.Nodup) (nw : ∀ a ∈ N, H a = none) (mu : ∀ a ∈ N, Mut (H2 a)) (hz : (ds ++ es).length ≤ sizeLine) :
    EnvOk C P (upd H2 l (.lst (vs ++ ws))) σ (ρ.set i (some (o, .lst (ds ++ es)))) := by
  have rH : Rep C H (.lst ds) (.ref l) (l :: M') := ⟨l, vs, M', rfl, eL, z, r, rfl⟩
  have rr : Rep C H2 (.lst ds) (.ref l) (l :: M') := rH.same s
  obtain ⟨w, M1, e1, r1, own1, _⟩ := E.at_ i o _ ei
  rw [ev] at e1; cases e1
  rw [r1.uniq rH] at own1
  obtain ⟨q1, q2, _⟩ := own1 ow
  obtain ⟨l1, l2⟩ := List.nodup_cons.mp q1
  have lN : l ∉ N := fun m => by have := nw l m; rw [eL] at this; cases this
  refine E.mutate s ei ow ev rr (list_upd (s _ _ eL) (r.same s) q l1 lN hz) (fun a u na e => (upd_ne fun z => na (by rw [z]; exact List.mem_cons_self)).trans e) (fun a m => ?_) (List.nodup_cons.mpr ⟨fun m => (List.mem_append.mp m).elim l1 lN, List.nodup_append.mpr ⟨l2, nd, fun a ma b mb e => ?_⟩⟩) (fun a m => ?_) fun a m => ?_
  · by_cases h : a = l
    · rw [h, upd_same]; exact fun z => by cases z
    · rw [upd_ne h]
      obtain ⟨u, hu⟩ := rr.dom a m
      rw [hu]; exact fun z => by cases z
  · subst e
    obtain ⟨u, hu⟩ := r.dom a ma
    rw [nw a mb] at hu; cases hu
  · rcases List.mem_cons.mp m with rfl | m'
    · rw [upd_same]; trivial
    · have m2 := List.mem_append.mp m'
      rw [upd_ne fun z => by subst z; exact m2.elim l1 lN]
      rcases m2 with m | m
      · exact mut_same s (q2 a (List.mem_cons_of_mem _ m))
      · exact mu a m
  · rcases List.mem_cons.mp m with rfl | m
    · exact .inl List.mem_cons_self
    · rcases List.mem_append.mp m with m | m
      · exact .inl (List.mem_cons_of_mem _ m)
      · exact .inr (nw a m)
/-- a slot's list, ahead of its method -/
theorem slot_list {i : Nat} {k : List D → FD → Option (List D)} {D' : Ends} {σ : St} {H : Hp} {Rr : V → List V → Hp → VK → Prop} (h : RS C W (dMutL i f k) D' σ H)
    (go : ∀ ρ P DD o ds x ds' l vs M' v H2, EnvOk C P H σ ρ → Imp C P W DD D' → ρ[i]? = some (some (o, .lst ds)) → o.own = true → σ[i]? = some (some (.ref l)) → H l = some (.lst vs) → ds.length ≤ sizeLine → RepL C H ds vs M' → k ds x = some ds' →
      DD.nx (ρ.set i (some (o, .lst ds'))) → VOk C H σ ρ H2 x v → Rr (.ref l) [v] H2 fun _ H1 => D'.nx σ H1) : tDrop (tBM X.K "list" Rr (tVar i) (tCons (RV C W f) tNil)) D' σ H := by
  obtain ⟨ρ, P, DD, E, I, h⟩ := h
  unfold dMutL at h
  split at h
  · rename_i o ds ei
    obtain ⟨ow, h⟩ := h
    obtain ⟨v, M, e1, r, own, _⟩ := E.at_ i o _ ei
    obtain ⟨l, vs, M', rfl, eL, z, rl, rfl⟩ := r
    refine ⟨_, e1, .inl ⟨rfl, _, SqL.of eL⟩, ρ, P, E, ?_⟩
    cases ef : f ρ with
    | bad => rw [ef] at h; exact h
    | ex c => rw [ef] at h; exact fun H' s => I.ex σ H' ρ c (E.same s) h
    | ok x =>
      rw [ef] at h
      dsimp only at h
      cases ek : k ds x with
      | none => rw [ek] at h; exact h.elim
      | some ds' =>
        rw [ek] at h
        exact fun v H2 vo => go ρ P DD o ds x ds' l vs M' v H2 E I ei ow e1 eL z rl ek h vo
  · exact h.elim
theorem rs_app {i : Nat} {D : Ends} {σ : St} {H : Hp} (h : RS C W (dApp i f) D σ H) : tDrop (tBM X.K "list" rAppend (tVar i) (tCons (RV C W f) tNil)) D σ H :=
  slot_list h fun ρ P DD o ds x ds' l vs M' v H2 E I ei ow e1 eL z rl ek hn ⟨s, N, rv, q⟩ => by
    unfold appK at ek
    split at ek
    · rename_i hc
      cases ek
      rw [hc.1] at q
      refine ⟨l, vs, v, rfl, rfl, s _ _ eL, by rw [← rl.length]; exact hc.2, I.nx _ _ _ (app_env E s ei ow e1 eL z rl (RepL.one rv) q.1 q.2.1 q.2.2 ?_) hn⟩
      rw [List.length_append, List.length_singleton]; exact hc.2
    · cases ek
theorem ds_app (i : Nat) {x : Str} (F : Fx R C X W) (he : PE X e (RV C W f)) (hN : X.N[i]? = some x := by rfl) (hv : Vis X.env.scope x := by first | exact Or.inl rfl | exact Or.inr (Or.inl rfl) | exact Or.inr (Or.inr rfl)) (hd : (x == ("__debug__" : Str)) = false := by decide)
    (hcd : (x == ("__classdict__" : Str)) = false := by decide) (hbase : attributeBase (.Name x p) "append" X.env (eval (.Name x p) X.env) = eval (.Name x p) X.env := by rfl)
    (hfew : ((backTo cpos (starEach [e] X.env)).all (fun x => !x.1) && (backToKw cpos (keywordEach [] X.env)).all (fun x => x.1.isSome)
      && decide ([e].length + ([] : List Keyword).length + (if ([] : List Keyword).isEmpty then 0 else 1) < 30)) = true := by rfl)
    (hline : (apos.endLine == cpos.line) = true := by rfl) (hs : starEach [e] X.env = (false, eval e X.env) :: starEach [] X.env := by rfl) (hplain : (backTo cpos (starEach [] X.env)).any (·.1) = false := by rfl) (hsw : swapsWith (.Call (.Attribute (.Name x p) "append" apos) [e] [] cpos) none pos.line X.env = pure false := by rfl) :
    PS X (.Expr (.Call (.Attribute (.Name x p) "append" apos) [e] [] cpos) pos) (RS C W (dApp i f)) :=
  (ps_expr (pe_bm PySem.F.plainAttrs_list PySem.F.slot_list_append PySem.F.type_list_append mt_append (pv i hN hv hd hcd) (pa_cons he pa_nil hs) hbase hfew hline hs hplain) hsw).imp fun _ _ _ => rs_app
theorem rs_ext {i : Nat} {D : Ends} {σ : St} {H : Hp} (h : RS C W (dExt i f) D σ H) : tDrop (tBM X.K "list" rExtend (tVar i) (tCons (RV C W f) tNil)) D σ H :=
  slot_list h fun ρ P DD o ds x ds' l vs M' v H2 E I ei ow e1 eL z rl ek hn ⟨s, N, rv, q⟩ => by
    unfold extK at ek
    obtain ⟨fl, d⟩ := x
    cases d <;> first | (cases ek; done) | skip
    rename_i es
    dsimp only at ek
    split at ek
    · rename_i hc
      cases ek
      obtain ⟨b, ws, N', rfl, eb, zb, rb, rfl⟩ := rv
      have hq : N'.Nodup ∧ (∀ a ∈ N', H a = none) ∧ ∀ a ∈ N', Mut (H2 a) := by
        rcases hc.1 with rfl | hi
        · exact ⟨(List.nodup_cons.mp q.1).2, fun a m => q.2.1 a (List.mem_cons_of_mem _ m), fun a m => q.2.2 a (List.mem_cons_of_mem _ m)⟩
        · rw [rb.imm hi]
          exact ⟨List.nodup_nil, (fun a m => nomatch m), (fun a m => nomatch m)⟩
      exact ⟨l, b, vs, ws, rfl, rfl, s _ _ eL, eb, by rw [← rl.length, ← rb.length]; exact hc.2, I.nx _ _ _ (app_env E s ei ow e1 eL z rl rb hq.1 hq.2.1 hq.2.2 (by rw [List.length_append]; exact hc.2)) hn⟩
    · cases ek
theorem ds_ext (i : Nat) {x : Str} (F : Fx R C X W) (he : PE X e (RV C W f)) (hN : X.N[i]? = some x := by rfl) (hv : Vis X.env.scope x := by first | exact Or.inl rfl | exact Or.inr (Or.inl rfl) | exact Or.inr (Or.inr rfl)) (hd : (x == ("__debug__" : Str)) = false := by decide)
    (hcd : (x == ("__classdict__" : Str)) = false := by decide) (hbase : attributeBase (.Name x p) "extend" X.env (eval (.Name x p) X.env) = eval (.Name x p) X.env := by rfl)
    (hfew : ((backTo cpos (starEach [e] X.env)).all (fun x => !x.1) && (backToKw cpos (keywordEach [] X.env)).all (fun x => x.1.isSome)
      && decide ([e].length + ([] : List Keyword).length + (if ([] : List Keyword).isEmpty then 0 else 1) < 30)) = true := by rfl)
    (hline : (apos.endLine == cpos.line) = true := by rfl) (hs : starEach [e] X.env = (false, eval e X.env) :: starEach [] X.env := by rfl) (hplain : (backTo cpos (starEach [] X.env)).any (·.1) = false := by rfl) (hsw : swapsWith (.Call (.Attribute (.Name x p) "extend" apos) [e] [] cpos) none pos.line X.env = pure false := by rfl) :
    PS X (.Expr (.Call (.Attribute (.Name x p) "extend" apos) [e] [] cpos) pos) (RS C W (dExt i f)) :=
  (ps_expr (pe_bm PySem.F.plainAttrs_list PySem.F.slot_list_extend PySem.F.type_list_extend mt_extend (pv i hN hv hd hcd) (pa_cons he pa_nil hs) hbase hfew hline hs hplain) hsw).imp fun _ _ _ => rs_ext

/-! ### d[k] = v -/
def replL {κ : Type} [DecidableEq κ] (k : κ) (d : D) : List κ → List D → List D
  | k' :: ks, x :: ds => (if k' = k then d else x) :: replL k d ks ds
  | _, ds => ds
/-- an entry put: in its place, or at the end -/
def putD {κ : Type} [DecidableEq κ] (ks : List κ) (ds : List D) (k : κ) (d : D) : List κ × List D := if k ∈ ks then (ks, replL k d ks ds) else (ks ++ [k], ds ++ [d])
theorem any_mem {κ : Type} [DecidableEq κ] (kvs : List (κ × V)) (k : κ) : ((kvs.any fun kv => decide (kv.1 = k)) = true) ↔ k ∈ kvs.map (·.1) := by
  simp [List.any_eq_true]
theorem repl_rep {κ : Type} [DecidableEq κ] {H : Hp} {k : κ} {d : D} {v : V} (rv : Rep C H d v []) : ∀ {kvs : List (κ × V)} {ds : List D} {M : List Addr}, RepL C H ds (kvs.map (·.2)) M → ∃ M', RepL C H (replL k d (kvs.map (·.1)) ds) ((kvs.map fun kv => if kv.1 = k then (kv.1, v) else kv).map (·.2)) M' ∧ M'.Sublist M
  | [], ds, M, r => by
    cases ds with
    | nil => exact ⟨M, r, List.Sublist.refl _⟩
    | cons x ds => obtain ⟨_, _, _, _, e, _⟩ := r; cases e
  | q :: kvs, [], M, r => by have := r.1; cases this
  | q :: kvs, x :: ds, M, r => by
    obtain ⟨w, ws, M1, M2, e, r1, r2, rfl⟩ := r
    cases e
    obtain ⟨M', r', s⟩ := repl_rep (k := k) rv r2
    by_cases h : q.1 = k
    · refine ⟨M', ⟨v, _, [], M', ?_, ?_, r', rfl⟩, s.trans (List.sublist_append_right _ _)⟩
      · simp only [List.map_cons, if_pos h]
      · show Rep C H (if q.1 = k then d else x) v []
        rw [if_pos h]; exact rv
    · refine ⟨M1 ++ M', ⟨q.2, _, M1, M', ?_, ?_, r', rfl⟩, List.Sublist.append (List.Sublist.refl _) s⟩
      · simp only [List.map_cons, if_neg h]
      · show Rep C H (if q.1 = k then d else x) q.2 M1
        rw [if_neg h]; exact r1
theorem repl_keys {κ : Type} [DecidableEq κ] (k : κ) (v : V) : ∀ kvs : List (κ × V), (kvs.map fun kv => if kv.1 = k then (kv.1, v) else kv).map (·.1) = kvs.map (·.1)
  | [] => rfl
  | q :: kvs => by
    rw [List.map_cons, List.map_cons, List.map_cons, repl_keys k v kvs]
    by_cases h : q.1 = k
    · rw [if_pos h]
    · rw [if_neg h]
theorem repl_len {κ : Type} [DecidableEq κ] (k : κ) (d : D) : ∀ (ks : List κ) (ds : List D), (replL k d ks ds).length = ds.length
  | [], ds => by cases ds <;> rfl
  | _ :: _, [] => rfl
  | k' :: ks, x :: ds => by unfold replL; rw [List.length_cons, List.length_cons, repl_len k d ks ds]
/-- a dict's entries behind a put: the same or fewer nodes, and the new value's -/
theorem put_rep {κ : Type} [DecidableEq κ] {H : Hp} {k : κ} {d : D} {v : V} {kvs : List (κ × V)} {ds : List D} {M N : List Addr} (r : RepL C H ds (kvs.map (·.2)) M) (rv : Rep C H d v N) (hk : k ∉ kvs.map (·.1) ∨ N = []) :
    (putD (kvs.map (·.1)) ds k d).1 = (putK kvs k v).map (·.1) ∧ ∃ M', RepL C H (putD (kvs.map (·.1)) ds k d).2 ((putK kvs k v).map (·.2)) M' ∧ M'.Sublist (M ++ N) := by
  unfold putD putK
  by_cases h : k ∈ kvs.map (·.1)
  · rw [if_pos h, if_pos ((any_mem kvs k).mpr h)]
    rcases hk with hk | rfl
    · exact absurd h hk
    · obtain ⟨M', r', s⟩ := repl_rep (k := k) rv r
      exact ⟨(repl_keys k v kvs).symm, M', r', s.trans (List.sublist_append_left _ _)⟩
  · rw [if_neg h, if_neg fun z => h ((any_mem kvs k).mp z)]
    refine ⟨by simp, M ++ N, ?_, List.Sublist.refl _⟩
    rw [List.map_append]
    exact r.append (RepL.one rv)
theorem put_len {κ : Type} [DecidableEq κ] {ks : List κ} {ds : List D} {k : κ} {d : D} : (putD ks ds k d).2.length ≤ ds.length + 1 := by
  unfold putD
  by_cases h : k ∈ ks
  · rw [if_pos h, repl_len]; omega
  · rw [if_neg h, List.length_append, List.length_singleton]; exact Nat.le_refl _
/-- what the dict is behind d[k] = v -/
def notIn {κ : Type} [DecidableEq κ] (q : κ) (ks : List κ) : Bool := decide (q ∉ ks)
def putF (d k : D) (x : FD) : Option D := match d with
  | .dK ks ds => match keyOf k with
    | some q => if ((x.1 = .fr ∧ notIn q ks = true) ∨ imm x.2 = true) ∧ ds.length < sizeLine then some (.dK (putD ks ds q x.2).1 (putD ks ds q x.2).2) else none
    | none => none
  | .dT ks ds => match k with
    | .tup es => match keysOf es with
      | some q => if ((x.1 = .fr ∧ notIn q ks = true) ∨ imm x.2 = true) ∧ ds.length < sizeLine then some (.dT (putD ks ds q x.2).1 (putD ks ds q x.2).2) else none
      | none => none
    | _ => none
  | _ => none
/-- slot[k] = v: v first, then k -/
def dPut (i : Nat) (fk fv : Env → Res FD) : TD := fun DD ρ => match fv ρ with
  | .ok x => match ρ[i]? with
    | some (some (o, d)) => o.own = true ∧ match fk ρ with
      | .ok k => match putF d k.2 x with
        | some d' => DD.nx (ρ.set i (some (o, d')))
        | none => False
      | .ex c => DD.ex c ρ
      | .bad => False
    | _ => False
  | .ex c => DD.ex c ρ
  | .bad => False
theorem mut_rd {H : Hp} {a : Addr} {u : HO} (m : Mut (H a)) (r : Rd H a u) : H a = some u := by
  rcases r with r | ⟨o, r⟩
  · exact r
  · rw [r] at m; exact m.elim
theorem upd_keep {H : Hp} {l : Addr} {u u' : HO} {M : List Addr} (el : H l = some u) (nt : ∀ vs, u ≠ .tup vs) (nf : ∀ o v, u ≠ .frz o v) (hl : l ∉ M) : KeepOn M H (upd H l u') :=
  ⟨fun b o m eb => (upd_ne fun z => by subst z; exact hl m).trans eb, fun b vs eb => (upd_ne fun z => by subst z; rw [el] at eb; cases eb; exact nt _ rfl).trans eb, fun b o vs eb => (upd_ne fun z => by subst z; rw [el] at eb; cases eb; exact nf _ _ rfl).trans eb⟩
theorem mut_not {H : Hp} {l : Addr} {u : HO} (m : Mut (H l)) (el : H l = some u) : (∀ vs, u ≠ .tup vs) ∧ ∀ o v, u ≠ .frz o v := by
  rw [el] at m
  exact ⟨fun vs e => by subst e; exact m, fun o v e => by subst e; exact m⟩
/-- the state behind a put -/
theorem put_env {H H3 : Hp} {σ : St} {ρ : Env} {i : Nat} {o : Ow} {d d' : D} {l : Addr} {M' M2 N : List Addr} {u u' : HO} (E : EnvOk C P H σ ρ) (s : Same H H3) (ei : ρ[i]? = some (some (o, d))) (ow : o.own = true) (ev : σ[i]? = some (some (.ref l)))
    (el : H3 l = some u) (mu' : Mut (some u')) (rd : Rep C H d (.ref l) (l :: M')) (rd' : Rep C (upd H3 l u') d' (.ref l) (l :: M2)) (sub : M2.Sublist (M' ++ N)) (nd : N.Nodup) (nw : ∀ a ∈ N, H a = none) (mu : ∀ a ∈ N, Mut (H3 a)) :
    EnvOk C P (upd H3 l u') σ (ρ.set i (some (o, d'))) := by
  obtain ⟨w, M1, e1, r1, own1, _⟩ := E.at_ i o _ ei
  rw [ev] at e1; cases e1
  rw [r1.uniq rd] at own1
  obtain ⟨q1, q2, _⟩ := own1 ow
  obtain ⟨l1, l2⟩ := List.nodup_cons.mp q1
  have rr := rd.same s
  have lN : l ∉ N := fun m => by
    obtain ⟨z, hz⟩ := rd.dom l List.mem_cons_self
    have := nw l m
    rw [hz] at this; cases this
  have nodupMN : (M' ++ N).Nodup := List.nodup_append.mpr ⟨l2, nd, fun a ma b mb e => by
    subst e
    obtain ⟨z, hz⟩ := rd.dom a (List.mem_cons_of_mem _ ma)
    rw [nw a mb] at hz; cases hz⟩
  refine E.mutate s ei ow ev rr rd' (fun a u na e => (upd_ne fun z => na (by rw [z]; exact List.mem_cons_self)).trans e) (fun a m => ?_) (List.nodup_cons.mpr ⟨fun m => (List.mem_append.mp (sub.subset m)).elim l1 lN, nodupMN.sublist sub⟩) (fun a m => ?_) fun a m => ?_
  · by_cases h : a = l
    · rw [h, upd_same]; exact fun z => by cases z
    · rw [upd_ne h]
      obtain ⟨z, hz⟩ := rr.dom a m
      rw [hz]; exact fun z => by cases z
  · rcases List.mem_cons.mp m with rfl | m
    · rw [upd_same]; exact mu'
    · have m' := List.mem_append.mp (sub.subset m)
      rw [upd_ne fun z => by subst z; exact m'.elim l1 lN]
      rcases m' with m | m
      · exact mut_same s (q2 a (List.mem_cons_of_mem _ m))
      · exact mu a m
  · rcases List.mem_cons.mp m with rfl | m
    · exact .inl List.mem_cons_self
    · rcases List.mem_append.mp (sub.subset m) with m | m
      · exact .inl (List.mem_cons_of_mem _ m)
      · exact .inr (nw a m)
theorem rs_put {i : Nat} {D : Ends} {σ : St} {H : Hp} (h : RS C W (dPut i f g) D σ H) : sDPut (tVar i) (RV C W f) (RV C W g) D σ H := by
  obtain ⟨ρ, P, DD, E, I, h⟩ := h
  refine ⟨ρ, P, E, ?_⟩
  unfold dPut at h
  cases eg : g ρ with
  | bad => rw [eg] at h; exact h
  | ex c => rw [eg] at h; exact fun H' s => I.ex σ H' ρ c (E.same s) h
  | ok x =>
    rw [eg] at h
    dsimp only at h
    intro v H1 ⟨s1, N, rv, qv⟩
    split at h
    · rename_i o d ei
      obtain ⟨ow, h⟩ := h
      obtain ⟨vd, M, e1, r, own, _⟩ := E.at_ i o _ ei
      refine ⟨vd, e1, ρ, P, E.same s1, ?_⟩
      cases ef : f ρ with
      | bad => rw [ef] at h; exact h
      | ex c => rw [ef] at h; exact fun H' s => I.ex σ H' ρ c (E.same (s1.trans s)) h
      | ok k =>
        rw [ef] at h
        dsimp only at h
        intro vk H2 ⟨s2, L, rk, qk⟩
        cases ep : putF d k.2 x with
        | none => rw [ep] at h; exact h.elim
        | some d' =>
          rw [ep] at h
          dsimp only at h
          have s12 := s1.trans s2
          obtain ⟨q1, q2, _⟩ := own ow
          have rv2 := rv.same s2
          have new : ∀ {κ : Type} [DecidableEq κ] {kk : κ} {ks : List κ}, ((x.1 = .fr ∧ notIn kk ks = true) ∨ imm x.2 = true) → (kk ∉ ks ∨ N = []) ∧ N.Nodup ∧ (∀ a ∈ N, H a = none) ∧ ∀ a ∈ N, Mut (H2 a) := fun {κ _ kk ks} hc => by
            rcases hc with ⟨hc, c⟩ | hc
            · rw [hc] at qv
              exact ⟨.inl (of_decide_eq_true c), qv.1, qv.2.1, fun a m => mut_same s2 (qv.2.2 a m)⟩
            · rw [rv.imm hc]
              exact ⟨.inr rfl, List.nodup_nil, (fun a m => nomatch m), (fun a m => nomatch m)⟩
          cases d with
          | dK ks ds =>
            obtain ⟨l, kvs, M', rfl, eL, rfl, z, rl, rfl⟩ := id r
            have eL' := mut_rd (q2 l List.mem_cons_self) eL
            have l1 := (List.nodup_cons.mp q1).1
            unfold putF at ep
            dsimp only at ep
            cases ek : keyOf k.2 with
            | none => rw [ek] at ep; cases ep
            | some kk =>
              rw [ek] at ep
              dsimp only at ep
              split at ep
              · rename_i hc
                cases ep
                obtain ⟨n1, n2, n3, n4⟩ := new hc.1
                obtain ⟨p1, M2, p2, p3⟩ := put_rep (k := kk) (rl.same s12) rv2 n1
                have eL2 := s12 _ _ eL'
                have lM2 : l ∉ M2 := fun m => (List.mem_append.mp (p3.subset m)).elim l1 fun m => by have := n3 l m; rw [eL'] at this; cases this
                refine ⟨l, _, rfl, .inl ⟨kvs, kk, eL2, key_rep rk ek, by have := rl.length; rw [List.length_map] at this; omega, rfl⟩, I.nx _ _ _ (put_env E s12 ei ow e1 eL2 trivial r ?_ p3 n2 n3 n4) h⟩
                obtain ⟨w1, w2⟩ := mut_not (by rw [eL2]; trivial) eL2
                exact ⟨l, putK kvs kk v, M2, rfl, .inl upd_same, p1, by have := put_len (ks := kvs.map (·.1)) (ds := ds) (k := kk) (d := x.2); omega, p2.keep (upd_keep eL2 w1 w2 lM2), rfl⟩
              · cases ep
          | dT ks ds =>
            obtain ⟨l, kvs, M', rfl, eL, rfl, z, rl, rfl⟩ := id r
            have eL' := mut_rd (q2 l List.mem_cons_self) eL
            have l1 := (List.nodup_cons.mp q1).1
            unfold putF at ep
            dsimp only at ep
            obtain ⟨kf, kd⟩ := k
            cases kd <;> first | (cases ep; done) | skip
            rename_i es
            clear qk
            obtain ⟨bk, kvs', rfl, ebk, _, rbk⟩ := rk
            dsimp only at ep
            cases ek : keysOf es with
            | none => rw [ek] at ep; cases ep
            | some kk =>
              rw [ek] at ep
              dsimp only at ep
              split at ep
              · rename_i hc
                cases ep
                obtain ⟨n1, n2, n3, n4⟩ := new hc.1
                obtain ⟨p1, M2, p2, p3⟩ := put_rep (k := kk) (rl.same s12) rv2 n1
                have eL2 := s12 _ _ eL'
                have lM2 : l ∉ M2 := fun m => (List.mem_append.mp (p3.subset m)).elim l1 fun m => by have := n3 l m; rw [eL'] at this; cases this
                refine ⟨l, _, rfl, .inr ⟨kvs, kk, bk, eL2, rfl, by rw [← keys_rep rbk ek]; exact ebk, by have := rl.length; rw [List.length_map] at this; omega, rfl⟩, I.nx _ _ _ (put_env E s12 ei ow e1 eL2 trivial r ?_ p3 n2 n3 n4) h⟩
                obtain ⟨w1, w2⟩ := mut_not (by rw [eL2]; trivial) eL2
                exact ⟨l, putK kvs kk v, M2, rfl, .inl upd_same, p1, by have := put_len (ks := kvs.map (·.1)) (ds := ds) (k := kk) (d := x.2); omega, p2.keep (upd_keep eL2 w1 w2 lM2), rfl⟩
              · cases ep
          | _ => cases ep
    · exact h.elim
theorem ds_put (i : Nat) {x : Str} (F : Fx R C X W) (hk : PE X a (RV C W f)) (hv : PE X b (RV C W g)) (hN : X.N[i]? = some x := by rfl) (hvi : Vis X.env.scope x := by first | exact Or.inl rfl | exact Or.inr (Or.inl rfl) | exact Or.inr (Or.inr rfl)) (hd : (x == ("__debug__" : Str)) = false := by decide)
    (hcd : (x == ("__classdict__" : Str)) = false := by decide) (hs : swapsWith b (some (.Subscript (.Name x p) a pos')) pos.line X.env = pure false := by rfl) :
    PS X (.Assign [.Subscript (.Name x p) a pos'] b pos) (RS C W (dPut i f g)) := (ps_dput (by have := F.hu; omega) (pv i hN hvi hd hcd) hk hv hs).imp fun _ _ _ => rs_put
end
end DL
/-! DL9: contracts, calls, raise, comprehensions as expressions. -/
namespace DL
open PySem L2

mutual
theorem Rep.ctx {C C' : Ctx} {H : Hp} (hc : (C.cls, C.K) = (C'.cls, C'.K)) : ∀ {d : D} {v : V} {M : List Addr}, Rep C H d v M → Rep C' H d v M
  | .non, _, _, h => h
  | .bl _, _, _, h => h
  | .int _, _, _, h => h
  | .str _, _, _, h => h
  | .ty _, _, _, h => h
  | .tup ds, v, M, h => by
    obtain ⟨a, vs, e, q, z, r⟩ := h
    exact ⟨a, vs, e, q, z, RepL.ctx hc r⟩
  | .lst ds, v, M, h => by
    obtain ⟨a, vs, M', e, q, z, r, w⟩ := h
    exact ⟨a, vs, M', e, q, z, RepL.ctx hc r, w⟩
  | .fz ds, v, M, h => by
    obtain ⟨a, vs, e, q, z, r, w⟩ := h
    have hK : C.K = C'.K := congrArg Prod.snd hc
    exact ⟨a, vs, e, by unfold FzL; rw [← hK]; exact q, z, RepL.ctx hc r, w⟩
  | .dK ks ds, v, M, h => by
    obtain ⟨a, vs, M', e, q, k, z, r, w⟩ := h
    exact ⟨a, vs, M', e, q, k, z, RepL.ctx hc r, w⟩
  | .dT ks ds, v, M, h => by
    obtain ⟨a, vs, M', e, q, k, z, r, w⟩ := h
    exact ⟨a, vs, M', e, q, k, z, RepL.ctx hc r, w⟩
  | .ins c ns ds, v, M, h => by
    obtain ⟨a, dx, fs, M', e, q, k, r, w⟩ := h
    have hcl : C.cls = C'.cls := congrArg Prod.fst hc
    exact ⟨a, dx, fs, M', e, by rw [← hcl]; exact q, k, RepL.ctx hc r, w⟩
theorem RepL.ctx {C C' : Ctx} {H : Hp} (hc : (C.cls, C.K) = (C'.cls, C'.K)) : ∀ {ds : List D} {vs : List V} {M : List Addr}, RepL C H ds vs M → RepL C' H ds vs M
  | [], _, _, h => h
  | d :: ds, vs, M, h => by
    obtain ⟨v, r, M1, M2, e, h1, h2, w⟩ := h
    exact ⟨v, r, M1, M2, e, Rep.ctx hc h1, RepL.ctx hc h2, w⟩
end
theorem New.ctx {C C' : Ctx} {H H' : Hp} {d : D} {v : V} (hc : (C.cls, C.K) = (C'.cls, C'.K)) (h : New C H H' d v) : New C' H H' d v := ⟨h.1, h.2.elim fun M x => ⟨M, x.1.ctx hc, x.2⟩⟩

/-- the bare context of a contract -/
def ctx0 (K : PySem.W.Frag) (cls : Str → Addr) : Ctx := ⟨K, fun _ => none, [], none, cls⟩
/-- a def that works on trees as F says -/
def SpP (K : PySem.W.Frag) (cls : Str → Addr) (F : List D → Res D) : Sp := fun vs H Q E => ∃ ds M, RepL (ctx0 K cls) H ds vs M ∧ match F ds with
  | .ok d => ∀ v H', New (ctx0 K cls) H H' d v → Q v H'
  | .ex c => ∀ H', Same H H' → E (.ref (cls c)) none H'
  | .bad => False
structure Fn (P : Program) (w : World) (K : PySem.W.Frag) (mg : Str → Option Value) (base : Heap) (cls : Str → Addr) (x : Str) (k : Nat) (F : List D → Res D) : Prop where
  ex : ∃ f fd ps, mg x = some (.ref f) ∧ PySem.W.keepIn K (.ref f) = true ∧ Binds K fd ps [] ∧ FnOk P w K mg base (L2.CX P w) k f fd ps (SpP K cls F)
theorem Fn.mono {P : Program} {w : World} {K : PySem.W.Frag} {mg : Str → Option Value} {base : Heap} {cls : Str → Addr} {x : Str} {j k : Nat} {F : List D → Res D} (h : Fn P w K mg base cls x j F) (hk : j ≤ k) : Fn P w K mg base cls x k F := by
  obtain ⟨f, fd, ps, a, b, c, d⟩ := h.ex
  exact ⟨f, fd, ps, a, b, c, d.mono hk⟩
/-- a narrower contract -/
theorem Fn.imp {P : Program} {w : World} {K : PySem.W.Frag} {mg : Str → Option Value} {base : Heap} {cls : Str → Addr} {x : Str} {k : Nat} {F G : List D → Res D} (h : Fn P w K mg base cls x k F) (hg : ∀ ds, G ds = .bad ∨ G ds = F ds) : Fn P w K mg base cls x k G := by
  obtain ⟨f, fd, ps, a, b, c, d⟩ := h.ex
  refine ⟨f, fd, ps, a, b, c, d.imp fun vs H Q E ⟨ds, M, r, q⟩ => ⟨ds, M, r, ?_⟩⟩
  rcases hg ds with z | z
  · rw [z] at q; exact q.elim
  · rw [← z]; exact q

section
variable {R : Nat} {C : Ctx} {X : Cx} {W : WX} {a b e : Expr} {es : List Expr} {f g : Env → Res FD} {fa : Env → Res AD} {pos pos' p : Pos}

def callF (F : List D → Res D) (fa : Env → Res AD) : Env → Res FD := fun ρ => (fa ρ).bind fun y => match F y.2 with
  | .ok d => .ok (.fr, d)
  | .ex c => .ex c
  | .bad => .bad
theorem rv_call {Fd : List D → Res D} {σ : St} {H : Hp} {Q : VK} (h : RV C W (callF Fd fa) σ H Q) : tCallS (SpP C.K C.cls Fd) (WE W) (RL C W fa) σ H Q := by
  obtain ⟨ρ, P, E, h⟩ := h
  refine ⟨ρ, P, E, ?_⟩
  unfold callF at h
  cases e : fa ρ with
  | bad => rw [e] at h; exact h
  | ex c => rw [e] at h; exact h
  | ok y =>
    rw [e] at h
    simp only [Res.ok_bind] at h
    intro vs H1 s1 ⟨M, r, _⟩
    refine ⟨y.2, M, RepL.ctx (C := C) (C' := ctx0 C.K C.cls) rfl r, ?_⟩
    cases ef : Fd y.2 with
    | bad => rw [ef] at h; exact h
    | ex c => rw [ef] at h; exact fun H' s' => h H' (s1.trans s')
    | ok d => rw [ef] at h; exact fun v H' n => h v H' ((New.ctx (C := ctx0 C.K C.cls) (C' := C) rfl n).early s1).vok
/-- a call of a def of the text -/
theorem pd_call {k : Nat} {x : Str} {Fd : List D → Res D} (F : Fx R C X W) (G : Fn X.prog X.w X.K X.mg X.base C.cls x k Fd) (hk : k ≤ R) (hg : Gl X x) (ha : PA X (e :: es) (RL C W fa)) (hdb : (x == ("__debug__" : Str)) = false := by decide)
    (he : starEach (e :: es) X.env = (false, eval e X.env) :: starEach es X.env := by rfl) (hpl : (backTo pos (starEach es X.env)).any (·.1) = false := by rfl) : PE X (.Call (.Name x p) (e :: es) [] pos) (RV C W (callF Fd fa)) := by
  obtain ⟨f, fd, ps, hm, hkp, hb, G⟩ := G.ex
  exact (pe_callS (E := WE W) G (F.room.mono hk) hg hm hkp hb (fun σ => passAt F.tk σ) ha hdb he hpl).imp fun σ H Q h => by
    rw [F.hK]
    exact rv_call h

/-! ### a def's body -/
def startD (n : Nat) (ds : List D) : Env := ds.map (fun d => some (Ow.sh, d)) ++ List.replicate (n - ds.length) none
theorem startD_at {n i : Nat} {o : Ow} {d : D} {ds : List D} (e : (startD n ds)[i]? = some (some (o, d))) : o = .sh ∧ ds[i]? = some d := by
  unfold startD at e
  by_cases h : i < ds.length
  · rw [List.getElem?_append_left (by simpa using h), List.getElem?_map, List.getElem?_eq_getElem h] at e
    cases e
    exact ⟨rfl, List.getElem?_eq_getElem h⟩
  · rw [List.getElem?_append_right (by simpa using h), List.getElem?_replicate] at e
    split at e <;> cases e
theorem env_start {K : PySem.W.Frag} {cls : Str → Addr} {H : Hp} {N : List Str} {ds : List D} {vs : List V} {M : List Addr} (r : RepL (ctx0 K cls) H ds vs M) : EnvOk ⟨K, H, [], none, cls⟩ [] H (L2.start N vs) (startD N.length ds) := by
  have hl := r.length
  refine ⟨by unfold L2.start startD; simp [hl], fun i o d e => ?_, (fun p m => nomatch m), fun a o e _ => .inl e, fun a e => e⟩
  obtain ⟨rfl, e1⟩ := startD_at e
  obtain ⟨v, M', e2, r', _⟩ := r.get e1
  refine ⟨v, M', ?_, Rep.ctx (C := ctx0 K cls) (C' := ⟨K, H, [], none, cls⟩) rfl r', (fun h => by cases h), (fun h => by cases h), (fun h => by cases h), fun h => by cases h⟩
  unfold L2.start
  have hi := (List.getElem?_eq_some_iff.mp e2).1
  rw [List.getElem?_append_left (by simpa using hi), List.getElem?_map, e2]
  rfl
/-- the ends of a def whose answer is r -/
def endsOf (r : Res D) : EndsD := { nx := fun _ => r = .ok .non, rt := fun d _ => r = .ok d, ex := fun c _ => r = .ex c }
theorem fn_pure {P : Program} {w : World} {K : PySem.W.Frag} {mg : Str → Option Value} {base : Heap} {cls : Str → Addr} {x qual : Str} {st : Stmt} {f : Addr} {fd : FuncData} {N ps : List Str} {k : Nat} {Fs : List D → Res D} {t : TD}
    (Fu : Fun K x qual st f fd) (S : FnScope N ps (defScope st)) (len : ∀ ds, Fs ds ≠ .bad → ds.length = ps.length)
    (body : ∀ (cdv : Value) (A : Around) (outer : List PySem.Env) (s : Shared) (H : Hp) (E : XK) (C : Ctx) (W : WX), C.cls = cls → Fx k C (cxOf (L2.CX P w) P w K mg base N qual (defScope st) f cdv A outer s H E) W →
      PSs (cxOf (L2.CX P w) P w K mg base N qual (defScope st) f cdv A outer s H E) (defBody st) (RS C W t))
    (sem : ∀ ds, Fs ds ≠ .bad → t (endsOf (Fs ds)) (startD N.length ds)) : FnOk P w K mg base (L2.CX P w) (k + 1) f fd ps (SpP K cls Fs) := by
  refine Fu.okX S (fun vs H Q E h => ?_) (fun cdv A outer s H vs Q E hr h => ?_)
  · obtain ⟨ds, M, r, q⟩ := h
    rw [← r.length]
    exact len ds fun e => by rw [e] at q; exact q
  · obtain ⟨ds, M, r, q⟩ := h
    have hnb : Fs ds ≠ .bad := fun e => by rw [e] at q; exact q
    have tk : Takes (cxOf (L2.CX P w) P w K mg base N qual (defScope st) f cdv A outer s H E) (fun c d _ H => E c d H) := takes_of rfl rfl rfl rfl
    have F : Fx k ⟨K, H, [], none, cls⟩ (cxOf (L2.CX P w) P w K mg base N qual (defScope st) f cdv A outer s H E) (fun c d _ H => E c d H) :=
      ⟨rfl, tk, PassesOwn.leaving, rfl, by have := hr.un; show (A.deeper (PyProof.Rows.envOfC qual (defScope st) s.heap.objs.size f cdv)).units + 200 < cLine; omega, S.nd, hr⟩
    refine ⟨_, body cdv A outer s H E _ _ rfl F, startD N.length ds, [], endsOf (Fs ds), env_start r, ?_, sem ds hnb⟩
    have key : ∀ {v : V} {H' : Hp} {d : D} {σ : St} {ρ : Env} {M : List Addr}, EnvOk ⟨K, H, [], none, cls⟩ [] H' σ ρ → Rep ⟨K, H, [], none, cls⟩ H' d v M → M.Nodup → (∀ a ∈ M, H a = none) → (∀ a ∈ M, Mut (H' a)) → Fs ds = .ok d → Q v H' := fun {v H' d σ ρ M} E' r n1 n2 n3 e => by
      rw [e] at q
      refine q v H' ⟨fun a o ea => ?_, M, Rep.ctx (C := ⟨K, H, [], none, cls⟩) (C' := ctx0 K cls) rfl r, n1, n2, n3⟩
      rcases E'.kept a o ea (by simp) with z | ⟨_, z⟩
      · exact z
      · cases z
    refine ⟨fun σ H' ρ E' e => ?_, fun σ H' ρ d v M E' r n1 n2 n3 e => key E' r n1 n2 n3 e, fun _ _ _ _ h => h, fun _ _ _ _ h => h, fun σ H' ρ c E' e => ?_⟩
    · exact key (d := .non) (v := .non) (M := []) E' ⟨rfl, rfl⟩ List.nodup_nil (fun a m => nomatch m) (fun a m => nomatch m) e
    · have e' : Fs ds = .ex c := e
      rw [e'] at q
      refine q H' fun a o ea => ?_
      rcases E'.kept a o ea (by simp) with z | ⟨_, z⟩
      · exact z
      · cases z

/-! ### raise -/
structure ExcT (K : PySem.W.Frag) (mg : Str → Option Value) (cls : Str → Addr) (c : Str) : Prop where
  mg : mg c = some (.ref (cls c))
  ex : PySem.W.excIn K (cls c) [.type "ValueError", .type "Exception", .type "BaseException", .type "object"] "ValueError.__new__" = true
  kp : PySem.W.keepIn K (.ref (cls c)) = true
  sub : PySem.W.subIn K (.ref (cls c)) (.type "BaseException") = some true
  ty : PySem.W.typeIn K (.ref (cls c)) = some (.type "type")
def dRaise (c : Str) : TD := fun DD ρ => DD.ex c ρ
theorem ds_raise {c m : Str} {j : Nat} {p2 : Pos} (F : Fx R C X W) (T : ExcT X.K X.mg C.cls c) (hg : Gl X c) (hdb : (c == ("__debug__" : Str)) = false := by decide) : PS X (.Raise (some (.Call (.Name c p) [.Constant (.str m) j p2] [] pos)) none pos') (RS C W (dRaise c)) :=
  (ps_raise F.calm F.tk (pmk_own PySem.F.excBase_ValueError T.ex T.mg T.kp (raises_own T.sub T.ty) hg hdb)).imp fun D σ H ⟨ρ, P, DD, E, I, h⟩ => I.ex σ H ρ c E h

/-! ### comprehensions -/
theorem Fx.blk {s : Shared} {H : Hp} {scope : Scope} {cenv : PySem.Env} {fp : List Addr} (F : Fx R C X W) : Fx R C (X.blk s H scope cenv fp) W0 := ⟨F.hK, takes0, PassesOwn.never, F.calm, F.hu, F.nd, F.room⟩
def noIf : Env → Res Bool := fun _ => .ok true
theorem dts_nil : PTs X [] (RT C W noIf) := ⟨fun pins s σ H Q I h => pts_nil.run pins s σ H Q I (by obtain ⟨ρ, P, E, h⟩ := h; exact h H (Same.refl H))⟩
theorem dts_one {c : Expr} {ft : Env → Res Bool} (h : PT X c (RT C W ft)) : PTs X [c] (RT C W ft) := pts_one h
theorem pd_comp {elt tg iter : Expr} {ifs : List Expr} {scope : Scope} {own : List (Str × Nat)} {fi : Env → Res ID} {t : Tg} {tt : Env → Res Bool} {te : Env → Res FD} (F : Fx R C X W) (hi : PI X tg iter (RI C W fi)) (ok : blkC X.N X.env.scope scope own = true)
    (ht' : t.ix.all (fun i => (own.map (·.2)).contains i) = true)
    (hg : ∀ (s : Shared) (H : Hp) (C' : Addr) (cl : List (Str × Addr)) (fp : List Addr), PG (X.blk s H scope (compEnvC scope cl C' X.env) fp) tg (gOf X.K t))
    (ht : ∀ (s : Shared) (H : Hp) (C' : Addr) (cl : List (Str × Addr)) (fp : List Addr), Fx R C (X.blk s H scope (compEnvC scope cl C' X.env) fp) W0 → PTs (X.blk s H scope (compEnvC scope cl C' X.env) fp) ifs (RT C W0 tt))
    (he : ∀ (s : Shared) (H : Hp) (C' : Addr) (cl : List (Str × Addr)) (fp : List Addr), Fx R C (X.blk s H scope (compEnvC scope cl C' X.env) fp) W0 → PE (X.blk s H scope (compEnvC scope cl C' X.env) fp) elt (RV C W0 te))
    (hs : ∀ x, foldedSetIterable iter X.env x = pure x := by exact fun _ => rfl) :
    PE X (.ListComp elt [⟨tg, iter, ifs, 0⟩] scope pos) (RV C W (compF fi t tt te (own.map (·.2)))) :=
  (pe_lc F.calm F.nd hi (blkOk_by ok) hg (fun s H C' cl fp => ht s H C' cl fp F.blk) (fun s H C' cl fp => he s H C' cl fp F.blk) hs).imp fun _ _ _ => rv_comp fun i m => by
    have := List.all_eq_true.mp ht' i m
    simpa using this
/-- name = [..], on one line, the name a local -/
theorem ds_setComp {i : Nat} {y : Str} {py : Pos} {elt tg iter : Expr} {ifs : List Expr} {scope : Scope} {own : List (Str × Nat)} {fi : Env → Res ID} {t : Tg} {tt : Env → Res Bool} {te : Env → Res FD} {spos : Pos} (F : Fx R C X W) (hy : X.N[i]? = some y) (hyl : X.env.scope.names.lookup y = some .local)
    (hsw : swapsWith (.ListComp elt [⟨tg, iter, ifs, 0⟩] scope pos) (some (.Name y py)) spos.line X.env = pure true) (hi : PI X tg iter (RI C W fi)) (ok : blkC X.N X.env.scope scope own = true)
    (ht' : t.ix.all (fun i => (own.map (·.2)).contains i) = true)
    (hg : ∀ (s : Shared) (H : Hp) (C' : Addr) (cl : List (Str × Addr)) (fp : List Addr), PG (X.blk s H scope (compEnvC scope cl C' X.env) fp) tg (gOf X.K t))
    (ht : ∀ (s : Shared) (H : Hp) (C' : Addr) (cl : List (Str × Addr)) (fp : List Addr), Fx R C (X.blk s H scope (compEnvC scope cl C' X.env) fp) W0 → PTs (X.blk s H scope (compEnvC scope cl C' X.env) fp) ifs (RT C W0 tt))
    (he : ∀ (s : Shared) (H : Hp) (C' : Addr) (cl : List (Str × Addr)) (fp : List Addr), Fx R C (X.blk s H scope (compEnvC scope cl C' X.env) fp) W0 → PE (X.blk s H scope (compEnvC scope cl C' X.env) fp) elt (RV C W0 te))
    (hs : ∀ x, foldedSetIterable iter X.env x = pure x := by exact fun _ => rfl) :
    PS X (.Assign [.Name y py] (.ListComp elt [⟨tg, iter, ifs, 0⟩] scope pos) spos) (RS C W (dSet i (compF fi t tt te (own.map (·.2))))) :=
  (ps_setLc F.calm F.nd hy hyl hsw hi (blkOk_by ok) hg (fun s H C' cl fp => ht s H C' cl fp F.blk) (fun s H C' cl fp => he s H C' cl fp F.blk) hs).imp fun D σ H h => by
    refine rv_comp (fun i m => ?_) (rs_val h fun ρ P DD y v H' E I k vo => I.nx _ H' _ (assign_own E vo k.2.1 k.1) k.2.2)
    have := List.all_eq_true.mp ht' i m
    simpa using this
end
end DL
/-! DL10: builtins by call. -/
namespace DL
open PySem L2

/-- a builtin that works on trees as F says -/
def SpB (C : Ctx) (F : List D → Res D) : List V → Hp → VK → Prop := fun vs H Q => ∃ ds M, RepL C H ds vs M ∧ match F ds with
  | .ok d => ∀ v H', New C H H' d v → Q v H'
  | _ => False
section
variable {R : Nat} {C : Ctx} {X : Cx} {W : WX} {a b e : Expr} {es : List Expr} {f g : Env → Res FD} {fa : Env → Res AD} {pos pos' p : Pos} {Fb : List D → Res D}
theorem callTo {f : Value} {r r' : List V → Hp → VK → Prop} (h : CallR X f r) (i : ∀ vs H Q, r' vs H Q → r vs H Q) : CallR X f r' := fun pins s σ H xs us Q I v q => h pins s σ H xs us Q I v (i xs H Q q)
/-- what a builtin does is no exception of ours -/
theorem rv_callB (hx : ∀ ds c, Fb ds ≠ .ex c) {σ : St} {H : Hp} {Q : VK} (h : RV C W (callF Fb fa) σ H Q) : tCB (SpB C Fb) (RL C W fa) σ H Q := by
  obtain ⟨ρ, P, E, h⟩ := h
  refine ⟨ρ, P, E, ?_⟩
  unfold callF at h
  cases e : fa ρ with
  | bad => rw [e] at h; exact h
  | ex c => rw [e] at h; exact h
  | ok y =>
    rw [e] at h
    simp only [Res.ok_bind] at h
    intro vs H1 s1 ⟨M, r, _⟩
    refine ⟨y.2, M, r, ?_⟩
    cases ef : Fb y.2 with
    | bad => rw [ef] at h; exact h
    | ex c => exact absurd ef (hx _ c)
    | ok d => rw [ef] at h; exact fun v H' n => h v H' (n.early s1).vok
theorem pd_b {id : String} {x : Str} (hc : CallR X (.builtin id) (SpB C Fb)) (hx : ∀ ds c, Fb ds ≠ .ex c) (hg : Gl X x) (hm : X.mg x = none) (hv : bootBuiltins x = some (.builtin id)) (ha : PA X (e :: es) (RL C W fa)) (hn : x ≠ "__name__" := by decide) (hdb : (x == ("__debug__" : Str)) = false := by decide)
    (he : starEach (e :: es) X.env = (false, eval e X.env) :: starEach es X.env := by rfl) (hpl : (backTo pos (starEach es X.env)).any (·.1) = false := by rfl) : PE X (.Call (.Name x p) (e :: es) [] pos) (RV C W (callF Fb fa)) :=
  (pe_callB hc hg hm hv ha hn hdb he hpl).imp fun _ _ _ => rv_callB hx
theorem pd_bT {T : String} {x : Str} (hc : CallR X (.type T) (SpB C Fb)) (hx : ∀ ds c, Fb ds ≠ .ex c) (hg : Gl X x) (hm : X.mg x = none) (hv : bootBuiltins x = some (.type T)) (ha : PA X (e :: es) (RL C W fa)) (hn : x ≠ "__name__" := by decide) (hdb : (x == ("__debug__" : Str)) = false := by decide)
    (he : starEach (e :: es) X.env = (false, eval e X.env) :: starEach es X.env := by rfl) (hpl : (backTo pos (starEach es X.env)).any (·.1) = false := by rfl) : PE X (.Call (.Name x p) (e :: es) [] pos) (RV C W (callF Fb fa)) :=
  (pe_callTy hc hg hm hv ha hn hdb he hpl).imp fun _ _ _ => rv_callB hx

/-! ### what a value is, as a sequence -/
theorem rep1 {H : Hp} {d : D} {vs : List V} {M : List Addr} (r : RepL C H [d] vs M) : ∃ v, vs = [v] ∧ Rep C H d v M := by
  obtain ⟨v, w, M1, M2, rfl, r1, ⟨rfl, rfl⟩, rfl⟩ := r
  exact ⟨v, rfl, by simpa using r1⟩
theorem rep2 {H : Hp} {d d' : D} {vs : List V} {M : List Addr} (r : RepL C H [d, d'] vs M) : ∃ v v' N N', vs = [v, v'] ∧ Rep C H d v N ∧ Rep C H d' v' N' := by
  obtain ⟨v, w, M1, M2, rfl, r1, ⟨v', w', M3, M4, rfl, r3, ⟨rfl, rfl⟩, rfl⟩, rfl⟩ := r
  exact ⟨v, v', M1, M3, rfl, r1, r3⟩
/-- the items of a list or tuple -/
def itemsD : D → Option (List D)
  | .lst ds => some ds
  | .tup ds => some ds
  | _ => none
theorem seq_rep (K : PySem.W.Frag) {H : Hp} {d : D} {v : V} {M : List Addr} {ds : List D} (r : Rep C H d v M) (e : itemsD d = some ds) :
    ∃ a vs N, v = .ref a ∧ (SqL K H a vs ∨ SqT K H a vs) ∧ RepL C H ds vs N ∧ ds.length ≤ sizeLine ∧ N.Sublist M := by
  cases d <;> cases e
  · obtain ⟨a, vs, rfl, e1, z, r1⟩ := r
    exact ⟨a, vs, _, rfl, .inr (.inl (.inl e1)), r1, z, List.Sublist.refl _⟩
  · obtain ⟨a, vs, M', rfl, e1, z, r1, rfl⟩ := r
    exact ⟨a, vs, _, rfl, .inl (.inl (.inl e1)), r1, z, List.sublist_cons_self _ _⟩

/-! ### len -/
def lenF : List D → Res D
  | [d] => match d with
    | .str x => if x.length ≤ sizeLine then .ok (.int x.length) else .bad
    | .lst ds => .ok (.int ds.length)
    | .tup ds => .ok (.int ds.length)
    | .fz ds => .ok (.int ds.length)
    | .dK ks ds => .ok (.int ds.length)
    | _ => .bad
  | _ => .bad
theorem lenF_nx : ∀ ds c, lenF ds ≠ .ex c := fun ds c e => by
  unfold lenF at e
  repeat' (first | cases e | split at e)
theorem SpB.ok {F : List D → Res D} {vs : List V} {H : Hp} {Q : VK} (h : SpB C F vs H Q) : ∃ ds M d, RepL C H ds vs M ∧ F ds = .ok d ∧ ∀ v H', New C H H' d v → Q v H' := by
  obtain ⟨ds, M, r, h⟩ := h
  cases e : F ds with
  | bad => rw [e] at h; exact h.elim
  | ex c => rw [e] at h; exact h.elim
  | ok d => rw [e] at h; exact ⟨ds, M, d, r, e, h⟩
theorem b_len (hK : X.K = C.K) : CallR X (.builtin "len") (SpB C lenF) := by
  have key : CallR X (.builtin "len") (fun xs H Q => (∃ x n, xs = [x] ∧ LenV X.K x H n ∧ Q (.int n) H) ∨ ∃ a, xs = [.ref a] ∧ ∃ kvs, Rd H a (.dK kvs) ∧ Q (.int kvs.length) H) := call_len.or fun pins s σ H xs us Q I r h => by
    obtain ⟨a, rfl, kvs, e, q⟩ := h
    obtain ⟨u, rfl, ru⟩ := vals1 r
    cases ru
    exact d_len I e fun t s1 I1 => ⟨.int kvs.length, H, I1, ⟨_, rfl⟩, q⟩
  refine callTo key fun vs H Q h => ?_
  obtain ⟨ds, M, d, r, e, q⟩ := h.ok
  have sq : ∀ {d' : D} {es : List D}, Rep C H d' (vs.headD .non) M → vs = [vs.headD .non] → itemsD d' = some es → d = .int es.length → ∃ x n, vs = [x] ∧ LenV X.K x H n ∧ Q (.int n) H := fun {d' es} r1 ev ei ed => by
    subst ed
    obtain ⟨a, ws, N, e1, sq, r2, z, _⟩ := seq_rep X.K r1 ei
    rw [e1] at ev
    refine ⟨.ref a, es.length, ev, ?_, q _ H int_new⟩
    rcases sq with sq | sq
    · exact .inl ⟨ws, sq, r2.length⟩
    · exact .inr ⟨ws, sq, r2.length⟩
  unfold lenF at e
  split at e
  · obtain ⟨v, rfl, r1⟩ := rep1 r
    split at e
    · split at e
      · cases e
        rename_i hz
        obtain ⟨rfl, _⟩ := r1
        exact .inl ⟨_, _, rfl, ⟨hz, rfl⟩, q _ H int_new⟩
      · cases e
    · cases e; exact .inl (sq r1 rfl rfl rfl)
    · cases e; exact .inl (sq r1 rfl rfl rfl)
    · cases e
      obtain ⟨a, ws, rfl, e1, z, r2, _⟩ := r1
      refine .inl ⟨.ref a, _, rfl, .inl ⟨ws, ?_, r2.length⟩, q _ H int_new⟩
      rw [hK]
      exact FzL.sq e1
    · cases e
      obtain ⟨a, kvs, M', rfl, e1, _, _, r2, _⟩ := r1
      have hl := r2.length
      rw [List.length_map] at hl
      exact .inr ⟨a, rfl, kvs, e1, by rw [← hl]; exact q _ H int_new⟩
    · cases e
  · cases e

/-! ### isinstance -/
def tyD : D → Option String
  | .non => some "NoneType"
  | .bl _ => some "bool"
  | .int _ => some "int"
  | .str _ => some "str"
  | .tup _ => some "tuple"
  | .lst _ => some "list"
  | .dK _ _ => some "dict"
  | _ => none
def isiK (a b : String) : Option Bool := if a ∈ ["NoneType", "bool", "int", "str", "tuple", "list", "dict"] ∧ b ∈ ["bool", "int", "str", "tuple", "list", "dict"] then some (a == b || (a == "bool" && b == "int")) else none
def isiF : List D → Res D
  | [d, .ty n] => match tyD d with
    | some m => match isiK m n with
      | some b => .ok (.bl b)
      | none => .bad
    | none => .bad
  | _ => .bad
theorem isiF_nx : ∀ ds c, isiF ds ≠ .ex c := fun ds c e => by
  unfold isiF at e
  repeat' (first | cases e | split at e)
theorem kits : ∀ a ∈ ["NoneType", "bool", "int", "str", "tuple", "list", "dict"], ∀ b ∈ ["bool", "int", "str", "tuple", "list", "dict"], kitB a b = some (a == b || (a == "bool" && b == "int")) := by decide +kernel
theorem tyx_rep (K : PySem.W.Frag) {H : Hp} {d : D} {v : V} {M : List Addr} {n : String} (r : Rep C H d v M) (e : tyD d = some n) : TyX K H v (.type n) := by
  cases d <;> cases e
  · obtain ⟨rfl, _⟩ := r; exact .base .non
  · obtain ⟨rfl, _⟩ := r; exact .base (.bl _)
  · obtain ⟨rfl, _⟩ := r; exact .base (.int _)
  · obtain ⟨rfl, _⟩ := r; exact .base (.str _)
  · obtain ⟨a, vs, rfl, e1, _⟩ := r; exact .base (.tup e1)
  · obtain ⟨a, vs, _, rfl, e1, _⟩ := r; exact .base (.lst e1)
  · obtain ⟨a, kvs, _, rfl, e1, _⟩ := r
    rcases e1 with e1 | ⟨o, e1⟩
    · exact .base (.dK e1)
    · exact .fDict e1
theorem b_isi : CallR X (.builtin "isinstance") (SpB C isiF) := by
  refine callTo call_isi fun vs H Q h => ?_
  obtain ⟨ds, M, d, r, e, q⟩ := h.ok
  unfold isiF at e
  split at e
  · obtain ⟨v, v', N, N', rfl, r1, r2⟩ := rep2 r
    obtain ⟨rfl, _⟩ := r2
    split at e
    · rename_i et
      split at e
      · cases e
        rename_i b eb
        unfold isiK at eb
        split at eb
        · rename_i hm
          cases eb
          exact ⟨v, _, _, _, _, rfl, .ty _, tyx_rep X.K r1 et, kit_ty (kits _ hm.1 _ hm.2), q _ H bl_new⟩
        · cases eb
      · cases e
    · cases e
  · cases e

/-! ### list, tuple, int, bool -/
def listF : List D → Res D
  | [d] => match itemsD d with
    | some ds => if immL ds = true then .ok (.lst ds) else .bad
    | none => match d with
      | .dK ks _ => .ok (.lst (ks.map kD))
      | _ => .bad
  | _ => .bad
def tupB : List D → Res D
  | [d] => match itemsD d with
    | some ds => if immL ds = true then .ok (.tup ds) else .bad
    | none => .bad
  | _ => .bad
theorem listF_nx : ∀ ds c, listF ds ≠ .ex c := fun ds c e => by
  unfold listF at e
  repeat' (first | cases e | split at e)
theorem tupB_nx : ∀ ds c, tupB ds ≠ .ex c := fun ds c e => by
  unfold tupB at e
  repeat' (first | cases e | split at e)
theorem repK {H : Hp} : ∀ ks : List Key, RepL C H (ks.map kD) (ks.map kV) []
  | [] => ⟨rfl, rfl⟩
  | .inl i :: ks => ⟨_, _, [], [], rfl, ⟨rfl, rfl⟩, repK ks, rfl⟩
  | .inr x :: ks => ⟨_, _, [], [], rfl, ⟨rfl, rfl⟩, repK ks, rfl⟩
theorem b_list (F : Fx R C X W) : CallR X (.type "list") (SpB C listF) := by
  refine callTo (call_list_of.or (call_listD F.calm)) fun vs H Q h => ?_
  obtain ⟨ds, M, d, r, e, q⟩ := h.ok
  unfold listF at e
  split at e
  · obtain ⟨v, rfl, r1⟩ := rep1 r
    split at e
    · rename_i ei
      obtain ⟨a, ws, N, rfl, sq, r2, z, _⟩ := seq_rep X.K r1 ei
      split at e
      · rename_i him
        cases e
        exact .inl ⟨a, ws, rfl, sq, fun l hl => q _ _ (lst_new hl z (r2.nil0 him))⟩
      · cases e
    · split at e
      · cases e
        obtain ⟨a, kvs, M', rfl, e1, rfl, z, r2, _⟩ := r1
        refine .inr ⟨a, kvs, rfl, e1, fun p hp => q _ _ ?_⟩
        have k := repK (C := C) (H := H) (kvs.map (·.1))
        rw [List.map_map] at k
        have hl := r2.length
        exact lst_new hp (by simp at hl ⊢; omega) (by simpa [Function.comp_def] using k)
      · cases e
  · cases e
theorem b_tuple (hK : X.K = C.K) : CallR X (.type "tuple") (SpB C tupB) := by
  refine callTo call_tuple_of fun vs H Q h => ?_
  obtain ⟨ds, M, d, r, e, q⟩ := h.ok
  unfold tupB at e
  split at e
  · obtain ⟨v, rfl, r1⟩ := rep1 r
    split at e
    · rename_i d' _ es ei
      split at e
      · rename_i him
        cases e
        cases d' <;> cases ei
        · obtain ⟨a, ws, rfl, e1, z, r2⟩ := r1
          exact ⟨a, ws, rfl, .inr ⟨.inl (.inl e1), q _ H (.imm (Same.refl H) ⟨a, ws, rfl, e1, z, r2.nil0 him⟩)⟩⟩
        · obtain ⟨a, ws, _, rfl, e1, z, r2, _⟩ := r1
          exact ⟨a, ws, rfl, .inl ⟨.inl (.inl e1), fun l hl => q _ _ (tup_new hl z (r2.nil0 him))⟩⟩
      · cases e
    · cases e
  · cases e
def intF : List D → Res D
  | [.int i] => .ok (.int i)
  | [.bl b] => .ok (.int (if b then 1 else 0))
  | _ => .bad
theorem intF_nx : ∀ ds c, intF ds ≠ .ex c := fun ds c e => by
  unfold intF at e
  repeat' (first | cases e | split at e)
theorem b_int : CallR X (.type "int") (SpB C intF) := by
  refine callTo call_int1 fun vs H Q h => ?_
  obtain ⟨ds, M, d, r, e, q⟩ := h.ok
  unfold intF at e
  split at e
  · cases e
    obtain ⟨v, rfl, r1⟩ := rep1 r
    obtain ⟨rfl, _⟩ := r1
    exact .inl ⟨_, rfl, q _ H int_new⟩
  · cases e
    obtain ⟨v, rfl, r1⟩ := rep1 r
    obtain ⟨rfl, _⟩ := r1
    exact .inr ⟨_, rfl, q _ H int_new⟩
  · cases e
/-! ### lists of ints, of texts -/
def intsD : List D → Option (List Int)
  | [] => some []
  | .int i :: ds => (intsD ds).map (i :: ·)
  | _ => none
def strsD : List D → Option (List Str)
  | [] => some []
  | .str i :: ds => (strsD ds).map (i :: ·)
  | _ => none
theorem ints_rep {H : Hp} : ∀ {ds : List D} {vs : List V} {M : List Addr} {ns : List Int}, RepL C H ds vs M → intsD ds = some ns → vs = ns.map V.int
  | [], vs, M, ns, r, e => by cases e; exact r.1
  | d :: ds, vs, M, ns, r, e => by
    obtain ⟨v, w, M1, M2, rfl, r1, r2, rfl⟩ := r
    cases d <;> first | (cases e; done) | skip
    rename_i i
    unfold intsD at e
    cases e2 : intsD ds with
    | none => rw [e2] at e; cases e
    | some ms =>
      rw [e2] at e
      cases e
      rw [ints_rep r2 e2, r1.1]
      rfl
theorem strs_rep {H : Hp} : ∀ {ds : List D} {vs : List V} {M : List Addr} {ns : List Str}, RepL C H ds vs M → strsD ds = some ns → vs = ns.map V.str
  | [], vs, M, ns, r, e => by cases e; exact r.1
  | d :: ds, vs, M, ns, r, e => by
    obtain ⟨v, w, M1, M2, rfl, r1, r2, rfl⟩ := r
    cases d <;> first | (cases e; done) | skip
    rename_i i
    unfold strsD at e
    cases e2 : strsD ds with
    | none => rw [e2] at e; cases e
    | some ms =>
      rw [e2] at e
      cases e
      rw [strs_rep r2 e2, r1.1]
      rfl
def maxI : List Int → Int
  | [] => 0
  | [n] => n
  | n :: ns => if maxI ns < n then n else maxI ns
def minI : List Int → Int
  | [] => 0
  | [n] => n
  | n :: ns => if n < minI ns then n else minI ns
theorem maxI_mem : ∀ ns : List Int, ns ≠ [] → maxI ns ∈ ns ∧ ∀ y ∈ ns, y ≤ maxI ns
  | [], h => absurd rfl h
  | [n], _ => by simp [maxI]
  | n :: m :: ns, _ => by
    have ih := maxI_mem (m :: ns) (by simp)
    unfold maxI
    split
    · rename_i hlt
      refine ⟨by simp, fun y hy => ?_⟩
      rcases List.mem_cons.mp hy with rfl | hy
      · omega
      · have := ih.2 y hy; omega
    · refine ⟨List.mem_cons_of_mem _ ih.1, fun y hy => ?_⟩
      rcases List.mem_cons.mp hy with rfl | hy
      · omega
      · exact ih.2 y hy
theorem minI_mem : ∀ ns : List Int, ns ≠ [] → minI ns ∈ ns ∧ ∀ y ∈ ns, minI ns ≤ y
  | [], h => absurd rfl h
  | [n], _ => by simp [minI]
  | n :: m :: ns, _ => by
    have ih := minI_mem (m :: ns) (by simp)
    unfold minI
    split
    · rename_i hlt
      refine ⟨by simp, fun y hy => ?_⟩
      rcases List.mem_cons.mp hy with rfl | hy
      · omega
      · have := ih.2 y hy; omega
    · refine ⟨List.mem_cons_of_mem _ ih.1, fun y hy => ?_⟩
      rcases List.mem_cons.mp hy with rfl | hy
      · omega
      · exact ih.2 y hy
def overI (f : List Int → Option Int) : List D → Res D
  | [.lst ds] => match intsD ds with
    | some ns => match f ns with
      | some i => .ok (.int i)
      | none => .bad
    | none => .bad
  | _ => .bad
theorem overI_nx {f : List Int → Option Int} : ∀ ds c, overI f ds ≠ .ex c := fun ds c e => by
  unfold overI at e
  repeat' (first | cases e | split at e)
theorem overI_ok {f : List Int → Option Int} {vs : List V} {H : Hp} {Q : VK} (K : PySem.W.Frag) (h : SpB C (overI f) vs H Q) : ∃ a ns i, vs = [.ref a] ∧ SqL K H a (ns.map V.int) ∧ f ns = some i ∧ Q (.int i) H := by
  obtain ⟨ds, M, d, r, e, q⟩ := h.ok
  unfold overI at e
  split at e
  · obtain ⟨v, rfl, r1⟩ := rep1 r
    split at e
    · split at e
      · rename_i ei _ i ef
        cases e
        obtain ⟨a, ws, _, rfl, e1, z, r2, _⟩ := r1
        rw [ints_rep r2 ei] at e1
        exact ⟨a, _, i, rfl, .inl (.inl e1), ef, q _ H int_new⟩
      · cases e
    · cases e
  · cases e
def sumF : List D → Res D := overI fun ns => some ns.sum
def maxF : List D → Res D := overI fun ns => if ns = [] then none else some (maxI ns)
def minF : List D → Res D := overI fun ns => if ns = [] then none else some (minI ns)
theorem b_sum (F : Fx R C X W) : CallR X (.builtin "sum") (SpB C sumF) := callTo (cr_sum F.calm) fun vs H Q h => by
  obtain ⟨a, ns, i, rfl, e, ei, q⟩ := overI_ok X.K h
  cases ei
  exact ⟨a, ns, rfl, e, q⟩
theorem b_max (F : Fx R C X W) : CallR X (.builtin "max") (SpB C maxF) := callTo (cr_max F.calm) fun vs H Q h => by
  obtain ⟨a, ns, i, rfl, e, ei, q⟩ := overI_ok X.K h
  split at ei
  · cases ei
  · rename_i ne
    cases ei
    refine ⟨a, ns, rfl, e, List.length_pos_iff.mpr ne, fun m hm hle => ?_⟩
    have k := maxI_mem ns ne
    have : m = maxI ns := Int.le_antisymm (k.2 m hm) (hle _ k.1)
    rw [this]
    exact q
theorem b_min (F : Fx R C X W) : CallR X (.builtin "min") (SpB C minF) := callTo (cr_min F.calm) fun vs H Q h => by
  obtain ⟨a, ns, i, rfl, e, ei, q⟩ := overI_ok X.K h
  split at ei
  · cases ei
  · rename_i ne
    cases ei
    refine ⟨a, ns, rfl, e, List.length_pos_iff.mpr ne, fun m hm hle => ?_⟩
    have k := minI_mem ns ne
    have : m = minI ns := Int.le_antisymm (hle _ k.1) (k.2 m hm)
    rw [this]
    exact q
end
end DL
/-! DL11: sets of keys (ints, texts): set(xs) counted, set(xs) put in order. -/
namespace DL
open PySem PySem.Spec PyProof.Rows L2

/-- an entry's key -/
def kkV : Value → Key
  | .int i _ => .inl i
  | .str x _ => .inr x
  | _ => .inl 0
def kk (e : Int × Value) : Key := kkV e.2
def inK (ks : List Key) (j : Key) : Bool := ks.any fun k => decide (k = j)
section
variable {P : Program} {w : World}
def GoodK (P : Program) (w : World) (e : Int × Value) : Prop := ∃ k, (mixKind P w).is k e.2 = true ∧ e.1 = (mixKind P w).hash k ∧ e.2.scannable = true
theorem kkV_of {k : Key} {v : Value} (h : (mixKind P w).is k v = true) : kkV v = k ∧ v.scannable = true := by
  rcases keyIs_shape (show keyIs k v = true from h) with ⟨i, t, rfl, rfl⟩ | ⟨x, t, rfl, rfl⟩ <;> exact ⟨rfl, rfl⟩
theorem goodK_elems {l : List (Int × Value)} (g : ∀ e ∈ l, GoodK P w e) : ElemsOf (mixKind P w) l := fun e m => by
  obtain ⟨k, a, b, c⟩ := g e m
  exact ⟨⟨k, a, b⟩, c⟩
theorem goodK_is {e : Int × Value} (g : GoodK P w e) (k : Key) : (mixKind P w).is k e.2 = true ↔ kk e = k := by
  obtain ⟨q, a, _, _⟩ := g
  have hq : kk e = q := (kkV_of a).1
  rw [hq]
  exact ⟨fun z => (mixKind P w).inj _ _ _ a z, fun z => z ▸ a⟩
theorem goodK_mem {l : List (Int × Value)} (g : ∀ e ∈ l, GoodK P w e) (k : Key) : k ∈ l.map kk ↔ ∃ e ∈ l, (mixKind P w).is k e.2 = true := by
  rw [List.mem_map]
  exact ⟨fun ⟨e, m, z⟩ => ⟨e, m, (goodK_is (g e m) k).mpr z⟩, fun ⟨e, m, z⟩ => ⟨e, m, (goodK_is (g e m) k).mp z⟩⟩
/-- the set at a: its keys are those of S, n of them -/
def KSet (P : Program) (w : World) (h : Heap) (a : Addr) (S : Key → Bool) (n : Nat) : Prop :=
  ∃ o es ep t, h.get? a = some o ∧ o.ExactSet ∧ o.data = .set es ep t ∧ ((∀ e ∈ es.toList, GoodK P w e) ∧ (es.toList.map kk).Nodup ∧ ∀ k, S k = true ↔ k ∈ es.toList.map kk) ∧
    (es.size < scanBound ∧ es.size = n) ∧ t.fits es.size = true ∧ Ris t.place.toList ∧ (w.params.followText "set-order" = true ∨ t.led = true)
theorem KSet.at {h h' : Heap} {a : Addr} {S : Key → Bool} {n : Nat} (R : KSet P w h a S n) (k : ∀ o, h.get? a = some o → h'.get? a = some o) : KSet P w h' a S n := by
  obtain ⟨o, es, ep, t, e, r⟩ := R
  exact ⟨o, es, ep, t, k o e, r⟩
theorem KSet.to {h : Heap} {a : Addr} {S T : Key → Bool} {n : Nat} (R : KSet P w h a S n) (e : ∀ k, T k = S k) : KSet P w h a T n := by
  obtain rfl : T = S := funext e
  exact R
theorem KSet.fresh {h : Heap} {a : Addr} {led : Bool} (e : h.get? a = some { cls := .type "set", dict := none, data := .set #[] 0 (.fresh 0 0 led) }) (hl : led = !w.params.followText "set-order") : KSet P w h a (fun _ => false) 0 := by
  refine ⟨_, #[], 0, _, e, ⟨rfl, rfl, rfl⟩, rfl, ⟨fun e he => by simp at he, by simp, fun k => by simp⟩, ⟨by decide, rfl⟩, rfl, List.Pairwise.nil, ?_⟩
  show _ ∨ led = true
  rw [hl]
  cases w.params.followText "set-order"
  · exact .inr rfl
  · exact .inl rfl

variable {A : Around} {E : Value → Shared → Prop} {s : Shared} {a : Addr} {S : Key → Bool} {n : Nat}
/-- the entries es1 are laid under the table t2, or under a wider one -/
theorem kset_lay {mark : Bool → Sem Unit} (hmark : ∀ (b : Bool) (s₁ : Shared) (Q' : Unit → Shared → Prop), Q' () s₁ → wpAny (model P w) A (mark b) Q' E s₁) {o : Obj} {es es1 : Array (Int × Value)} {ep : Nat} {t t2 : SetTable} {T : Key → Bool} {wide : Bool} {R : Option Bool → Shared → Prop}
    (hget : s.heap.get? a = some o) (hexact : o.ExactSet) (hdata : o.data = .set es ep t) (good : (∀ e ∈ es1.toList, GoodK P w e) ∧ (es1.toList.map kk).Nodup ∧ ∀ k, T k = true ↔ k ∈ es1.toList.map kk) (small : es1.size < scanBound)
    (fit : t2.fits es1.size = true) (rising : Ris t2.place.toList) (order : w.params.followText "set-order" = true ∨ t2.led = true) (then_ : ∀ h', Heap.SameBut a s.heap h' → KSet P w h' a T es1.size → R (some true) { s with heap := h' }) :
    wpAny (model P w) A (do
        storeSet a es1 t2
        if (!wide && t2.tooFull) = true then do
            mark (relayAll t2 es1 (SetTable.grown es1.size)).2.2
            storeSet a (relayAll t2 es1 (SetTable.grown es1.size)).1 (relayAll t2 es1 (SetTable.grown es1.size)).2.1
            pure (some true)
          else pure (some true)) R E s := by
  have laid1 := store_at (es' := es1) (t' := t2) hget hdata
  have but1 := Heap.SameBut.update s.heap a (Obj.putSet es1 t2)
  refine wpAny_bind (wpAny_storeSet_of hget hdata ?_ (fits_of_scanBound small))
  by_cases c : (!wide && t2.tooFull) = true
  · rw [if_pos c]
    have q1 := relayAll_perm t2 es1 (SetTable.grown es1.size)
    have q2 := relayAll_fits t2 es1 (SetTable.grown es1.size)
    have q3 := relayAll_ris t2 es1 (SetTable.grown es1.size)
    have q4 := relayAll_led t2 es1 (SetTable.grown es1.size)
    generalize relayAll t2 es1 (SetTable.grown es1.size) = Z at q1 q2 q3 q4 ⊢
    obtain ⟨es2, t3, gave⟩ := Z
    dsimp only at q1 q2 q3 q4 ⊢
    have same : es2.size = es1.size := by have := q1.length_eq; simpa using this
    have small2 : es2.size < scanBound := same ▸ small
    have laid2 := store_at (es' := es2) (t' := t3) laid1 rfl
    refine wpAny_bind (hmark _ _ _ (wpAny_bind (wpAny_storeSet_of laid1 rfl ?_ (fits_of_scanBound small2))))
    refine wpAny_pure (then_ _ (but1.trans (Heap.SameBut.update _ a _)) ⟨_, es2, _, t3, laid2, hexact, rfl, ⟨fun e he => good.1 e (q1.mem_iff.mp he), (q1.map kk).nodup_iff.mpr good.2.1, fun k => (good.2.2 k).trans (q1.map kk).mem_iff.symm⟩, ⟨small2, same⟩, q2, q3, ?_⟩)
    exact order.imp id fun z => q4.trans z
  · rw [if_neg c]
    exact wpAny_pure (then_ _ but1 ⟨_, es1, _, t2, laid1, hexact, rfl, good, ⟨small, rfl⟩, fit, rising, order⟩)
/-- k is put into the set at a -/
theorem kset_add {k : Key} {v : Value} {Q : Bool → Shared → Prop} (hk : (mixKind P w).is k v = true) (R : KSet P w s.heap a S n) (room : n + 1 < scanBound)
    (then_ : ∀ h', Heap.SameBut a s.heap h' → KSet P w h' a (fun j => S j || decide (j = k)) (if S k = true then n else n + 1) → Q (!S k) { s with heap := h' }) :
    wpAny (model P w) A (setAddHashed a v ((mixKind P w).hash k)) Q E s := by
  obtain ⟨o, es, ep, t, hget, hexact, hdata, ⟨good, nodup, mem⟩, ⟨small, size⟩, fit, rising, order⟩ := R
  have scan : v.scannable = true := (kkV_of hk).2
  have elems := goodK_elems good
  unfold setAddHashed setAddHashedIn
  refine wpAny_holding (wpAny_bind (wpAny_setState_of hget hdata fit ?_))
  dsimp only
  rw [byScan_of scan small elems]
  simp only [↓reduceIte]
  unfold setAddByScan
  refine wpAny_bind (wpAny_bind (wpAny_rule (wpAny_bind (wpAny_setScan_of hk hget hdata fit elems ?_))))
  cases found : List.findIdx? (fun e => (mixKind P w).is k e.2) es.toList with
  | some j =>
    dsimp only
    obtain ⟨lt, at_, _⟩ := List.findIdx?_eq_some_iff_getElem.mp found
    have there : S k = true := (mem k).mpr ((goodK_mem good k).mpr ⟨es.toList[j], List.getElem_mem lt, at_⟩)
    have q := then_ s.heap (Heap.SameBut.refl a s.heap) ⟨o, es, ep, t, hget, hexact, hdata, ⟨good, nodup, fun i => ?_⟩, ⟨small, by rw [if_pos there]; exact size⟩, fit, rising, order⟩
    · rw [there] at q
      exact wpAny_pure (wpAny_pure q)
    · rw [Bool.or_eq_true, decide_eq_true_eq, ← mem i]
      exact ⟨fun z => z.elim id fun e => e ▸ there, .inl⟩
  | none =>
    dsimp only
    have new : k ∉ es.toList.map kk := fun z => by
      obtain ⟨e, he, q⟩ := (goodK_mem good k).mp z
      have c := List.findIdx?_eq_none_iff.mp found e he
      rw [q] at c
      cases c
    have away : S k = false := Bool.eq_false_iff.mpr fun q => new ((mem k).mp q)
    have marks : ∀ (b : Bool) {s₁ : Shared} {Q' : Unit → Shared → Prop}, Q' () s₁ → wpAny (model P w) A (match b with | true => rule "set.scan.the-table-gave-way" | false => pure ()) Q' E s₁ := fun b s₁ Q' q => by
      cases b <;> first | exact wpAny_pure q | exact wpAny_rule q
    have p1 := layNew_perm t es ((mixKind P w).hash k) v
    have p2 := layNew_fits t es ((mixKind P w).hash k) v
    have p3 := layNew_ris t es ((mixKind P w).hash k) v rising
    have p4 := layNew_led t es ((mixKind P w).hash k) v
    generalize layNew t es ((mixKind P w).hash k) v = Z at p1 p2 p3 p4 ⊢
    obtain ⟨es1, t1, wide, gave⟩ := Z
    dsimp only at p1 p2 p3 p4 ⊢
    rw [Array.toList_push] at p1
    have perm : es1.toList.Perm (((mixKind P w).hash k, v) :: es.toList) := p1.trans (List.perm_append_singleton _ _)
    have keys : (es1.toList.map kk).Perm (k :: es.toList.map kk) := by
      have q := perm.map kk
      rwa [List.map_cons, show kk ((mixKind P w).hash k, v) = k from (kkV_of hk).1] at q
    have good1 : (∀ e ∈ es1.toList, GoodK P w e) ∧ (es1.toList.map kk).Nodup ∧ ∀ i, (S i || decide (i = k)) = true ↔ i ∈ es1.toList.map kk := by
      refine ⟨fun e he => ?_, keys.nodup_iff.mpr (List.nodup_cons.mpr ⟨new, nodup⟩), fun i => ?_⟩
      · rcases List.mem_cons.mp (perm.mem_iff.mp he) with z | z
        · exact z ▸ ⟨k, hk, rfl, scan⟩
        · exact good e z
      · rw [Bool.or_eq_true, decide_eq_true_eq, mem i, keys.mem_iff, List.mem_cons]
        exact Or.comm
    have size1 : es1.size = n + 1 := by
      have q := perm.length_eq
      rw [List.length_cons, Array.length_toList, Array.length_toList, size] at q
      exact q
    have small1 : es1.size < scanBound := size1 ▸ room
    have order1 : w.params.followText "set-order" = true ∨ t1.led = true := order.imp id fun z => p4.trans z
    have last : ∀ h', Heap.SameBut a s.heap h' → KSet P w h' a (fun j => S j || decide (j = k)) es1.size → Q true { s with heap := h' } := fun h' sb r => by
      have q := then_ h' sb
      rw [away] at q
      exact q (size1 ▸ r)
    refine wpAny_bind (marks _ ?_)
    split
    · refine wpAny_bind ?_
      rw [hashByValue_scannable 8 scan]
      refine wpAny_pure (kset_lay ?_ hget hexact hdata good1 small1 ?_ ?_ ?_ ?_)
      · exact fun b s₁ Q' q => by cases b <;> first | exact wpAny_pure q | exact wpAny_rule q
      · first | exact p2 | (split <;> first | exact p2 | exact SetTable.fits_plain_off p2)
      · first | exact p3 | (split <;> exact p3)
      · first | exact order1 | (split <;> exact order1)
      · exact fun h' sb r => by dsimp only; exact wpAny_pure (last h' sb r)
    · refine wpAny_bind (wpAny_pure ?_)
      simp only [↓reduceIte]
      refine kset_lay ?_ hget hexact hdata good1 small1 p2 p3 order1 ?_
      · exact fun b s₁ Q' q => by cases b <;> first | exact wpAny_pure q | exact wpAny_rule q
      · exact fun h' sb r => by dsimp only; exact wpAny_pure (last h' sb r)
/-- all that is walked is put into the set -/
theorem kset_update {I : Addr} {fp wr : List Addr} {G : Array GenState → Array GenState → Prop} {m : Nat} {Pv : Nat → Value → Prop} {St : Nat → Shared → Prop} {R : Result → Shared → Prop} (W : WalksS P w A.in1 I fp wr G m Pv St) (a : Addr) (apart : a ∉ fp) (ks : List Key) (hm : m = ks.length) (few : ks.length + 1 < scanBound)
    (at_ : ∀ i v, Pv i v → ∃ k, ks[i]? = some k ∧ (mixKind P w).is k v = true) : ∀ (left i : Nat) (s : Shared), m - i = left → i ≤ m → St i s → (∃ c, c ≤ i ∧ KSet P w s.heap a (fun j => inK (ks.take i) j) c) →
      (∀ s' c, Moved (a :: wr) G s s' → c ≤ m → KSet P w s'.heap a (fun j => inK ks j) c → R (.ok (.ret .none)) s') → codeAny (model P w) A (.builtin "set.update.loop" ⟨[.ref a, .ref I], []⟩) R s := by
  have other : a ∉ wr := fun h => apart (W.sub _ h)
  have more : ∀ b ∈ wr, b ∈ a :: wr := fun b h => List.mem_cons_of_mem _ h
  intro left
  induction left with
  | zero =>
    intro i s e le st ⟨c, hc, set⟩ after
    obtain rfl : i = m := by omega
    refine codeAny_builtin F.entry_set_update_loop ?_
    rw [Around.under_plainId F.plain_set_update_loop _]
    show wpAny _ A.in1 (pyNext (.ref I) >>= _) _ _ s
    refine wpAny_bind (W.done s _ _ st fun s' mv => ?_)
    rw [List.take_of_length_le (Nat.le_of_eq hm.symm)] at set
    exact wpAny_pure (after s' c (mv.mono more) hc (set.at fun o e => mv.heap a o other e))
  | succ left ih =>
    intro i s e le st ⟨c, hc, set⟩ after
    have lt : i < m := by omega
    refine codeAny_builtin F.entry_set_update_loop ?_
    rw [Around.under_plainId F.plain_set_update_loop _]
    show wpAny _ A.in1 (pyNext (.ref I) >>= _) _ _ s
    refine wpAny_bind (W.item i s _ _ lt st fun v s' p st' mv => ?_)
    obtain ⟨k, ek, hk⟩ := at_ i v p
    show wpAny _ A.in1 (holding [v] (setAdd a v) >>= _) _ _ s'
    refine wpAny_bind (wpAny_holding ?_)
    unfold setAdd
    refine wpAny_holding (wpAny_bind ((mixKind P w).pyHash hk ?_))
    refine kset_add (s := { s' with toks := s'.toks + 1 }) hk (set.at fun o e => mv.heap a o other e) (by omega) fun h' but set2 => ?_
    have set3 : KSet P w h' a (fun j => inK (ks.take (i + 1)) j) (if inK (ks.take i) k = true then c else c + 1) := set2.to fun j => by
      unfold inK
      rw [List.take_add_one, ek]
      simp [eq_comm]
    refine wpAny_pure ⟨plainId_quiet F.plain_set_update_loop _, ih (i + 1) _ (by omega) lt (W.frame _ s' _ _ st' (Nat.le_succ _) fun b hb o eb => ?_) ⟨_, ?_, set3⟩ fun s'' c2 mv2 hc2 set4 => ?_⟩
    · rw [but.2 b fun z => apart (z ▸ hb)]
      exact eb
    · split <;> omega
    · refine after s'' c2 (Moved.trans W.gtrans ((mv.mono more).then_heap (Nat.le_succ _) fun b o hb eb => ?_) mv2) hc2 set4
      rw [but.2 b fun z => hb (z ▸ List.mem_cons_self)]
      exact eb

set_option maxHeartbeats 3200000 in
/-- set(xs) of a list -/
theorem call_ksetlist {l : Addr} {items : Array Value} (ks : List Key) {Q : Value → Shared → Prop} (calm : A.handled = none) (hl : s.heap.IsList l items) (len : items.size = ks.length) (few : ks.length + 1 < scanBound) (at_ : ∀ (i : Nat) (v : Value), items[i]? = some v → ∃ k, ks[i]? = some k ∧ (mixKind P w).is k v = true)
    (then_ : ∀ (h' : Heap) (tk c : Nat), KSet P w h' s.heap.objs.size (fun j => inK ks j) c → (∀ b o, s.heap.get? b = some o → h'.get? b = some o) → Q (.ref s.heap.objs.size) { s with heap := h', toks := tk }) : wpAny (model P w) A (call (.type "set") [.ref l]) Q E s := by
  obtain ⟨mro1, mro2, hmro⟩ := F.called_set.mro
  have f1 := F.called_set.made
  have f2 := F.called_set.sub
  refine wpAny_call (codeAny_of_tree ?_)
  show wpAny _ _ (callAny (.type "set") _) _ _ _
  refine wpAny_pure ⟨Code.quiet_builtin _ (by decide +kernel), codeAny_builtin F.entry_type_call ?_⟩
  rw [Around.under_plain (weight_type_call_type "set" [.ref l] []) rfl]
  have f3 := F.called_set.notType
  have f4 := F.called_set.canCreate
  have f5 := F.typeCall_set_1 (.ref l)
  repeat (any_goals (first | assumption | wp_step))
  refine codeAny_mono (code_set_led1 (.ref l) (E := E) (Q₁ := fun obj s₁ => obj = .ref s.heap.objs.size ∧ s₁ = { s with heap := s.heap.push ({ cls := .type "set", dict := none, data := .set #[] 0 (.fresh 0 0 (!w.params.followText "set-order")) } : Obj) }) ⟨rfl, rfl⟩) fun r s₁ hr => ?_
  cases r with
  | error e => exact hr
  | ok fl =>
    cases fl with
    | ret obj =>
      obtain ⟨rfl, rfl⟩ := hr
      have there : (s.heap.push ({ cls := .type "set", dict := none, data := .set #[] 0 (.fresh 0 0 (!w.params.followText "set-order")) } : Obj)).get? s.heap.objs.size = some ({ cls := .type "set", dict := none, data := .set #[] 0 (.fresh 0 0 (!w.params.followText "set-order")) } : Obj) := Heap.get?_push_size _ rfl
      have typed : Shared.TypeIs { s with heap := s.heap.push ({ cls := .type "set", dict := none, data := .set #[] 0 (.fresh 0 0 (!w.params.followText "set-order")) } : Obj) } (.ref s.heap.objs.size) "set" := ⟨_, there, rfl⟩
      have f6 := F.called_set.init.lookup
      have f7 := F.called_set.init.bind (.ref s.heap.objs.size)
      repeat (any_goals (first | assumption | wp_step))
      refine codeAny_mono (codeAny_call_builtin (R := wants (fun r s₂ => r = .none ∧ ∃ h' tk c, s₂ = { s with heap := h', toks := tk } ∧ KSet P w h' s.heap.objs.size (fun j => inK ks j) c ∧ ∀ b o, s.heap.get? b = some o → h'.get? b = some o) E) F.called_set.init.plain F.entry_set_init (check_set_init_1 typed ?_)) fun r₂ s₂ hr₂ => ?_
      · obtain ⟨⟨cl1, di1, da1, sl1⟩, got, cl2, nl, da2⟩ := hl
        simp only at cl2 da2
        subst cl2 da2
        have got2 := Heap.get?_push_of_some ({ cls := .type "set", dict := none, data := .set #[] 0 (.fresh 0 0 (!w.params.followText "set-order")) } : Obj) got
        have g1 := F.sub_list_set
        have g2 := F.sub_list_frozenset
        have g3 : (Value.type "list" == Value.type "dict") = false := by decide
        have at2 : (s.heap.push ({ cls := .type "set", dict := none, data := .set #[] 0 (.fresh 0 0 (!w.params.followText "set-order")) } : Obj)).IsList l items := ⟨_, got2, rfl, nl, rfl⟩
        unfold Builtin.«set.__init__» noKeywords Builtin.Frozenset.updateFrom
        generalize hPI : pyIter = PI
        wp_walk
        subst hPI
        refine wpAny_pyIter_list at2 ?_
        refine wpAny_bind (wpAny_runValue ?_)
        have lts : l < s.heap.objs.size := Heap.lt_size got
        have up1 : (s.heap.push ({ cls := .type "set", dict := none, data := .set #[] 0 (.fresh 0 0 (!w.params.followText "set-order")) } : Obj)).objs.size = s.heap.objs.size + 1 := Heap.size_push ..
        have ne1 : l ≠ (s.heap.push ({ cls := .type "set", dict := none, data := .set #[] 0 (.fresh 0 0 (!w.params.followText "set-order")) } : Obj)).objs.size := by rw [up1]; exact Nat.ne_of_lt (Nat.lt_succ_of_lt lts)
        have ne2 : s.heap.objs.size ∉ [(s.heap.push ({ cls := .type "set", dict := none, data := .set #[] 0 (.fresh 0 0 (!w.params.followText "set-order")) } : Obj)).objs.size, l] := by
          rw [up1]
          simp only [List.mem_cons, List.not_mem_nil, or_false, not_or]
          exact ⟨Nat.ne_of_lt (Nat.lt_succ_self _), Nat.ne_of_gt lts⟩
        refine kset_update ((Walks.list (show A.in1.in1.in1.handled = none by simp [calm]) _ l ne1 items).toS) s.heap.objs.size ne2 ks len few (fun i v hv => at_ i v hv) (items.size - 0) 0 _ (by omega) (Nat.zero_le _) ⟨⟨_, Heap.get?_push_size _ rfl, rfl, rfl⟩, at2.push _⟩ ⟨0, Nat.le_refl 0, ?_⟩ fun s' c mv hc set => ?_
        · have e0 : KSet P w ((s.heap.push ({ cls := .type "set", dict := none, data := .set #[] 0 (.fresh 0 0 (!w.params.followText "set-order")) } : Obj)).push { cls := .type "list_iterator", data := .fields #[.ref l, .int 0 0] }) s.heap.objs.size (fun _ => false) 0 := KSet.fresh (led := !w.params.followText "set-order") (Heap.get?_push_of_some _ there) rfl
          exact e0.to fun k => rfl
        · obtain ⟨h', gn, dn, tk', os'⟩ := s'
          obtain rfl : gn = s.gens := mv.gens
          obtain rfl : dn = s.drawn := mv.drawn
          obtain rfl : os' = s.os := mv.os
          show wpAny _ _ _ _ _ _
          refine wpAny_pure ?_
          show wpAny _ _ (ret Value.none) _ _ _
          refine wpAny_pure ⟨rfl, h', tk', c, rfl, set, fun b o e => ?_⟩
          have lb : b < s.heap.objs.size := Heap.lt_size e
          refine mv.heap b o ?_ (Heap.get?_push_of_some _ (Heap.get?_push_of_some _ e))
          rw [up1]
          simp only [List.mem_cons, List.not_mem_nil, or_false, not_or]
          exact ⟨Nat.ne_of_lt lb, Nat.ne_of_lt (Nat.lt_succ_of_lt lb)⟩
      · cases r₂ with
        | error e => exact hr₂
        | ok fl₂ =>
          cases fl₂ with
          | ret r =>
            obtain ⟨rfl, h', tk, c, rfl, set, kept⟩ := hr₂
            repeat (any_goals (first | assumption | wp_step))
            exact then_ _ _ _ set kept
          | _ => exact hr₂.elim
    | _ => exact hr.elim

set_option maxHeartbeats 3200000 in
/-- set(xs) of a tuple -/
theorem call_ksettuple {l : Addr} {items : Array Value} (ks : List Key) {Q : Value → Shared → Prop} (calm : A.handled = none) (hl : s.heap.IsTuple l items) (len : items.size = ks.length) (few : ks.length + 1 < scanBound) (at_ : ∀ (i : Nat) (v : Value), items[i]? = some v → ∃ k, ks[i]? = some k ∧ (mixKind P w).is k v = true)
    (then_ : ∀ (h' : Heap) (tk c : Nat), KSet P w h' s.heap.objs.size (fun j => inK ks j) c → (∀ b o, s.heap.get? b = some o → h'.get? b = some o) → Q (.ref s.heap.objs.size) { s with heap := h', toks := tk }) : wpAny (model P w) A (call (.type "set") [.ref l]) Q E s := by
  obtain ⟨mro1, mro2, hmro⟩ := F.called_set.mro
  have f1 := F.called_set.made
  have f2 := F.called_set.sub
  refine wpAny_call (codeAny_of_tree ?_)
  show wpAny _ _ (callAny (.type "set") _) _ _ _
  refine wpAny_pure ⟨Code.quiet_builtin _ (by decide +kernel), codeAny_builtin F.entry_type_call ?_⟩
  rw [Around.under_plain (weight_type_call_type "set" [.ref l] []) rfl]
  have f3 := F.called_set.notType
  have f4 := F.called_set.canCreate
  have f5 := F.typeCall_set_1 (.ref l)
  repeat (any_goals (first | assumption | wp_step))
  refine codeAny_mono (code_set_led1 (.ref l) (E := E) (Q₁ := fun obj s₁ => obj = .ref s.heap.objs.size ∧ s₁ = { s with heap := s.heap.push ({ cls := .type "set", dict := none, data := .set #[] 0 (.fresh 0 0 (!w.params.followText "set-order")) } : Obj) }) ⟨rfl, rfl⟩) fun r s₁ hr => ?_
  cases r with
  | error e => exact hr
  | ok fl =>
    cases fl with
    | ret obj =>
      obtain ⟨rfl, rfl⟩ := hr
      have there : (s.heap.push ({ cls := .type "set", dict := none, data := .set #[] 0 (.fresh 0 0 (!w.params.followText "set-order")) } : Obj)).get? s.heap.objs.size = some ({ cls := .type "set", dict := none, data := .set #[] 0 (.fresh 0 0 (!w.params.followText "set-order")) } : Obj) := Heap.get?_push_size _ rfl
      have typed : Shared.TypeIs { s with heap := s.heap.push ({ cls := .type "set", dict := none, data := .set #[] 0 (.fresh 0 0 (!w.params.followText "set-order")) } : Obj) } (.ref s.heap.objs.size) "set" := ⟨_, there, rfl⟩
      have f6 := F.called_set.init.lookup
      have f7 := F.called_set.init.bind (.ref s.heap.objs.size)
      repeat (any_goals (first | assumption | wp_step))
      refine codeAny_mono (codeAny_call_builtin (R := wants (fun r s₂ => r = .none ∧ ∃ h' tk c, s₂ = { s with heap := h', toks := tk } ∧ KSet P w h' s.heap.objs.size (fun j => inK ks j) c ∧ ∀ b o, s.heap.get? b = some o → h'.get? b = some o) E) F.called_set.init.plain F.entry_set_init (check_set_init_1 typed ?_)) fun r₂ s₂ hr₂ => ?_
      · obtain ⟨⟨cl1, di1, da1, sl1⟩, got, cl2, nl, da2⟩ := hl
        simp only at cl2 da2
        subst cl2 da2
        have got2 := Heap.get?_push_of_some ({ cls := .type "set", dict := none, data := .set #[] 0 (.fresh 0 0 (!w.params.followText "set-order")) } : Obj) got
        have g1 := F.sub_tuple_set
        have g2 := F.sub_tuple_frozenset
        have g3 : (Value.type "tuple" == Value.type "dict") = false := by decide
        have at2 : (s.heap.push ({ cls := .type "set", dict := none, data := .set #[] 0 (.fresh 0 0 (!w.params.followText "set-order")) } : Obj)).IsTuple l items := ⟨_, got2, rfl, nl, rfl⟩
        unfold Builtin.«set.__init__» noKeywords Builtin.Frozenset.updateFrom
        generalize hPI : pyIter = PI
        wp_walk
        subst hPI
        refine wpAny_pyIter_tuple at2 ?_
        refine wpAny_bind (wpAny_runValue ?_)
        have lts : l < s.heap.objs.size := Heap.lt_size got
        have up1 : (s.heap.push ({ cls := .type "set", dict := none, data := .set #[] 0 (.fresh 0 0 (!w.params.followText "set-order")) } : Obj)).objs.size = s.heap.objs.size + 1 := Heap.size_push ..
        have ne1 : l ≠ (s.heap.push ({ cls := .type "set", dict := none, data := .set #[] 0 (.fresh 0 0 (!w.params.followText "set-order")) } : Obj)).objs.size := by rw [up1]; exact Nat.ne_of_lt (Nat.lt_succ_of_lt lts)
        have ne2 : s.heap.objs.size ∉ [(s.heap.push ({ cls := .type "set", dict := none, data := .set #[] 0 (.fresh 0 0 (!w.params.followText "set-order")) } : Obj)).objs.size, l] := by
          rw [up1]
          simp only [List.mem_cons, List.not_mem_nil, or_false, not_or]
          exact ⟨Nat.ne_of_lt (Nat.lt_succ_self _), Nat.ne_of_gt lts⟩
        refine kset_update ((Walks.tuple (show A.in1.in1.in1.handled = none by simp [calm]) _ l ne1 items).toS) s.heap.objs.size ne2 ks len few (fun i v hv => at_ i v hv) (items.size - 0) 0 _ (by omega) (Nat.zero_le _) ⟨⟨_, Heap.get?_push_size _ rfl, rfl, rfl⟩, at2.push _⟩ ⟨0, Nat.le_refl 0, ?_⟩ fun s' c mv hc set => ?_
        · have e0 : KSet P w ((s.heap.push ({ cls := .type "set", dict := none, data := .set #[] 0 (.fresh 0 0 (!w.params.followText "set-order")) } : Obj)).push { cls := .type "tuple_iterator", data := .fields #[.ref l, .int 0 0] }) s.heap.objs.size (fun _ => false) 0 := KSet.fresh (led := !w.params.followText "set-order") (Heap.get?_push_of_some _ there) rfl
          exact e0.to fun k => rfl
        · obtain ⟨h', gn, dn, tk', os'⟩ := s'
          obtain rfl : gn = s.gens := mv.gens
          obtain rfl : dn = s.drawn := mv.drawn
          obtain rfl : os' = s.os := mv.os
          show wpAny _ _ _ _ _ _
          refine wpAny_pure ?_
          show wpAny _ _ (ret Value.none) _ _ _
          refine wpAny_pure ⟨rfl, h', tk', c, rfl, set, fun b o e => ?_⟩
          have lb : b < s.heap.objs.size := Heap.lt_size e
          refine mv.heap b o ?_ (Heap.get?_push_of_some _ (Heap.get?_push_of_some _ e))
          rw [up1]
          simp only [List.mem_cons, List.not_mem_nil, or_false, not_or]
          exact ⟨Nat.ne_of_lt lb, Nat.ne_of_lt (Nat.lt_succ_of_lt lb)⟩
      · cases r₂ with
        | error e => exact hr₂
        | ok fl₂ =>
          cases fl₂ with
          | ret r =>
            obtain ⟨rfl, h', tk, c, rfl, set, kept⟩ := hr₂
            repeat (any_goals (first | assumption | wp_step))
            exact then_ _ _ _ set kept
          | _ => exact hr₂.elim
    | _ => exact hr.elim
end
end DL
/-! DL12: sorted. -/
namespace DL
open PySem L2

/-- not behind one another -/
def leD (a b : D) : Bool := PySem.W.dataLe false toP a b
def sortD (ds : List D) : List D := ds.mergeSort leD
def sortOk (ds : List D) : Bool := immL ds && ds.all okP && (ds.all fun a => ds.all fun b => PySem.W.alike (toP a) (toP b)) && ((ds.all fun a => match toP a with | .tuple (_ :: _) => true | _ => false) || ds.all fun a => match toP a with | .none => false | .tuple _ => false | _ => true)
theorem leD_trans (a b c : D) (h : leD a b = true) (k : leD b c = true) : leD a c = true := (PySem.W.sortLe_total (PyProof.Rows.listOrd PyProof.Rows.itemOrd) false fun b : D => PySem.W.keyToks (toP b)).trans a b c h k
theorem leD_total (a b : D) : (leD a b || leD b a) = true := by
  rw [Bool.or_eq_true]
  exact (PySem.W.sortLe_total (PyProof.Rows.listOrd PyProof.Rows.itemOrd) false fun b : D => PySem.W.keyToks (toP b)).total a b
theorem sortD_perm (ds : List D) : (sortD ds).Perm ds := List.mergeSort_perm ds leD
theorem sortD_pw (ds : List D) : (sortD ds).Pairwise fun a b => leD a b = true := List.pairwise_mergeSort leD_trans leD_total ds
/-- the list in order is unique -/
theorem sortD_uniq {xs ys : List D} (an : ∀ a b, a ∈ ys → b ∈ ys → leD a b = true → leD b a = true → a = b) (p : xs.Perm ys) (h : xs.Pairwise fun a b => leD a b = true) : xs = sortD ys :=
  List.Perm.eq_of_pairwise (le := fun a b => leD a b = true) (fun a b ha hb => an a b (p.mem_iff.mp ha) ((sortD_perm ys).mem_iff.mp hb)) h (sortD_pw ys) (p.trans (sortD_perm ys).symm)
theorem leD_str (x y : Str) : leD (.str x) (.str y) = decide (x.cps.toList ≤ y.cps.toList) := by
  show (!PySem.W.dataLt (toP (.str y)) (toP (.str x))) = _
  rw [toP, toP, PySem.W.dataLt_str, PySem.W.not_lt_str]
theorem leD_int (x y : Int) : leD (.int x) (.int y) = decide (x ≤ y) := by
  show (!PySem.W.dataLt (toP (.int y)) (toP (.int x))) = _
  rw [toP, toP, PySem.W.dataLt_int, PySem.W.not_lt_int]
theorem str_anti {x y : Str} (h : leD (.str x) (.str y) = true) (k : leD (.str y) (.str x) = true) : x = y := by
  rw [leD_str, decide_eq_true_eq] at h k
  exact PySem.W.str_of_cps (List.le_antisymm h k)
theorem int_anti {x y : Int} (h : leD (.int x) (.int y) = true) (k : leD (.int y) (.int x) = true) : x = y := by
  rw [leD_int, decide_eq_true_eq] at h k
  omega
section
variable {R : Nat} {C : Ctx} {X : Cx} {W : WX} {a b e : Expr} {f g : Env → Res FD} {pos p : Pos}
theorem each_rep {pins : List (Addr × Obj)} {σ : St} {H : Hp} {s : Shared} (hK : X.K = C.K) (I : Inv X pins σ H s) : ∀ {ds : List D} {vs : List V} {us : List Value}, RepL C H ds vs [] → Vals vs us → (∀ d ∈ ds, okP d = true) →
    PySem.W.EachIs (fun u (q : V × D) => RelV q.1 u ∧ Rep C H q.2 q.1 []) us (vs.zip ds) ∧ PySem.W.EachIs (fun u (q : V × D) => ∃ as, Reads s.heap u (toP q.2) as) us (vs.zip ds)
  | [], vs, us, r, rv, _ => by
    obtain ⟨rfl, _⟩ := r
    cases rv
    exact ⟨.nil, .nil⟩
  | d :: ds, vs, us, r, rv, ok => by
    obtain ⟨v, w, M1, M2, rfl, r1, r2, e⟩ := r
    obtain ⟨rfl, rfl⟩ := List.append_eq_nil_iff.mp e.symm
    cases rv with
    | cons q qs =>
      obtain ⟨h1, h2⟩ := each_rep hK I r2 qs fun z hz => ok z (List.mem_cons_of_mem _ hz)
      have hd := r1.dp (layOk (ok d List.mem_cons_self))
      rw [← hK] at hd
      obtain ⟨as, rd⟩ := Dp.reads I _ _ _ hd q
      exact ⟨.cons ⟨q, r1⟩ h1, .cons ⟨as, rd⟩ h2⟩
theorem each_back {H : Hp} : ∀ {us : List Value} {qs : List (V × D)}, PySem.W.EachIs (fun u (q : V × D) => RelV q.1 u ∧ Rep C H q.2 q.1 []) us qs → Vals (qs.map (·.1)) us ∧ RepL C H (qs.map (·.2)) (qs.map (·.1)) []
  | _, _, .nil => ⟨.nil, rfl, rfl⟩
  | _, _, .cons h t => by
    obtain ⟨a, b⟩ := each_back t
    exact ⟨.cons h.1 a, ⟨_, _, [], [], rfl, h.2, b, rfl⟩⟩
def sortF : List D → Res D
  | [.lst ds] => if sortOk ds = true then .ok (.lst (sortD ds)) else .bad
  | [.dK ks ds] => match strsD (ks.map kD) with
    | some xs => if xs.length < 64 then .ok (.lst (sortD (xs.map D.str))) else .bad
    | none => match intsD (ks.map kD) with
      | some xs => if xs.length < 64 then .ok (.lst (sortD (xs.map D.int))) else .bad
      | none => .bad
  | _ => .bad
theorem sortF_nx : ∀ ds c, sortF ds ≠ .ex c := fun ds c e => by
  unfold sortF at e
  repeat' (first | cases e | split at e)
def rSortL (C : Ctx) : List V → Hp → VK → Prop := fun vs H Q => ∃ a ws ds, vs = [.ref a] ∧ H a = some (.lst ws) ∧ RepL C H ds ws [] ∧ sortOk ds = true ∧ ∀ l ys, H l = none → RepL C H (sortD ds) ys [] → Q (.ref l) (upd H l (.lst ys))
theorem zip_fst {α β : Type} : ∀ {xs : List α} {ys : List β}, xs.length = ys.length → (xs.zip ys).map (·.1) = xs ∧ (xs.zip ys).map (·.2) = ys
  | [], [], _ => ⟨rfl, rfl⟩
  | x :: xs, y :: ys, h => by
    obtain ⟨a, b⟩ := zip_fst (xs := xs) (ys := ys) (by simpa using h)
    simp [a, b]
  | [], _ :: _, h => by simp at h
  | _ :: _, [], h => by simp at h
theorem b_sortL (F : Fx R C X W) : CallR X (.builtin "sorted") (rSortL C) := by
  intro pins s σ H xs us Q I r h
  obtain ⟨a, ws, ds, rfl, ea, rl, ok, q⟩ := h
  obtain ⟨u, rfl, ru⟩ := vals1 r
  cases ru
  simp only [sortOk, Bool.and_eq_true, Bool.or_eq_true] at ok
  obtain ⟨⟨⟨him, hok⟩, hal⟩, hsr⟩ := ok
  have hok' : ∀ d ∈ ds, okP d = true := List.all_eq_true.mp hok
  obtain ⟨its, rv, hl, hz⟩ := I.list (a := a) (xs := ws) (.inl (.inl ea))
  obtain ⟨e1, e2⟩ := each_rep F.hK I rl rv hok'
  have hlen : ws.length = ds.length := rl.length.symm
  obtain ⟨z1, z2⟩ := zip_fst hlen
  have zmem : ∀ q ∈ ws.zip ds, q.2 ∈ ds := fun q m => by
    have := List.mem_map_of_mem (f := (·.2)) m
    rwa [z2] at this
  have hmap : (ws.zip ds).map (fun q => toP q.2) = ds.map toP := by
    rw [← z2, List.map_map, z2]; rfl
  have hu := F.hu
  refine PySem.W.sorted_data (enc := fun q : V × D => toP q.2) hl.isList e1 e2 ?_ ?_ ?_ (fun q m => ?_) fun out ho eo => ?_
  · rw [hmap]
    intro x hx y hy
    obtain ⟨x', mx, rfl⟩ := List.mem_map.mp hx
    obtain ⟨y', my, rfl⟩ := List.mem_map.mp hy
    exact List.all_eq_true.mp (List.all_eq_true.mp hal x' mx) y' my
  · rw [hmap]
    rcases hsr with k | k
    · refine .inl fun x hx => ?_
      obtain ⟨x', mx, rfl⟩ := List.mem_map.mp hx
      have := List.all_eq_true.mp k x' mx
      split at this
      · rename_i e; exact ⟨_, _, e⟩
      · cases this
    · refine .inr fun x hx => ?_
      obtain ⟨x', mx, rfl⟩ := List.mem_map.mp hx
      have := List.all_eq_true.mp k x' mx
      split at this
      · cases this
      · cases this
      · rename_i n1 n2; exact ⟨n1, n2⟩
  · rw [List.length_zip, hlen, Nat.min_self]; rw [← hlen]; exact hz
  · have := SeqAt.depth_of_shaped (hok' _ (zmem q m))
    omega
  · obtain ⟨b1, b2⟩ := each_back eo
    have hs : ((ws.zip ds).mergeSort (PySem.W.dataLe false fun q : V × D => toP q.2)).map (·.2) = sortD ds := by
      have k := List.map_mergeSort (r := PySem.W.dataLe false fun q : V × D => toP q.2) (s := leD) (f := fun q : V × D => q.2) (l := ws.zip ds) (fun _ _ _ _ => rfl)
      rw [k, z2]
      rfl
    rw [hs] at b2
    have hlen2 := b1.length
    obtain ⟨ep, he'⟩ := PyProof.Rows.sortedAll_at s.heap its out.toArray
    refine ⟨.ref (s.heap.objs.size + 1), upd H (s.heap.objs.size + 1) (.lst _), I.laid (t' := s.toks) (fun _ _ => PyProof.Rows.sortedAll_old) (Nat.le_succ _) ⟨?_, out, ep, b1, he'⟩, rfl, q _ _ (I.hok.fresh (Nat.le_succ _)) b2⟩
    rw [hlen2, ho, List.length_zip, hlen, Nat.min_self, ← hlen]
    exact hz
/-! of a dict's keys -/
theorem pw_str {ys : List Str} (h : PyProof.Rows.sortedS ys = true) : (ys.map D.str).Pairwise fun a b => leD a b = true := by
  have tr : ∀ (x : Str) (r : List Str), PyProof.Rows.risingS x r = true → (x :: r).Pairwise fun a b => leD (.str a) (.str b) = true := by
    intro x r
    induction r generalizing x with
    | nil => intro _; exact List.pairwise_singleton _ _
    | cons y r ih =>
      intro h
      unfold PyProof.Rows.risingS at h
      rw [Bool.and_eq_true] at h
      have k := ih y h.2
      have xy : leD (.str x) (.str y) = true := by
        have h1 := h.1
        rw [PyProof.Rows.ltCps_eq] at h1
        rw [leD_str, ← PySem.W.not_lt_str]
        exact h1
      refine List.pairwise_cons.mpr ⟨fun z hz => ?_, k⟩
      rcases List.mem_cons.mp hz with rfl | hz
      · exact xy
      · exact leD_trans _ _ _ xy ((List.pairwise_cons.mp k).1 z hz)
  rw [List.pairwise_map]
  cases ys with
  | nil => exact List.Pairwise.nil
  | cons x r => exact tr x r h
theorem pw_int {ys : List Int} (h : ys.Pairwise (· ≤ ·)) : (ys.map D.int).Pairwise fun a b => leD a b = true := by
  rw [List.pairwise_map]
  exact h.imp fun q => by rw [leD_int]; exact decide_eq_true q
theorem strs_uniq {xs ys : List Str} (p : ys.Perm xs) (h : PyProof.Rows.sortedS ys = true) : ys.map D.str = sortD (xs.map D.str) := by
  refine sortD_uniq (fun a b ha hb h k => ?_) (p.map _) (pw_str h)
  obtain ⟨x, _, rfl⟩ := List.mem_map.mp ha
  obtain ⟨y, _, rfl⟩ := List.mem_map.mp hb
  rw [str_anti h k]
theorem ints_uniq {xs ys : List Int} (p : ys.Perm xs) (h : ys.Pairwise (· ≤ ·)) : ys.map D.int = sortD (xs.map D.int) := by
  refine sortD_uniq (fun a b ha hb h k => ?_) (p.map _) (pw_int h)
  obtain ⟨x, _, rfl⟩ := List.mem_map.mp ha
  obtain ⟨y, _, rfl⟩ := List.mem_map.mp hb
  rw [int_anti h k]
theorem strsD_keys : ∀ {ks : List Key} {xs : List Str}, strsD (ks.map kD) = some xs → ks = xs.map Sum.inr
  | [], xs, e => by cases e; rfl
  | .inl i :: ks, xs, e => by cases e
  | .inr x :: ks, xs, e => by
    have e : (strsD (ks.map kD)).map (x :: ·) = some xs := e
    cases e2 : strsD (ks.map kD) with
    | none => rw [e2] at e; cases e
    | some ys =>
      rw [e2] at e
      cases e
      rw [strsD_keys e2]
      rfl
theorem intsD_keys : ∀ {ks : List Key} {xs : List Int}, intsD (ks.map kD) = some xs → ks = xs.map Sum.inl
  | [], xs, e => by cases e; rfl
  | .inr i :: ks, xs, e => by cases e
  | .inl x :: ks, xs, e => by
    have e : (intsD (ks.map kD)).map (x :: ·) = some xs := e
    cases e2 : intsD (ks.map kD) with
    | none => rw [e2] at e; cases e
    | some ys =>
      rw [e2] at e
      cases e
      rw [intsD_keys e2]
      rfl
theorem rep_strs {H : Hp} : ∀ xs : List Str, RepL C H (xs.map D.str) (xs.map V.str) []
  | [] => ⟨rfl, rfl⟩
  | x :: xs => ⟨_, _, [], [], rfl, ⟨rfl, rfl⟩, rep_strs xs, rfl⟩
theorem rep_ints {H : Hp} : ∀ xs : List Int, RepL C H (xs.map D.int) (xs.map V.int) []
  | [] => ⟨rfl, rfl⟩
  | x :: xs => ⟨_, _, [], [], rfl, ⟨rfl, rfl⟩, rep_ints xs, rfl⟩
theorem small64 {n : Nat} (h : n < 64) : n ≤ sizeLine := by rw [sizeLine_eq]; omega
theorem sortOk_imm {ds : List D} (h : sortOk ds = true) : immL ds = true := by
  simp only [sortOk, Bool.and_eq_true] at h
  exact h.1.1.1
theorem b_sorted (F : Fx R C X W) : CallR X (.builtin "sorted") (SpB C sortF) := by
  refine callTo ((b_sortL F).or ((call_sortedD F.calm).or (call_sortedDI F.calm))) fun vs H Q h => ?_
  obtain ⟨ds, M, d, r, e, q⟩ := h.ok
  unfold sortF at e
  split at e
  · obtain ⟨v, rfl, r1⟩ := rep1 r
    split at e
    · rename_i ok
      cases e
      obtain ⟨a, ws, M', rfl, ea, z, rl, _⟩ := r1
      exact .inl ⟨a, ws, _, rfl, ea, rl.nil0 (sortOk_imm ok), ok, fun l ys hl ry => q _ _ (lst_new hl (by rw [(sortD_perm _).length_eq]; exact z) ry)⟩
    · cases e
  · obtain ⟨v, rfl, r1⟩ := rep1 r
    obtain ⟨a, kvs, M', rfl, e1, rfl, z, r2, _⟩ := r1
    split at e
    · rename_i xs ex
      split at e
      · rename_i h64
        cases e
        refine .inr (.inl ⟨a, kvs, xs, rfl, e1, strsD_keys ex, h64, fun ys p pm so hp => q _ _ ?_⟩)
        rw [← strs_uniq pm so]
        exact lst_new hp (by rw [List.length_map, pm.length_eq]; exact small64 h64) (rep_strs ys)
      · cases e
    · split at e
      · rename_i xs ex
        split at e
        · rename_i h64
          cases e
          refine .inr (.inr ⟨a, kvs, xs, rfl, e1, intsD_keys ex, h64, fun ys p pm so hp => q _ _ ?_⟩)
          rw [← ints_uniq pm so]
          exact lst_new hp (by rw [List.length_map, pm.length_eq]; exact small64 h64) (rep_ints ys)
        · cases e
      · cases e
  · cases e
end
end DL
/-! DL13: methods of texts, lists, dicts; dict(pairs); chains; op= ; several names at once. -/
namespace DL
open PySem L2

/-- two operands, the first one looked at ahead of the second -/
def bind2p (f g : Env → Res FD) (pre : D → Bool) (k : FD → FD → Res FD) : Env → Res FD := fun ρ => (f ρ).bind fun x => if pre x.2 = true then (g ρ).bind fun y => k x y else .bad
section
variable {R : Nat} {C : Ctx} {X : Cx} {W : WX} {a b c e : Expr} {f g h : Env → Res FD} {fa : Env → Res AD} {pos p apos cpos : Pos}
theorem rv2p {r : V → V → Hp → VK → Prop} {mid : V → Hp → Prop} {pre : D → Bool} {k : FD → FD → Res FD} (hk : Op2 C r k) (hx : ∀ x y c, k x y ≠ .ex c) (hm : ∀ H x d M, Rep C H d x M → pre d = true → mid x H) {σ : St} {H : Hp} {Q : VK} (q : RV C W (bind2p f g pre k) σ H Q) :
    RV C W f σ H fun x H1 => mid x H1 ∧ RV C W g σ H1 fun y H2 => r x y H2 Q := by
  obtain ⟨ρ, P, E, q⟩ := q
  refine ⟨ρ, P, E, ?_⟩
  unfold bind2p at q
  cases e : f ρ with
  | bad => rw [e] at q; exact q
  | ex c => rw [e] at q; exact q
  | ok fx =>
    rw [e] at q
    simp only [Res.ok_bind] at q
    intro x H1 vo
    obtain ⟨s1, M, r1, f1⟩ := id vo
    cases ep : pre fx.2 with
    | false => rw [ep] at q; exact q.elim
    | true =>
      rw [ep] at q
      simp only [if_true] at q
      refine ⟨hm _ _ _ _ r1 ep, ?_⟩
      have E1 := E.same s1
      refine ⟨ρ, P, E1, ?_⟩
      cases e2 : g ρ with
      | bad => rw [e2] at q; exact q
      | ex c => rw [e2] at q; exact fun H' s' => q H' (s1.trans s')
      | ok fy =>
        rw [e2] at q
        simp only [Res.ok_bind] at q
        intro y H2 ⟨s2, N, r2, f2⟩
        cases ek : k fx fy with
        | bad => rw [ek] at q; exact q.elim
        | ex c => exact absurd ek (hx _ _ c)
        | ok z =>
          rw [ek] at q
          have s12 := s1.trans s2
          refine hk H2 x y fx fy M N Q z (r1.same s2) r2 ek ⟨fun v H' n ez => q v H' ?_, fun v L rz sub ez => q v H2 ⟨s12, L, rz, ?_⟩⟩
          · obtain ⟨fl, z⟩ := z
            cases ez
            exact (n.early s12).vok
          · rw [ez]
            exact FlOk.up rz ((f1.on s2).sub sub)

theorem RV.mono {σ : St} {H : Hp} {Q Q' : VK} (i : ∀ v H', Q v H' → Q' v H') (q : RV C W f σ H Q) : RV C W f σ H Q' := by
  obtain ⟨ρ, P, E, q⟩ := q
  refine ⟨ρ, P, E, ?_⟩
  cases e : f ρ with
  | bad => rw [e] at q; exact q
  | ex c => rw [e] at q; exact q
  | ok fx => rw [e] at q; exact fun v H' vo => i _ _ (q v H' vo)

/-! ### join -/
def isStrD : D → Bool
  | .str _ => true
  | _ => false
def joinK : FD → FD → Res FD := fun x y => match x.2, itemsD y.2 with
  | .str s, some ds => match strsD ds with
    | some ys => if (ys.map (·.length)).sum + ys.length * s.length ≤ 16777216 then .ok (.fr, .str (Txt.join s ys)) else .bad
    | none => .bad
  | _, _ => .bad
theorem joinK_nx : ∀ x y c, joinK x y ≠ .ex c := fun x y c e => by
  unfold joinK at e
  repeat' (first | cases e | split at e)
theorem joinK_op (K : PySem.W.Frag) : Op2 C (fun x y H Q => ∃ a p, ∃ ys : List Str, x = .str a ∧ [y] = [V.ref p] ∧ (SqL K H p (ys.map V.str) ∨ SqT K H p (ys.map V.str)) ∧ (ys.map (·.length)).sum + ys.length * a.length ≤ 16777216 ∧ Q (.str (Txt.join a ys)) H) joinK := by
  intro H x y fx fy M N Q z r1 r2 e ⟨q, _⟩
  unfold joinK at e
  split at e
  · rename_i s ds e1 e2
    split at e
    · rename_i ys e3
      split at e
      · rename_i hz
        cases e
        rw [e1] at r1
        obtain ⟨rfl, _⟩ := r1
        obtain ⟨p, vs, L, rfl, sq, rl, _, _⟩ := seq_rep K r2 e2
        rw [strs_rep rl e3] at sq
        exact ⟨s, p, ys, rfl, rfl, sq, hz, q _ H str_new rfl⟩
      · cases e
    · cases e
  · cases e
theorem pd_join (F : Fx R C X W) (ha : PE X a (RV C W f)) (hb : PE X b (RV C W g)) (hs : starEach [b] X.env = [(false, eval b X.env)] := by rfl) (hbase : attributeBase a "join" X.env (eval a X.env) = eval a X.env := by rfl) (hline : (apos.endLine == pos.line) = true := by rfl) :
    PE X (.Call (.Attribute a "join" apos) [b] [] pos) (RV C W (bind2p f g isStrD joinK)) :=
  (pe_join ha hb hs hbase hline).imp fun σ H Q q => rv2p (joinK_op X.K) joinK_nx (fun H x d M r e => by cases d <;> first | (cases e; done) | exact ⟨_, r.1⟩) q

/-! ### index -/
def isLstD : D → Bool
  | .lst _ => true
  | _ => false
def indexK : FD → FD → Res FD := fun x y => match x.2 with
  | .lst ds => if (okP (.lst ds) && okP y.2) = true then match ds.findIdx? (fun z => eqvD z y.2) with
    | some j => .ok (.fr, .int (j : Nat))
    | none => .bad
    else .bad
  | _ => .bad
theorem indexK_nx : ∀ x y c, indexK x y ≠ .ex c := fun x y c e => by
  unfold indexK at e
  repeat' (first | cases e | split at e)
theorem indexK_op (hK : X.K = C.K) : Op2 C (fun x y H Q => rIndexD X.K x [y] H Q) indexK := by
  intro H x y fx fy M N Q z r1 r2 e ⟨q, _⟩
  unfold indexK at e
  split at e
  · rename_i ds ed
    split at e
    · rename_i ok
      rw [Bool.and_eq_true] at ok
      split at e
      · rename_i j ej
        cases e
        rw [ed] at r1
        have d1 := r1.dp (layOk ok.1)
        have d2 := r2.dp (layOk ok.2)
        rw [← hK] at d1 d2
        obtain ⟨a, vs, _, rfl, _⟩ := id r1
        rw [toP, toPL_map] at d1
        obtain ⟨lt, at_, no⟩ := List.findIdx?_eq_some_iff_getElem.mp ej
        refine ⟨a, y, toP fy.2, ds.map toP, j, toP ds[j], rfl, rfl, d1, d2, by rw [← toPL_map]; have := ok.1; unfold okP at this; rw [toP] at this; exact this, ok.2, by rw [List.getElem?_map, List.getElem?_eq_getElem lt]; rfl, at_, fun m z' hm hz => ?_, q _ H int_new rfl⟩
        rw [List.getElem?_map] at hz
        have hml : m < ds.length := Nat.lt_trans hm lt
        rw [List.getElem?_eq_getElem hml] at hz
        cases hz
        have := no m hm
        exact Bool.eq_false_iff.mpr this
      · cases e
    · cases e
  · cases e
theorem rv_index {σ : St} {H : Hp} {Q : VK} {K : PySem.W.Frag} {to te : TE} (h : (to σ H fun x H1 => tyV K "list" x H1 ∧ te σ H1 fun y H2 => rIndexD K x [y] H2 Q)) : tBM K "list" (rIndexD K) to (tCons te tNil) σ H Q := h
theorem pd_index (F : Fx R C X W) (ha : PE X a (RV C W f)) (hb : PE X b (RV C W g)) (hbase : attributeBase a "index" X.env (eval a X.env) = eval a X.env := by rfl)
    (hfew : ((backTo cpos (starEach [b] X.env)).all (fun x => !x.1) && (backToKw cpos (keywordEach [] X.env)).all (fun x => x.1.isSome)
      && decide ([b].length + ([] : List Keyword).length + (if ([] : List Keyword).isEmpty then 0 else 1) < 30)) = true := by rfl)
    (hline : (apos.endLine == cpos.line) = true := by rfl) (hs : starEach [b] X.env = (false, eval b X.env) :: starEach [] X.env := by rfl) (hplain : (backTo cpos (starEach [] X.env)).any (·.1) = false := by rfl) :
    PE X (.Call (.Attribute a "index" apos) [b] [] cpos) (RV C W (bind2p f g isLstD indexK)) :=
  (pe_bm PySem.F.plainAttrs_list PySem.F.slot_list_index PySem.F.type_list_index (mt_indexD (by have := F.hu; omega)) ha (pa_cons hb pa_nil hs) hbase hfew hline hs hplain).imp fun σ H Q q =>
    rv_index (rv2p (indexK_op F.hK) indexK_nx (fun H x d M r e => by
      cases d <;> first | (cases e; done) | skip
      obtain ⟨a, vs, _, rfl, e1, _⟩ := r
      exact .inl ⟨rfl, vs, .inl (.inl e1)⟩) q)

/-! ### d.get(k) -/
def isDictD : D → Bool
  | .dK _ _ => true
  | .dT _ _ => true
  | _ => false
def getK : FD → FD → Res FD := fun x y => match dGet x.2 y.2 with
  | some (some d) => .ok (up x.1 d)
  | some none => .ok (.fr, .non)
  | none => .bad
theorem getK_nx : ∀ x y c, getK x y ≠ .ex c := fun x y c e => by
  unfold getK at e
  repeat' (first | cases e | split at e)
theorem isD_rep {H : Hp} {x : V} {d : D} {M : List Addr} (r : Rep C H d x M) (e : isDictD d = true) : ∃ a, x = .ref a ∧ IsD H a := by
  cases d <;> first | (cases e; done) | skip
  · obtain ⟨a, kvs, _, rfl, e1, _⟩ := r
    exact ⟨a, rfl, .inl ⟨kvs, e1⟩⟩
  · obtain ⟨a, kvs, _, rfl, e1, _⟩ := r
    exact ⟨a, rfl, .inr ⟨kvs, e1⟩⟩
theorem getK_op : Op2 C (fun x y H Q => ∀ a, x = .ref a → ∃ o, DGet H a y o ∧ Q (o.getD .non) H) getK := by
  intro H x y fx fy M N Q z r1 r2 e ⟨q, q'⟩ a ea
  unfold getK at e
  cases eg : dGet fx.2 fy.2 with
  | none => rw [eg] at e; cases e
  | some o =>
    obtain ⟨a', ov, rfl, g, h0, h1⟩ := dGet_ok r1 r2 eg
    cases ea
    refine ⟨ov, g, ?_⟩
    rw [eg] at e
    cases o with
    | none => cases e; rw [h0 rfl]; exact q _ H non_new rfl
    | some d =>
      cases e
      obtain ⟨u, L, rfl, rd, sub⟩ := h1 d rfl
      have hd : (up fx.1 d).2 = d := rfl
      exact q' u L rd sub rfl
theorem pd_get (F : Fx R C X W) (ha : PE X a (RV C W f)) (hb : PE X b (RV C W g)) (m : M1 X a "get" apos b cpos := by exact ⟨rfl, rfl, rfl, rfl⟩) : PE X (.Call (.Attribute a "get" apos) [b] [] cpos) (RV C W (bind2p f g isDictD getK)) :=
  (pe_dget1 (by have := F.hu; omega) ha hb m).imp fun σ H Q q => by
    refine RV.mono (fun x H1 ⟨⟨a, ea, d⟩, k⟩ => ⟨a, ea, d, RV.mono (fun y H2 z => z a ea) k⟩) (rv2p (mid := fun x H => ∃ a, x = .ref a ∧ IsD H a) getK_op getK_nx (fun H x d M r e => isD_rep r e) q)

/-! ### dict(pairs) -/
def pairsD : List D → Option (List (Key × D))
  | [] => some []
  | .tup [k, v] :: ds => match keyOf k, pairsD ds with
    | some q, some r => if imm v = true then some ((q, v) :: r) else none
    | _, _ => none
  | _ => none
def dictOf (kvs : List (Key × D)) : List Key × List D := kvs.foldl (fun acc kv => putD acc.1 acc.2 kv.1 kv.2) ([], [])
def dictF : List D → Res D
  | [.lst ds] => match pairsD ds with
    | some kvs => .ok (.dK (dictOf kvs).1 (dictOf kvs).2)
    | none => .bad
  | _ => .bad
theorem dictF_nx : ∀ ds c, dictF ds ≠ .ex c := fun ds c e => by
  unfold dictF at e
  repeat' (first | cases e | split at e)
theorem pairs_rep (K : PySem.W.Frag) {H : Hp} : ∀ {ds : List D} {vs : List V} {M : List Addr} {kds : List (Key × D)}, RepL C H ds vs M → pairsD ds = some kds →
    ∃ ps kvs, vs = ps.map V.ref ∧ Paired (fun p (kv : Key × V) => SqT K H p [kV kv.1, kv.2]) ps kvs ∧ kvs.map (·.1) = kds.map (·.1) ∧ RepL C H (kds.map (·.2)) (kvs.map (·.2)) []
  | [], vs, M, kds, r, e => by
    cases e
    obtain ⟨rfl, _⟩ := r
    exact ⟨[], [], rfl, .nil, rfl, rfl, rfl⟩
  | d :: ds, vs, M, kds, r, e => by
    obtain ⟨v, w, M1, M2, rfl, r1, r2, rfl⟩ := r
    unfold pairsD at e
    split at e
    · rename_i heq; cases heq
    · rename_i k v' ds' heq
      cases heq
      split at e
      · rename_i q rr ek er
        split at e
        · rename_i hi
          cases e
          obtain ⟨ps, kvs, rfl, h1, h2, h3⟩ := pairs_rep K r2 er
          obtain ⟨a, us, rfl, ea, _, ru⟩ := r1
          obtain ⟨x, y, N, N', rfl, rx, ry⟩ := rep2 ru
          have := ry.imm hi
          subst this
          refine ⟨a :: ps, (q, y) :: kvs, rfl, .cons (.inl (.inl ?_)) h1, by simp [h2], ⟨y, _, [], [], rfl, ry, h3, rfl⟩⟩
          rw [key_rep rx ek] at ea
          exact ea
        · cases e
      · cases e
    · cases e
theorem merge_rep {H : Hp} : ∀ (kds : List (Key × D)) (kvs acc : List (Key × V)) (as : List D), kvs.map (·.1) = kds.map (·.1) → RepL C H (kds.map (·.2)) (kvs.map (·.2)) [] → RepL C H as (acc.map (·.2)) [] →
    (kds.foldl (fun acc kv => putD acc.1 acc.2 kv.1 kv.2) (acc.map (·.1), as)).1 = (mergeK acc kvs).map (·.1) ∧ RepL C H (kds.foldl (fun acc kv => putD acc.1 acc.2 kv.1 kv.2) (acc.map (·.1), as)).2 ((mergeK acc kvs).map (·.2)) []
  | [], kvs, acc, as, e, r, ra => by
    have : kvs = [] := by simpa using e
    subst this
    exact ⟨rfl, ra⟩
  | (k, d) :: kds, [], acc, as, e, r, ra => by simp at e
  | (k, d) :: kds, (k', v) :: kvs, acc, as, e, r, ra => by
    obtain ⟨v', w, M1, M2, e1, r1, r2, e2⟩ := r
    cases e1
    obtain ⟨rfl, rfl⟩ := List.append_eq_nil_iff.mp e2.symm
    simp only [List.map_cons, List.cons.injEq] at e
    obtain ⟨rfl, e⟩ := e
    have step : (putD (acc.map (·.1)) as k' d).1 = (putK acc k' v).map (·.1) ∧ RepL C H (putD (acc.map (·.1)) as k' d).2 ((putK acc k' v).map (·.2)) [] := by
      unfold putD putK
      by_cases hm : k' ∈ acc.map (·.1)
      · rw [if_pos hm, if_pos ((any_mem acc k').mpr hm)]
        refine ⟨(repl_keys k' v acc).symm, ?_⟩
        obtain ⟨M', q, sub⟩ := repl_rep (k := k') r1 ra
        have : M' = [] := List.eq_nil_of_sublist_nil sub
        rw [this] at q
        exact q
      · rw [if_neg hm, if_neg (fun z => hm ((any_mem acc k').mp z))]
        refine ⟨by simp, ?_⟩
        rw [List.map_append]
        exact ra.append (RepL.one r1)
    have ih := merge_rep kds kvs (putK acc k' v) (putD (acc.map (·.1)) as k' d).2 e r2 step.2
    rw [← step.1] at ih
    exact ih
theorem b_dict (F : Fx R C X W) : CallR X (.type "dict") (SpB C dictF) := by
  refine callTo (call_dictP F.calm) fun vs H Q h => ?_
  obtain ⟨ds, M, d, r, e, q⟩ := h.ok
  unfold dictF at e
  split at e
  · obtain ⟨v, rfl, r1⟩ := rep1 r
    split at e
    · rename_i kds ep
      cases e
      obtain ⟨a, ws, _, rfl, ea, z, rl, _⟩ := r1
      obtain ⟨ps, kvs, rfl, h1, h2, h3⟩ := pairs_rep X.K rl ep
      refine ⟨a, ps, kvs, rfl, .inl (.inl ea), h1, fun p hp => q _ _ ?_⟩
      obtain ⟨m1, m2⟩ := merge_rep kds kvs [] [] h2 h3 ⟨rfl, rfl⟩
      have hl : (mergeK [] kvs).length ≤ sizeLine := by
        refine Nat.le_trans (length_mergeK kvs []) ?_
        have e1 := congrArg List.length h2
        have e2 := rl.length
        have e3 := Paired.length h1
        simp at e1 e2
        simp
        omega
      have s : Same H (upd H p (.dK (mergeK [] kvs))) := fun b o e => by rw [upd_ne (ne_of_none e hp)]; exact e
      have ml := m2.length
      refine ⟨s, [p], ⟨p, mergeK [] kvs, [], rfl, .inl upd_same, m1, by rw [List.length_map] at ml; rw [show (dictOf kds).2.length = _ from ml]; exact hl, m2.same s, rfl⟩, by simp, fun a m => ?_, fun a m => ?_⟩
      · obtain rfl : a = p := by simpa using m
        exact hp
      · obtain rfl : a = p := by simpa using m
        rw [upd_same]; trivial
    · cases e
  · cases e
end
end DL
/-! DL14: chains of comparisons; op=; several names at once; enumerate; dicts walked. -/
namespace DL
open PySem L2
section
variable {R : Nat} {C : Ctx} {X : Cx} {W : WX} {a b c e : Expr} {f g h : Env → Res FD} {fa : Env → Res AD} {pos p apos cpos tpos : Pos}

/-! ### a <= b <= c -/
def chainF (f g h : Env → Res FD) (q q' : Int → Int → Bool) : Env → Res Bool := fun ρ => (f ρ).bind fun x => (g ρ).bind fun y => match x.2, y.2 with
  | .int i, .int j => if q i j = true then (h ρ).bind fun z => match z.2 with
    | .int l => .ok (q' j l)
    | _ => .bad
    else .ok false
  | _, _ => .bad
theorem chain_core {q q' : Int → Int → Bool} {σ : St} {H : Hp} {Qb : Bool → Hp → Prop} {ρ : Env} {P : List Pt} (E : EnvOk C P H σ ρ) (hh : match chainF f g h q q' ρ with
    | .ok k => ∀ H', Same H H' → Qb k H'
    | .ex c => ∀ H', Same H H' → W (.ref (C.cls c)) none σ H'
    | .bad => False) : tChain (rI0 fun i j => .bl (q i j)) (rI0 fun i j => .bl (q' i j)) (RV C W f) (RV C W g) (RV C W h) σ H fun z H' => ∃ k, z = .bl k ∧ Qb k H' := by
  refine ⟨ρ, P, E, ?_⟩
  unfold chainF at hh
  cases e1 : f ρ with
  | bad => rw [e1] at hh; exact hh
  | ex c => rw [e1] at hh; exact hh
  | ok fx =>
    rw [e1] at hh
    simp only [Res.ok_bind] at hh
    intro x H1 ⟨s1, M, r1, f1⟩
    refine ⟨ρ, P, E.same s1, ?_⟩
    cases e2 : g ρ with
    | bad => rw [e2] at hh; exact hh
    | ex c => rw [e2] at hh; exact fun H' s' => hh H' (s1.trans s')
    | ok fy =>
      rw [e2] at hh
      simp only [Res.ok_bind] at hh
      intro y H2 ⟨s2, N, r2, f2⟩
      obtain ⟨fl, dx⟩ := fx
      obtain ⟨fl', dy⟩ := fy
      cases dx <;> first | exact hh.elim | skip
      cases dy <;> first | exact hh.elim | skip
      rename_i i j
      have s12 := s1.trans s2
      refine ⟨i, j, r1.1, r2.1, q i j, rfl, ?_⟩
      dsimp only at hh
      cases hq : q i j with
      | false =>
        rw [hq] at hh
        simp only [Bool.false_eq_true, if_false] at hh ⊢
        exact ⟨false, rfl, hh H2 s12⟩
      | true =>
        rw [hq] at hh
        simp only [if_true] at hh ⊢
        refine ⟨ρ, P, E.same s12, ?_⟩
        cases e3 : h ρ with
        | bad => rw [e3] at hh; exact hh
        | ex c => rw [e3] at hh; exact fun H' s' => hh H' (s12.trans s')
        | ok fz =>
          rw [e3] at hh
          simp only [Res.ok_bind] at hh
          intro z H3 ⟨s3, L, r3, f3⟩
          obtain ⟨fl3, dz⟩ := fz
          cases dz <;> first | exact hh.elim | skip
          rename_i l
          exact ⟨j, l, r2.1, r3.1, _, rfl, hh H3 (s12.trans s3)⟩
def boolF (t : Env → Res Bool) : Env → Res FD := fun ρ => (t ρ).bind fun k => .ok (.fr, .bl k)
theorem td_chain {op op' : CmpOp} {q q' : Int → Int → Bool} (ho : OpR X (compareOp op) (rI0 fun i j => .bl (q i j))) (ho' : OpR X (compareOp op') (rI0 fun i j => .bl (q' i j))) (ha : PE X a (RV C W f)) (hb : PE X b (RV C W g)) (hc : PE X c (RV C W h))
    (hm : lastMarks [op, op'] [b, c] = false := by with_unfolding_all rfl) : PT X (.Compare a [op, op'] [b, c] pos) (RT C W (chainF f g h q q')) :=
  (pt_chain ho ho' ha hb hc hm).imp fun σ H Q ⟨ρ, P, E, hh⟩ => chain_core E hh
theorem chain_mono {r r' : R2} {σ : St} {H : Hp} {Q Q' : VK} (i : ∀ z H', Q z H' → Q' z H') (hr : ∀ x y H (A B : VK), (∀ z H', A z H' → B z H') → r x y H A → r x y H B) (hr' : ∀ x y H (A B : VK), (∀ z H', A z H' → B z H') → r' x y H A → r' x y H B)
    (q : tChain r r' (RV C W f) (RV C W g) (RV C W h) σ H Q) : tChain r r' (RV C W f) (RV C W g) (RV C W h) σ H Q' :=
  RV.mono (fun x H1 q => RV.mono (fun y H2 q => hr _ _ _ _ _ (fun z H3 ⟨k, e, q⟩ => ⟨k, e, by
    cases k with
    | true => exact RV.mono (fun w H4 q => hr' _ _ _ _ _ i q) q
    | false => exact i _ _ q⟩) q) q) q
theorem rI0_mono {G : Int → Int → V} (x y : V) (H : Hp) (A B : VK) (i : ∀ z H', A z H' → B z H') (q : rI0 G x y H A) : rI0 G x y H B := by
  obtain ⟨m, n, e, e', q⟩ := q
  exact ⟨m, n, e, e', i _ _ q⟩
theorem pd_chain {op op' : CmpOp} {q q' : Int → Int → Bool} (ho : OpR X (compareOp op) (rI0 fun i j => .bl (q i j))) (ho' : OpR X (compareOp op') (rI0 fun i j => .bl (q' i j))) (ha : PE X a (RV C W f)) (hb : PE X b (RV C W g)) (hc : PE X c (RV C W h))
    (hm : lastMarks [op, op'] [b, c] = false := by with_unfolding_all rfl) : PE X (.Compare a [op, op'] [b, c] pos) (RV C W (boolF (chainF f g h q q'))) :=
  (pe_chain ho ho' ha hb hc hm).imp fun σ H Q ⟨ρ, P, E, hh⟩ => by
    refine chain_mono (Q := fun z H' => ∃ k, z = .bl k ∧ Q (.bl k) H') (fun z H' ⟨k, e, q⟩ => by rw [e]; exact q) rI0_mono rI0_mono (chain_core (Qb := fun k H' => Q (.bl k) H') E ?_)
    unfold boolF at hh
    cases e : chainF f g h q q' ρ with
    | bad => rw [e] at hh; exact hh
    | ex c => rw [e] at hh; exact hh
    | ok k =>
      rw [e] at hh
      exact fun H' s => hh (.bl k) H' ⟨s, [], ⟨rfl, rfl⟩, .nil⟩

/-! ### x += e, ints -/
def dAug (i : Nat) (f : Env → Res FD) (k : Int → Int → Int) : TD := fun DD ρ => match ρ[i]? with
  | some (some (_, .int m)) => match f ρ with
    | .ok x => match x.2 with
      | .int n => DD.nx (ρ.set i (some (.loc, .int (k m n))))
      | _ => False
    | .ex c => DD.ex c ρ
    | .bad => False
  | _ => False
theorem ds_aug {op : Operator} {k : Int → Int → Int} (i : Nat) {x : Str} (F : Fx R C X W) (ho : PIp X op (rI0 fun m n => .int (k m n))) (he : PE X e (RV C W f)) (hN : X.N[i]? = some x := by rfl) (hx : Loc X.env.scope x := by first | exact .inl rfl | exact .inr rfl)
    (hf : X.fn x = true ∨ X.env.scope.names.lookup x = some .local := by first | exact .inl rfl | exact .inr rfl | assumption) : PS X (.AugAssign (.Name x p) op e pos) (RS C W (dAug i f k)) :=
  (ps_aug F.nd hN hx he ho hf).imp fun D σ H ⟨ρ, P, DD, E, I, hh⟩ => by
    unfold dAug at hh
    split at hh
    · rename_i o m ei
      obtain ⟨v, M, e1, r, _⟩ := E.at_ i o _ ei
      refine ⟨v, e1, ρ, P, E, ?_⟩
      cases ef : f ρ with
      | bad => rw [ef] at hh; exact hh
      | ex c => rw [ef] at hh; exact fun H' s => I.ex σ H' ρ c (E.same s) hh
      | ok y =>
        rw [ef] at hh
        obtain ⟨fl, d⟩ := y
        dsimp only at hh
        intro w H1 ⟨s1, N, r1, f1⟩
        cases d <;> first | exact hh.elim | skip
        rename_i n
        refine ⟨m, n, r.1, r1.1, I.nx _ _ _ ?_ hh⟩
        exact assign_own (fd := (.fr, .int (k m n))) (E.same s1) ⟨Same.refl H1, [], ⟨rfl, rfl⟩, .nil⟩ (List.getElem?_eq_some_iff.mp ei).1 (.inl rfl)
    · exact hh.elim

theorem RL.mono {σ : St} {H : Hp} {Q Q' : List V → Hp → Prop} (i : ∀ v H', Q v H' → Q' v H') (q : RL C W fa σ H Q) : RL C W fa σ H Q' := by
  obtain ⟨ρ, P, E, q⟩ := q
  refine ⟨ρ, P, E, ?_⟩
  cases e : fa ρ with
  | bad => rw [e] at q; exact q
  | ex c => rw [e] at q; exact q
  | ok fx => rw [e] at q; exact fun v H' s vo => i _ _ (q v H' s vo)
/-! ### a, b = x, y -/
def dPar (is : List Nat) (fa : Env → Res AD) : TD := fun DD ρ => match fa ρ with
  | .ok y => y.1 = true ∧ match asgL .loc (is.map Tg.nm) y.2 ρ with
    | some ρ' => DD.nx ρ'
    | none => False
  | .ex c => DD.ex c ρ
  | .bad => False
theorem rl_par {is : List Nat} {D : Ends} {σ : St} {H : Hp} {K : PySem.W.Frag} (hh : RS C W (dPar is fa) D σ H) : RL C W fa σ H fun vs H1 => vs.length = is.length ∧ gOfL K (is.map Tg.nm) vs σ H1 D.nx := by
  obtain ⟨ρ, P, DD, E, I, hh⟩ := hh
  refine ⟨ρ, P, E, ?_⟩
  unfold dPar at hh
  cases e : fa ρ with
  | bad => rw [e] at hh; exact hh
  | ex c => rw [e] at hh; exact fun H' s => I.ex σ H' ρ c (E.same s) hh
  | ok y =>
    rw [e] at hh
    obtain ⟨hb, hh⟩ := hh
    intro vs H1 s1 ⟨M, r, q⟩
    obtain ⟨nd, nw, mu⟩ := q hb
    cases ea : asgL .loc (is.map Tg.nm) y.2 ρ with
    | none => rw [ea] at hh; exact hh.elim
    | some ρ' =>
      rw [ea] at hh
      have c := cnd_of (fl := .fr) E s1 (show FlOk C H σ ρ H1 .fr M from ⟨nd, nw, mu⟩) (.inl rfl)
      have k := asgL_ok K .loc (is.map Tg.nm) y.2 vs M σ ρ ρ' D.nx ea (E.same s1) r c fun σ' E' _ _ _ => I.nx σ' H1 ρ' E' hh
      rw [List.length_map] at k
      exact k
theorem ds_par {i j : Nat} {x y : Str} {px py pt : Pos} {kt k2 pt2} (F : Fx R C X W) (hi : X.N[i]? = some x) (hj : X.N[j]? = some y) (hij : i ≠ j)
    (hx : X.env.scope.names.lookup x = some .local) (hy : X.env.scope.names.lookup y = some .local) (ha : PA X [a, b] (RL C W fa))
    (hw : swappedStores [.Tuple [.Name x px, .Name y py] kt pt] (.Tuple [a, b] k2 pt2) X.env = pure (some [x, y]))
    (hs : swapsWithSole [.Tuple [.Name x px, .Name y py] kt pt] (.Tuple [a, b] k2 pt2) pos.line X.env = pure false := by rfl) :
    PS X (.Assign [.Tuple [.Name x px, .Name y py] kt pt] (.Tuple [a, b] k2 pt2) pos) (RS C W (dPar [i, j] fa)) :=
  (ps_par F.calm F.nd hi hj hij hx hy ha hw hs).imp fun D σ H hh => by
    refine RL.mono (fun vs H1 ⟨hl, q⟩ => ?_) (rl_par (K := X.K) hh)
    obtain ⟨v, _, rfl, w, _, rfl, rfl, q⟩ := q
    exact ⟨v, w, rfl, q⟩
theorem ds_par3 {i j l : Nat} {x y z : Str} {px py pz pt : Pos} {kt k2 pt2} (F : Fx R C X W) (hi : X.N[i]? = some x) (hj : X.N[j]? = some y) (hl : X.N[l]? = some z) (hij : i ≠ j) (hil : i ≠ l) (hjl : j ≠ l)
    (hx : X.env.scope.names.lookup x = some .local) (hy : X.env.scope.names.lookup y = some .local) (hz : X.env.scope.names.lookup z = some .local) (ha : PA X [a, b, c] (RL C W fa))
    (hw : swappedStores [.Tuple [.Name x px, .Name y py, .Name z pz] kt pt] (.Tuple [a, b, c] k2 pt2) X.env = pure (some [x, y, z]))
    (hs : swapsWithSole [.Tuple [.Name x px, .Name y py, .Name z pz] kt pt] (.Tuple [a, b, c] k2 pt2) pos.line X.env = pure false := by rfl) :
    PS X (.Assign [.Tuple [.Name x px, .Name y py, .Name z pz] kt pt] (.Tuple [a, b, c] k2 pt2) pos) (RS C W (dPar [i, j, l] fa)) :=
  (ps_par3 F.calm F.nd hi hj hl hij hil hjl hx hy hz ha hw hs).imp fun D σ H hh => by
    refine RL.mono (fun vs H1 ⟨hl, q⟩ => ?_) (rl_par (K := X.K) hh)
    obtain ⟨u, _, rfl, v, _, rfl, w, _, rfl, rfl, q⟩ := q
    exact ⟨u, v, w, rfl, q⟩

/-! ### enumerate(xs) -/
def enumD (ds : List D) : List D := (List.range ds.length).zip ds |>.map fun q => .tup [.int (q.1 : Nat), q.2]
def enumI (f : Env → Res FD) : Env → Res ID := fun ρ => (f ρ).bind fun x => match x.2 with
  | .lst ds => .ok ([x], enumD ds)
  | _ => .bad
theorem enumD_at {ds : List D} {i : Nat} {d : D} (e : (enumD ds)[i]? = some d) : ∃ d', ds[i]? = some d' ∧ d = .tup [.int (i : Nat), d'] := by
  unfold enumD at e
  rw [List.getElem?_map] at e
  cases q : ((List.range ds.length).zip ds)[i]? with
  | none => rw [q] at e; cases e
  | some z =>
    rw [q] at e
    cases e
    obtain ⟨h1, h2⟩ := List.getElem?_zip_eq_some.mp q
    obtain ⟨hk, e2⟩ := List.getElem?_eq_some_iff.mp h1
    refine ⟨z.2, h2, ?_⟩
    have : z.1 = i := by rw [← e2]; simp
    show D.tup [.int (z.1 : Nat), z.2] = _
    rw [this]
theorem enumD_len (ds : List D) : (enumD ds).length = ds.length := by unfold enumD; simp
theorem itok_enum (K : PySem.W.Frag) (a : Addr) (ds : List D) : ItOk C (Ite K a) (enumD ds) [.inl (.ref a, .lst ds)] := by
  intro i H hp
  obtain ⟨N, a', vs, M', e0, e1, z, r, eN⟩ := hp _ (List.mem_singleton.mpr rfl)
  cases e0
  refine ⟨fun d e => ?_, fun hl => ⟨vs, SqL.of e1, by rw [← r.length, ← enumD_len]; exact hl⟩⟩
  obtain ⟨d', eD, rfl⟩ := enumD_at e
  obtain ⟨v, L, e2, r', s⟩ := r.get eD
  refine ⟨⟨vs, v, SqL.of e1, e2⟩, fun x H' ⟨T, y, ex, hT, eH, q⟩ => ?_⟩
  subst ex eH
  have e3 := q vs (SqL.of e1)
  rw [e2] at e3
  cases e3
  have sm : Same H (upd H T (.tup [.int (i : Nat), v])) := fun b o e => by rw [upd_ne (ne_of_none e hT)]; exact e
  refine ⟨sm, L, ⟨T, _, rfl, upd_same, by rw [sizeLine_eq]; show 2 ≤ 16777216; decide, ⟨_, _, [], L, rfl, ⟨rfl, rfl⟩, ⟨_, _, L, [], rfl, r'.same sm, ⟨rfl, rfl⟩, by simp⟩, rfl⟩⟩, fun b m => ⟨_, List.mem_singleton.mpr rfl, N, ⟨a, vs, M', rfl, e1, z, r, eN⟩, by rw [eN]; exact List.mem_cons_of_mem _ (s.subset m)⟩⟩
theorem ri_enum {K : PySem.W.Frag} {σ : St} {H : Hp} {R : It → Hp → Prop} (hh : RI C W (enumI f) σ H R) : iEnum K (tCons (RV C W f) tNil) σ H R := by
  obtain ⟨ρ, P, E, hh⟩ := hh
  refine ⟨ρ, P, E, ?_⟩
  unfold enumI at hh
  cases e : f ρ with
  | bad => rw [e] at hh; exact hh
  | ex c => rw [e] at hh; exact hh
  | ok fx =>
    rw [e] at hh
    simp only [Res.ok_bind] at hh
    intro x H1 ⟨s1, M, r1, f1⟩
    obtain ⟨fl, d⟩ := fx
    cases d <;> first | exact hh.elim | skip
    rename_i ds
    have r0 := r1
    obtain ⟨a, vs, M', rfl, e1, z, r, rfl⟩ := r1
    exact ⟨a, vs, rfl, SqL.of e1, hh _ H1 _ [] s1 ⟨_, _, rfl, ⟨_, r0, f1⟩, rfl⟩ (fun p m => nomatch m) (itok_enum K a ds)⟩
theorem di_enum {elts : List Expr} {kk : Nat} (hg : Gl X "enumerate") (hm : X.mg "enumerate" = none) (ha : PE X a (RV C W f)) (hs : starEach [a] X.env = (false, eval a X.env) :: starEach [] X.env := by rfl) (hs2 : starEach [a] X.env = [(false, eval a X.env)] := by rfl) :
    PI X (.Tuple elts kk tpos) (.Call (.Name "enumerate" p) [a] [] pos) (RI C W (enumI f)) := (pi_enum hg hm (pa_cons ha pa_nil hs) hs2).imp fun _ _ _ => ri_enum
end
end DL
/-! DL15: dicts walked: the dict is locked meanwhile. -/
namespace DL
open PySem L2

/-! ### a dict locked, unlocked: what stands for data stays -/
def isDk : HO → Bool
  | .dK _ => true
  | .dT _ => true
  | _ => false
section
variable {C : Ctx} {H H' : Hp} {a : Addr} {u : HO}
theorem rd_only {b : Addr} {w : HO} (hu : isDk u = true) (h : Rd H a u) (hn : ∀ b, b ≠ a → H' b = H b) (nd : isDk w = false) (nf : ∀ od x, isDk x = true → w ≠ .frz od x) (e : H b = some w) : H' b = some w := by
  by_cases z : b = a
  · subst z
    rcases h with h | ⟨od, h⟩
    · rw [e] at h; cases h; rw [hu] at nd; cases nd
    · rw [e] at h; cases h; exact absurd rfl (nf od u hu)
  · rw [hn b z]; exact e
theorem rd_chg {b : Addr} {w : HO} (hu : isDk u = true) (h : Rd H a u) (h' : Rd H' a u) (hn : ∀ b, b ≠ a → H' b = H b) (dw : isDk w = true) (e : Rd H b w) : Rd H' b w := by
  by_cases z : b = a
  · subst z
    have : w = u := by
      rcases h with h | ⟨od, h⟩ <;> rcases e with e | ⟨od', e⟩ <;> rw [e] at h <;> cases h
      · rfl
      · cases hu
      · cases dw
      · rfl
    rw [this]; exact h'
  · unfold Rd
    rw [hn b z]
    exact e
mutual
theorem Rep.chg (hu : isDk u = true) (h : Rd H a u) (h' : Rd H' a u) (hn : ∀ b, b ≠ a → H' b = H b) : ∀ {d : D} {v : V} {M : List Addr}, Rep C H d v M → Rep C H' d v M
  | .non, _, _, r => r
  | .bl _, _, _, r => r
  | .int _, _, _, r => r
  | .str _, _, _, r => r
  | .ty _, _, _, r => r
  | .tup ds, v, M, r => by
    obtain ⟨b, vs, e, q, z, rl⟩ := r
    exact ⟨b, vs, e, rd_only hu h hn rfl (fun _ _ _ z => by cases z) q, z, RepL.chg hu h h' hn rl⟩
  | .lst ds, v, M, r => by
    obtain ⟨b, vs, M', e, q, z, rl, w⟩ := r
    exact ⟨b, vs, M', e, rd_only hu h hn rfl (fun _ _ _ z => by cases z) q, z, RepL.chg hu h h' hn rl, w⟩
  | .fz ds, v, M, r => by
    obtain ⟨b, vs, e, q, z, rl, w⟩ := r
    exact ⟨b, vs, e, q.imp (fun ⟨o, q⟩ => ⟨o, rd_only hu h hn rfl (fun _ _ dx z => by cases z; cases dx) q⟩) id, z, RepL.chg hu h h' hn rl, w⟩
  | .dK ks ds, v, M, r => by
    obtain ⟨b, vs, M', e, q, k, z, rl, w⟩ := r
    exact ⟨b, vs, M', e, rd_chg hu h h' hn rfl q, k, z, RepL.chg hu h h' hn rl, w⟩
  | .dT ks ds, v, M, r => by
    obtain ⟨b, vs, M', e, q, k, z, rl, w⟩ := r
    exact ⟨b, vs, M', e, rd_chg hu h h' hn rfl q, k, z, RepL.chg hu h h' hn rl, w⟩
  | .ins c ns ds, v, M, r => by
    obtain ⟨b, dx, fs, M', e, q, k, rl, w⟩ := r
    exact ⟨b, dx, fs, M', e, rd_only hu h hn rfl (fun _ _ _ z => by cases z) q, k, RepL.chg hu h h' hn rl, w⟩
theorem RepL.chg (hu : isDk u = true) (h : Rd H a u) (h' : Rd H' a u) (hn : ∀ b, b ≠ a → H' b = H b) : ∀ {ds : List D} {vs : List V} {M : List Addr}, RepL C H ds vs M → RepL C H' ds vs M
  | [], _, _, r => r
  | d :: ds, _, _, r => by
    obtain ⟨v, w, M1, M2, e, r1, r2, q⟩ := r
    exact ⟨v, w, M1, M2, e, Rep.chg hu h h' hn r1, RepL.chg hu h h' hn r2, q⟩
end
variable {P P' : List Pt} {σ : St} {ρ ρ' : Env}
/-- only the dict at a is locked or unlocked, own slots do not hold it -/
theorem EnvOk.chg (E : EnvOk C P H σ ρ) (hu : isDk u = true) (h : Rd H a u) (h' : Rd H' a u) (hn : ∀ b, b ≠ a → H' b = H b) (hl : ρ'.length = ρ.length)
    (hρ : ∀ (i : Nat) (o : Ow) (d : D), ρ'[i]? = some (some (o, d)) → ∃ o', ρ[i]? = some (some (o', d)) ∧ ((o = o' ∧ o ≠ .lk) ∨ o = .sh ∨ (o = .lk ∧ ∃ od, σ[i]? = some (some (.ref a)) ∧ Sum.inr (a, od, u) ∈ P')))
    (own_a : ∀ (i : Nat) (o : Ow) (d : D) (v : V) (M : List Addr), ρ'[i]? = some (some (o, d)) → o.own = true → σ[i]? = some (some v) → Rep C H d v M → a ∉ M)
    (hP : ∀ p ∈ P', (p ∈ P ∧ ∀ od w, p ≠ Sum.inr (a, od, w)) ∨ ∃ od, p = Sum.inr (a, od, u) ∧ H' a = some (.frz od u))
    (hk : ∀ b o, C.H0 b = some o → b ∉ C.io → H' b = some o ∨ ∃ od, Sum.inr (b, od, o) ∈ P') : EnvOk C P' H' σ ρ' := by
  have back : ∀ {d : D} {v : V} {M : List Addr}, Rep C H' d v M → Rep C H d v M := fun r => Rep.chg hu h' h (fun b z => (hn b z).symm) r
  have keepP : ∀ p, p ∈ P → (∀ od w, p ≠ Sum.inr (a, od, w)) → ∀ N, PRep C H p N ↔ PRep C H' p N := fun p hp np N => by
    cases p with
    | inl p => exact ⟨fun r => Rep.chg hu h h' hn r, fun r => back r⟩
    | inr q =>
      obtain ⟨b, od, w⟩ := q
      have hb : b ≠ a := fun z => np od w (by rw [z])
      show (H b = _ ∧ _) ↔ (H' b = _ ∧ _)
      rw [hn b hb]
  refine ⟨by rw [hl]; exact E.len, fun i o d e => ?_, fun p hp => ?_, hk, fun b e => ?_⟩
  · obtain ⟨o', e', ho⟩ := hρ i o d e
    obtain ⟨v, M, e1, r, ow, lo, io⟩ := E.at_ i o' d e'
    refine ⟨v, M, e1, r.chg hu h h' hn, fun hw => ?_, fun q => ?_, fun q => ?_, fun q => ?_⟩
    · have : o = o' := by
        rcases ho with ho | ho | ho
        · exact ho.1
        · subst ho; cases hw
        · rw [ho.1] at hw; cases hw
      subst this
      obtain ⟨q1, q2, q3, q4⟩ := ow hw
      have na := own_a i o d v M e hw e1 r
      refine ⟨q1, fun b m => by rw [hn b fun z => na (z ▸ m)]; exact q2 b m, fun j oj dj w N hj ej sj rj => ?_, fun p hp N rp => ?_⟩
      · obtain ⟨oj', ej', _⟩ := hρ j oj dj ej
        exact q3 j oj' dj w N hj ej' sj (back rj)
      · rcases hP p hp with ⟨m, np⟩ | ⟨od, rfl, _⟩
        · exact q4 p m N ((keepP p m np N).mpr rp)
        · rw [rp.2]
          exact fun b _ nb => nomatch nb
    · rcases ho with ho | ho | ho
      · rw [ho.1] at q; exact lo q
      · subst ho; cases q
      · rw [ho.1] at q; cases q
    · rcases ho with ho | ho | ho
      · rw [ho.1] at q; exact io.1 q
      · subst ho; cases q
      · rw [ho.1] at q; cases q
    · rcases ho with ho | ho | ho
      · exact absurd q ho.2
      · subst ho; cases q
      · obtain ⟨_, od, ea, m⟩ := ho
        rw [e1] at ea
        cases ea
        exact ⟨a, od, u, rfl, m⟩
  · rcases hP p hp with ⟨m, np⟩ | ⟨od, rfl, q⟩
    · obtain ⟨N, r⟩ := E.prot p m
      exact ⟨N, (keepP p m np N).mp r⟩
    · exact ⟨[], q, rfl⟩
  · refine E.keptd b ?_
    by_cases z : b = a
    · subst z
      rcases h' with q | ⟨_, q⟩ <;> rw [e] at q <;> cases q
    · rw [← hn b z]; exact e
/-- no slot is locked -/
def unlkE (ρ : Env) : Env := ρ.map fun s => s.map fun p => (match p.1 with | .lk => .sh | o => o, p.2)
theorem unlkE_get {i : Nat} {o : Ow} {d : D} (e : (unlkE ρ)[i]? = some (some (o, d))) : ∃ o', ρ[i]? = some (some (o', d)) ∧ ((o = o' ∧ o ≠ .lk) ∨ o = .sh) := by
  unfold unlkE at e
  rw [List.getElem?_map] at e
  cases q : ρ[i]? with
  | none => rw [q] at e; cases e
  | some s =>
    rw [q] at e
    cases s with
    | none => cases e
    | some p =>
      obtain ⟨o', d'⟩ := p
      cases o' <;> cases e
      · exact ⟨_, rfl, .inr rfl⟩
      · exact ⟨_, rfl, .inl ⟨rfl, fun z => by cases z⟩⟩
      · exact ⟨_, rfl, .inl ⟨rfl, fun z => by cases z⟩⟩
      · exact ⟨_, rfl, .inr rfl⟩
theorem unlkE_len : (unlkE ρ).length = ρ.length := by unfold unlkE; rw [List.length_map]
theorem dict_rd {d : D} {v : V} {M : List Addr} (r : Rep C H d v M) (e : isDictD d = true) : ∃ a u, v = .ref a ∧ isDk u = true ∧ Rd H a u ∧ a ∈ M := by
  cases d <;> first | (cases e; done) | skip
  · obtain ⟨b, vs, M', e, q, k, z, rl, w⟩ := r
    exact ⟨b, _, e, rfl, q, by rw [w]; exact List.mem_cons_self⟩
  · obtain ⟨b, vs, M', e, q, k, z, rl, w⟩ := r
    exact ⟨b, _, e, rfl, q, by rw [w]; exact List.mem_cons_self⟩
theorem not_dk {w : HO} {od : Obj} (h : isDk (.frz od w) = true) : False := by cases h
/-- into the locked part -/
theorem EnvOk.enter {i : Nat} {o : Ow} {d : D} {M : List Addr} {od : Obj} (E : EnvOk C P H σ ρ) (ei : ρ[i]? = some (some (o, d))) (ea : σ[i]? = some (some (.ref a))) (r : Rep C H d (.ref a) M) (am : a ∈ M) (hu : isDk u = true) (h : Rd H a u)
    (h' : H' a = some (.frz od u)) (hn : ∀ b, b ≠ a → H' b = H b) (same : ∀ od', H a = some (.frz od' u) → od' = od) : EnvOk C (Sum.inr (a, od, u) :: P) H' σ ((unlkE ρ).set i (some (.lk, d))) := by
  refine E.chg hu h (.inr ⟨od, h'⟩) hn (by rw [List.length_set, unlkE_len]) (fun j oj dj e => ?_) (fun j oj dj v N e ow ev rv na => ?_) (fun p hp => ?_) fun b w e n => ?_
  · rcases set_get e with ⟨rfl, e, _⟩ | ⟨_, e⟩
    · cases e
      exact ⟨o, ei, .inr (.inr ⟨rfl, od, ea, List.mem_cons_self⟩)⟩
    · obtain ⟨o', e', q⟩ := unlkE_get e
      exact ⟨o', e', q.imp id .inl⟩
  · rcases set_get e with ⟨rfl, e, _⟩ | ⟨hj, e⟩
    · cases e; cases ow
    · obtain ⟨o', e', q⟩ := unlkE_get e
      have : oj = o' := by
        rcases q with q | q
        · exact q.1
        · subst q; cases ow
      subst this
      obtain ⟨v', N', e1, r', own, _⟩ := E.at_ j oj dj e'
      rw [ev] at e1; cases e1
      rw [r'.uniq rv] at own
      exact (own ow).2.2.1 i o d _ M (Ne.symm hj) ei ea r a na am
  · rcases List.mem_cons.mp hp with rfl | m
    · exact .inr ⟨od, rfl, h'⟩
    · cases p with
      | inl p => exact .inl ⟨m, fun _ _ z => by cases z⟩
      | inr q =>
        obtain ⟨b, od', w⟩ := q
        by_cases hb : b = a
        · subst hb
          obtain ⟨N, r0⟩ := E.prot _ m
          have r1 : H b = some (.frz od' w) := r0.1
          rcases h with h | ⟨od2, h⟩
          · rw [r1] at h; cases h; exact (not_dk hu).elim
          · rw [r1] at h; cases h
            obtain rfl := same _ r1
            exact .inr ⟨od', rfl, h'⟩
        · exact .inl ⟨m, fun _ _ z => by cases z; exact hb rfl⟩
  · rcases E.kept b w e n with q | ⟨od', m⟩
    · by_cases hb : b = a
      · subst hb
        rcases h with h | ⟨od2, h⟩
        · rw [q] at h; cases h
          exact .inr ⟨od, List.mem_cons_self⟩
        · rw [q] at h; cases h
          obtain rfl := same _ q
          exact .inl h'
      · rw [hn b hb]; exact .inl q
    · exact .inr ⟨od', List.mem_cons_of_mem _ m⟩
/-- out of it -/
theorem EnvOk.leave {H0 : Hp} {σ0 : St} {ρ0 : Env} {od : Obj} (E0 : EnvOk C P H0 σ0 ρ0) (hu : isDk u = true) (h0 : H0 a = some u) (E : EnvOk C (Sum.inr (a, od, u) :: P) H σ ρ) (h : H a = some (.frz od u)) : EnvOk C P (upd H a u) σ (unlkE ρ) := by
  have nolk : ∀ od w, Sum.inr (a, od, w) ∉ P := fun od' w m => by
    obtain ⟨N, r0⟩ := E0.prot _ m
    have r1 : H0 a = some (.frz od' w) := r0.1
    rw [h0] at r1; cases r1; exact not_dk hu
  refine E.chg hu (.inr ⟨od, h⟩) (.inl upd_same) (fun b z => upd_ne z) unlkE_len (fun j oj dj e => ?_) (fun j oj dj v N e ow ev rv na => ?_) (fun p hp => ?_) fun b w e n => ?_
  · obtain ⟨o', e', q⟩ := unlkE_get e
    exact ⟨o', e', q.imp id .inl⟩
  · obtain ⟨o', e', q⟩ := unlkE_get e
    have : oj = o' := by
      rcases q with q | q
      · exact q.1
      · subst q; cases ow
    subst this
    obtain ⟨v', N', e1, r', own, _⟩ := E.at_ j oj dj e'
    rw [ev] at e1; cases e1
    rw [r'.uniq rv] at own
    have m := (own ow).2.1 a na
    rw [h] at m
    exact m
  · exact .inl ⟨List.mem_cons_of_mem _ hp, fun od' w z => nolk od' w (z ▸ hp)⟩
  · by_cases hb : b = a
    · subst hb
      rcases E0.kept b w e n with q | ⟨od', m⟩
      · rw [h0] at q; cases q; exact .inl upd_same
      · exact absurd m (nolk _ _)
    · rw [upd_ne hb]
      rcases E.kept b w e n with q | ⟨od', m⟩
      · exact .inl q
      · rcases List.mem_cons.mp m with z | m
        · cases z; exact absurd rfl hb
        · exact .inr ⟨od', m⟩
/-- out of it, when it was locked ahead already -/
theorem EnvOk.leave2 {H0 : Hp} {σ0 : St} {ρ0 : Env} {od : Obj} (E0 : EnvOk C P H0 σ0 ρ0) (hu : isDk u = true) (h0 : H0 a = some (.frz od u)) (E : EnvOk C (Sum.inr (a, od, u) :: P) H σ ρ) : EnvOk C P H σ (unlkE ρ) := by
  have h : H a = some (.frz od u) := by
    obtain ⟨N, r⟩ := E.prot _ List.mem_cons_self
    exact r.1
  refine E.chg hu (.inr ⟨od, h⟩) (.inr ⟨od, h⟩) (fun b z => rfl) unlkE_len (fun j oj dj e => ?_) (fun j oj dj v N e ow ev rv na => ?_) (fun p hp => ?_) fun b w e n => ?_
  · obtain ⟨o', e', q⟩ := unlkE_get e
    exact ⟨o', e', q.imp id .inl⟩
  · obtain ⟨o', e', q⟩ := unlkE_get e
    have : oj = o' := by
      rcases q with q | q
      · exact q.1
      · subst q; cases ow
    subst this
    obtain ⟨v', N', e1, r', own, _⟩ := E.at_ j oj dj e'
    rw [ev] at e1; cases e1
    rw [r'.uniq rv] at own
    have m := (own ow).2.1 a na
    rw [h] at m
    exact m
  · cases p with
    | inl p => exact .inl ⟨List.mem_cons_of_mem _ hp, fun _ _ z => by cases z⟩
    | inr q =>
      obtain ⟨b, od', w⟩ := q
      by_cases hb : b = a
      · subst hb
        obtain ⟨N, r0⟩ := E.prot _ (List.mem_cons_of_mem _ hp)
        have r1 : H b = some (.frz od' w) := r0.1
        rw [h] at r1; cases r1
        exact .inr ⟨od, rfl, h⟩
      · exact .inl ⟨List.mem_cons_of_mem _ hp, fun _ _ z => by cases z; exact hb rfl⟩
  · rcases E.kept b w e n with q | ⟨od', m⟩
    · exact .inl q
    · rcases List.mem_cons.mp m with z | m
      · cases z
        rcases E0.kept _ _ e n with q | ⟨od2, m⟩
        · rw [h0] at q; cases q
        · exact .inr ⟨od2, m⟩
      · exact .inr ⟨od', m⟩
end

/-! ### statements, expressions that walk a dict -/
def unlkEnds (DD : EndsD) : EndsD := { nx := fun ρ => DD.nx (unlkE ρ), rt := fun d ρ => DD.rt d (unlkE ρ), bk := fun ρ => DD.bk (unlkE ρ), ct := fun ρ => DD.ct (unlkE ρ) }
def dLock (i : Nat) (t : TD) : TD := fun DD ρ => match ρ[i]? with
  | some (some (_, d)) => isDictD d = true ∧ t (unlkEnds DD) ((unlkE ρ).set i (some (.lk, d)))
  | _ => False
section
variable {R : Nat} {C : Ctx} {X : Cx} {W : WX} {tg e : Expr} {es : List Expr} {pos p : Pos} {st : Stmt} {t : TD}
theorem _root_.L2.PS.or {t1 t2 : TS} (h1 : PS X st t1) (h2 : PS X st t2) : PS X st (fun D σ H => t1 D σ H ∨ t2 D σ H) := ⟨fun pins s σ H D I h => h.elim (h1.run pins s σ H D I) (h2.run pins s σ H D I)⟩
theorem _root_.L2.PE.or {t1 t2 : TE} (h1 : PE X e t1) (h2 : PE X e t2) : PE X e (fun σ H Q => t1 σ H Q ∨ t2 σ H Q) := ⟨fun pins s σ H Q I h => h.elim (h1.run pins s σ H Q I) (h2.run pins s σ H Q I)⟩
theorem upd_back {H : Hp} {a : Addr} {u : HO} {od : Obj} : ∀ b, b ≠ a → upd H a (.frz od u) b = H b := fun b z => upd_ne z
theorem ds_lock (i : Nat) (h : PS X st (RS C W t)) : PS X st (RS C W (dLock i t)) :=
  ((ps_lock h).or h).imp fun D σ H ⟨ρ, P, DD, E, I, hh⟩ => by
    unfold dLock at hh
    split at hh
    · rename_i o d ei
      obtain ⟨hd, hh⟩ := hh
      obtain ⟨v, M, ev, r, _⟩ := E.at_ i o d ei
      obtain ⟨a, u, rfl, hu, hr, am⟩ := dict_rd r hd
      rcases id hr with h0 | ⟨od, h0⟩
      · refine .inl ⟨a, u, h0, (by cases u <;> first | trivial | cases hu), fun od => ⟨_, _, unlkEnds DD, E.enter (od := od) ei ev r am hu hr upd_same upd_back (fun od' z => by rw [h0] at z; cases z), ⟨?_, ?_, ?_, ?_, fun _ _ _ _ _ z => z.elim⟩, hh⟩⟩
        · intro σ1 H1 ρ1 E1 z
          obtain ⟨N, q⟩ := E1.prot _ List.mem_cons_self
          exact ⟨q.1, I.nx _ _ _ (E.leave hu h0 E1 q.1) z⟩
        · intro σ1 H1 ρ1 d1 v1 M1 E1 r1 nd nw mu z
          obtain ⟨N, q⟩ := E1.prot _ List.mem_cons_self
          have q1 : H1 a = some (.frz od u) := q.1
          refine ⟨q1, I.rt _ _ _ _ _ _ (E.leave hu h0 E1 q1) (r1.chg hu (.inr ⟨od, q1⟩) (.inl upd_same) fun b z => upd_ne z) nd nw (fun b m => ?_) z⟩
          by_cases hb : b = a
          · subst hb; rw [upd_same]; cases u <;> first | trivial | cases hu
          · rw [upd_ne hb]; exact mu b m
        · intro σ1 H1 ρ1 E1 z
          obtain ⟨N, q⟩ := E1.prot _ List.mem_cons_self
          exact ⟨q.1, I.bk _ _ _ (E.leave hu h0 E1 q.1) z⟩
        · intro σ1 H1 ρ1 E1 z
          obtain ⟨N, q⟩ := E1.prot _ List.mem_cons_self
          exact ⟨q.1, I.ct _ _ _ (E.leave hu h0 E1 q.1) z⟩
      · refine .inr ⟨_, _, unlkEnds DD, E.enter (od := od) ei ev r am hu hr h0 (fun _ _ => rfl) (fun od' z => by rw [h0] at z; cases z; rfl), ⟨?_, ?_, ?_, ?_, fun _ _ _ _ _ z => z.elim⟩, hh⟩
        · exact fun σ1 H1 ρ1 E1 z => I.nx _ _ _ (E.leave2 hu h0 E1) z
        · exact fun σ1 H1 ρ1 d1 v1 M1 E1 r1 nd nw mu z => I.rt _ _ _ _ _ _ (E.leave2 hu h0 E1) r1 nd nw mu z
        · exact fun σ1 H1 ρ1 E1 z => I.bk _ _ _ (E.leave2 hu h0 E1) z
        · exact fun σ1 H1 ρ1 E1 z => I.ct _ _ _ (E.leave2 hu h0 E1) z
    · exact hh.elim
/-- an expression that walks a dict: its value is new -/
def lockF (i : Nat) (f : Env → Res FD) : Env → Res FD := fun ρ => match ρ[i]? with
  | some (some (_, d)) => if isDictD d = true then match f ((unlkE ρ).set i (some (.lk, d))) with
    | .ok (.fr, y) => .ok (.fr, y)
    | _ => .bad
    else .bad
  | _ => .bad
theorem lockF_ok {i : Nat} {f : Env → Res FD} {ρ : Env} {o : Ow} {d : D} (ei : ρ[i]? = some (some (o, d))) : lockF i f ρ = if isDictD d = true then match f ((unlkE ρ).set i (some (.lk, d))) with
    | .ok (.fr, y) => .ok (.fr, y)
    | _ => .bad
    else .bad := by
  unfold lockF
  rw [ei]
theorem pd_lock (i : Nat) {f : Env → Res FD} (h : PE X e (RV C W f)) : PE X e (RV C W (lockF i f)) :=
  ((pe_lock h).or h).imp fun σ H Q ⟨ρ, P, E, hh⟩ => by
    cases ei : ρ[i]? with
    | none => unfold lockF at hh; rw [ei] at hh; exact hh.elim
    | some sl =>
      cases sl with
      | none => unfold lockF at hh; rw [ei] at hh; exact hh.elim
      | some od =>
        obtain ⟨o, d⟩ := od
        rw [lockF_ok ei] at hh
        cases hd : isDictD d with
        | false => rw [hd] at hh; exact hh.elim
        | true =>
          rw [hd] at hh
          simp only [if_true] at hh
          obtain ⟨v, M, ev, r, _⟩ := E.at_ i o d ei
          obtain ⟨a, u, rfl, hu, hr, am⟩ := dict_rd r hd
          cases ef : f ((unlkE ρ).set i (some (.lk, d))) with
          | bad => rw [ef] at hh; exact hh.elim
          | ex c => rw [ef] at hh; exact hh.elim
          | ok y =>
            obtain ⟨fl, y⟩ := y
            rw [ef] at hh
            cases fl <;> first | exact hh.elim | skip
            rcases id hr with h0 | ⟨od, h0⟩
            · refine .inl ⟨a, u, h0, (by cases u <;> first | trivial | cases hu), fun od => ⟨_, _, E.enter (od := od) ei ev r am hu hr upd_same upd_back (fun od' z => by rw [h0] at z; cases z), ?_⟩⟩
              rw [ef]
              intro v1 H1 ⟨s1, N, r1, nd, nw, mu⟩
              have q1 : H1 a = some (.frz od u) := s1 _ _ upd_same
              refine ⟨q1, hh v1 _ ⟨fun b w e => ?_, N, r1.chg hu (.inr ⟨od, q1⟩) (.inl upd_same) fun b z => upd_ne z, nd, fun b m => ?_, fun b m => ?_⟩⟩
              · by_cases hb : b = a
                · subst hb; rw [upd_same, ← e]; exact h0.symm
                · rw [upd_ne hb]; exact s1 _ _ (by rw [upd_ne hb]; exact e)
              · by_cases hb : b = a
                · subst hb
                  have := nw b m
                  rw [upd_same] at this; cases this
                · have := nw b m
                  rw [upd_ne hb] at this; exact this
              · by_cases hb : b = a
                · subst hb; rw [upd_same]; cases u <;> first | trivial | cases hu
                · rw [upd_ne hb]; exact mu b m
            · refine .inr ⟨_, _, E.enter (od := od) ei ev r am hu hr h0 (fun _ _ => rfl) (fun od' z => by rw [h0] at z; cases z; rfl), ?_⟩
              rw [ef]
              exact fun v1 H1 ⟨s1, N, r1, nd, nw, mu⟩ => hh v1 H1 ⟨s1, N, r1, nd, nw, mu⟩
/-- the keys of the dict in a locked slot -/
def keysDk : D → Option (List D)
  | .dK ks _ => some (ks.map kD)
  | .dT ks _ => if ks.all (fun k => decide (k.length ≤ sizeLine)) = true then some (ks.map fun k => .tup (k.map kD)) else none
  | _ => none
def keysI (i : Nat) : Env → Res ID := fun ρ => match ρ[i]? with
  | some (some (.lk, d)) => match keysDk d with
    | some ks => .ok ([], ks)
    | none => .bad
  | _ => .bad
theorem itok_keys (a : Addr) (od : Obj) (kvs : List (Key × V)) : ItOk C (Itk a od kvs) ((kvs.map (·.1)).map kD) [Sum.inr (a, od, .dK kvs)] := by
  intro i H hp
  obtain ⟨N, q⟩ := hp _ (List.mem_singleton.mpr rfl)
  have q1 : H a = some (.frz od (.dK kvs)) := q.1
  refine ⟨fun d e => ?_, fun hl => ⟨q1, by simpa using hl⟩⟩
  rw [List.map_map, List.getElem?_map] at e
  cases ek : kvs[i]? with
  | none => rw [ek] at e; cases e
  | some kv =>
    rw [ek] at e
    cases e
    refine ⟨⟨q1, (List.getElem?_eq_some_iff.mp ek).1⟩, fun x H' ⟨eH, k, v, e2, ex⟩ => ?_⟩
    subst eH ex
    rw [ek] at e2
    cases e2
    refine ⟨Same.refl _, [], ?_, fun b m => nomatch m⟩
    cases k <;> exact ⟨rfl, rfl⟩
theorem itok_keysT (a : Addr) (od : Obj) (kvs : List (List Key × V)) (hz : (kvs.map (·.1)).all (fun k => decide (k.length ≤ sizeLine)) = true) : ItOk C (Itkt a od kvs) ((kvs.map (·.1)).map fun k => .tup (k.map kD)) [Sum.inr (a, od, .dT kvs)] := by
  intro i H hp
  obtain ⟨N, q⟩ := hp _ (List.mem_singleton.mpr rfl)
  have q1 : H a = some (.frz od (.dT kvs)) := q.1
  refine ⟨fun d e => ?_, fun hl => ⟨q1, by simpa using hl⟩⟩
  rw [List.map_map, List.getElem?_map] at e
  cases ek : kvs[i]? with
  | none => rw [ek] at e; cases e
  | some kv =>
    rw [ek] at e
    cases e
    refine ⟨⟨q1, (List.getElem?_eq_some_iff.mp ek).1⟩, fun x H' ⟨eH, k, v, qa, e2, ex, eq⟩ => ?_⟩
    subst eH ex
    rw [ek] at e2
    cases e2
    refine ⟨Same.refl _, [], ⟨qa, _, rfl, eq, ?_, repK k⟩, fun b m => nomatch m⟩
    rw [List.length_map]
    exact of_decide_eq_true (List.all_eq_true.mp hz k (List.mem_map.mpr ⟨_, List.mem_of_getElem? ek, rfl⟩))
theorem ri_keys {i : Nat} {σ : St} {H : Hp} {R : It → Hp → Prop} (hh : RI C W (keysI i) σ H R) : iKeys (tVar i) σ H R := by
  obtain ⟨ρ, P, E, hh⟩ := hh
  unfold keysI at hh
  cases ei : ρ[i]? with
  | none => rw [ei] at hh; exact hh.elim
  | some sl =>
    cases sl with
    | none => rw [ei] at hh; exact hh.elim
    | some q =>
      obtain ⟨o, d⟩ := q
      rw [ei] at hh
      cases o <;> first | exact hh.elim | skip
      dsimp only at hh
      obtain ⟨v, M, ev, r, _, _, _, lk⟩ := E.at_ i .lk d ei
      obtain ⟨a, od, u, rfl, m⟩ := lk rfl
      obtain ⟨N, q⟩ := E.prot _ m
      have q1 : H a = some (.frz od u) := q.1
      refine ⟨_, ev, a, od, rfl, ?_⟩
      cases d <;> first | exact hh.elim | skip
      · obtain ⟨b, kvs, M', e, e1, rfl, z, rl, w⟩ := r
        cases e
        have : u = .dK kvs := by
          rcases e1 with e1 | ⟨o, e1⟩ <;> rw [q1] at e1 <;> cases e1
          rfl
        subst this
        exact .inl ⟨kvs, q1, hh _ H [] [_] (Same.refl H) rfl (fun p mp => by rw [List.mem_singleton.mp mp]; exact ⟨m, _, rfl⟩) (itok_keys a od kvs)⟩
      · obtain ⟨b, kvs, M', e, e1, rfl, z, rl, w⟩ := r
        cases e
        have : u = .dT kvs := by
          rcases e1 with e1 | ⟨o, e1⟩ <;> rw [q1] at e1 <;> cases e1
          rfl
        subst this
        unfold keysDk at hh
        dsimp only at hh
        by_cases hz : (kvs.map (·.1)).all (fun k => decide (k.length ≤ sizeLine)) = true
        · rw [if_pos hz] at hh
          exact .inr ⟨kvs, q1, hh _ H [] [_] (Same.refl H) rfl (fun p mp => by rw [List.mem_singleton.mp mp]; exact ⟨m, _, rfl⟩) (itok_keysT a od kvs hz)⟩
        · rw [if_neg hz] at hh; exact hh.elim
theorem di_keys (i : Nat) {x : Str} (hN : X.N[i]? = some x := by rfl) (hv : Vis X.env.scope x := by first | exact Or.inl rfl | exact Or.inr (Or.inl rfl) | exact Or.inr (Or.inr rfl)) (hd : (x == ("__debug__" : Str)) = false := by decide)
    (hcd : (x == ("__classdict__" : Str)) = false := by decide) : PI X tg (.Name x pos) (RI C W (keysI i)) := (pi_keys (pv i hN hv hd hcd)).imp fun _ _ _ => ri_keys
/-- the slot is shared again -/
def shE (i : Nat) (ρ : Env) : Env := match ρ[i]? with
  | some (some (_, d)) => ρ.set i (some (.sh, d))
  | _ => ρ
theorem shE_ok {C : Ctx} {P : List Pt} {H : Hp} {σ : St} {ρ : Env} {i : Nat} (E : EnvOk C P H σ ρ) : EnvOk C P H σ (shE i ρ) := by
  unfold shE
  split
  · rename_i o d ei
    refine E.weak (by rw [List.length_set]; exact E.len) fun j oj dj e => ?_
    rcases set_get e with ⟨rfl, e, _⟩ | ⟨_, e⟩
    · cases e; exact ⟨o, ei, .inr rfl, rfl⟩
    · exact ⟨oj, e, .inl rfl, rfl⟩
  · exact E
def dForK (i : Nat) (t : Tg) (tb : TD) : TD := dLock i (dForW (shE i) (keysI i) t tb)
/-- for x in d, d a name -/
theorem ds_forK (i : Nat) {x : Str} {px : Pos} {body : List Stmt} {t : Tg} {tb : TD} (F : Fx R C X W) (hg : PG X tg (gOf X.K t)) (hb : PSs X body (RS C W tb)) (hN : X.N[i]? = some x := by rfl) (hv : Vis X.env.scope x := by first | exact Or.inl rfl | exact Or.inr (Or.inl rfl) | exact Or.inr (Or.inr rfl))
    (hd : (x == ("__debug__" : Str)) = false := by decide) (hcd : (x == ("__classdict__" : Str)) = false := by decide) (hs : ∀ y, foldedSetIterable (.Name x px) X.env y = pure y := by exact fun _ => rfl) : PS X (.For tg (.Name x px) body [] pos) (RS C W (dForK i t tb)) :=
  ds_lock i (ds_forW (wk := shE i) shE_ok F (di_keys i hN hv hd hcd) hg hb hs)
end
end DL
/-! DL16: len(set(xs)), sorted(set(xs)). -/
namespace DL
open PySem PySem.Spec PyProof.Rows L2

/-- each key once -/
def dedupK : List Key → List Key
  | [] => []
  | k :: ks => if inK ks k = true then dedupK ks else k :: dedupK ks
theorem inK_iff {ks : List Key} {k : Key} : inK ks k = true ↔ k ∈ ks := by
  unfold inK
  rw [List.any_eq_true]
  exact ⟨fun ⟨x, m, e⟩ => of_decide_eq_true e ▸ m, fun m => ⟨k, m, decide_eq_true rfl⟩⟩
theorem dedup_mem {k : Key} : ∀ {ks : List Key}, k ∈ dedupK ks ↔ k ∈ ks
  | [] => Iff.rfl
  | q :: ks => by
    unfold dedupK
    by_cases h : inK ks q = true
    · rw [if_pos h, dedup_mem, List.mem_cons]
      exact ⟨.inr, fun z => z.elim (fun z => z ▸ inK_iff.mp h) id⟩
    · rw [if_neg h, List.mem_cons, List.mem_cons, dedup_mem]
theorem dedup_nodup : ∀ ks : List Key, (dedupK ks).Nodup
  | [] => List.nodup_nil
  | q :: ks => by
    unfold dedupK
    by_cases h : inK ks q = true
    · rw [if_pos h]; exact dedup_nodup ks
    · rw [if_neg h]
      exact List.nodup_cons.mpr ⟨fun z => h (inK_iff.mpr (dedup_mem.mp z)), dedup_nodup ks⟩
theorem dedup_len : ∀ ks : List Key, (dedupK ks).length ≤ ks.length
  | [] => Nat.le_refl _
  | q :: ks => by
    unfold dedupK
    have := dedup_len ks
    by_cases h : inK ks q = true
    · rw [if_pos h, List.length_cons]; omega
    · rw [if_neg h, List.length_cons, List.length_cons]; omega
theorem kset_keys {P : Program} {w : World} {h : Heap} {a : Addr} {ks : List Key} {c : Nat} (R : KSet P w h a (inK ks) c) : ∃ o es ep t, h.get? a = some o ∧ o.ExactSet ∧ o.data = .set es ep t ∧ (∀ e ∈ es.toList, GoodK P w e) ∧ (es.toList.map kk).Perm (dedupK ks) ∧
    (es.size < scanBound ∧ es.size = (dedupK ks).length) ∧ t.fits es.size = true ∧ Ris t.place.toList ∧ (w.params.followText "set-order" = true ∨ t.led = true) := by
  obtain ⟨o, es, ep, t, e, x, d, ⟨g, nd, m⟩, ⟨s1, s2⟩, f, r⟩ := R
  have pm : (es.toList.map kk).Perm (dedupK ks) := (List.perm_ext_iff_of_nodup nd (dedup_nodup ks)).mpr fun k => by rw [← m k, inK_iff, dedup_mem]
  refine ⟨o, es, ep, t, e, x, d, g, pm, ⟨s1, ?_⟩, f, r⟩
  have := pm.length_eq
  simpa using this

/-- a builtin of set(xs) -/
def tOverSet (K : PySem.W.Frag) (ta : TE) (r : List Key → Hp → VK → Prop) : TE := fun σ H Q => ta σ H fun x H1 => ∃ l ks, x = .ref l ∧ (SqL K H1 l (ks.map kV) ∨ SqT K H1 l (ks.map kV)) ∧ ks.length + 1 < scanBound ∧ r ks H1 Q
def OverSet (X : Cx) (id : String) (r : List Key → Hp → VK → Prop) : Prop := ∀ (pins : List (Addr × Obj)) (s : Shared) (σ : L2.St) (H : Hp) (a : Addr) (ks : List Key) (c : Nat) (Q : VK), L2.Inv X pins σ H s → KSet X.prog X.w s.heap a (inK ks) c → r ks H Q →
  wpAny (model X.prog X.w) X.A (call (.builtin id) [.ref a]) (EP X pins σ Q) X.xe s
theorem keys_vals {P : Program} {w : World} : ∀ {ks : List Key} {us : List Value}, Vals (ks.map kV) us → ∀ (i : Nat) (v : Value), us[i]? = some v → ∃ k, ks[i]? = some k ∧ (mixKind P w).is k v = true
  | [], _, .nil, i, v, e => by simp at e
  | k :: ks, _, .cons r t, 0, v, e => by
    simp at e
    subst e
    exact ⟨k, rfl, kV_is r⟩
  | k :: ks, _, .cons r t, i + 1, v, e => by
    simp at e
    obtain ⟨q, e1, e2⟩ := keys_vals t i v e
    exact ⟨q, by simpa using e1, e2⟩
section
variable {X : Cx} {R : Nat} {C : Ctx} {W : WX} {a : Expr} {f : Env → Res FD} {p p2 q pos : Pos}
theorem pe_overSet {id : String} {x : Str} {r : List Key → Hp → VK → Prop} {ta : TE} (ho : OverSet X id r) (calm : X.calm = true) (hg : Gl X x) (hm : X.mg x = none) (hb : bootBuiltins x = some (.builtin id)) (hg2 : Gl X "set") (hm2 : X.mg "set" = none) (ha : PE X a ta)
    (hn : x ≠ "__name__" := by decide) (hd : (x == ("__debug__" : Str)) = false := by decide) (na : starEach [a] X.env = (false, eval a X.env) :: starEach [] X.env := by rfl) : PE X (.Call (.Name x p) [.Call (.Name "set" p2) [a] [] q] [] pos) (tOverSet X.K ta r) := by
  refine ⟨fun pins s σ H Q I h => ?_⟩
  refine Call_ (ld_blt (hn := hn) (hd := hd) I hg hm hb (callWith_builtin1 (args_cons ?_ rfl) rfl rfl))
  refine Call_ (ld_blt I hg2 hm2 boot_set (callWith_type1 (args_cons (thn (ha.run pins s σ H _ I h) fun v s1 ⟨x, H1, I1, r1, q1⟩ => args_nil ?_) na) na rfl))
  obtain ⟨l, ks, rfl, sq, few, q1⟩ := q1
  cases r1
  have fin : ∀ (h' : Heap) (tk c : Nat), KSet X.prog X.w h' s1.heap.objs.size (fun j => inK ks j) c → (∀ b o, s1.heap.get? b = some o → h'.get? b = some o) →
      wpAny (model X.prog X.w) X.A (spliced (backTo pos (starEach [] X.env))) (fun vs s₂ => wpAny (model X.prog X.w) X.A (call (.builtin id) (Value.ref s1.heap.objs.size :: vs)) (EP X pins σ Q) X.xe s₂) X.xe { s1 with heap := h', toks := tk } := fun h' tk c set k => by
    refine args_nil ?_
    exact ho pins _ σ H1 _ ks c Q (I1.kept k) set q1
  rcases sq with sq | sq
  · obtain ⟨its, rv, pl, _⟩ := I1.list sq
    have hl := rv.length
    rw [List.length_map] at hl
    exact call_ksetlist ks (I1.ok.hd calm) pl.isList (by rw [List.size_toArray]; exact hl.symm) few (fun i v e => keys_vals rv i v (by simpa using e)) fin
  · obtain ⟨its, rv, pl, _⟩ := I1.tuple sq
    have hl := rv.length
    rw [List.length_map] at hl
    exact call_ksettuple ks (I1.ok.hd calm) pl (by rw [List.size_toArray]; exact hl.symm) few (fun i v e => keys_vals rv i v (by simpa using e)) fin
def onKeys (k : List Key → Option D) : FD → Res FD := fun x => match itemsD x.2 with
  | some ds => match keysOf ds with
    | some ks => if ks.length + 1 < scanBound then match k ks with
      | some d => .ok (.fr, d)
      | none => .bad
      else .bad
    | none => .bad
  | none => .bad
theorem onKeys_nx {k : List Key → Option D} : ∀ x c, onKeys k x ≠ .ex c := fun x c e => by
  unfold onKeys at e
  repeat' (first | cases e | split at e)
theorem rv_overSet {r : List Key → Hp → VK → Prop} {k : List Key → Option D} (hr : ∀ ks d H Q, k ks = some d → (∀ v H', New C H H' d v → Q v H') → r ks H Q) {K : PySem.W.Frag} {σ : L2.St} {H : Hp} {Q : VK}
    (h : RV C W (bind1 f (onKeys k)) σ H Q) : tOverSet K (RV C W f) r σ H Q := by
  refine rv1 (r := fun x H1 Q => ∃ l ks, x = .ref l ∧ (SqL K H1 l (ks.map kV) ∨ SqT K H1 l (ks.map kV)) ∧ ks.length + 1 < scanBound ∧ r ks H1 Q) ?_ onKeys_nx h
  intro H x fx M Q z rx e ⟨q, _⟩
  unfold onKeys at e
  split at e
  · rename_i ds ei
    split at e
    · rename_i ks ek
      split at e
      · rename_i few
        split at e
        · rename_i d ed
          cases e
          obtain ⟨l, vs, N, rfl, sq, rl, _, _⟩ := seq_rep K rx ei
          rw [keys_rep rl ek] at sq
          exact ⟨l, ks, rfl, sq, few, hr ks d H Q ed fun v H' n => q v H' n rfl⟩
        · cases e
      · cases e
    · cases e
  · cases e
def overSetF (k : List Key → Option D) (f : Env → Res FD) : Env → Res FD := bind1 f (onKeys k)
def lenSetF (f : Env → Res FD) : Env → Res FD := overSetF (fun ks => some (.int (dedupK ks).length)) f
theorem os_len : OverSet X "len" (fun ks H Q => Q (.int (dedupK ks).length) H) := by
  intro pins s σ H a ks c Q I set h
  obtain ⟨o, es, ep, t, e, x, d, g, pm, ⟨s1, s2⟩, ft, _⟩ := kset_keys set
  exact call_len_set e x d ft (by have : scanBound = 4096 := rfl; omega) ⟨.int (dedupK ks).length, H, I.tok _, ⟨_, by rw [s2]⟩, h⟩
theorem pd_lenSet (F : Fx R C X W) (hg : Gl X "len") (hm : X.mg "len" = none) (hg2 : Gl X "set") (hm2 : X.mg "set" = none) (ha : PE X a (RV C W f)) (na : starEach [a] X.env = (false, eval a X.env) :: starEach [] X.env := by rfl) :
    PE X (.Call (.Name "len" p) [.Call (.Name "set" p2) [a] [] q] [] pos) (RV C W (lenSetF f)) :=
  (pe_overSet os_len F.calm hg hm boot_len hg2 hm2 ha (by decide) (by decide) na).imp fun σ H Q h => rv_overSet (k := fun ks => some (.int (dedupK ks).length)) (fun ks d H Q e i => by cases e; exact i _ H int_new) h

/-- all ints, or all texts -/
def oneKind (ks : List Key) : Bool := (ks.all fun k => match k with | .inl _ => true | _ => false) || ks.all fun k => match k with | .inr _ => true | _ => false
def sortSetF (f : Env → Res FD) : Env → Res FD := overSetF (fun ks => if oneKind ks = true then some (.lst (sortD ((dedupK ks).map kD))) else none) f
theorem each_keys {h : Heap} : ∀ {l : List Value}, (∀ v ∈ l, ∃ k, keyIs k v = true) → PySem.W.EachIs (fun u k => RelV (kV k) u) l (l.map kkV) ∧ ∀ b, PySem.W.EachIs (fun u k => ∃ as, Reads h u (toP (kD k)) as ∧ b ∉ as) l (l.map kkV)
  | [], _ => ⟨.nil, fun _ => .nil⟩
  | v :: l, g => by
    obtain ⟨h1, h2⟩ := each_keys (h := h) fun x m => g x (List.mem_cons_of_mem _ m)
    obtain ⟨k, a⟩ := g v List.mem_cons_self
    rcases keyIs_shape a with ⟨i, t, rfl, rfl⟩ | ⟨x, t, rfl, rfl⟩
    · exact ⟨.cons ⟨t, rfl⟩ h1, fun b => .cons ⟨[], by show Reads h _ (toP (.int i)) []; rw [toP]; exact .int _ _, by simp⟩ (h2 b)⟩
    · exact ⟨.cons ⟨t, rfl⟩ h1, fun b => .cons ⟨[], by show Reads h _ (toP (.str x)) []; rw [toP]; exact .str _ _, by simp⟩ (h2 b)⟩
theorem each_vals : ∀ {us : List Value} {ks : List Key}, PySem.W.EachIs (fun u k => RelV (kV k) u) us ks → Vals (ks.map kV) us
  | _, _, .nil => .nil
  | _, _, .cons h t => .cons h (each_vals t)
theorem oneKind_sub {ks qs : List Key} (p : ∀ q ∈ qs, q ∈ ks) (h : oneKind ks = true) : oneKind qs = true := by
  unfold oneKind at h ⊢
  rw [Bool.or_eq_true] at h ⊢
  rcases h with h | h
  · exact .inl (List.all_eq_true.mpr fun x m => List.all_eq_true.mp h x (p x m))
  · exact .inr (List.all_eq_true.mpr fun x m => List.all_eq_true.mp h x (p x m))
theorem oneKind_alike {ks : List Key} (h : oneKind ks = true) : PySem.W.AllAlike (ks.map fun k => toP (kD k)) ∧ PySem.W.Sortable (ks.map fun k => toP (kD k)) := by
  unfold oneKind at h
  rw [Bool.or_eq_true] at h
  refine ⟨fun x hx y hy => ?_, .inr fun x hx => ?_⟩
  · obtain ⟨q, mq, rfl⟩ := List.mem_map.mp hx
    obtain ⟨r, mr, rfl⟩ := List.mem_map.mp hy
    rcases h with h | h
    all_goals
      have a := List.all_eq_true.mp h q mq
      have b := List.all_eq_true.mp h r mr
      cases q <;> first | (cases a; done) | skip
      cases r <;> first | (cases b; done) | skip
      show PySem.W.alike (toP _) (toP _) = true
      unfold kD
      rw [toP, toP]
      rfl
  · obtain ⟨q, mq, rfl⟩ := List.mem_map.mp hx
    cases q <;> (unfold kD; rw [toP]; exact ⟨(fun z => by cases z), (fun _ z => by cases z)⟩)
theorem sort_keys {ks qs : List Key} (p : qs.Perm (dedupK ks)) (h : oneKind ks = true) : (qs.mergeSort (PySem.W.dataLe false fun k => toP (kD k))).map kD = sortD ((dedupK ks).map kD) := by
  have e := List.map_mergeSort (r := PySem.W.dataLe false fun k => toP (kD k)) (s := leD) (f := kD) (l := qs) (fun _ _ _ _ => rfl)
  rw [e]
  refine sortD_uniq (fun a b ha hb x y => ?_) ((sortD_perm _).trans (p.map kD)) (sortD_pw _)
  obtain ⟨q, mq, rfl⟩ := List.mem_map.mp ha
  obtain ⟨r, mr, rfl⟩ := List.mem_map.mp hb
  unfold oneKind at h
  rw [Bool.or_eq_true] at h
  rcases h with h | h
  · have a := List.all_eq_true.mp h q (dedup_mem.mp mq)
    have b := List.all_eq_true.mp h r (dedup_mem.mp mr)
    cases q <;> first | (cases a; done) | skip
    cases r <;> first | (cases b; done) | skip
    exact congrArg D.int (int_anti x y)
  · have a := List.all_eq_true.mp h q (dedup_mem.mp mq)
    have b := List.all_eq_true.mp h r (dedup_mem.mp mr)
    cases q <;> first | (cases a; done) | skip
    cases r <;> first | (cases b; done) | skip
    exact congrArg D.str (str_anti x y)
theorem os_sorted (F : Fx R C X W) : OverSet X "sorted" (fun ks H Q => oneKind ks = true ∧ ∀ (qs : List Key) (l : Addr), qs.length ≤ sizeLine → qs.map kD = sortD ((dedupK ks).map kD) → H l = none → Q (.ref l) (upd H l (.lst (qs.map kV)))) := by
  intro pins s σ H a ks c Q I set ⟨one, h⟩
  obtain ⟨o, es, ep, t, e, x, d, g, pm, ⟨s1, s2⟩, ft, ri, led⟩ := kset_keys set
  refine Calls.call_function_entry kind_sorted plain_sorted entry_sorted (args_sorted1 _) ?_
  unfold Builtin.«sorted»
  refine wpAny_bind (m := checkCount "sorted" 1 1 _) (wpAny_pure ?_)
  refine wpAny_bind (collect_set (A := X.A.in1) (I.ok.hd F.calm) ⟨o, e, x.1, d⟩ ft s1 ri led fun s' vs k1 hz g1 o1 pv => ?_)
  have pk : (vs.map kkV).Perm (dedupK ks) := by
    have q := pv.map kkV
    rw [List.map_map] at q
    exact q.trans pm
  have hl : vs.length = (dedupK ks).length := by rw [← pk.length_eq, List.length_map]
  have hsz : vs.length ≤ sizeLine := by
    have : scanBound = 4096 := rfl
    rw [hl, ← s2, sizeLine_eq]; omega
  have hk : ∀ v ∈ vs, ∃ k, keyIs k v = true := fun v m => by
    obtain ⟨en, me, rfl⟩ := List.mem_map.mp (pv.mem_iff.mp m)
    obtain ⟨k, a, _⟩ := g en me
    exact ⟨k, a⟩
  refine wpAny_bind (wpAny_newList ?_ hsz)
  have hoL : (s'.heap.push (seqObj "list" vs.toArray 0)).get? s'.heap.objs.size = some (seqObj "list" vs.toArray 0) := Heap.get?_push_size _ rfl
  obtain ⟨e1, e2⟩ := each_keys (h := s'.heap.push (seqObj "list" vs.toArray 0)) hk
  obtain ⟨al, so⟩ := oneKind_alike (oneKind_sub (fun q m => dedup_mem.mp (pk.mem_iff.mp m)) one)
  have hu := F.hu
  refine wpAny_bind (wpAny_holding (PySem.W.list_sort_data (enc := fun k => toP (kD k)) hoL e1 (e2 _) al so (by rw [List.length_map]; exact hsz) (fun k _ => ?_) fun out ho eo => ?_))
  · have : (toP (kD k)).depth ≤ 1 := by
      cases k <;> (unfold kD; rw [toP]; simp [PyData.depth])
    show X.A.in1.units + 1 + _ < cLine
    have e3 : X.A.in1.units = X.A.units + 1 := rfl
    omega
  · obtain ⟨c3, hc3⟩ := sortedHeap_at (vs := vs) (out := out.toArray) hoL
    have pq := (List.mergeSort_perm (vs.map kkV) (PySem.W.dataLe false fun k => toP (kD k)))
    have rv := each_vals eo
    have hn : H s'.heap.objs.size = none := I.hok.fresh hz
    have hlen : ((vs.map kkV).mergeSort (PySem.W.dataLe false fun k => toP (kD k))).length ≤ sizeLine := by rw [pq.length_eq, List.length_map]; exact hsz
    have kept : ∀ b u, s.heap.get? b = some u → (sortedHeap (s'.heap.push (seqObj "list" vs.toArray 0)) s'.heap.objs.size vs out.toArray).get? b = some u := fun b u eb => by
      have q := k1 b u eb
      have lt := Heap.lt_size q
      rw [sortedHeap_old (Nat.ne_of_lt lt) (by rw [size_push']; exact Nat.lt_succ_of_lt lt)]
      exact Heap.get?_push_of_some _ q
    have J : L2.Inv X pins σ (upd H s'.heap.objs.size (.lst (((vs.map kkV).mergeSort (PySem.W.dataLe false fun k => toP (kD k))).map kV))) { s with heap := sortedHeap (s'.heap.push (seqObj "list" vs.toArray 0)) s'.heap.objs.size vs out.toArray, gens := s'.gens, drawn := s'.drawn, toks := s'.toks } :=
      I.call (ch := []) (Un.laid kept hz hn) (I.hok.laid kept hz ⟨by rw [List.length_map]; exact hlen, out, c3, rv, hc3⟩) (by rw [g1]; exact I.bare) (fun _ z => nomatch z)
    obtain ⟨sh, sg, sd, st, sos⟩ := s'
    obtain ⟨th, tg, td, tt, tos⟩ := s
    cases o1
    exact wpAny_pure ⟨_, rfl, .ref sh.objs.size, _, J, rfl, h _ _ hlen (sort_keys pk one) hn⟩
theorem rep_keys {H : Hp} {qs : List Key} : RepL C H (qs.map kD) (qs.map kV) [] := repK qs
theorem pd_sortSet (F : Fx R C X W) (hg : Gl X "sorted") (hm : X.mg "sorted" = none) (hg2 : Gl X "set") (hm2 : X.mg "set" = none) (ha : PE X a (RV C W f)) (na : starEach [a] X.env = (false, eval a X.env) :: starEach [] X.env := by rfl) :
    PE X (.Call (.Name "sorted" p) [.Call (.Name "set" p2) [a] [] q] [] pos) (RV C W (sortSetF f)) :=
  (pe_overSet (os_sorted F) F.calm hg hm boot_sorted hg2 hm2 ha (by decide) (by decide) na).imp fun σ H Q h => rv_overSet (k := fun ks => if oneKind ks = true then some (.lst (sortD ((dedupK ks).map kD))) else none) (fun ks d H Q e i => by
    split at e
    · rename_i one
      cases e
      refine ⟨one, fun qs l hz e hl => i _ _ ?_⟩
      rw [← e]
      exact lst_new hl (by rw [List.length_map]; exact hz) (repK qs)
    · cases e) h
end
end DL
/-! DL17: texts walked; a def of the text made a contract. -/
namespace DL
open PySem L2
section
variable {R : Nat} {C : Ctx} {X : Cx} {W : WX} {tg a e : Expr} {f : Env → Res FD}
theorem _root_.L2.PI.or {t1 t2 : TI} (h1 : PI X tg e t1) (h2 : PI X tg e t2) : PI X tg e (fun σ H Q => t1 σ H Q ∨ t2 σ H Q) := ⟨fun pins s σ H Q I h => h.elim (h1.run pins s σ H Q I) (h2.run pins s σ H Q I)⟩
def charsD (x : Str) : List D := x.cps.toList.map fun c => .str ⟨#[c]⟩
/-- a list, a tuple, a text -/
def walkI (f : Env → Res FD) : Env → Res ID := fun ρ => (f ρ).bind fun x => match x.2 with
  | .lst ds => .ok ([x], ds)
  | .tup ds => .ok ([x], ds)
  | .str z => .ok ([x], charsD z)
  | _ => .bad
theorem itok_str (v : V) (x : Str) (Ps : List Pt) : ItOk C (Its x) (charsD x) Ps := by
  intro i H _
  unfold charsD
  refine ⟨fun d e => ?_, fun hl => by rw [List.length_map, Array.length_toList] at hl; exact hl⟩
  rw [List.getElem?_map] at e
  obtain ⟨c, e1, rfl⟩ := Option.map_eq_some_iff.mp e
  rw [Array.getElem?_toList] at e1
  refine ⟨(Array.getElem?_eq_some_iff.mp e1).1, fun v H' ⟨eH, c', e2, ev⟩ => ?_⟩
  subst eH ev
  rw [e1] at e2
  cases e2
  exact ⟨Same.refl _, [], ⟨rfl, rfl⟩, fun b m => nomatch m⟩
theorem ri_walk {K : PySem.W.Frag} {σ : St} {H : Hp} {R : It → Hp → Prop} (h : RI C W (walkI f) σ H R) : iSeq K (RV C W f) σ H R ∨ iStr (RV C W f) σ H R := by
  obtain ⟨ρ, P, E, h⟩ := h
  unfold walkI at h
  cases e : f ρ with
  | bad => rw [e] at h; exact h.elim
  | ex c => rw [e] at h; exact .inl ⟨ρ, P, E, by rw [e]; exact h⟩
  | ok fx =>
    rw [e] at h
    simp only [Res.ok_bind] at h
    obtain ⟨fl, d⟩ := fx
    cases d with
    | lst ds =>
      refine .inl ⟨ρ, P, E, ?_⟩
      rw [e]
      intro x H1 ⟨s1, M, r1, f1⟩
      have r0 := r1
      obtain ⟨a, vs, M', rfl, e1, z, r, rfl⟩ := r1
      exact ⟨a, rfl, .inl ⟨⟨vs, .inl (.inl e1)⟩, h _ H1 _ [] s1 ⟨_, _, rfl, ⟨_, r0, f1⟩, rfl⟩ (fun p m => nomatch m) (itok_lst K a ds)⟩⟩
    | tup ds =>
      refine .inl ⟨ρ, P, E, ?_⟩
      rw [e]
      intro x H1 ⟨s1, M, r1, f1⟩
      have r0 := r1
      obtain ⟨a, vs, rfl, e1, z, r⟩ := r1
      exact ⟨a, rfl, .inr ⟨⟨vs, .inl (.inl e1)⟩, h _ H1 _ [] s1 ⟨_, _, rfl, ⟨_, r0, f1⟩, rfl⟩ (fun p m => nomatch m) (itok_tup K a ds)⟩⟩
    | str z =>
      refine .inr ⟨ρ, P, E, ?_⟩
      rw [e]
      intro x H1 ⟨s1, M, r1, f1⟩
      exact ⟨z, r1.1, h _ H1 _ [] s1 ⟨x, _, rfl, ⟨_, r1, f1⟩, rfl⟩ (fun p m => nomatch m) (itok_str x z _)⟩
    | _ => exact h.elim
theorem di_walk (ha : PE X a (RV C W f)) : PI X tg a (RI C W (walkI f)) := ((pi_seq ha).or (pi_str ha)).imp fun _ _ _ => ri_walk
end

/-! ### a def -/
abbrev FnP (K : PySem.W.Frag) (x : Str) (st : Stmt) (f : Addr) (fd : FuncData) : Prop := FunD K x x (defArgs st) (defBody st) (defScope st) [] [] f fd
theorem fn_ok {P : Program} {w : World} {K : PySem.W.Frag} {mg : Str → Option Value} {base : Heap} {cls : Str → Addr} {x : Str} {st : Stmt} {f : Addr} {fd : FuncData} {N ps : List Str} {k : Nat} {Fs : List D → Res D} {t : TD}
    (Fu : FnP K x st f fd) (S : FnScope N ps (defScope st))
    (body : ∀ (cdv : Value) (A : Around) (outer : List PySem.Env) (s : Shared) (H : Hp) (E : XK) (C : Ctx) (W : WX), C.cls = cls → Fx k C (cxOf (L2.CX P w) P w K mg base N x (defScope st) f cdv A outer s H E) W →
      PSs (cxOf (L2.CX P w) P w K mg base N x (defScope st) f cdv A outer s H E) (defBody st) (RS C W t))
    (len : ∀ ds, Fs ds ≠ .bad → ds.length = ps.length) (sem : ∀ ds, Fs ds ≠ .bad → t (endsOf (Fs ds)) (startD N.length ds)) : FnOk P w K mg base (L2.CX P w) (k + 1) f fd ps (SpP K cls Fs) := by
  refine Fu.ok S (fun vs H Q E h => ?_) (fun cdv A outer s H vs Q E hr h => ?_)
  · obtain ⟨ds, M, r, q⟩ := h
    rw [← r.length]
    exact len ds fun e => by rw [e] at q; exact q
  · obtain ⟨ds, M, r, q⟩ := h
    have hnb : Fs ds ≠ .bad := fun e => by rw [e] at q; exact q
    have tk : Takes (cxOf (L2.CX P w) P w K mg base N x (defScope st) f cdv A outer s H E) (fun c d _ H => E c d H) := takes_of rfl rfl rfl rfl
    have F : Fx k ⟨K, H, [], none, cls⟩ (cxOf (L2.CX P w) P w K mg base N x (defScope st) f cdv A outer s H E) (fun c d _ H => E c d H) :=
      ⟨rfl, tk, PassesOwn.leaving, rfl, by have := hr.un; show (A.deeper (PyProof.Rows.envOfC x (defScope st) s.heap.objs.size f cdv)).units + 200 < cLine; omega, S.nd, hr⟩
    refine ⟨_, body cdv A outer s H E _ _ rfl F, startD N.length ds, [], endsOf (Fs ds), env_start r, ?_, sem ds hnb⟩
    have key : ∀ {v : V} {H' : Hp} {d : D} {σ : St} {ρ : Env} {M : List Addr}, EnvOk ⟨K, H, [], none, cls⟩ [] H' σ ρ → Rep ⟨K, H, [], none, cls⟩ H' d v M → M.Nodup → (∀ a ∈ M, H a = none) → (∀ a ∈ M, Mut (H' a)) → Fs ds = .ok d → Q v H' := fun {v H' d σ ρ M} E' r n1 n2 n3 e => by
      rw [e] at q
      refine q v H' ⟨fun a o ea => ?_, M, Rep.ctx (C := ⟨K, H, [], none, cls⟩) (C' := ctx0 K cls) rfl r, n1, n2, n3⟩
      rcases E'.kept a o ea (by simp) with z | ⟨_, z⟩
      · exact z
      · cases z
    refine ⟨fun σ H' ρ E' e => ?_, fun σ H' ρ d v M E' r n1 n2 n3 e => key E' r n1 n2 n3 e, fun _ _ _ _ h => h, fun _ _ _ _ h => h, fun σ H' ρ c E' e => ?_⟩
    · exact key (d := .non) (v := .non) (M := []) E' ⟨rfl, rfl⟩ List.nodup_nil (fun a m => nomatch m) (fun a m => nomatch m) e
    · have e' : Fs ds = .ex c := e
      rw [e'] at q
      refine q H' fun a o ea => ?_
      rcases E'.kept a o ea (by simp) with z | ⟨_, z⟩
      · exact z
      · cases z
theorem fn_make {P : Program} {w : World} {K : PySem.W.Frag} {mg : Str → Option Value} {base : Heap} {cls : Str → Addr} {x : Str} {st : Stmt} {f : Addr} {fd : FuncData} {N ps : List Str} {k : Nat} {Fs : List D → Res D} {t : TD}
    (Fu : FnP K x st f fd) (hm : mg x = some (.ref f)) (S : FnScope N ps (defScope st)) (hb : ∀ (kV doc pm : Value) (an : Option Addr) (cdv ct : Value) (us : List Value), us.length = ps.length → bindArgs (PySem.W.fnOf x x (defArgs st) (defBody st) (defScope st) .none kV doc pm an cdv ct) ⟨us, []⟩ = pure (ps.zip us))
    (body : ∀ (cdv : Value) (A : Around) (outer : List PySem.Env) (s : Shared) (H : Hp) (E : XK) (C : Ctx) (W : WX), C.cls = cls → Fx k C (cxOf (L2.CX P w) P w K mg base N x (defScope st) f cdv A outer s H E) W →
      PSs (cxOf (L2.CX P w) P w K mg base N x (defScope st) f cdv A outer s H E) (defBody st) (RS C W t))
    (len : ∀ ds, Fs ds ≠ .bad → ds.length = ps.length) (sem : ∀ ds, Fs ds ≠ .bad → t (endsOf (Fs ds)) (startD N.length ds)) : Fn P w K mg base cls x (k + 1) Fs :=
  ⟨f, fd, ps, hm, Fu.kp, Fu.bindsN hb, fn_ok Fu S body len sem⟩
end DL
/-! DL18: short names for the printed terms. -/
namespace DL
open PySem L2
abbrev subK : FD → FD → Res FD := arI (fun _ _ => true) fun i j => i - j
abbrev fdivK : FD → FD → Res FD := arI divP fun i j => i / j
abbrev modK : FD → FD → Res FD := arI modP fun i j => i % j
abbrev powK : FD → FD → Res FD := arI powP fun i j => i ^ j.toNat
section
variable {R : Nat} {C : Ctx} {X : Cx} {W : WX} {a b c e : Expr} {es : List Expr} {f g h : Env → Res FD} {fa : Env → Res AD} {pos p apos cpos tpos : Pos}
theorem td_eq (F : Fx R C X W) (ha : PE X a (RV C W f)) (hb : PE X b (RV C W g)) : PT X (.Compare a [.Eq] [b] pos) (RT C W (blOf (bind2 f g (eqD false)))) :=
  pt_ofCmp (op_eqD (by have := F.hu; omega)) (eqD_op F.hK) eqD_nx ha hb (nomark _)
theorem td_ne (F : Fx R C X W) (ha : PE X a (RV C W f)) (hb : PE X b (RV C W g)) : PT X (.Compare a [.NotEq] [b] pos) (RT C W (blOf (bind2 f g (eqD true)))) :=
  pt_ofCmp (op_neD (by have := F.hu; omega)) (neD_op F.hK) eqD_nx ha hb (nomark _)
theorem td_isN (ha : PE X a (RV C W f)) (hb : PE X b (RV C W g)) : PT X (.Compare a [.Is] [b] pos) (RT C W (blOf (bind2 f g (isND false)))) := pt_ofCmp op_isN isND_op isND_nx ha hb (nomark _)
theorem td_isNN (ha : PE X a (RV C W f)) (hb : PE X b (RV C W g)) : PT X (.Compare a [.IsNot] [b] pos) (RT C W (blOf (bind2 f g (isND true)))) := pt_ofCmp op_notN isNND_op isND_nx ha hb (nomark _)
theorem td_lt (ha : PE X a (RV C W f)) (hb : PE X b (RV C W g)) : PT X (.Compare a [.Lt] [b] pos) (RT C W (blOf (bind2 f g (ordD ltI)))) := pt_ofCmp op_lt ordD_op ordD_nx ha hb (nomark _)
theorem td_le (ha : PE X a (RV C W f)) (hb : PE X b (RV C W g)) : PT X (.Compare a [.LtE] [b] pos) (RT C W (blOf (bind2 f g (ordD leI)))) := pt_ofCmp op_le ordD_op ordD_nx ha hb (nomark _)
theorem td_gt (ha : PE X a (RV C W f)) (hb : PE X b (RV C W g)) : PT X (.Compare a [.Gt] [b] pos) (RT C W (blOf (bind2 f g (ordD gtI)))) := pt_ofCmp op_gt ordD_op ordD_nx ha hb (nomark _)
theorem td_ge (ha : PE X a (RV C W f)) (hb : PE X b (RV C W g)) : PT X (.Compare a [.GtE] [b] pos) (RT C W (blOf (bind2 f g (ordD geI)))) := pt_ofCmp op_ge ordD_op ordD_nx ha hb (nomark _)
theorem td_in (F : Fx R C X W) (ha : PE X a (RV C W f)) (hb : PE X b (RV C W g)) (hm : behindInMarks .In b = false := by rfl) : PT X (.Compare a [.In] [b] pos) (RT C W (blOf (bind2 f g (inF false)))) :=
  pt_ofCmp ((op_inP (by have := F.hu; omega)).or ((op_inDict (by have := F.hu; omega)).or op_in_str)) (inF_op F.hK) inF_nx ha hb hm
theorem td_notIn (F : Fx R C X W) (ha : PE X a (RV C W f)) (hb : PE X b (RV C W g)) (hm : behindInMarks .NotIn b = false := by rfl) : PT X (.Compare a [.NotIn] [b] pos) (RT C W (blOf (bind2 f g (inF true)))) :=
  pt_ofCmp ((op_notInP (by have := F.hu; omega)).or ((op_notInDict (by have := F.hu; omega)).or op_notin_str)) (inF_op F.hK) inF_nx ha hb hm
theorem pd_lele (ha : PE X a (RV C W f)) (hb : PE X b (RV C W g)) (hc : PE X c (RV C W h)) (hm : lastMarks [.LtE, .LtE] [b, c] = false := by with_unfolding_all rfl) : PE X (.Compare a [.LtE, .LtE] [b, c] pos) (RV C W (boolF (chainF f g h leI leI))) := pd_chain op_le op_le ha hb hc hm
theorem td_lele (ha : PE X a (RV C W f)) (hb : PE X b (RV C W g)) (hc : PE X c (RV C W h)) (hm : lastMarks [.LtE, .LtE] [b, c] = false := by with_unfolding_all rfl) : PT X (.Compare a [.LtE, .LtE] [b, c] pos) (RT C W (chainF f g h leI leI)) := td_chain op_le op_le ha hb hc hm
theorem td_andW {es : List Expr} {t : Env → Res Bool} (h : PW X (.BoolOp .And es pos) (RT C W t)) : PT X (.BoolOp .And es pos) (RT C W t) := h.pt
theorem td_orW {es : List Expr} {t : Env → Res Bool} (h : PW X (.BoolOp .Or es pos) (RT C W t)) : PT X (.BoolOp .Or es pos) (RT C W t) := h.pt
theorem pd_lc {elt tg iter : Expr} {ifs : List Expr} {scope : Scope} (own : List (Str × Nat)) {fi : Env → Res ID} {t : Tg} {tt : Env → Res Bool} {te : Env → Res FD} (F : Fx R C X W) (hi : PI X tg iter (RI C W fi)) (ok : blkC X.N X.env.scope scope own = true)
    (ht' : t.ix.all (fun i => (own.map (·.2)).contains i) = true)
    (hg : ∀ (s : Shared) (H : Hp) (C' : Addr) (cl : List (Str × Addr)) (fp : List Addr), Fx R C (X.blk s H scope (compEnvC scope cl C' X.env) fp) W0 → PG (X.blk s H scope (compEnvC scope cl C' X.env) fp) tg (gOf X.K t))
    (ht : ∀ (s : Shared) (H : Hp) (C' : Addr) (cl : List (Str × Addr)) (fp : List Addr), Fx R C (X.blk s H scope (compEnvC scope cl C' X.env) fp) W0 → PTs (X.blk s H scope (compEnvC scope cl C' X.env) fp) ifs (RT C W0 tt))
    (he : ∀ (s : Shared) (H : Hp) (C' : Addr) (cl : List (Str × Addr)) (fp : List Addr), Fx R C (X.blk s H scope (compEnvC scope cl C' X.env) fp) W0 → PE (X.blk s H scope (compEnvC scope cl C' X.env) fp) elt (RV C W0 te))
    (hs : ∀ x, foldedSetIterable iter X.env x = pure x := by exact fun _ => rfl) :
    PE X (.ListComp elt [⟨tg, iter, ifs, 0⟩] scope pos) (RV C W (compF fi t tt te (own.map (·.2)))) :=
  pd_comp F hi ok ht' (fun s H C' cl fp => hg s H C' cl fp F.blk) ht he hs
theorem ds_setLc {i : Nat} {y : Str} {py : Pos} {elt tg iter : Expr} {ifs : List Expr} {scope : Scope} (own : List (Str × Nat)) {fi : Env → Res ID} {t : Tg} {tt : Env → Res Bool} {te : Env → Res FD} {spos : Pos} (F : Fx R C X W) (hy : X.N[i]? = some y) (hyl : X.env.scope.names.lookup y = some .local)
    (hi : PI X tg iter (RI C W fi)) (ok : blkC X.N X.env.scope scope own = true)
    (ht' : t.ix.all (fun i => (own.map (·.2)).contains i) = true)
    (hg : ∀ (s : Shared) (H : Hp) (C' : Addr) (cl : List (Str × Addr)) (fp : List Addr), Fx R C (X.blk s H scope (compEnvC scope cl C' X.env) fp) W0 → PG (X.blk s H scope (compEnvC scope cl C' X.env) fp) tg (gOf X.K t))
    (ht : ∀ (s : Shared) (H : Hp) (C' : Addr) (cl : List (Str × Addr)) (fp : List Addr), Fx R C (X.blk s H scope (compEnvC scope cl C' X.env) fp) W0 → PTs (X.blk s H scope (compEnvC scope cl C' X.env) fp) ifs (RT C W0 tt))
    (he : ∀ (s : Shared) (H : Hp) (C' : Addr) (cl : List (Str × Addr)) (fp : List Addr), Fx R C (X.blk s H scope (compEnvC scope cl C' X.env) fp) W0 → PE (X.blk s H scope (compEnvC scope cl C' X.env) fp) elt (RV C W0 te))
    (hsw : swapsWith (.ListComp elt [⟨tg, iter, ifs, 0⟩] scope pos) (some (.Name y py)) spos.line X.env = pure true := by rfl)
    (hs : ∀ x, foldedSetIterable iter X.env x = pure x := by exact fun _ => rfl) :
    PS X (.Assign [.Name y py] (.ListComp elt [⟨tg, iter, ifs, 0⟩] scope pos) spos) (RS C W (dSet i (compF fi t tt te (own.map (·.2))))) :=
  ds_setComp F hy hyl hsw hi ok ht' (fun s H C' cl fp => hg s H C' cl fp F.blk) ht he hs
theorem ds_iadd (i : Nat) {x : Str} (F : Fx R C X W) (he : PE X e (RV C W f)) (hN : X.N[i]? = some x := by rfl) (hx : Loc X.env.scope x := by first | exact .inl rfl | exact .inr rfl)
    (hf : X.fn x = true ∨ X.env.scope.names.lookup x = some .local := by first | exact .inl rfl | exact .inr rfl | assumption) : PS X (.AugAssign (.Name x p) .Add e pos) (RS C W (dAug i f fun m n => m + n)) :=
  ds_aug i F (fun pins s σ H x y v u Q I rx ry q => ip_add pins s σ H x y v u Q I rx ry q) he hN hx hf
end
end DL
/-! DL19: defs that change an argument. -/
namespace DL
open PySem L2

/-- what is left of the heap, and the changed argument -/
def IoFrame (C : Ctx) (H H' : Hp) (v : V) (d' : D) (M : List Addr) : Prop := (∀ a o, H a = some o → a ∉ M → H' a = some o) ∧ (∀ a, H' a = none → H a = none) ∧
  ∃ M', Rep C H' d' v M' ∧ M'.Nodup ∧ (∀ a ∈ M', a ∈ M ∨ H a = none) ∧ ∀ a ∈ M', Mut (H' a)
/-- the argument ahead, and that the others are apart from it -/
structure IoArg (C : Ctx) (H : Hp) (j : Nat) (ds : List D) (vs : List V) (v : V) (M : List Addr) : Prop where
  at_ : ∃ d, ds[j]? = some d ∧ Rep C H d v M
  val : vs[j]? = some v
  nd : M.Nodup
  mu : ∀ a ∈ M, Mut (H a)
  apart : ∀ (i : Nat) (d : D) (w : V) (N : List Addr), i ≠ j → ds[i]? = some d → vs[i]? = some w → Rep C H d w N → ∀ a ∈ M, a ∉ N
/-- a def that works on trees as F says, and changes its j-th argument so -/
def SpIO (K : PySem.W.Frag) (cls : Str → Addr) (j : Nat) (F : List D → Res D × D) : Sp := fun vs H Q E => ∃ ds Ms v M, RepL (ctx0 K cls) H ds vs Ms ∧ IoArg (ctx0 K cls) H j ds vs v M ∧ match (F ds).1 with
  | .ok d => imm d = true ∧ ∀ u H', IoFrame (ctx0 K cls) H H' v (F ds).2 M → Rep (ctx0 K cls) H' d u [] → Q u H'
  | .ex c => ∀ H', IoFrame (ctx0 K cls) H H' v (F ds).2 M → E (.ref (cls c)) none H'
  | .bad => False
structure FnIO (P : Program) (w : World) (K : PySem.W.Frag) (mg : Str → Option Value) (base : Heap) (cls : Str → Addr) (x : Str) (j k : Nat) (F : List D → Res D × D) : Prop where
  ex : ∃ f fd ps, mg x = some (.ref f) ∧ PySem.W.keepIn K (.ref f) = true ∧ Binds K fd ps [] ∧ FnOk P w K mg base (L2.CX P w) k f fd ps (SpIO K cls j F)
def startIO (n j : Nat) (ds : List D) : Env := (startD n ds).modify j fun s => s.map fun p => (Ow.io, p.2)
theorem startIO_at {n j i : Nat} {o : Ow} {d : D} {ds : List D} (e : (startIO n j ds)[i]? = some (some (o, d))) : ds[i]? = some d ∧ ((i ≠ j ∧ o = .sh) ∨ (i = j ∧ o = .io)) := by
  unfold startIO at e
  rw [List.getElem?_modify] at e
  cases q : (startD n ds)[i]? with
  | none => rw [q] at e; cases e
  | some s =>
    rw [q] at e
    simp only [Option.map_eq_map, Option.map_some] at e
    cases s with
    | none =>
      by_cases h : j = i
      · rw [if_pos h] at e; cases e
      · rw [if_neg h] at e; cases e
    | some p =>
      obtain ⟨o', d'⟩ := p
      obtain ⟨rfl, e1⟩ := startD_at q
      by_cases h : j = i
      · rw [if_pos h] at e; cases e; exact ⟨e1, .inr ⟨h.symm, rfl⟩⟩
      · rw [if_neg h] at e; cases e; exact ⟨e1, .inl ⟨fun z => h z.symm, rfl⟩⟩
theorem startIO_len (n j : Nat) (ds : List D) : (startIO n j ds).length = (startD n ds).length := by unfold startIO; simp
theorem env_startIO {K : PySem.W.Frag} {cls : Str → Addr} {H : Hp} {N : List Str} {ds : List D} {vs : List V} {Ms M : List Addr} {j : Nat} {v : V} (r : RepL (ctx0 K cls) H ds vs Ms) (io : IoArg (ctx0 K cls) H j ds vs v M) :
    EnvOk ⟨K, H, M, some v, cls⟩ [] H (L2.start N vs) (startIO N.length j ds) := by
  have hl := r.length
  have sv : ∀ {i : Nat} {w : V}, vs[i]? = some w → (L2.start N vs)[i]? = some (some w) := fun {i w} e => by
    unfold L2.start
    have hi := (List.getElem?_eq_some_iff.mp e).1
    rw [List.getElem?_append_left (by simpa using hi), List.getElem?_map, e]
    rfl
  have vs' : ∀ {i : Nat} {w : V} {d : D}, ds[i]? = some d → (L2.start N vs)[i]? = some (some w) → vs[i]? = some w := fun {i w d} ed e => by
    have hi := (List.getElem?_eq_some_iff.mp ed).1
    rw [hl] at hi
    rw [sv (List.getElem?_eq_getElem hi)] at e
    rw [List.getElem?_eq_getElem hi]
    simpa using e
  refine ⟨by rw [startIO_len]; unfold L2.start startD; simp [hl], fun i o d e => ?_, (fun p m => nomatch m), fun a o e _ => .inl e, fun a e => e⟩
  obtain ⟨e1, q⟩ := startIO_at e
  obtain ⟨d0, ed0, rj⟩ := io.at_
  rcases q with ⟨hj, rfl⟩ | ⟨rfl, rfl⟩
  · obtain ⟨w, M', e2, r', _⟩ := r.get e1
    exact ⟨w, M', sv e2, Rep.ctx (C := ctx0 K cls) (C' := ⟨K, H, M, some v, cls⟩) rfl r', (fun h => by cases h), (fun h => by cases h), (fun h => by cases h), fun h => by cases h⟩
  · rw [ed0] at e1; cases e1
    refine ⟨v, M, sv io.val, Rep.ctx (C := ctx0 K cls) (C' := ⟨K, H, M, some v, cls⟩) rfl rj, fun _ => ⟨io.nd, io.mu, fun l o' d' w N hl' el sl rl => ?_, fun p m => nomatch m⟩, (fun h => by cases h), (fun _ => ⟨fun a m => .inl m, rfl⟩), fun h => by cases h⟩
    obtain ⟨el1, _⟩ := startIO_at el
    exact io.apart l d' w N hl' el1 (vs' el1 sl) (Rep.ctx (C := ⟨K, H, M, some v, cls⟩) (C' := ctx0 K cls) rfl rl)
/-- the ends of such a def -/
def endsIO (j : Nat) (r : Res D × D) : EndsD := { nx := fun ρ => r.1 = .ok .non ∧ ρ[j]? = some (some (.io, r.2)), rt := fun d ρ => r.1 = .ok d ∧ imm d = true ∧ ρ[j]? = some (some (.io, r.2)), ex := fun c ρ => r.1 = .ex c ∧ ρ[j]? = some (some (.io, r.2)) }
theorem io_frame {K : PySem.W.Frag} {cls : Str → Addr} {H H' : Hp} {M : List Addr} {v : V} {d : D} {j : Nat} {σ : St} {ρ : Env} (E : EnvOk ⟨K, H, M, some v, cls⟩ [] H' σ ρ) (ej : ρ[j]? = some (some (.io, d))) : IoFrame (ctx0 K cls) H H' v d M := by
  obtain ⟨w, M', e1, r, ow, lo, io, _⟩ := E.at_ j .io d ej
  obtain ⟨q1, q2⟩ := io rfl
  cases q2
  obtain ⟨nd, mu, _⟩ := ow rfl
  refine ⟨fun a o ea n => ?_, E.keptd, M', Rep.ctx (C := ⟨K, H, M, some v, cls⟩) (C' := ctx0 K cls) rfl r, nd, q1, mu⟩
  rcases E.kept a o ea n with z | ⟨_, z⟩
  · exact z
  · cases z
theorem fn_makeIO {P : Program} {w : World} {K : PySem.W.Frag} {mg : Str → Option Value} {base : Heap} {cls : Str → Addr} {x : Str} {st : Stmt} {f : Addr} {fd : FuncData} {N ps : List Str} {j k : Nat} {Fs : List D → Res D × D} {t : TD}
    (Fu : FnP K x st f fd) (hm : mg x = some (.ref f)) (S : FnScope N ps (defScope st)) (hb : ∀ (kV doc pm : Value) (an : Option Addr) (cdv ct : Value) (us : List Value), us.length = ps.length → bindArgs (PySem.W.fnOf x x (defArgs st) (defBody st) (defScope st) .none kV doc pm an cdv ct) ⟨us, []⟩ = pure (ps.zip us))
    (body : ∀ (cdv : Value) (A : Around) (outer : List PySem.Env) (s : Shared) (H : Hp) (E : XK) (C : Ctx) (W : WX), C.cls = cls → Fx k C (cxOf (L2.CX P w) P w K mg base N x (defScope st) f cdv A outer s H E) W →
      PSs (cxOf (L2.CX P w) P w K mg base N x (defScope st) f cdv A outer s H E) (defBody st) (RS C W t))
    (len : ∀ ds, (Fs ds).1 ≠ .bad → ds.length = ps.length) (sem : ∀ ds, (Fs ds).1 ≠ .bad → t (endsIO j (Fs ds)) (startIO N.length j ds)) : FnIO P w K mg base cls x j (k + 1) Fs := by
  refine ⟨f, fd, ps, hm, Fu.kp, Fu.bindsN hb, ?_⟩
  refine Fu.ok S (fun vs H Q E h => ?_) (fun cdv A outer s H vs Q E hr h => ?_)
  · obtain ⟨ds, Ms, v, M, r, io, q⟩ := h
    rw [← r.length]
    exact len ds fun e => by rw [e] at q; exact q
  · obtain ⟨ds, Ms, v, M, r, io, q⟩ := h
    have hnb : (Fs ds).1 ≠ .bad := fun e => by rw [e] at q; exact q
    have tk : Takes (cxOf (L2.CX P w) P w K mg base N x (defScope st) f cdv A outer s H E) (fun c d _ H => E c d H) := takes_of rfl rfl rfl rfl
    have F : Fx k ⟨K, H, M, some v, cls⟩ (cxOf (L2.CX P w) P w K mg base N x (defScope st) f cdv A outer s H E) (fun c d _ H => E c d H) :=
      ⟨rfl, tk, PassesOwn.leaving, rfl, by have := hr.un; show (A.deeper (PyProof.Rows.envOfC x (defScope st) s.heap.objs.size f cdv)).units + 200 < cLine; omega, S.nd, hr⟩
    refine ⟨_, body cdv A outer s H E _ _ rfl F, startIO N.length j ds, [], endsIO j (Fs ds), env_startIO r io, ?_, sem ds hnb⟩
    refine ⟨fun σ H' ρ E' e => ?_, fun σ H' ρ d u M1 E' r1 n1 n2 n3 e => ?_, fun _ _ _ _ h => h, fun _ _ _ _ h => h, fun σ H' ρ c E' e => ?_⟩
    · rw [e.1] at q
      exact q.2 _ H' (io_frame E' e.2) ⟨rfl, rfl⟩
    · rw [e.1] at q
      have := r1.imm e.2.1
      subst this
      exact q.2 _ H' (io_frame E' e.2.2) (Rep.ctx (C := ⟨K, H, M, some v, cls⟩) (C' := ctx0 K cls) rfl r1)
    · rw [e.1] at q
      exact q H' (io_frame E' e.2)

/-! ### arguments, each with its flag and its slot -/
abbrev XD := FD × Option Nat
def ArgsOk (C : Ctx) (H : Hp) (σ : St) (ρ : Env) (H' : Hp) : List XD → List V → Prop
  | [], vs => vs = []
  | x :: xs, vs => ∃ v r, vs = v :: r ∧ (∃ M, Rep C H' x.1.2 v M ∧ FlOk C H σ ρ H' x.1.1 M) ∧ (∀ i, x.2 = some i → σ[i]? = some (some v) ∧ ∃ o, ρ[i]? = some (some (o, x.1.2))) ∧ ArgsOk C H σ ρ H' xs r
def RX (C : Ctx) (W : WX) (f : Env → Res (List XD)) : TA := fun σ H Q => ∃ ρ P, EnvOk C P H σ ρ ∧ match f ρ with
  | .ok xs => ∀ vs H', Same H H' → ArgsOk C H σ ρ H' xs vs → Q vs H'
  | .ex c => ∀ H', Same H H' → W (.ref (C.cls c)) none σ H'
  | .bad => False
def nilX : Env → Res (List XD) := fun _ => .ok []
def varX (i : Nat) (g : Env → Res (List XD)) : Env → Res (List XD) := fun ρ => (dVar i ρ).bind fun x => (g ρ).bind fun y => .ok ((x, some i) :: y)
def consX (f : Env → Res FD) (g : Env → Res (List XD)) : Env → Res (List XD) := fun ρ => (f ρ).bind fun x => (g ρ).bind fun y => .ok ((x, none) :: y)
section
variable {R : Nat} {C : Ctx} {X : Cx} {W : WX} {a b e : Expr} {es : List Expr} {f : Env → Res FD} {g : Env → Res (List XD)} {P : List Pt} {pos p : Pos}
theorem ArgsOk.early {H0 H H' : Hp} {σ : St} {ρ : Env} (E : EnvOk C P H0 σ ρ) (s : Same H0 H) : ∀ {xs : List XD} {vs : List V}, ArgsOk C H σ ρ H' xs vs → ArgsOk C H0 σ ρ H' xs vs
  | [], _, h => h
  | x :: xs, vs, h => by
    obtain ⟨v, r, e, ⟨M, rr, q⟩, sl, t⟩ := h
    exact ⟨v, r, e, ⟨M, rr, q.early E s⟩, sl, ArgsOk.early E s t⟩
theorem dVar_slot {i : Nat} {ρ : Env} {x : FD} (e : dVar i ρ = .ok x) : ∃ o, ρ[i]? = some (some (o, x.2)) := by
  unfold dVar at e
  split at e
  · rename_i d ei; cases e; exact ⟨_, ei⟩
  · rename_i d ei; cases e; exact ⟨_, ei⟩
  · rename_i d ei; cases e; exact ⟨_, ei⟩
  · rename_i d ei; cases e; exact ⟨_, ei⟩
  · cases e
theorem rx_nil {σ : St} {H : Hp} {Q : List V → Hp → Prop} (h : RX C W nilX σ H Q) : tNil σ H Q := by
  obtain ⟨ρ, P, E, h⟩ := h
  exact h [] H (Same.refl H) rfl
theorem rx_tail {σ : St} {H H1 : Hp} {ρ : Env} {Q : List V → Hp → Prop} {x : FD} {o : Option Nat} {v : V} {M : List Addr} (E : EnvOk C P H σ ρ) (s1 : Same H H1) (r1 : Rep C H1 x.2 v M) (f1 : FlOk C H σ ρ H1 x.1 M) (sl : ∀ i, o = some i → σ[i]? = some (some v) ∧ ∃ w, ρ[i]? = some (some (w, x.2)))
    (h : match (g ρ).bind (fun y => .ok ((x, o) :: y)) with
      | .ok xs => ∀ vs H', Same H H' → ArgsOk C H σ ρ H' xs vs → Q vs H'
      | .ex c => ∀ H', Same H H' → W (.ref (C.cls c)) none σ H'
      | .bad => False) : RX C W g σ H1 fun vs H2 => Q (v :: vs) H2 := by
  refine ⟨ρ, P, E.same s1, ?_⟩
  cases e2 : g ρ with
  | bad => rw [e2] at h; exact h
  | ex c => rw [e2] at h; exact fun H' s' => h H' (s1.trans s')
  | ok y =>
    rw [e2] at h
    simp only [Res.ok_bind] at h
    intro vs H2 s2 q
    exact h (v :: vs) H2 (s1.trans s2) ⟨v, vs, rfl, ⟨M, r1.same s2, f1.on s2⟩, sl, q.early E s1⟩
theorem rx_cons {σ : St} {H : Hp} {Q : List V → Hp → Prop} (h : RX C W (consX f g) σ H Q) : tCons (RV C W f) (RX C W g) σ H Q := by
  obtain ⟨ρ, P, E, h⟩ := h
  refine ⟨ρ, P, E, ?_⟩
  unfold consX at h
  cases e : f ρ with
  | bad => rw [e] at h; exact h
  | ex c => rw [e] at h; exact h
  | ok fx =>
    rw [e] at h
    simp only [Res.ok_bind] at h
    intro x H1 ⟨s1, M, r1, f1⟩
    exact rx_tail E s1 r1 f1 (fun i z => by cases z) h
theorem rx_var {i : Nat} {σ : St} {H : Hp} {Q : List V → Hp → Prop} (h : RX C W (varX i g) σ H Q) : tCons (tVar i) (RX C W g) σ H Q := by
  obtain ⟨ρ, P, E, h⟩ := h
  have ev : ∃ v, σ[i]? = some (some v) := by
    unfold varX dVar at h
    cases ei : ρ[i]? with
    | none => rw [ei] at h; exact h.elim
    | some s =>
      cases s with
      | none => rw [ei] at h; exact h.elim
      | some q =>
        obtain ⟨v, _, e1, _⟩ := E.at_ i q.1 q.2 ei
        exact ⟨v, e1⟩
  obtain ⟨v, ev⟩ := ev
  obtain ⟨v', ev', q⟩ := rv_var (C := C) (W := W) (i := i) (σ := σ) (H := H) (Q := fun x H1 => RX C W g σ H1 fun vs H2 => Q (x :: vs) H2 ∨ x ≠ v) ⟨ρ, P, E, by
    unfold varX at h
    cases e : dVar i ρ with
    | bad => rw [e] at h; exact h
    | ex c => rw [e] at h; exact h
    | ok fx =>
      rw [e] at h
      simp only [Res.ok_bind] at h
      intro x H1 ⟨s1, M, r1, f1⟩
      by_cases hx : x = v
      · subst hx
        have := rx_tail (o := some i) E s1 r1 f1 (fun j z => by cases z; exact ⟨ev, dVar_slot e⟩) h
        obtain ⟨ρ2, P2, E2, k⟩ := this
        refine ⟨ρ2, P2, E2, ?_⟩
        cases eg : g ρ2 with
        | bad => rw [eg] at k; exact k
        | ex c => rw [eg] at k; exact k
        | ok y => rw [eg] at k; exact fun vs H' s ao => .inl (k vs H' s ao)
      · refine ⟨ρ, P, E.same s1, ?_⟩
        cases e2 : g ρ with
        | bad => rw [e2] at h; exact h
        | ex c => rw [e2] at h; exact fun H' s' => h H' (s1.trans s')
        | ok y => exact fun vs H' _ _ => .inr hx⟩
  rw [ev] at ev'
  cases ev'
  refine ⟨v, ev, ?_⟩
  obtain ⟨ρ2, P2, E2, k⟩ := q
  refine ⟨ρ2, P2, E2, ?_⟩
  cases eg : g ρ2 with
  | bad => rw [eg] at k; exact k
  | ex c => rw [eg] at k; exact k
  | ok y => rw [eg] at k; exact fun vs H' s ao => (k vs H' s ao).elim id fun z => absurd rfl z
theorem px_nil : PA X [] (RX C W nilX) := pa_nil.imp fun _ _ _ => rx_nil
theorem px_cons (ha : PE X e (RV C W f)) (hr : PA X es (RX C W g)) (hs : starEach (e :: es) X.env = (false, eval e X.env) :: starEach es X.env := by rfl) : PA X (e :: es) (RX C W (consX f g)) := (pa_cons ha hr hs).imp fun _ _ _ => rx_cons
theorem px_var (i : Nat) {x : Str} (hr : PA X es (RX C W g)) (hN : X.N[i]? = some x := by rfl) (hv : Vis X.env.scope x := by first | exact Or.inl rfl | exact Or.inr (Or.inl rfl) | exact Or.inr (Or.inr rfl)) (hd : (x == ("__debug__" : Str)) = false := by decide)
    (hcd : (x == ("__classdict__" : Str)) = false := by decide) (hs : starEach (.Name x p :: es) X.env = (false, eval (.Name x p) X.env) :: starEach es X.env := by rfl) : PA X (.Name x p :: es) (RX C W (varX i g)) := (pa_cons (pv i hN hv hd hcd) hr hs).imp fun _ _ _ => rx_var

/-! ### the call -/
/-- a value, and the names as it leaves them -/
def RE (C : Ctx) (W : WX) (f : Env → Res D × Env) : TE := fun σ H Q => ∃ ρ P, EnvOk C P H σ ρ ∧ match (f ρ).1 with
  | .ok d => ∀ v H', EnvOk C P H' σ (f ρ).2 → Rep C H' d v [] → Q v H'
  | .ex c => ∀ H', EnvOk C P H' σ (f ρ).2 → W (.ref (C.cls c)) none σ H'
  | .bad => False
def okOther (o : Option Nat) (x : XD) : Bool := imm x.1.2 || match x.2 with
  | some i => decide (o ≠ some i)
  | none => false
def oth (o : Option Nat) : Nat → List XD → Bool
  | _, [] => true
  | 0, _ :: xs => xs.all (okOther o)
  | j + 1, x :: xs => okOther o x && oth o j xs
theorem oth_at {o : Option Nat} : ∀ {j : Nat} {xs : List XD}, oth o j xs = true → ∀ {i : Nat} {x : XD}, i ≠ j → xs[i]? = some x → okOther o x = true
  | _, [], _, i, x, _, e => by simp at e
  | 0, y :: xs, h, i, x, ne, e => by
    cases i with
    | zero => exact absurd rfl ne
    | succ i => exact List.all_eq_true.mp h x (List.mem_of_getElem? (by simpa using e))
  | j + 1, y :: xs, h, i, x, ne, e => by
    unfold oth at h
    rw [Bool.and_eq_true] at h
    cases i with
    | zero => simp at e; subst e; exact h.1
    | succ i => exact oth_at h.2 (i := i) (fun z => ne (by rw [z])) (by simpa using e)
def immR : Res D → Res D
  | .ok d => if imm d = true then .ok d else .bad
  | r => r
def callIo (j : Nat) (F : List D → Res D × D) (fa : Env → Res (List XD)) : Env → Res D × Env := fun ρ => match fa ρ with
  | .ok xs => match xs[j]? with
    | some x => if oth x.2 j xs = true then match x.2 with
      | some i => match ρ[i]? with
        | some (some (ow, _)) => if ow.own = true then (immR (F (xs.map fun y => y.1.2)).1, ρ.set i (some (ow, (F (xs.map fun y => y.1.2)).2))) else (.bad, ρ)
        | _ => (.bad, ρ)
      | none => if x.1.1 = .fr then (immR (F (xs.map fun y => y.1.2)).1, ρ) else (.bad, ρ)
      else (.bad, ρ)
    | none => (.bad, ρ)
  | .ex c => (.ex c, ρ)
  | .bad => (.bad, ρ)
theorem ArgsOk.rep {H H' : Hp} {σ : St} {ρ : Env} : ∀ {xs : List XD} {vs : List V}, ArgsOk C H σ ρ H' xs vs → ∃ Ms, RepL C H' (xs.map fun y => y.1.2) vs Ms
  | [], vs, h => ⟨[], h, rfl⟩
  | x :: xs, vs, h => by
    obtain ⟨v, r, rfl, ⟨M, rr, _⟩, _, t⟩ := h
    obtain ⟨Ms, q⟩ := ArgsOk.rep t
    exact ⟨M ++ Ms, v, r, M, Ms, rfl, rr, q, rfl⟩
theorem ArgsOk.get {H H' : Hp} {σ : St} {ρ : Env} : ∀ {xs : List XD} {vs : List V} {i : Nat} {x : XD}, ArgsOk C H σ ρ H' xs vs → xs[i]? = some x → ∃ v, vs[i]? = some v ∧ (∃ M, Rep C H' x.1.2 v M ∧ FlOk C H σ ρ H' x.1.1 M) ∧ ∀ l, x.2 = some l → σ[l]? = some (some v) ∧ ∃ o, ρ[l]? = some (some (o, x.1.2))
  | [], vs, i, x, h, e => by simp at e
  | y :: xs, vs, 0, x, h, e => by
    obtain ⟨v, r, rfl, q, sl, t⟩ := h
    simp at e
    subst e
    exact ⟨v, rfl, q, sl⟩
  | y :: xs, vs, i + 1, x, h, e => by
    obtain ⟨v, r, rfl, q, sl, t⟩ := h
    obtain ⟨w, e1, k⟩ := ArgsOk.get (i := i) t (by simpa using e)
    exact ⟨w, by simpa using e1, k⟩
theorem re_call {j : Nat} {Fd : List D → Res D × D} {fa : Env → Res (List XD)} {σ : St} {H : Hp} {Q : VK} (h : RE C W (callIo j Fd fa) σ H Q) : tCallS (SpIO C.K C.cls j Fd) (WE W) (RX C W fa) σ H Q := by
  obtain ⟨ρ, P, E, h⟩ := h
  refine ⟨ρ, P, E, ?_⟩
  unfold callIo at h
  cases e : fa ρ with
  | bad => rw [e] at h; exact h
  | ex c => rw [e] at h; exact fun H' s => h H' (E.same s)
  | ok xs =>
    rw [e] at h
    dsimp only at h
    intro vs H1 s1 ao
    have E1 := E.same s1
    cases ej : xs[j]? with
    | none => rw [ej] at h; exact h.elim
    | some x =>
      rw [ej] at h
      dsimp only at h
      by_cases ho : oth x.2 j xs = true
      · rw [if_pos ho] at h
        obtain ⟨Ms, rl⟩ := ao.rep
        obtain ⟨v, ev, ⟨M, rv, fl⟩, sl⟩ := ao.get ej
        have toC0 : ∀ {Hh : Hp} {d : D} {v : V} {M : List Addr}, Rep C Hh d v M → Rep (ctx0 C.K C.cls) Hh d v M := fun r => Rep.ctx (C := C) (C' := ctx0 C.K C.cls) rfl r
        have toC : ∀ {Hh : Hp} {d : D} {v : V} {M : List Addr}, Rep (ctx0 C.K C.cls) Hh d v M → Rep C Hh d v M := fun r => Rep.ctx (C := ctx0 C.K C.cls) (C' := C) rfl r
        have edj : (xs.map fun y => y.1.2)[j]? = some x.1.2 := by rw [List.getElem?_map, ej]; rfl
        cases hx : x.2 with
        | some i =>
          rw [hx] at h
          dsimp only at h
          obtain ⟨es, ⟨ow, ei⟩⟩ := sl i hx
          rw [ei] at h
          dsimp only at h
          by_cases hw : ow.own = true
          · rw [if_pos hw] at h
            dsimp only at h
            obtain ⟨v', M', e1, r1, own, _⟩ := E1.at_ i ow _ ei
            rw [es] at e1; cases e1
            rw [r1.uniq rv] at own
            obtain ⟨q1, q2, q3, q4⟩ := own hw
            refine ⟨_, Ms, v, M, RepL.ctx (C := C) (C' := ctx0 C.K C.cls) rfl rl, ⟨⟨_, edj, toC0 rv⟩, ev, q1, q2, fun l d w N hl el ew rw' => ?_⟩, ?_⟩
            · rw [List.getElem?_map] at el
              cases ey : xs[l]? with
              | none => rw [ey] at el; cases el
              | some y =>
                rw [ey] at el
                cases el
                have ok := oth_at ho hl ey
                unfold okOther at ok
                rw [Bool.or_eq_true] at ok
                rcases ok with ok | ok
                · rw [rw'.imm ok]
                  exact fun _ _ z => nomatch z
                · obtain ⟨w', ew', _, sl'⟩ := ao.get ey
                  rw [ew] at ew'; cases ew'
                  cases hy : y.2 with
                  | none => rw [hy] at ok; cases ok
                  | some l' =>
                    rw [hy] at ok
                    have hne : x.2 ≠ some l' := of_decide_eq_true ok
                    obtain ⟨es', o', er'⟩ := sl' l' hy
                    exact q3 l' o' _ w N (fun z => hne (by rw [hx, z])) er' es' (toC rw')
            · have fr : ∀ {H2 : Hp} {d2 : D}, IoFrame (ctx0 C.K C.cls) H1 H2 v d2 M → EnvOk C P H2 σ (ρ.set i (some (ow, d2))) := fun {H2 d2} ⟨k, kn, M2, r2, nd2, sub2, mu2⟩ =>
                E.mutate s1 ei hw es rv (toC r2) (fun a u n ea => k a u ea n) (fun a m z => by
                  obtain ⟨u, hu⟩ := rv.dom a m
                  rw [kn a z] at hu; cases hu) nd2 mu2 fun a m => (sub2 a m).imp id fun z => s1.free z
              cases er : (Fd (xs.map fun y => y.1.2)).1 with
              | bad => rw [er] at h; exact h.elim
              | ex c =>
                rw [er] at h
                exact fun H2 f2 => h H2 (fr f2)
              | ok d =>
                rw [er] at h
                unfold immR at h
                dsimp only at h
                by_cases hi : imm d = true
                · rw [if_pos hi] at h
                  exact ⟨hi, fun u H2 f2 ru => h u H2 (fr f2) (toC ru)⟩
                · rw [if_neg hi] at h; exact h.elim
          · rw [if_neg hw] at h; exact h.elim
        | none =>
          rw [hx] at h
          dsimp only at h
          by_cases hf : x.1.1 = .fr
          · rw [if_pos hf] at h
            dsimp only at h
            rw [hf] at fl
            obtain ⟨q1, q2, q3⟩ := fl
            refine ⟨_, Ms, v, M, RepL.ctx (C := C) (C' := ctx0 C.K C.cls) rfl rl, ⟨⟨_, edj, toC0 rv⟩, ev, q1, q3, fun l d w N hl el ew rw' => ?_⟩, ?_⟩
            · rw [List.getElem?_map] at el
              cases ey : xs[l]? with
              | none => rw [ey] at el; cases el
              | some y =>
                rw [ey] at el
                cases el
                have ok := oth_at ho hl ey
                unfold okOther at ok
                rw [Bool.or_eq_true] at ok
                rcases ok with ok | ok
                · rw [rw'.imm ok]
                  exact fun _ _ z => nomatch z
                · obtain ⟨w', ew', _, sl'⟩ := ao.get ey
                  rw [ew] at ew'; cases ew'
                  cases hy : y.2 with
                  | none => rw [hy] at ok; cases ok
                  | some l' =>
                    obtain ⟨es', o', er'⟩ := sl' l' hy
                    exact E.newApart q2 er' es' s1 (toC rw')
            · have fr : ∀ {H2 : Hp} {d2 : D}, IoFrame (ctx0 C.K C.cls) H1 H2 v d2 M → EnvOk C P H2 σ ρ := fun {H2 d2} ⟨k, kn, _⟩ =>
                E.same fun a o ea => k a o (s1 a o ea) fun m => by rw [q2 a m] at ea; cases ea
              cases er : (Fd (xs.map fun y => y.1.2)).1 with
              | bad => rw [er] at h; exact h.elim
              | ex c =>
                rw [er] at h
                exact fun H2 f2 => h H2 (fr f2)
              | ok d =>
                rw [er] at h
                unfold immR at h
                dsimp only at h
                by_cases hi : imm d = true
                · rw [if_pos hi] at h
                  exact ⟨hi, fun u H2 f2 ru => h u H2 (fr f2) (toC ru)⟩
                · rw [if_neg hi] at h; exact h.elim
          · rw [if_neg hf] at h; exact h.elim
      · rw [if_neg ho] at h; exact h.elim
theorem pe_callIo {j k : Nat} {x : Str} {Fd : List D → Res D × D} {fa : Env → Res (List XD)} (F : Fx R C X W) (G : FnIO X.prog X.w X.K X.mg X.base C.cls x j k Fd) (hk : k ≤ R) (hg : Gl X x) (ha : PA X (e :: es) (RX C W fa)) (hdb : (x == ("__debug__" : Str)) = false := by decide)
    (he : starEach (e :: es) X.env = (false, eval e X.env) :: starEach es X.env := by rfl) (hpl : (backTo pos (starEach es X.env)).any (·.1) = false := by rfl) : PE X (.Call (.Name x p) (e :: es) [] pos) (RE C W (callIo j Fd fa)) := by
  obtain ⟨f, fd, ps, hm, hkp, hb, G⟩ := G.ex
  exact (pe_callS (E := WE W) G (F.room.mono hk) hg hm hkp hb (fun σ => passAt F.tk σ) ha hdb he hpl).imp fun σ H Q h => by
    rw [F.hK]
    exact re_call h

/-! ### statements around it -/
def dEff (f : Env → Res D × Env) (k : D → EndsD → Env → Prop) : TD := fun DD ρ => match (f ρ).1 with
  | .ok d => k d DD (f ρ).2
  | .ex c => DD.ex c (f ρ).2
  | .bad => False
theorem rs_eff {f : Env → Res D × Env} {k : D → EndsD → Env → Prop} {D' : Ends} {σ : St} {H : Hp} {Rr : V → Hp → Prop} (h : RS C W (dEff f k) D' σ H)
    (i : ∀ ρ P DD d v H', EnvOk C P H' σ ρ → Imp C P W DD D' → k d DD ρ → Rep C H' d v [] → Rr v H') : RE C W f σ H Rr := by
  obtain ⟨ρ, P, DD, E, I, h⟩ := h
  refine ⟨ρ, P, E, ?_⟩
  unfold dEff at h
  cases e : (f ρ).1 with
  | bad => rw [e] at h; exact h
  | ex c => rw [e] at h; exact fun H' E' => I.ex σ H' _ c E' h
  | ok d => rw [e] at h; exact fun v H' E' r => i _ P DD d v H' E' I h r
def dExprE (f : Env → Res D × Env) : TD := dEff f fun _ DD ρ => DD.nx ρ
theorem ds_exprE {f : Env → Res D × Env} (he : PE X e (RE C W f)) (hs : swapsWith e none pos.line X.env = pure false := by rfl) : PS X (.Expr e pos) (RS C W (dExprE f)) :=
  (ps_expr he hs).imp fun D σ H h => rs_eff h fun ρ P DD d v H' E I k r => I.nx _ _ _ E k
def dRetE (f : Env → Res D × Env) : TD := dEff f fun d DD ρ => DD.rt d ρ
theorem ds_retE {f : Env → Res D × Env} (he : PE X e (RE C W f)) : PS X (.Return (some e) pos) (RS C W (dRetE f)) :=
  (ps_ret he).imp fun D σ H h => rs_eff h fun ρ P DD d v H' E I k r => I.rt _ _ _ _ _ _ E r List.nodup_nil (fun a m => nomatch m) (fun a m => nomatch m) k
def dSetE (i : Nat) (f : Env → Res D × Env) : TD := dEff f fun d DD ρ => i < ρ.length ∧ DD.nx (ρ.set i (some (.loc, d)))
theorem ds_setE {i : Nat} {x : Str} {pos' : Pos} {f : Env → Res D × Env} (F : Fx R C X W) (hi : X.N[i]? = some x) (hx : Loc X.env.scope x) (he : PE X e (RE C W f)) (hs : swapsWith e (some (.Name x pos')) pos.line X.env = pure false := by rfl)
    (hf : X.fn x = true ∨ X.env.scope.names.lookup x = some .local := by first | exact .inl rfl | exact .inr rfl | assumption) : PS X (.Assign [.Name x pos'] e pos) (RS C W (dSetE i f)) :=
  (ps_set F.nd hi hx he hs hf).imp fun D σ H h => rs_eff h fun ρ P DD d v H' E I k r =>
    I.nx _ _ _ (assign_own (fd := (.fr, d)) E ⟨Same.refl H', [], r, .nil⟩ k.1 (.inl rfl)) k.2
/-- x += e, e changes other names -/
def dAugE (i : Nat) (f : Env → Res D × Env) (k : Int → Int → Int) : TD := fun DD ρ => match ρ[i]? with
  | some (some (_, .int m)) => match (f ρ).1 with
    | .ok (.int n) => i < (f ρ).2.length ∧ DD.nx ((f ρ).2.set i (some (.loc, .int (k m n))))
    | .ok _ => False
    | .ex c => DD.ex c (f ρ).2
    | .bad => False
  | _ => False
theorem ds_iaddE (i : Nat) {x : Str} {f : Env → Res D × Env} (F : Fx R C X W) (he : PE X e (RE C W f)) (hN : X.N[i]? = some x := by rfl) (hx : Loc X.env.scope x := by first | exact .inl rfl | exact .inr rfl)
    (hf : X.fn x = true ∨ X.env.scope.names.lookup x = some .local := by first | exact .inl rfl | exact .inr rfl | assumption) : PS X (.AugAssign (.Name x p) .Add e pos) (RS C W (dAugE i f fun m n => m + n)) :=
  (ps_aug F.nd hN hx he ip_add hf).imp fun D σ H ⟨ρ, P, DD, E, I, hh⟩ => by
    unfold dAugE at hh
    split at hh
    · rename_i o m ei
      obtain ⟨v, M, e1, r, _⟩ := E.at_ i o _ ei
      refine ⟨v, e1, ρ, P, E, ?_⟩
      cases ef : (f ρ).1 with
      | bad => rw [ef] at hh; exact hh
      | ex c => rw [ef] at hh; exact fun H' E' => I.ex σ H' _ c E' hh
      | ok d =>
        rw [ef] at hh
        intro w H1 E1 r1
        cases d <;> first | exact hh.elim | skip
        rename_i n
        refine ⟨m, n, r.1, r1.1, I.nx _ _ _ ?_ hh.2⟩
        exact assign_own (fd := (.fr, .int (m + n))) E1 ⟨Same.refl H1, [], ⟨rfl, rfl⟩, .nil⟩ hh.1 (.inl rfl)
    · exact hh.elim
end
end DL
/-! DL20: statements as functions of the names; what a def computes. -/
namespace DL
open PySem L2

inductive Out where
  | nx (ρ : Env) | rt (d : D) (ρ : Env) | bk (ρ : Env) | ct (ρ : Env) | ex (c : Str) (ρ : Env) | bad
def Out.ends (DD : EndsD) : Out → Prop
  | .nx ρ => DD.nx ρ
  | .rt d ρ => DD.rt d ρ
  | .bk ρ => DD.bk ρ
  | .ct ρ => DD.ct ρ
  | .ex c ρ => DD.ex c ρ
  | .bad => False
abbrev XS := Env → Out
def tX (x : XS) : TD := fun DD ρ => (x ρ).ends DD
theorem rs_to {C : Ctx} {W : WX} {t : TD} {x : XS} (h : ∀ DD ρ, (x ρ).ends DD → t DD ρ) (D : Ends) (σ : St) (H : Hp) (q : RS C W (tX x) D σ H) : RS C W t D σ H := by
  obtain ⟨ρ, P, DD, E, I, q⟩ := q
  exact ⟨ρ, P, DD, E, I, h DD ρ q⟩
def xNext : XS := .nx
def xBreak : XS := .bk
def xCont : XS := .ct
def xRetN : XS := .rt .non
def xRaise (c : Str) : XS := .ex c
def xSeq (x y : XS) : XS := fun ρ => match x ρ with
  | .nx ρ' => y ρ'
  | o => o
def xVal (f : Env → Res FD) (k : FD → XS) : XS := fun ρ => match f ρ with
  | .ok x => k x ρ
  | .ex c => .ex c ρ
  | .bad => .bad
def xExpr (f : Env → Res FD) : XS := xVal f fun _ => .nx
def xRet (f : Env → Res FD) : XS := xVal f fun x ρ => match x.1 with
  | .fr => .rt x.2 ρ
  | .mv => .rt x.2 ρ
  | _ => .bad
def xSet (i : Nat) (f : Env → Res FD) : XS := xVal f fun x ρ => if i < ρ.length then match x.1 with
  | .fr => .nx (ρ.set i (some (.loc, x.2)))
  | .sf => .nx (ρ.set i (some (.sh, x.2)))
  | _ => .bad
  else .bad
def xTgt (t : Tg) (f : Env → Res FD) : XS := xVal f fun x ρ => match x.1 with
  | .fr => match asg .loc t x.2 ρ with
    | some ρ' => .nx ρ'
    | none => .bad
  | .sf => match asg .sh t x.2 ρ with
    | some ρ' => .nx ρ'
    | none => .bad
  | _ => .bad
def xIf (c : Env → Res Bool) (x y : XS) : XS := fun ρ => match c ρ with
  | .ok true => x ρ
  | .ok false => y ρ
  | .ex c => .ex c ρ
  | .bad => .bad
def xWhile (c : Env → Res Bool) (x : XS) : Nat → XS
  | 0 => fun _ => .bad
  | n + 1 => fun ρ => match c ρ with
    | .ok true => match x ρ with
      | .nx ρ' => xWhile c x n ρ'
      | .ct ρ' => xWhile c x n ρ'
      | .bk ρ' => .nx ρ'
      | o => o
    | .ok false => .nx ρ
    | .ex c => .ex c ρ
    | .bad => .bad
def xLoop (t : Tg) (x : XS) : List D → XS
  | [] => .nx
  | d :: ds => fun ρ => match asg .sh t d ρ with
    | none => .bad
    | some ρ1 => match x ρ1 with
      | .nx ρ' => xLoop t x ds ρ'
      | .ct ρ' => xLoop t x ds ρ'
      | .bk ρ' => .nx ρ'
      | o => o
def flOk (fd : FD) : Bool := match fd.1 with
  | .fr => true
  | .sf => true
  | .mv => false
  | .bo => false
def xForW (wk : Env → Env) (fi : Env → Res ID) (t : Tg) (x : XS) : XS := fun ρ => match fi ρ with
  | .ok it => if it.1.all flOk = true then xLoop t x it.2 (wk ρ) else .bad
  | .ex c => .ex c ρ
  | .bad => .bad
def xFor (fi : Env → Res ID) (t : Tg) (x : XS) : XS := xForW id fi t x
def unlkO : Out → Out
  | .nx ρ => .nx (unlkE ρ)
  | .rt d ρ => .rt d (unlkE ρ)
  | .bk ρ => .bk (unlkE ρ)
  | .ct ρ => .ct (unlkE ρ)
  | _ => .bad
def xLock (i : Nat) (x : XS) : XS := fun ρ => match ρ[i]? with
  | some (some (_, d)) => if isDictD d = true then unlkO (x ((unlkE ρ).set i (some (.lk, d)))) else .bad
  | _ => .bad
def xForK (i : Nat) (t : Tg) (x : XS) : XS := xLock i (xForW (shE i) (keysI i) t x)
def xPar (is : List Nat) (fa : Env → Res AD) : XS := fun ρ => match fa ρ with
  | .ok y => if y.1 = true then match asgL .loc (is.map Tg.nm) y.2 ρ with
    | some ρ' => .nx ρ'
    | none => .bad
    else .bad
  | .ex c => .ex c ρ
  | .bad => .bad
def xAug (i : Nat) (f : Env → Res FD) (k : Int → Int → Int) : XS := fun ρ => match ρ[i]? with
  | some (some (_, .int m)) => match f ρ with
    | .ok x => match x.2 with
      | .int n => .nx (ρ.set i (some (.loc, .int (k m n))))
      | _ => .bad
    | .ex c => .ex c ρ
    | .bad => .bad
  | _ => .bad
def xMutL (i : Nat) (f : Env → Res FD) (k : List D → FD → Option (List D)) : XS := fun ρ => match ρ[i]? with
  | some (some (o, .lst ds)) => if o.own = true then match f ρ with
    | .ok x => match k ds x with
      | some ds' => .nx (ρ.set i (some (o, .lst ds')))
      | none => .bad
    | .ex c => .ex c ρ
    | .bad => .bad
    else .bad
  | _ => .bad
def xApp (i : Nat) (f : Env → Res FD) : XS := xMutL i f appK
def xExt (i : Nat) (f : Env → Res FD) : XS := xMutL i f extK
def xPut (i : Nat) (fk fv : Env → Res FD) : XS := fun ρ => match fv ρ with
  | .ok x => match ρ[i]? with
    | some (some (o, d)) => if o.own = true then match fk ρ with
      | .ok k => match putF d k.2 x with
        | some d' => .nx (ρ.set i (some (o, d')))
        | none => .bad
      | .ex c => .ex c ρ
      | .bad => .bad
      else .bad
    | _ => .bad
  | .ex c => .ex c ρ
  | .bad => .bad
def xEff (f : Env → Res D × Env) (k : D → XS) : XS := fun ρ => match (f ρ).1 with
  | .ok d => k d (f ρ).2
  | .ex c => .ex c (f ρ).2
  | .bad => .bad
def xExprE (f : Env → Res D × Env) : XS := xEff f fun _ => .nx
def xRetE (f : Env → Res D × Env) : XS := xEff f .rt
def xSetE (i : Nat) (f : Env → Res D × Env) : XS := xEff f fun d ρ => if i < ρ.length then .nx (ρ.set i (some (.loc, d))) else .bad
def xAugE (i : Nat) (f : Env → Res D × Env) (k : Int → Int → Int) : XS := fun ρ => match ρ[i]? with
  | some (some (_, .int m)) => match (f ρ).1 with
    | .ok (.int n) => if i < (f ρ).2.length then .nx ((f ρ).2.set i (some (.loc, .int (k m n)))) else .bad
    | .ok _ => .bad
    | .ex c => .ex c (f ρ).2
    | .bad => .bad
  | _ => .bad

section
variable {R : Nat} {C : Ctx} {X : Cx} {W : WX} {a b c e : Expr} {es : List Expr} {f g h : Env → Res FD} {fa : Env → Res AD} {ft : Env → Res Bool} {fi : Env → Res ID} {fe : Env → Res D × Env} {x y : XS} {st : Stmt} {sts rest ss us : List Stmt} {pos pos' p p2 apos cpos tpos : Pos} {tg iter : Expr} {t : Tg}
theorem xs_nil : PSs X [] (RS C W (tX xNext)) := ds_nil.imp (rs_to fun _ _ h => h)
theorem xs_one (h : PS X st (RS C W (tX x))) : PSs X [st] (RS C W (tX x)) := ds_one h
theorem seq_to (DD : EndsD) (ρ : Env) (h : (xSeq x y ρ).ends DD) : dSeq (tX x) (tX y) DD ρ := by
  unfold xSeq at h
  unfold dSeq tX
  cases e : x ρ <;> rw [e] at h <;> exact h
theorem xs_cons (h1 : PS X st (RS C W (tX x))) (h2 : PSs X rest (RS C W (tX y))) : PSs X (st :: rest) (RS C W (tX (xSeq x y))) := (ds_cons h1 h2).imp (rs_to seq_to)
theorem xs_pass : PS X (.Pass pos) (RS C W (tX xNext)) := ds_pass.imp (rs_to fun _ _ h => h)
theorem xs_break : PS X (.Break pos) (RS C W (tX xBreak)) := ds_break.imp (rs_to fun _ _ h => h)
theorem xs_cont : PS X (.Continue pos) (RS C W (tX xCont)) := ds_cont.imp (rs_to fun _ _ h => h)
theorem xs_retN : PS X (.Return none pos) (RS C W (tX xRetN)) := ds_retN.imp (rs_to fun _ _ h => h)
theorem val_to {k : FD → XS} {k' : FD → EndsD → Env → Prop} (i : ∀ v DD ρ, (k v ρ).ends DD → k' v DD ρ) (DD : EndsD) (ρ : Env) (h : (xVal f k ρ).ends DD) : dVal f k' DD ρ := by
  unfold xVal at h
  unfold dVal
  cases e : f ρ <;> rw [e] at h
  · exact i _ _ _ h
  · exact h
  · exact h
theorem xs_expr (he : PE X e (RV C W f)) (hs : swapsWith e none pos.line X.env = pure false := by rfl) : PS X (.Expr e pos) (RS C W (tX (xExpr f))) := (ds_expr he hs).imp (rs_to (val_to fun _ _ _ h => h))
theorem xs_ret (he : PE X e (RV C W f)) : PS X (.Return (some e) pos) (RS C W (tX (xRet f))) := (ds_ret he).imp (rs_to (val_to fun v DD ρ h => by
  obtain ⟨fl, d⟩ := v
  cases fl <;> first | exact h.elim | skip
  · exact ⟨.inl rfl, h⟩
  · exact ⟨.inr rfl, h⟩))
theorem set_to {i : Nat} (v : FD) (DD : EndsD) (ρ : Env) (h : (if i < ρ.length then match v.1 with
  | .fr => Out.nx (ρ.set i (some (.loc, v.2)))
  | .sf => .nx (ρ.set i (some (.sh, v.2)))
  | _ => .bad
  else .bad).ends DD) : (v.1 = .fr ∨ v.1 = .sf) ∧ i < ρ.length ∧ DD.nx (ρ.set i (some (ownOf v.1, v.2))) := by
  obtain ⟨fl, d⟩ := v
  by_cases hi : i < ρ.length
  · rw [if_pos hi] at h
    cases fl <;> first | exact h.elim | skip
    · exact ⟨.inl rfl, hi, h⟩
    · exact ⟨.inr rfl, hi, h⟩
  · rw [if_neg hi] at h; exact h.elim
theorem xs_set {i : Nat} {z : Str} (F : Fx R C X W) (hi : X.N[i]? = some z) (hx : Loc X.env.scope z) (he : PE X e (RV C W f)) (hs : swapsWith e (some (.Name z pos')) pos.line X.env = pure false := by rfl) (hf : X.fn z = true ∨ X.env.scope.names.lookup z = some .local := by first | exact .inl rfl | exact .inr rfl | assumption) :
    PS X (.Assign [.Name z pos'] e pos) (RS C W (tX (xSet i f))) := (ds_set F hi hx he hs hf).imp (rs_to (val_to set_to))
theorem xs_tgt (he : PE X e (RV C W f)) (hg : PG X tg (gOf X.K t)) (hs : swapsWithSole [tg] e pos.line X.env = pure false := by rfl) (hw : swappedStores [tg] e X.env = pure none := by rfl)
    (h1 : (assignEach [tg] X.env).map (·.2) = [assign tg X.env] := by rfl) : PS X (.Assign [tg] e pos) (RS C W (tX (xTgt t f))) := (ds_tgt he hg hs hw h1).imp (rs_to (val_to fun v DD ρ h => by
  obtain ⟨fl, d⟩ := v
  cases fl <;> first | exact h.elim | skip
  · refine ⟨.inl rfl, ?_⟩
    dsimp only at h ⊢
    unfold ownOf
    cases e : asg .loc t d ρ <;> rw [e] at h <;> exact h
  · refine ⟨.inr rfl, ?_⟩
    dsimp only at h ⊢
    unfold ownOf
    cases e : asg .sh t d ρ <;> rw [e] at h <;> exact h))
theorem xs_if (hc : PT X c (RT C W ft)) (ha : PSs X ss (RS C W (tX x))) (hb : PSs X us (RS C W (tX y))) : PS X (.If c ss us pos) (RS C W (tX (xIf ft x y))) := (ds_if hc ha hb).imp (rs_to fun DD ρ h => by
  unfold xIf at h
  unfold dIf
  cases e : ft ρ with
  | bad => rw [e] at h; exact h
  | ex c => rw [e] at h; exact h
  | ok k => rw [e] at h; cases k <;> exact h)
theorem xs_while (n : Nat) (F : Fx R C X W) (hc : PT X c (RT C W ft)) (hb : PSs X ss (RS C W (tX x))) : PS X (.While c ss [] pos) (RS C W (tX (xWhile ft x n))) := (ds_while F hc hb).imp (rs_to fun DD ρ h => by
  refine ⟨fun m ρ => (xWhile ft x m ρ).ends DD, ⟨n, h⟩, fun m ρ h => ?_⟩
  cases m with
  | zero => exact h.elim
  | succ m =>
    unfold xWhile at h
    cases e : ft ρ with
    | bad => rw [e] at h; exact h
    | ex c => rw [e] at h; exact h
    | ok k =>
      rw [e] at h
      cases k with
      | false => exact h
      | true =>
        show (x ρ).ends _
        dsimp only at h
        cases ex : x ρ <;> rw [ex] at h
        · exact ⟨m, Nat.lt_succ_self m, h⟩
        · exact h
        · exact h
        · exact ⟨m, Nat.lt_succ_self m, h⟩
        · exact h
        · exact h)
theorem forW_to {wk : Env → Env} (DD : EndsD) (ρ : Env) (h : (xForW wk fi t x ρ).ends DD) : dForW wk fi t (tX x) DD ρ := by
  unfold xForW at h
  unfold dForW
  cases e : fi ρ with
  | bad => rw [e] at h; exact h
  | ex c => rw [e] at h; exact h
  | ok it =>
    rw [e] at h
    dsimp only at h ⊢
    by_cases ha : it.1.all flOk = true
    · rw [if_pos ha] at h
      refine ⟨fun fd m => ?_, fun i ρ => (xLoop t x (it.2.drop i) ρ).ends DD, by dsimp only; rw [List.drop_zero]; exact h, fun ρ h => by dsimp only at h; rw [List.drop_length] at h; exact h, fun i d ρ ei h => ?_⟩
      · have := List.all_eq_true.mp ha fd m
        obtain ⟨fl, d⟩ := fd
        cases fl <;> first | (cases this; done) | exact .inl rfl | exact .inr rfl
      · obtain ⟨hi, ed⟩ := List.getElem?_eq_some_iff.mp ei
        dsimp only at h
        rw [List.drop_eq_getElem_cons hi, ed] at h
        unfold xLoop at h
        cases ea : asg .sh t d ρ with
        | none => rw [ea] at h; exact h
        | some ρ1 =>
          rw [ea] at h
          dsimp only at h ⊢
          show (x ρ1).ends _
          cases ex : x ρ1 <;> rw [ex] at h <;> exact h
    · rw [if_neg ha] at h; exact h.elim
theorem xs_for (F : Fx R C X W) (hi : PI X tg iter (RI C W fi)) (hg : PG X tg (gOf X.K t)) (hb : PSs X ss (RS C W (tX x))) (hs : ∀ x, foldedSetIterable iter X.env x = pure x := by exact fun _ => rfl) :
    PS X (.For tg iter ss [] pos) (RS C W (tX (xFor fi t x))) := (ds_for F hi hg hb hs).imp (rs_to (forW_to (wk := id)))
theorem lock_to {i : Nat} {t : TD} (hx : ∀ DD ρ, (x ρ).ends DD → t DD ρ) (DD : EndsD) (ρ : Env) (h : (xLock i x ρ).ends DD) : dLock i t DD ρ := by
  unfold xLock at h
  unfold dLock
  cases ei : ρ[i]? with
  | none => rw [ei] at h; exact h.elim
  | some s =>
    cases s with
    | none => rw [ei] at h; exact h.elim
    | some q =>
      obtain ⟨o, d⟩ := q
      rw [ei] at h
      dsimp only at h ⊢
      by_cases hd : isDictD d = true
      · rw [if_pos hd] at h
        refine ⟨hd, hx _ _ ?_⟩
        cases ex : x ((unlkE ρ).set i (some (.lk, d))) <;> rw [ex] at h
        · exact h
        · exact h
        · exact h
        · exact h
        · exact h.elim
        · exact h.elim
      · rw [if_neg hd] at h; exact h.elim
theorem xs_lock (i : Nat) (h : PS X st (RS C W (tX x))) : PS X st (RS C W (tX (xLock i x))) := (ds_lock i h).imp (rs_to (lock_to fun _ _ h => h))
theorem xs_forK (i : Nat) {z : Str} {px : Pos} (F : Fx R C X W) (hg : PG X tg (gOf X.K t)) (hb : PSs X ss (RS C W (tX x))) (hN : X.N[i]? = some z := by rfl) (hv : Vis X.env.scope z := by first | exact Or.inl rfl | exact Or.inr (Or.inl rfl) | exact Or.inr (Or.inr rfl))
    (hd : (z == ("__debug__" : Str)) = false := by decide) (hcd : (z == ("__classdict__" : Str)) = false := by decide) (hs : ∀ y, foldedSetIterable (.Name z px) X.env y = pure y := by exact fun _ => rfl) : PS X (.For tg (.Name z px) ss [] pos) (RS C W (tX (xForK i t x))) :=
  (ds_forK i F hg hb hN hv hd hcd hs).imp (rs_to (lock_to (forW_to (wk := shE i))))
theorem par_to {is : List Nat} (DD : EndsD) (ρ : Env) (h : (xPar is fa ρ).ends DD) : dPar is fa DD ρ := by
  unfold xPar at h
  unfold dPar
  cases e : fa ρ with
  | bad => rw [e] at h; exact h
  | ex c => rw [e] at h; exact h
  | ok y =>
    rw [e] at h
    dsimp only at h ⊢
    by_cases hb : y.1 = true
    · rw [if_pos hb] at h
      refine ⟨hb, ?_⟩
      cases ea : asgL .loc (is.map Tg.nm) y.2 ρ <;> rw [ea] at h <;> exact h
    · rw [if_neg hb] at h; exact h.elim
theorem xs_par {i j : Nat} {x y : Str} {px py pt : Pos} {kt k2 pt2} (F : Fx R C X W) (hi : X.N[i]? = some x) (hj : X.N[j]? = some y) (hij : i ≠ j)
    (hx : X.env.scope.names.lookup x = some .local) (hy : X.env.scope.names.lookup y = some .local) (ha : PA X [a, b] (RL C W fa))
    (hw : swappedStores [.Tuple [.Name x px, .Name y py] kt pt] (.Tuple [a, b] k2 pt2) X.env = pure (some [x, y]))
    (hs : swapsWithSole [.Tuple [.Name x px, .Name y py] kt pt] (.Tuple [a, b] k2 pt2) pos.line X.env = pure false := by rfl) :
    PS X (.Assign [.Tuple [.Name x px, .Name y py] kt pt] (.Tuple [a, b] k2 pt2) pos) (RS C W (tX (xPar [i, j] fa))) := (ds_par F hi hj hij hx hy ha hw hs).imp (rs_to par_to)
theorem xs_par3 {i j l : Nat} {x y z : Str} {px py pz pt : Pos} {kt k2 pt2} (F : Fx R C X W) (hi : X.N[i]? = some x) (hj : X.N[j]? = some y) (hl : X.N[l]? = some z) (hij : i ≠ j) (hil : i ≠ l) (hjl : j ≠ l)
    (hx : X.env.scope.names.lookup x = some .local) (hy : X.env.scope.names.lookup y = some .local) (hz : X.env.scope.names.lookup z = some .local) (ha : PA X [a, b, c] (RL C W fa))
    (hw : swappedStores [.Tuple [.Name x px, .Name y py, .Name z pz] kt pt] (.Tuple [a, b, c] k2 pt2) X.env = pure (some [x, y, z]))
    (hs : swapsWithSole [.Tuple [.Name x px, .Name y py, .Name z pz] kt pt] (.Tuple [a, b, c] k2 pt2) pos.line X.env = pure false := by rfl) :
    PS X (.Assign [.Tuple [.Name x px, .Name y py, .Name z pz] kt pt] (.Tuple [a, b, c] k2 pt2) pos) (RS C W (tX (xPar [i, j, l] fa))) := (ds_par3 F hi hj hl hij hil hjl hx hy hz ha hw hs).imp (rs_to par_to)
theorem xs_iadd (i : Nat) {z : Str} (F : Fx R C X W) (he : PE X e (RV C W f)) (hN : X.N[i]? = some z := by rfl) (hx : Loc X.env.scope z := by first | exact .inl rfl | exact .inr rfl)
    (hf : X.fn z = true ∨ X.env.scope.names.lookup z = some .local := by first | exact .inl rfl | exact .inr rfl | assumption) : PS X (.AugAssign (.Name z p) .Add e pos) (RS C W (tX (xAug i f fun m n => m + n))) :=
  (ds_iadd i F he hN hx hf).imp (rs_to fun DD ρ h => by
    unfold xAug at h
    unfold dAug
    split at h
    · rename_i ei
      try rw [ei]
      try dsimp only
      split at h
      · rename_i v ef
        try rw [ef]
        try dsimp only
        split at h
        · rename_i ev; (try rw [ev]); exact h
        · exact h.elim
      · rename_i ef; (try rw [ef]); exact h
      · rename_i ef; exact h.elim
    · exact h.elim)
theorem mut_to {i : Nat} {k : List D → FD → Option (List D)} (DD : EndsD) (ρ : Env) (h : (xMutL i f k ρ).ends DD) : dMutL i f k DD ρ := by
  unfold xMutL at h
  unfold dMutL
  split at h
  · rename_i o ds ei
    try rw [ei]
    try dsimp only
    by_cases ho : o.own = true
    · rw [if_pos ho] at h
      refine ⟨ho, ?_⟩
      cases e : f ρ with
      | bad => rw [e] at h; exact h
      | ex c => rw [e] at h; exact h
      | ok v =>
        rw [e] at h
        dsimp only at h ⊢
        cases ek : k ds v <;> rw [ek] at h <;> exact h
    · rw [if_neg ho] at h; exact h.elim
  · exact h.elim
theorem xs_app (i : Nat) {x : Str} (F : Fx R C X W) (he : PE X e (RV C W f)) (hN : X.N[i]? = some x := by rfl) (hv : Vis X.env.scope x := by first | exact Or.inl rfl | exact Or.inr (Or.inl rfl) | exact Or.inr (Or.inr rfl)) (hd : (x == ("__debug__" : Str)) = false := by decide)
    (hcd : (x == ("__classdict__" : Str)) = false := by decide) (hbase : attributeBase (.Name x p) "append" X.env (eval (.Name x p) X.env) = eval (.Name x p) X.env := by rfl)
    (hfew : ((backTo cpos (starEach [e] X.env)).all (fun x => !x.1) && (backToKw cpos (keywordEach [] X.env)).all (fun x => x.1.isSome)
      && decide ([e].length + ([] : List Keyword).length + (if ([] : List Keyword).isEmpty then 0 else 1) < 30)) = true := by rfl)
    (hline : (apos.endLine == cpos.line) = true := by rfl) (hs : starEach [e] X.env = (false, eval e X.env) :: starEach [] X.env := by rfl) (hplain : (backTo cpos (starEach [] X.env)).any (·.1) = false := by rfl) (hsw : swapsWith (.Call (.Attribute (.Name x p) "append" apos) [e] [] cpos) none pos.line X.env = pure false := by rfl) :
    PS X (.Expr (.Call (.Attribute (.Name x p) "append" apos) [e] [] cpos) pos) (RS C W (tX (xApp i f))) := (ds_app i F he hN hv hd hcd hbase hfew hline hs hplain hsw).imp (rs_to mut_to)
theorem xs_ext (i : Nat) {x : Str} (F : Fx R C X W) (he : PE X e (RV C W f)) (hN : X.N[i]? = some x := by rfl) (hv : Vis X.env.scope x := by first | exact Or.inl rfl | exact Or.inr (Or.inl rfl) | exact Or.inr (Or.inr rfl)) (hd : (x == ("__debug__" : Str)) = false := by decide)
    (hcd : (x == ("__classdict__" : Str)) = false := by decide) (hbase : attributeBase (.Name x p) "extend" X.env (eval (.Name x p) X.env) = eval (.Name x p) X.env := by rfl)
    (hfew : ((backTo cpos (starEach [e] X.env)).all (fun x => !x.1) && (backToKw cpos (keywordEach [] X.env)).all (fun x => x.1.isSome)
      && decide ([e].length + ([] : List Keyword).length + (if ([] : List Keyword).isEmpty then 0 else 1) < 30)) = true := by rfl)
    (hline : (apos.endLine == cpos.line) = true := by rfl) (hs : starEach [e] X.env = (false, eval e X.env) :: starEach [] X.env := by rfl) (hplain : (backTo cpos (starEach [] X.env)).any (·.1) = false := by rfl) (hsw : swapsWith (.Call (.Attribute (.Name x p) "extend" apos) [e] [] cpos) none pos.line X.env = pure false := by rfl) :
    PS X (.Expr (.Call (.Attribute (.Name x p) "extend" apos) [e] [] cpos) pos) (RS C W (tX (xExt i f))) := (ds_ext i F he hN hv hd hcd hbase hfew hline hs hplain hsw).imp (rs_to mut_to)
theorem xs_raise {c m : Str} {j : Nat} {p2 : Pos} (F : Fx R C X W) (T : ExcT X.K X.mg C.cls c) (hg : Gl X c) (hdb : (c == ("__debug__" : Str)) = false := by decide) : PS X (.Raise (some (.Call (.Name c p) [.Constant (.str m) j p2] [] pos)) none pos') (RS C W (tX (xRaise c))) := (ds_raise F T hg hdb).imp (rs_to fun _ _ h => h)
theorem eff_to {k : D → XS} {k' : D → EndsD → Env → Prop} (i : ∀ v DD ρ, (k v ρ).ends DD → k' v DD ρ) (DD : EndsD) (ρ : Env) (h : (xEff fe k ρ).ends DD) : dEff fe k' DD ρ := by
  unfold xEff at h
  unfold dEff
  cases e : (fe ρ).1 <;> rw [e] at h
  · exact i _ _ _ h
  · exact h
  · exact h
theorem xs_exprE (he : PE X e (RE C W fe)) (hs : swapsWith e none pos.line X.env = pure false := by rfl) : PS X (.Expr e pos) (RS C W (tX (xExprE fe))) := (ds_exprE he hs).imp (rs_to (eff_to fun _ _ _ h => h))
theorem xs_retE (he : PE X e (RE C W fe)) : PS X (.Return (some e) pos) (RS C W (tX (xRetE fe))) := (ds_retE he).imp (rs_to (eff_to fun _ _ _ h => h))
theorem xs_setE {i : Nat} {x : Str} {pos' : Pos} (F : Fx R C X W) (hi : X.N[i]? = some x) (hx : Loc X.env.scope x) (he : PE X e (RE C W fe)) (hs : swapsWith e (some (.Name x pos')) pos.line X.env = pure false := by rfl)
    (hf : X.fn x = true ∨ X.env.scope.names.lookup x = some .local := by first | exact .inl rfl | exact .inr rfl | assumption) : PS X (.Assign [.Name x pos'] e pos) (RS C W (tX (xSetE i fe))) := (ds_setE F hi hx he hs hf).imp (rs_to (eff_to fun v DD ρ h => by
    by_cases hi : i < ρ.length
    · rw [if_pos hi] at h; exact ⟨hi, h⟩
    · rw [if_neg hi] at h; exact h.elim))
theorem xs_iaddE (i : Nat) {x : Str} (F : Fx R C X W) (he : PE X e (RE C W fe)) (hN : X.N[i]? = some x := by rfl) (hx : Loc X.env.scope x := by first | exact .inl rfl | exact .inr rfl)
    (hf : X.fn x = true ∨ X.env.scope.names.lookup x = some .local := by first | exact .inl rfl | exact .inr rfl | assumption) : PS X (.AugAssign (.Name x p) .Add e pos) (RS C W (tX (xAugE i fe fun m n => m + n))) :=
  (ds_iaddE i F he hN hx hf).imp (rs_to fun DD ρ h => by
    unfold xAugE at h
    unfold dAugE
    split at h
    · rename_i ei
      try rw [ei]
      try dsimp only
      split at h
      · rename_i n ef
        try rw [ef]
        try dsimp only
        by_cases hi : i < (fe ρ).2.length
        · rw [if_pos hi] at h; exact ⟨hi, h⟩
        · rw [if_neg hi] at h; exact h.elim
      · exact h.elim
      · rename_i ef; (try rw [ef]); exact h
      · exact h.elim
    · exact h.elim)
theorem put_to {i : Nat} (DD : EndsD) (ρ : Env) (h : (xPut i f g ρ).ends DD) : dPut i f g DD ρ := by
  unfold xPut at h
  unfold dPut
  cases e : g ρ with
  | bad => rw [e] at h; exact h
  | ex c => rw [e] at h; exact h
  | ok v =>
    rw [e] at h
    dsimp only at h ⊢
    split at h
    · rename_i o d ei
      try rw [ei]
      try dsimp only
      by_cases ho : o.own = true
      · rw [if_pos ho] at h
        refine ⟨ho, ?_⟩
        cases ek : f ρ with
        | bad => rw [ek] at h; exact h
        | ex c => rw [ek] at h; exact h
        | ok k =>
          rw [ek] at h
          dsimp only at h ⊢
          cases ep : putF d k.2 v <;> rw [ep] at h <;> exact h
      · rw [if_neg ho] at h; exact h.elim
    · exact h.elim
theorem xs_put (i : Nat) {x : Str} (F : Fx R C X W) (hk : PE X a (RV C W f)) (hv : PE X b (RV C W g)) (hN : X.N[i]? = some x := by rfl) (hvi : Vis X.env.scope x := by first | exact Or.inl rfl | exact Or.inr (Or.inl rfl) | exact Or.inr (Or.inr rfl)) (hd : (x == ("__debug__" : Str)) = false := by decide)
    (hcd : (x == ("__classdict__" : Str)) = false := by decide) (hs : swapsWith b (some (.Subscript (.Name x p) a pos')) pos.line X.env = pure false := by rfl) :
    PS X (.Assign [.Subscript (.Name x p) a pos'] b pos) (RS C W (tX (xPut i f g))) := (ds_put i F hk hv hN hvi hd hcd hs).imp (rs_to put_to)
end

/-! ### what a def computes -/
def Out.res : Out → Res D
  | .nx _ => .ok .non
  | .rt d _ => .ok d
  | .ex c _ => .ex c
  | _ => .bad
/-- what a def of n parameters, k names computes -/
def defF (n k : Nat) (x : XS) : List D → Res D := fun ds => if ds.length = n then (x (startD k ds)).res else .bad
theorem defF_len {n k : Nat} {x : XS} (ds : List D) (h : defF n k x ds ≠ .bad) : ds.length = n := by
  unfold defF at h
  by_cases e : ds.length = n
  · exact e
  · rw [if_neg e] at h; exact absurd rfl h
theorem defF_sem {n k : Nat} {x : XS} (ds : List D) (h : defF n k x ds ≠ .bad) : tX x (endsOf (defF n k x ds)) (startD k ds) := by
  have e := defF_len ds h
  unfold defF at h ⊢
  rw [if_pos e] at h ⊢
  unfold tX
  cases ex : x (startD k ds) <;> rw [ex] at h
  · exact rfl
  · exact rfl
  · exact absurd rfl h
  · exact absurd rfl h
  · exact rfl
  · exact absurd rfl h
def Out.resIO (j : Nat) : Out → Res D × D
  | .nx ρ => match ρ[j]? with
    | some (some (.io, d')) => (.ok .non, d')
    | _ => (.bad, .non)
  | .rt d ρ => if imm d = true then match ρ[j]? with
    | some (some (.io, d')) => (.ok d, d')
    | _ => (.bad, .non)
    else (.bad, .non)
  | .ex c ρ => match ρ[j]? with
    | some (some (.io, d')) => (.ex c, d')
    | _ => (.bad, .non)
  | _ => (.bad, .non)
def defIO (j n k : Nat) (x : XS) : List D → Res D × D := fun ds => if ds.length = n then (x (startIO k j ds)).resIO j else (.bad, .non)
theorem defIO_len {j n k : Nat} {x : XS} (ds : List D) (h : (defIO j n k x ds).1 ≠ .bad) : ds.length = n := by
  unfold defIO at h
  by_cases e : ds.length = n
  · exact e
  · rw [if_neg e] at h; exact absurd rfl h
theorem defIO_sem {j n k : Nat} {x : XS} (ds : List D) (h : (defIO j n k x ds).1 ≠ .bad) : tX x (endsIO j (defIO j n k x ds)) (startIO k j ds) := by
  have e := defIO_len ds h
  unfold defIO at h ⊢
  rw [if_pos e] at h ⊢
  unfold tX
  cases ex : x (startIO k j ds) with
  | nx ρ =>
    rw [ex] at h
    unfold Out.resIO at h ⊢
    dsimp only at h ⊢
    split at h
    · rename_i d' ei; exact ⟨rfl, ei⟩
    · exact absurd rfl h
  | rt d ρ =>
    rw [ex] at h
    unfold Out.resIO at h ⊢
    dsimp only at h ⊢
    by_cases hi : imm d = true
    · rw [if_pos hi] at h ⊢
      split at h
      · rename_i d' ei; exact ⟨rfl, hi, ei⟩
      · exact absurd rfl h
    · rw [if_neg hi] at h; exact absurd rfl h
  | ex c ρ =>
    rw [ex] at h
    unfold Out.resIO at h ⊢
    dsimp only at h ⊢
    split at h
    · rename_i d' ei; exact ⟨rfl, ei⟩
    · exact absurd rfl h
  | bk ρ => rw [ex] at h; exact absurd rfl h
  | ct ρ => rw [ex] at h; exact absurd rfl h
  | bad => rw [ex] at h; exact absurd rfl h
end DL
/-! DL21: name = [..] as a function of the names. -/
namespace DL
open PySem L2
section
variable {R : Nat} {C : Ctx} {X : Cx} {W : WX} {pos spos : Pos}
theorem xs_setLc {i : Nat} {y : Str} {py : Pos} {elt tg iter : Expr} {ifs : List Expr} {scope : Scope} (own : List (Str × Nat)) {fi : Env → Res ID} {t : Tg} {tt : Env → Res Bool} {te : Env → Res FD} {spos : Pos} (F : Fx R C X W) (hy : X.N[i]? = some y) (hyl : X.env.scope.names.lookup y = some .local)
    (hi : PI X tg iter (RI C W fi)) (ok : blkC X.N X.env.scope scope own = true)
    (ht' : t.ix.all (fun i => (own.map (·.2)).contains i) = true)
    (hg : ∀ (s : Shared) (H : Hp) (C' : Addr) (cl : List (Str × Addr)) (fp : List Addr), Fx R C (X.blk s H scope (compEnvC scope cl C' X.env) fp) W0 → PG (X.blk s H scope (compEnvC scope cl C' X.env) fp) tg (gOf X.K t))
    (ht : ∀ (s : Shared) (H : Hp) (C' : Addr) (cl : List (Str × Addr)) (fp : List Addr), Fx R C (X.blk s H scope (compEnvC scope cl C' X.env) fp) W0 → PTs (X.blk s H scope (compEnvC scope cl C' X.env) fp) ifs (RT C W0 tt))
    (he : ∀ (s : Shared) (H : Hp) (C' : Addr) (cl : List (Str × Addr)) (fp : List Addr), Fx R C (X.blk s H scope (compEnvC scope cl C' X.env) fp) W0 → PE (X.blk s H scope (compEnvC scope cl C' X.env) fp) elt (RV C W0 te))
    (hsw : swapsWith (.ListComp elt [⟨tg, iter, ifs, 0⟩] scope pos) (some (.Name y py)) spos.line X.env = pure true := by rfl)
    (hs : ∀ x, foldedSetIterable iter X.env x = pure x := by exact fun _ => rfl) :
    PS X (.Assign [.Name y py] (.ListComp elt [⟨tg, iter, ifs, 0⟩] scope pos) spos) (RS C W (tX (xSet i (compF fi t tt te (own.map (·.2)))))) :=
  (ds_setLc own F hy hyl hi ok ht' hg ht he hsw hs).imp (rs_to (val_to set_to))
/-- a slot is shared ahead of the statement (it is walked there) -/
def xSh (i : Nat) (x : XS) : XS := fun ρ => x (shE i ρ)
theorem xs_sh (i : Nat) {st : Stmt} {x : XS} (h : PS X st (RS C W (tX x))) : PS X st (RS C W (tX (xSh i x))) := h.imp fun D σ H ⟨ρ, P, DD, E, I, q⟩ => ⟨shE i ρ, P, DD, shE_ok E, I, q⟩

/-! ### lists of lists put together -/
def addN : FD → FD → Res FD := fun x y => match x.2, y.2 with
  | .lst xs, .lst ys => if xs.length + ys.length ≤ sizeLine then .ok (.bo, .lst (xs ++ ys)) else .bad
  | _, _ => .bad
def addE : FD → FD → Res FD := fun x y => match addD x y with
  | .bad => addN x y
  | r => r
variable {a b e : Expr} {f g : Env → Res FD}
theorem rv_addN {σ : St} {H : Hp} {Q : VK} (h : RV C W (bind2 f g addN) σ H Q) : tOp rCat (RV C W f) (RV C W g) σ H Q := by
  obtain ⟨ρ, P, E, h⟩ := h
  refine ⟨ρ, P, E, ?_⟩
  unfold bind2 at h
  cases e : f ρ with
  | bad => rw [e] at h; exact h
  | ex c => rw [e] at h; exact h
  | ok fx =>
    rw [e] at h
    simp only [Res.ok_bind] at h
    intro x H1 ⟨s1, M, r1, f1⟩
    refine ⟨ρ, P, E.same s1, ?_⟩
    cases e2 : g ρ with
    | bad => rw [e2] at h; exact h
    | ex c => rw [e2] at h; exact fun H' s' => h H' (s1.trans s')
    | ok fy =>
      rw [e2] at h
      simp only [Res.ok_bind] at h
      intro y H2 ⟨s2, N, r2, f2⟩
      obtain ⟨fl, dx⟩ := fx
      obtain ⟨fl', dy⟩ := fy
      unfold addN at h
      cases dx <;> first | exact h.elim | skip
      cases dy <;> first | exact h.elim | skip
      rename_i xs ys
      dsimp only at h
      by_cases hz : xs.length + ys.length ≤ sizeLine
      · rw [if_pos hz] at h
        obtain ⟨l, vs, M', rfl, e1, z1, k1, rfl⟩ := r1.same s2
        obtain ⟨l2, ws, N', rfl, e3, z2, k2, rfl⟩ := r2
        refine ⟨l, l2, vs, ws, rfl, rfl, e1, e3, by rw [← k1.length, ← k2.length]; exact hz, fun p hp => h _ _ ⟨(s1.trans s2).trans (upd_sameH hp), p :: (M' ++ N'), ⟨p, vs ++ ws, M' ++ N', rfl, upd_same, by rw [List.length_append]; exact hz, ?_, rfl⟩, trivial⟩⟩
        exact (k1.same (upd_sameH hp)).append (k2.same (upd_sameH hp))
      · rw [if_neg hz] at h; exact h.elim
theorem pd_addE (F : Fx R C X W) (ha : PE X a (RV C W f)) (hb : PE X b (RV C W g)) : PE X (.BinOp a .Add b pos) (RV C W (bind2 f g addE)) :=
  ((pd_add F ha hb).or ((pe_op op_cat ha hb).imp fun _ _ _ => rv_addN)).imp fun σ H Q ⟨ρ, P, E, h⟩ => by
    unfold bind2 at h
    cases e : f ρ with
    | bad => rw [e] at h; exact h.elim
    | ex c => rw [e] at h; exact .inl ⟨ρ, P, E, by unfold bind2; rw [e]; exact h⟩
    | ok x =>
      rw [e] at h
      simp only [Res.ok_bind] at h
      cases e2 : g ρ with
      | bad => rw [e2] at h; exact h.elim
      | ex c => rw [e2] at h; exact .inl ⟨ρ, P, E, by unfold bind2; rw [e, Res.ok_bind, e2]; exact h⟩
      | ok y =>
        rw [e2] at h
        simp only [Res.ok_bind] at h
        unfold addE at h
        cases ed : addD x y with
        | bad => rw [ed] at h; exact .inr ⟨ρ, P, E, by unfold bind2; rw [e, Res.ok_bind, e2, Res.ok_bind]; exact h⟩
        | ex c => rw [ed] at h; exact .inl ⟨ρ, P, E, by unfold bind2; rw [e, Res.ok_bind, e2, Res.ok_bind, ed]; exact h⟩
        | ok z => rw [ed] at h; exact .inl ⟨ρ, P, E, by unfold bind2; rw [e, Res.ok_bind, e2, Res.ok_bind, ed]; exact h⟩
/-- x = x + e, x an own list of whatever -/
def xCat (i : Nat) (f : Env → Res FD) : XS := fun ρ => match ρ[i]? with
  | some (some (.loc, .lst ds)) => match f ρ with
    | .ok x => match x.1, x.2 with
      | .fr, .lst es => if ds.length + es.length ≤ sizeLine then .nx (ρ.set i (some (.loc, .lst (ds ++ es)))) else .bad
      | _, _ => .bad
    | .ex c => .ex c ρ
    | .bad => .bad
  | _ => .bad
theorem xs_cat (i : Nat) {x : Str} {p p2 : Pos} (F : Fx R C X W) (he : PE X e (RV C W f)) (hN : X.N[i]? = some x := by rfl) (hv : Vis X.env.scope x := by first | exact Or.inl rfl | exact Or.inr (Or.inl rfl) | exact Or.inr (Or.inr rfl)) (hd : (x == ("__debug__" : Str)) = false := by decide)
    (hcd : (x == ("__classdict__" : Str)) = false := by decide) (hx : Loc X.env.scope x := by first | exact .inl rfl | exact .inr rfl) (hs : swapsWith (.BinOp (.Name x p) .Add e pos) (some (.Name x p2)) spos.line X.env = pure false := by rfl)
    (hf : X.fn x = true ∨ X.env.scope.names.lookup x = some .local := by first | exact .inl rfl | exact .inr rfl | assumption) : PS X (.Assign [.Name x p2] (.BinOp (.Name x p) .Add e pos) spos) (RS C W (tX (xCat i f))) :=
  (ps_set F.nd hN hx (pe_op op_cat (pv i hN hv hd hcd) he) hs hf).imp fun D σ H ⟨ρ, P, DD, E, I, h⟩ => by
    unfold tX xCat at h
    split at h
    · rename_i ds ei
      obtain ⟨v, M, ev, r, own, lo, _⟩ := E.at_ i .loc _ ei
      obtain ⟨nd, mu, ap, pr⟩ := own rfl
      refine ⟨v, ev, ρ, P, E, ?_⟩
      cases ef : f ρ with
      | bad => rw [ef] at h; exact h.elim
      | ex c => rw [ef] at h; exact fun H' s => I.ex σ H' ρ c (E.same s) h
      | ok y =>
        rw [ef] at h
        obtain ⟨fl, d⟩ := y
        dsimp only at h
        intro w H1 ⟨s1, N, r1, f1⟩
        cases fl <;> first | exact h.elim | skip
        cases d <;> first | exact h.elim | skip
        rename_i es
        dsimp only at h
        by_cases hz : ds.length + es.length ≤ sizeLine
        · rw [if_pos hz] at h
          obtain ⟨n1, w1, u1⟩ := f1
          obtain ⟨l, vs, M', rfl, e1, z1, k1, rfl⟩ := id r
          obtain ⟨l2, ws, N', rfl, e3, z2, k2, rfl⟩ := id r1
          refine ⟨l, l2, vs, ws, rfl, rfl, s1 _ _ e1, e3, by rw [← k1.length, ← k2.length]; exact hz, fun p hp => I.nx _ _ _ ?_ h⟩
          have sp : Same H1 (upd H1 p (.lst (vs ++ ws))) := upd_sameH hp
          have E2 := (E.same s1).same sp
          have old : ∀ a ∈ M', ∃ u, H a = some u := fun a m => r.dom a (List.mem_cons_of_mem _ m)
          have pN : ∀ a ∈ M' ++ N', a ≠ p := fun a m z => by
            subst z
            rcases List.mem_append.mp m with m | m
            · obtain ⟨u, hu⟩ := old a m
              rw [s1 a u hu] at hp; cases hp
            · obtain ⟨u, hu⟩ := r1.dom a (List.mem_cons_of_mem _ m)
              rw [hu] at hp; cases hp
          have dj : ∀ a ∈ M', a ∉ N' := fun a m n => by
            obtain ⟨u, hu⟩ := old a m
            rw [w1 a (List.mem_cons_of_mem _ n)] at hu; cases hu
          have rr : Rep C (upd H1 p (.lst (vs ++ ws))) (.lst (ds ++ es)) (.ref p) (p :: (M' ++ N')) := ⟨p, vs ++ ws, M' ++ N', rfl, upd_same, by rw [List.length_append]; exact hz, ((k1.same s1).same sp).append (k2.same sp), rfl⟩
          have new : ∀ a, a = p ∨ a ∈ N' → H a = none := fun a m => m.elim (fun z => by subst z; exact s1.free hp) fun m => w1 a (List.mem_cons_of_mem _ m)
          refine E2.setG rr (List.getElem?_eq_some_iff.mp ei).1 (fun j o' d' w2 L hj ej sj rj _ a ma na => ?_) (fun _ => ⟨?_, fun a ma => ?_, fun q hq L rq a ma na => ?_⟩) (fun _ a ma => ?_) ⟨(fun z => by cases z), (fun z => by cases z)⟩
          · rcases List.mem_cons.mp ma with rfl | ma
            · exact E.newApart (M := [a]) (fun b hb => by rw [List.mem_singleton.mp hb]; exact new a (.inl rfl)) ej sj (s1.trans sp) rj a (List.mem_singleton.mpr rfl) na
            · rcases List.mem_append.mp ma with ma | ma
              · obtain ⟨w3, L3, e4, r4, _⟩ := E.at_ j o' d' ej
                rw [sj] at e4; cases e4
                rw [((r4.same s1).same sp).uniq rj |>.symm] at na
                exact ap j o' d' w2 L3 hj ej sj r4 a (List.mem_cons_of_mem _ ma) na
              · exact E.newApart (M := [a]) (fun b hb => by rw [List.mem_singleton.mp hb]; exact new a (.inr ma)) ej sj (s1.trans sp) rj a (List.mem_singleton.mpr rfl) na
          · refine List.nodup_cons.mpr ⟨fun m => pN p m rfl, List.nodup_append.mpr ⟨(List.nodup_cons.mp nd).2, (List.nodup_cons.mp n1).2, fun x hx y hy z => dj x hx (z ▸ hy)⟩⟩
          · rcases List.mem_cons.mp ma with rfl | ma
            · rw [upd_same]; trivial
            · refine mut_same sp ?_
              rcases List.mem_append.mp ma with ma | ma
              · exact mut_same s1 (mu a (List.mem_cons_of_mem _ ma))
              · exact u1 a (List.mem_cons_of_mem _ ma)
          · rcases List.mem_cons.mp ma with rfl | ma
            · exact E.newApartP (M := [a]) (fun b hb => by rw [List.mem_singleton.mp hb]; exact new a (.inl rfl)) (s1.trans sp) q hq L rq a (List.mem_singleton.mpr rfl) na
            · rcases List.mem_append.mp ma with ma | ma
              · obtain ⟨L0, r0⟩ := E.prot q hq
                rw [(r0.same (s1.trans sp)).uniq rq |>.symm] at na
                exact pr q hq L0 r0 a (List.mem_cons_of_mem _ ma) na
              · exact E.newApartP (M := [a]) (fun b hb => by rw [List.mem_singleton.mp hb]; exact new a (.inr ma)) (s1.trans sp) q hq L rq a (List.mem_singleton.mpr rfl) na
          · rcases List.mem_cons.mp ma with rfl | ma
            · exact E.keptd a (new a (.inl rfl))
            · rcases List.mem_append.mp ma with ma | ma
              · exact lo rfl a (List.mem_cons_of_mem _ ma)
              · exact E.keptd a (new a (.inr ma))
        · rw [if_neg hz] at h; exact h.elim
    · exact h.elim
end
end DL
/-! DL22: the law's def, at the head. -/
namespace DL
open PySem L2
theorem exc_of {K : PySem.W.Frag} {h : Heap} {mg : Str → Option Value} {x : Str} (X : K.In h) (G : h.Ns mainGlobals mg) (c1 : (He.Fa.glo x).ok K = true) (c2 : (He.Fa.exc x).ok K = true) : ExcT K mg (He.ga K) x := by
  obtain ⟨a, b, c, d⟩ := He.exc_ok c2
  exact ⟨He.glo_ok X G c1, a, b, c, d⟩
theorem cx_none {P : Program} {w : World} (H : Hp) (s : Shared) (e : Value) (s' : Shared) (z : L2.CX P w [] H s (fun _ _ _ => False) e s') : False := by
  obtain ⟨_, _, _, _, _, z⟩ := z
  exact z.2.2.2.2.2.2.2.elim
theorem rep_script {K : PySem.W.Frag} {cls : Str → Addr} {H : Hp} {a : Addr} {ns : List Int} (hO : Only H) (hS : SqL K H a (ns.map V.int)) (hl : ns.length ≤ sizeLine) : RepL (ctx0 K cls) H [.fz (ns.map D.int)] [.ref a] [] := by
  refine ⟨.ref a, [], [], [], rfl, ⟨a, ns.map V.int, rfl, ?_, by rw [List.length_map]; exact hl, rep_ints ns, rfl⟩, ⟨rfl, rfl⟩, rfl⟩
  rcases hS with (h | h) | h
  · rcases hO a with n | ⟨o, xs, n⟩ <;> rw [n] at h <;> cases h
  · exact .inl h
  · exact .inr h
/-- the law's promise at every script -/
theorem law_sp {K : PySem.W.Frag} {cls : Str → Addr} {F : List D → Res D} {n : Nat} (hn : n ≤ sizeLine) (main : ∀ ns : List Int, ns.length ≤ n → F [.fz (ns.map D.int)] = .ok (.bl true)) (H : Hp) (a : Addr) (ns : List Int) (hl : ns.length ≤ n) (hO : Only H) (hS : SqL K H a (ns.map V.int)) :
    SpP K cls F [.ref a] H (fun v _ => v = .bl true) fun _ _ _ => False := by
  refine ⟨_, [], rep_script hO hS (Nat.le_trans hl hn), ?_⟩
  rw [main ns hl]
  intro v H' ⟨_, M, r, _⟩
  exact r.1
/-- a law, its def's promise over every base -/
theorem walk_law {l : PySem.W.OpenLaw} {n k : Nat} {q : Program} {loose : List Str} {XP : (Str → Option Value) → Heap → Prop} {YP : World → Heap → Prop} {d : DefRec} {CX : World → CXT} {x : Str} (most : l.most = some n) (small : n ≤ sizeLine) (dfl : d.params.defaults = []) (room : Room k callerA)
    (F : ∀ (w : World) (mg : Str → Option Value) (fa : Addr) (h : Heap), YP w h → h.Ns mainGlobals mg → mg d.name = some (.ref fa) → ∃ (K : PySem.W.Frag) (fd : FuncData) (sp : Sp), K.In h ∧ (∀ (s : Shared) (u : Value), BindsTo s fd ⟨[u], []⟩ [(x, u)]) ∧
      (∀ (H : Hp) (a : Addr) (ns : List Int), ns.length ≤ n → Only H → SqL K H a (ns.map V.int) → sp [.ref a] H (fun v _ => v = .bl true) fun _ _ _ => False) ∧ ∀ base : Heap, K.In base → base.Ns mainGlobals mg → FnOk l.prog w K mg base (CX w) k fa fd [x] sp)
    (none : ∀ (w : World) (H : Hp) (s : Shared) (e : Value) (s' : Shared), CX w [] H s (fun _ _ _ => False) e s' → False) : PySem.W.WalkO q loose XP YP l.row.toRowW d [] (fun f vs => PySem.call f vs) := by
  refine Att.attach_call most dfl fun w _ s1 mg _ fa _ _ _ _ a _ ns G Y _ _ _ nm obj whole few gens => ?_
  obtain ⟨K, fd, sp, k1, bd, spH, ok⟩ := F w mg fa _ Y G.T.g nm
  refine law_call k1 G.T.g G.T.b G.T.builtins G.T.nolimit gens obj whole (Nat.le_trans few small) room ok bd (fun H o sq => spH H a ns few o sq) ?_
  exact fun H e s' => none w H s1 e s'
end DL
/-! DL23: is True; pop; get with a default; zip. -/
namespace DL
open PySem L2 RZ
section
variable {R : Nat} {C : Ctx} {X : Cx} {W : WX} {a b c e : Expr} {f g h : Env → Res FD} {pos p p2 apos cpos tpos spos : Pos} {tg : Expr}
/-! is True -/
def isBD (neg : Bool) : FD → FD → Res FD := fun x y => match x.2, y.2 with
  | .bl a, .bl b => .ok (.fr, .bl (if neg = true then !decide (a = b) else decide (a = b)))
  | _, _ => .bad
theorem isBD_nx {neg : Bool} : ∀ x y c, isBD neg x y ≠ .ex c := fun x y c e => by
  unfold isBD at e
  split at e <;> cases e
theorem isBD_op : Op2 C rIsB (isBD false) := by
  intro H x y fx fy M N Q z r1 r2 e q
  obtain ⟨f1, dx⟩ := fx
  obtain ⟨f2, dy⟩ := fy
  unfold isBD at e
  dsimp only at e r1 r2
  split at e
  · cases e
    exact ⟨_, _, r1.1, r2.1, q.1 _ H bl_new rfl⟩
  · cases e
theorem isNBD_op : Op2 C rNotB (isBD true) := by
  intro H x y fx fy M N Q z r1 r2 e q
  obtain ⟨f1, dx⟩ := fx
  obtain ⟨f2, dy⟩ := fy
  unfold isBD at e
  dsimp only at e r1 r2
  split at e
  · cases e
    exact ⟨_, _, r1.1, r2.1, q.1 _ H bl_new rfl⟩
  · cases e
theorem pd_isB (ha : PE X a (RV C W f)) (hb : PE X b (RV C W g)) : PE X (.Compare a [.Is] [b] pos) (RV C W (bind2 f g (isBD false))) := pd_cmp op_isBl isBD_op isBD_nx ha hb (nomark _)
theorem pd_isNB (ha : PE X a (RV C W f)) (hb : PE X b (RV C W g)) : PE X (.Compare a [.IsNot] [b] pos) (RV C W (bind2 f g (isBD true))) := pd_cmp op_notBl isNBD_op isBD_nx ha hb (nomark _)
theorem td_isB (ha : PE X a (RV C W f)) (hb : PE X b (RV C W g)) : PT X (.Compare a [.Is] [b] pos) (RT C W (blOf (bind2 f g (isBD false)))) := pt_ofCmp op_isBl isBD_op isBD_nx ha hb (nomark _)
theorem td_isNB (ha : PE X a (RV C W f)) (hb : PE X b (RV C W g)) : PT X (.Compare a [.IsNot] [b] pos) (RT C W (blOf (bind2 f g (isBD true)))) := pt_ofCmp op_notBl isNBD_op isBD_nx ha hb (nomark _)
/-! x = y.pop() -/
theorem RepL.snoc_inv {H : Hp} {d : D} : ∀ {ds : List D} {vs : List V} {M : List Addr}, RepL C H (ds ++ [d]) vs M → ∃ ws w M1 M2, vs = ws ++ [w] ∧ RepL C H ds ws M1 ∧ Rep C H d w M2 ∧ M = M1 ++ M2
  | [], vs, M, r => by
    obtain ⟨v, r', M1, M2, rfl, h1, ⟨rfl, rfl⟩, rfl⟩ := r
    exact ⟨[], v, [], M1, rfl, ⟨rfl, rfl⟩, h1, by simp⟩
  | d' :: ds, vs, M, r => by
    obtain ⟨v, r', M1, M2, rfl, h1, h2, rfl⟩ := r
    obtain ⟨ws, w, N1, N2, rfl, q1, q2, rfl⟩ := RepL.snoc_inv h2
    exact ⟨v :: ws, w, M1 ++ N1, N2, rfl, ⟨v, ws, M1, N1, rfl, h1, q1, rfl⟩, q2, by simp⟩
def popK (ds : List D) : Option (List D × D) := match ds.getLast? with
  | some d => if imm d = true then some (ds.dropLast, d) else none
  | none => none
def xPop (j i : Nat) : XS := fun ρ => match ρ[j]? with
  | some (some (o, .lst ds)) => if o.own = true ∧ i < ρ.length ∧ i ≠ j then match popK ds with
    | some q => .nx ((ρ.set j (some (o, .lst q.1))).set i (some (.loc, q.2)))
    | none => .bad
    else .bad
  | _ => .bad
theorem xs_pop (j i : Nat) {x y : Str} (F : Fx R C X W) (hi : X.N[i]? = some x) (hx : Loc X.env.scope x) (hN : X.N[j]? = some y := by rfl) (hv : Vis X.env.scope y := by first | exact Or.inl rfl | exact Or.inr (Or.inl rfl) | exact Or.inr (Or.inr rfl)) (hd : (y == ("__debug__" : Str)) = false := by decide)
    (hcd : (y == ("__classdict__" : Str)) = false := by decide) (hbase : attributeBase (.Name y p) "pop" X.env (eval (.Name y p) X.env) = eval (.Name y p) X.env := by rfl) (hline : (apos.endLine == cpos.line) = true := by rfl)
    (hs : swapsWith (.Call (.Attribute (.Name y p) "pop" apos) [] [] cpos) (some (.Name x p2)) spos.line X.env = pure false := by rfl)
    (hf : X.fn x = true ∨ X.env.scope.names.lookup x = some .local := by first | exact .inl rfl | exact .inr rfl | assumption) : PS X (.Assign [.Name x p2] (.Call (.Attribute (.Name y p) "pop" apos) [] [] cpos) spos) (RS C W (tX (xPop j i))) :=
  (ps_set F.nd hi hx (pe_bm0 PySem.F.plainAttrs_list PySem.F.slot_list_pop PySem.F.type_list_pop mt_pop (pv j hN hv hd hcd) hbase hline) hs hf).imp fun D σ H ⟨ρ, P, DD, E, I, h⟩ => by
    unfold tX xPop at h
    cases ej : ρ[j]? with
    | none => rw [ej] at h; exact h.elim
    | some s =>
      cases s with
      | none => rw [ej] at h; exact h.elim
      | some od =>
        obtain ⟨o, d⟩ := od
        rw [ej] at h
        cases d <;> first | exact h.elim | skip
        rename_i ds
        dsimp only at h
        by_cases hc : o.own = true ∧ i < ρ.length ∧ i ≠ j
        · rw [if_pos hc] at h
          obtain ⟨ow, hil, hij⟩ := hc
          unfold popK at h
          cases hl : ds.getLast? with
          | none => rw [hl] at h; exact h.elim
          | some d =>
            rw [hl] at h
            dsimp only at h
            by_cases him : imm d = true
            · rw [if_pos him] at h
              have hn : DD.nx ((ρ.set j (some (o, .lst ds.dropLast))).set i (some (.loc, d))) := h
              obtain ⟨v, M, e1, r, own, _⟩ := E.at_ j o _ ej
              obtain ⟨l, vs, M', rfl, eL, z, rl, rfl⟩ := r
              have r0 : Rep C H (.lst ds) (.ref l) (l :: M') := ⟨l, vs, M', rfl, eL, z, rl, rfl⟩
              obtain ⟨q1, q2, _⟩ := own ow
              obtain ⟨l1, l2⟩ := List.nodup_cons.mp q1
              have eds : ds = ds.dropLast ++ [d] := by
                obtain ⟨ys, rfl⟩ := List.getLast?_eq_some_iff.mp hl
                rw [List.dropLast_concat]
              have rl2 := rl
              rw [eds] at rl2
              obtain ⟨ws, w, M1, M2, rfl, ra, rb, rfl⟩ := rl2.snoc_inv
              have m2 := rb.imm him
              subst m2
              rw [List.append_nil] at l1 l2 q2 r0
              have hz : ds.dropLast.length ≤ sizeLine := by rw [List.length_dropLast]; omega
              have kp : KeepOn M1 H (upd H l (.lst ws)) := ⟨fun b u m eb => (upd_ne fun z => by subst z; exact l1 m).trans eb, fun b us eb => (upd_ne fun z => by subst z; rw [eL] at eb; cases eb).trans eb, fun b u us eb => (upd_ne fun z => by subst z; rw [eL] at eb; cases eb).trans eb⟩
              have r' : Rep C (upd H l (.lst ws)) (.lst ds.dropLast) (.ref l) (l :: M1) := ⟨l, ws, M1, rfl, upd_same, hz, ra.keep kp, rfl⟩
              have Em := E.mutate (Same.refl H) ej ow e1 r0 r' (fun a u na ea => (upd_ne fun z => na (by rw [z]; exact List.mem_cons_self)).trans ea) (fun a m => by
                by_cases q : a = l
                · rw [q, upd_same]; exact fun z => by cases z
                · rw [upd_ne q]
                  obtain ⟨u, hu⟩ := r0.dom a m
                  rw [hu]; exact fun z => by cases z) (List.nodup_cons.mpr ⟨l1, l2⟩) (fun a m => by
                rcases List.mem_cons.mp m with rfl | m'
                · rw [upd_same]; trivial
                · rw [upd_ne fun z => by subst z; exact l1 m']
                  exact q2 a (List.mem_cons_of_mem _ m')) (fun a m => .inl m)
              have rw' : Rep C (upd H l (.lst ws)) d w [] := rb.keep ⟨fun b u m _ => (nomatch m), kp.2.1, kp.2.2⟩
              have Ea := Em.assign (i := i) (fd := (.fr, d)) (v := w) ⟨Same.refl _, [], rw', List.nodup_nil, (fun a m => nomatch m), (fun a m => nomatch m)⟩ (by rw [List.length_set]; exact hil) (.inl rfl)
              refine ⟨_, e1, .inl ⟨rfl, _, SqL.of eL⟩, l, ws ++ [w], w, rfl, rfl, eL, by simp, ?_⟩
              rw [List.dropLast_concat]
              exact I.nx _ _ _ Ea hn
            · rw [if_neg him] at h; exact h.elim
        · rw [if_neg hc] at h; exact h.elim
/-! d.get(k, x) -/
def getK2 (x y z : FD) : Res FD := match dGet x.2 y.2 with
  | some (some d) => .ok (up x.1 d)
  | some none => if imm z.2 = true then .ok (.fr, z.2) else .bad
  | none => .bad
def get2F (f g h : Env → Res FD) : Env → Res FD := fun ρ => (f ρ).bind fun x => if isDictD x.2 = true then (g ρ).bind fun y => (h ρ).bind fun z => getK2 x y z else .bad
theorem pd_get2 (F : Fx R C X W) (ha : PE X a (RV C W f)) (hb : PE X b (RV C W g)) (hc : PE X c (RV C W h)) (m : M2 X a "get" apos b c cpos := by exact ⟨rfl, rfl, rfl, rfl⟩) : PE X (.Call (.Attribute a "get" apos) [b, c] [] cpos) (RV C W (get2F f g h)) :=
  (pe_dget2 (by have := F.hu; omega) ha hb hc m).imp fun σ H Q q => by
    obtain ⟨ρ, P, E, q⟩ := q
    refine ⟨ρ, P, E, ?_⟩
    unfold get2F at q
    cases e1 : f ρ with
    | bad => rw [e1] at q; exact q
    | ex c => rw [e1] at q; exact q
    | ok fx =>
      rw [e1] at q
      simp only [Res.ok_bind] at q
      intro x H1 ⟨s1, M1, r1, f1⟩
      by_cases hd : isDictD fx.2 = true
      · rw [if_pos hd] at q
        obtain ⟨l, rfl, il⟩ := isD_rep r1 hd
        refine ⟨l, rfl, il, ρ, P, E.same s1, ?_⟩
        cases e2 : g ρ with
        | bad => rw [e2] at q; exact q
        | ex c => rw [e2] at q; exact fun H' s => q H' (s1.trans s)
        | ok fy =>
          rw [e2] at q
          simp only [Res.ok_bind] at q
          intro y H2 ⟨s2, M2, r2, f2⟩
          refine ⟨ρ, P, E.same (s1.trans s2), ?_⟩
          cases e3 : h ρ with
          | bad => rw [e3] at q; exact q
          | ex c => rw [e3] at q; exact fun H' s => q H' ((s1.trans s2).trans s)
          | ok fz =>
            rw [e3] at q
            simp only [Res.ok_bind] at q
            intro z H3 ⟨s3, M3, r3, f3⟩
            unfold getK2 at q
            cases eg : dGet fx.2 fy.2 with
            | none => rw [eg] at q; exact q.elim
            | some o =>
              obtain ⟨l', ov, el, dg, h0, h1⟩ := dGet_ok (r1.same (s2.trans s3)) (r2.same s3) eg
              cases el
              rw [eg] at q
              refine ⟨ov, dg, ?_⟩
              cases o with
              | none =>
                rw [h0 rfl]
                dsimp only at q
                by_cases hi : imm fz.2 = true
                · rw [if_pos hi] at q
                  have e0 := r3.imm hi
                  subst e0
                  exact q z H3 ⟨(s1.trans s2).trans s3, [], r3, .nil⟩
                · rw [if_neg hi] at q; exact q.elim
              | some d =>
                obtain ⟨u, N, rfl, rd, sub⟩ := h1 d rfl
                exact q u H3 ⟨(s1.trans s2).trans s3, N, rd, FlOk.up rd ((f1.sub sub).on (s2.trans s3))⟩
      · rw [if_neg hd] at q; exact q.elim
/-! zip(xs, ys) -/
def zipD (ds es : List D) : List D := (ds.zip es).map fun q => .tup [q.1, q.2]
def zipI (f g : Env → Res FD) : Env → Res ID := fun ρ => (f ρ).bind fun x => (g ρ).bind fun y => match x.2, y.2 with
  | .lst ds, .lst es => .ok ([x, y], zipD ds es)
  | .tup ds, .tup es => .ok ([x, y], zipD ds es)
  | _, _ => .bad
theorem zipD_at {ds es : List D} {i : Nat} {d : D} (e : (zipD ds es)[i]? = some d) : ∃ d1 d2, ds[i]? = some d1 ∧ es[i]? = some d2 ∧ d = .tup [d1, d2] := by
  unfold zipD at e
  rw [List.getElem?_map] at e
  obtain ⟨q, eq, rfl⟩ := Option.map_eq_some_iff.mp e
  obtain ⟨h1, h2⟩ := List.getElem?_zip_eq_some.mp eq
  exact ⟨q.1, q.2, h1, h2, rfl⟩
theorem zip_node {H : Hp} {T : Addr} {d1 d2 : D} {v w : V} {L N : List Addr} (hT : H T = none) (r1 : Rep C H d1 v L) (r2 : Rep C H d2 w N) : Same H (upd H T (.tup [v, w])) ∧ Rep C (upd H T (.tup [v, w])) (.tup [d1, d2]) (.ref T) (L ++ N) := by
  have sm : Same H (upd H T (.tup [v, w])) := fun b o e => by rw [upd_ne (ne_of_none e hT)]; exact e
  exact ⟨sm, T, _, rfl, upd_same, by rw [sizeLine_eq]; show 2 ≤ 16777216; decide, ⟨v, [w], L, N, rfl, r1.same sm, ⟨w, [], N, [], rfl, r2.same sm, ⟨rfl, rfl⟩, by simp⟩, rfl⟩⟩
theorem itok_zipL (K : PySem.W.Frag) (a b : Addr) (ds es : List D) : ItOk C (Itz K a b) (zipD ds es) [.inl (.ref a, .lst ds), .inl (.ref b, .lst es)] := by
  intro i H hp
  obtain ⟨N1, a', vs, M1, e0, e1, z1, r1, eN1⟩ := hp _ (List.mem_cons_self)
  cases e0
  obtain ⟨N2, b', ws, M2, e0, e2, z2, r2, eN2⟩ := hp _ (List.mem_cons_of_mem _ List.mem_cons_self)
  cases e0
  refine ⟨fun d e => ?_, fun hl => ⟨vs, ws, SqL.of e1, SqL.of e2, ?_⟩⟩
  · obtain ⟨d1, d2, h1, h2, rfl⟩ := zipD_at e
    obtain ⟨v, L, f1, q1, s1⟩ := r1.get h1
    obtain ⟨w, N, f2, q2, s2⟩ := r2.get h2
    refine ⟨⟨vs, ws, v, w, SqL.of e1, SqL.of e2, f1, f2⟩, fun x H' ⟨T, y1, y2, ex, hT, eH, k1, k2⟩ => ?_⟩
    subst ex eH
    have g1 := k1 vs (SqL.of e1)
    have g2 := k2 ws (SqL.of e2)
    rw [f1] at g1
    rw [f2] at g2
    cases g1
    cases g2
    obtain ⟨sm, rr⟩ := zip_node hT q1 q2
    refine ⟨sm, L ++ N, rr, fun c m => ?_⟩
    rcases List.mem_append.mp m with m | m
    · exact ⟨_, List.mem_cons_self, N1, ⟨a, vs, M1, rfl, e1, z1, r1, eN1⟩, by rw [eN1]; exact List.mem_cons_of_mem _ (s1.subset m)⟩
    · exact ⟨_, List.mem_cons_of_mem _ List.mem_cons_self, N2, ⟨b, ws, M2, rfl, e2, z2, r2, eN2⟩, by rw [eN2]; exact List.mem_cons_of_mem _ (s2.subset m)⟩
  · have l1 := r1.length
    have l2 := r2.length
    unfold zipD at hl
    rw [List.length_map, List.length_zip] at hl
    omega
theorem itok_zipT (K : PySem.W.Frag) (a b : Addr) (ds es : List D) : ItOk C (ItzT K a b) (zipD ds es) [.inl (.ref a, .tup ds), .inl (.ref b, .tup es)] := by
  intro i H hp
  obtain ⟨N1, a', vs, e0, e1, z1, r1⟩ := hp _ (List.mem_cons_self)
  cases e0
  obtain ⟨N2, b', ws, e0, e2, z2, r2⟩ := hp _ (List.mem_cons_of_mem _ List.mem_cons_self)
  cases e0
  refine ⟨fun d e => ?_, fun hl => ⟨vs, ws, .inl (.inl e1), .inl (.inl e2), ?_⟩⟩
  · obtain ⟨d1, d2, h1, h2, rfl⟩ := zipD_at e
    obtain ⟨v, L, f1, q1, s1⟩ := r1.get h1
    obtain ⟨w, N, f2, q2, s2⟩ := r2.get h2
    refine ⟨⟨vs, ws, v, w, .inl (.inl e1), .inl (.inl e2), f1, f2⟩, fun x H' ⟨T, y1, y2, ex, hT, eH, k1, k2⟩ => ?_⟩
    subst ex eH
    have g1 := k1 vs (.inl (.inl e1))
    have g2 := k2 ws (.inl (.inl e2))
    rw [f1] at g1
    rw [f2] at g2
    cases g1
    cases g2
    obtain ⟨sm, rr⟩ := zip_node hT q1 q2
    refine ⟨sm, L ++ N, rr, fun c m => ?_⟩
    rcases List.mem_append.mp m with m | m
    · exact ⟨_, List.mem_cons_self, N1, ⟨a, vs, rfl, e1, z1, r1⟩, s1.subset m⟩
    · exact ⟨_, List.mem_cons_of_mem _ List.mem_cons_self, N2, ⟨b, ws, rfl, e2, z2, r2⟩, s2.subset m⟩
  · have l1 := r1.length
    have l2 := r2.length
    unfold zipD at hl
    rw [List.length_map, List.length_zip] at hl
    omega
theorem ri_zip {K : PySem.W.Frag} {σ : St} {H : Hp} {R : It → Hp → Prop} (hh : RI C W (zipI f g) σ H R) : iZipA K (tCons (RV C W f) (tCons (RV C W g) tNil)) σ H R := by
  obtain ⟨ρ, P, E, hh⟩ := hh
  refine ⟨ρ, P, E, ?_⟩
  unfold zipI at hh
  cases e1 : f ρ with
  | bad => rw [e1] at hh; exact hh
  | ex c => rw [e1] at hh; exact hh
  | ok fx =>
    rw [e1] at hh
    simp only [Res.ok_bind] at hh
    intro x H1 ⟨s1, M1, r1, f1⟩
    refine ⟨ρ, P, E.same s1, ?_⟩
    cases e2 : g ρ with
    | bad => rw [e2] at hh; exact hh
    | ex c => rw [e2] at hh; exact fun H' s => hh H' (s1.trans s)
    | ok fy =>
      rw [e2] at hh
      simp only [Res.ok_bind] at hh
      intro y H2 ⟨s2, M2, r2, f2⟩
      obtain ⟨fl, dx⟩ := fx
      obtain ⟨fl', dy⟩ := fy
      have r1' := r1.same s2
      have f1' := f1.on s2
      have f2' := f2.early E s1
      cases dx <;> first | exact hh.elim | skip
      · cases dy <;> first | exact hh.elim | skip
        rename_i ds es
        have r0 := r1'
        have r00 := r2
        obtain ⟨a, vs, rfl, ea, z1, k1⟩ := r1'
        obtain ⟨b, ws, rfl, eb, z2, k2⟩ := r2
        exact ⟨a, b, vs, ws, rfl, .inr ⟨.inl (.inl ea), .inl (.inl eb), hh _ H2 _ [] (s1.trans s2) ⟨_, _, rfl, ⟨_, r0, f1'⟩, _, _, rfl, ⟨_, r00, f2'⟩, rfl⟩ (fun p m => nomatch m) (itok_zipT K a b ds es)⟩⟩
      · cases dy <;> first | exact hh.elim | skip
        rename_i ds es
        have r0 := r1'
        have r00 := r2
        obtain ⟨a, vs, _, rfl, ea, z1, k1, rfl⟩ := r1'
        obtain ⟨b, ws, _, rfl, eb, z2, k2, rfl⟩ := r2
        exact ⟨a, b, vs, ws, rfl, .inl ⟨SqL.of ea, SqL.of eb, hh _ H2 _ [] (s1.trans s2) ⟨_, _, rfl, ⟨_, r0, f1'⟩, _, _, rfl, ⟨_, r00, f2'⟩, rfl⟩ (fun p m => nomatch m) (itok_zipL K a b ds es)⟩⟩
theorem di_zip {elts : List Expr} {kk : Nat} (hg : Gl X "zip") (hm : X.mg "zip" = none) (ha : PE X a (RV C W f)) (hb : PE X b (RV C W g)) (hs : starEach [a, b] X.env = (false, eval a X.env) :: starEach [b] X.env := by rfl) (hs2 : starEach [b] X.env = (false, eval b X.env) :: starEach [] X.env := by rfl) (hpl : (backTo pos (starEach [b] X.env)).any (·.1) = false := by rfl) :
    PI X (.Tuple elts kk tpos) (.Call (.Name "zip" p) [a, b] [] pos) (RI C W (zipI f g)) := (pi_zipA hg hm (pa_cons ha (pa_cons hb pa_nil hs2) hs) hs hpl).imp fun _ _ _ => ri_zip
end
end DL
/-! DL24: {k: v, ..}. -/
namespace DL
open PySem L2
section
variable {R : Nat} {C : Ctx} {X : Cx} {W : WX} {a b c e : Expr} {f g h : Env → Res FD} {pos p p2 apos cpos tpos spos : Pos} {tg : Expr}
def nilP : Env → Res (List (Key × D)) := fun _ => .ok []
def consP (fk fv : Env → Res FD) (g : Env → Res (List (Key × D))) : Env → Res (List (Key × D)) := fun ρ => (fk ρ).bind fun k => (fv ρ).bind fun v => (g ρ).bind fun r => match keyOf k.2 with
  | some q => if imm v.2 = true then .ok ((q, v.2) :: r) else .bad
  | none => .bad
def dispF (g : Env → Res (List (Key × D))) : Env → Res FD := fun ρ => (g ρ).bind fun kvs => if kvs.length ≤ 15 then .ok (.fr, .dK (dictOf kvs).1 (dictOf kvs).2) else .bad
/-- the pairs' reading -/
def RPs (C : Ctx) (W : WX) (g : Env → Res (List (Key × D))) : St → Hp → (List (V × V) → Hp → Prop) → Prop := fun σ H Q => ∃ ρ P, EnvOk C P H σ ρ ∧ match g ρ with
  | .ok kds => ∀ (kvs : List (Key × V)) H', Same H H' → kvs.map (·.1) = kds.map (·.1) → RepL C H' (kds.map (·.2)) (kvs.map (·.2)) [] → Q (kvs.map fun kv => (kV kv.1, kv.2)) H'
  | .ex c => ∀ H', Same H H' → W (.ref (C.cls c)) none σ H'
  | .bad => False
structure PDs (C : Ctx) (X : Cx) (W : WX) (pos : Pos) (keys : List (Option Expr)) (values : List Expr) (g : Env → Res (List (Key × D))) : Prop where
  run : ∃ trs, PPs X pos keys values trs ∧ ∀ σ H Q, RPs C W g σ H Q → tPairs trs σ H Q
theorem pds_nil : PDs C X W pos [] [] nilP := ⟨[], pps_nil, fun σ H Q ⟨ρ, P, E, h⟩ => h [] H (Same.refl H) rfl ⟨rfl, rfl⟩⟩
theorem pds_cons {keys : List (Option Expr)} {values : List Expr} {g' : Env → Res (List (Key × D))} (hk : PE X a (RV C W f)) (hv : PE X b (RV C W g)) (hr : PDs C X W pos keys values g') : PDs C X W pos (some a :: keys) (b :: values) (consP f g g') := by
  obtain ⟨trs, h1, h2⟩ := hr.run
  refine ⟨_, pps_cons hk hv h1, fun σ H Q q => ?_⟩
  obtain ⟨ρ, P, E, q⟩ := q
  refine ⟨ρ, P, E, ?_⟩
  unfold consP at q
  cases e1 : f ρ with
  | bad => rw [e1] at q; exact q
  | ex c => rw [e1] at q; exact q
  | ok fk =>
    rw [e1] at q
    simp only [Res.ok_bind] at q
    intro x H1 ⟨s1, M1, r1, f1⟩
    refine ⟨ρ, P, E.same s1, ?_⟩
    cases e2 : g ρ with
    | bad => rw [e2] at q; exact q
    | ex c => rw [e2] at q; exact fun H' s => q H' (s1.trans s)
    | ok fv =>
      rw [e2] at q
      simp only [Res.ok_bind] at q
      intro y H2 ⟨s2, M2, r2, f2⟩
      refine h2 _ _ _ ⟨ρ, P, E.same (s1.trans s2), ?_⟩
      cases e3 : g' ρ with
      | bad => rw [e3] at q; exact q
      | ex c => rw [e3] at q; exact fun H' s => q H' ((s1.trans s2).trans s)
      | ok kds =>
        rw [e3] at q
        simp only [Res.ok_bind] at q
        intro kvs H3 s3 ek rr
        cases ekk : keyOf fk.2 with
        | none => rw [ekk] at q; exact q.elim
        | some kk =>
          rw [ekk] at q
          dsimp only at q
          by_cases hi : imm fv.2 = true
          · rw [if_pos hi] at q
            have e0 := r2.imm hi
            subst e0
            have := key_rep (r1.same (s2.trans s3)) ekk
            subst this
            exact q ((kk, y) :: kvs) H3 ((s1.trans s2).trans s3) (by simp [ek]) ⟨y, _, [], [], rfl, r2.same s3, rr, rfl⟩
          · rw [if_neg hi] at q; exact q.elim
theorem pd_disp {keys : List (Option Expr)} {values : List Expr} {g : Env → Res (List (Key × D))} (hp : PDs C X W pos keys values g) (hall : keys.all (·.isSome) = true := by rfl) (hl : keys.length = values.length := by rfl) (h0 : keys ≠ [] := by simp)
    (h15 : keys.length ≤ 15 := by decide) : PE X (.Dict keys values pos) (RV C W (dispF g)) := by
  obtain ⟨trs, h1, h2⟩ := hp.run
  refine (pe_disp h1 hall hl h0 h15).imp fun σ H Q q p hp => ?_
  obtain ⟨ρ, P, E, q⟩ := q
  have s0 : Same H (upd H p (.dK [])) := upd_sameH hp
  refine h2 _ _ _ ⟨ρ, P, E.same s0, ?_⟩
  unfold dispF at q
  cases eg : g ρ with
  | bad => rw [eg] at q; exact q
  | ex c => rw [eg] at q; exact fun H' s => q H' (s0.trans s)
  | ok kds =>
    rw [eg] at q
    simp only [Res.ok_bind] at q
    intro kvs H2 s2 ek rr
    have e2 : H2 p = some (.dK []) := s2 _ _ upd_same
    by_cases hz : kds.length ≤ 15
    · rw [if_pos hz] at q
      have hlen : kvs.length = kds.length := by have := congrArg List.length ek; simpa using this
      obtain ⟨m1, m2⟩ := merge_rep kds kvs [] [] ek rr ⟨rfl, rfl⟩
      refine ⟨e2, kvs, rfl, by omega, q _ _ ?_⟩
      have hml : (mergeK [] kvs).length ≤ sizeLine := by
        refine Nat.le_trans (length_mergeK kvs []) ?_
        rw [sizeLine_eq]
        simp
        omega
      have kp : KeepOn [] H2 (upd H2 p (.dK (mergeK [] kvs))) := ⟨fun b u m _ => (nomatch m), fun b us eb => (upd_ne fun z => by subst z; rw [e2] at eb; cases eb).trans eb, fun b u us eb => (upd_ne fun z => by subst z; rw [e2] at eb; cases eb).trans eb⟩
      have s : Same H (upd H2 p (.dK (mergeK [] kvs))) := fun b o e => by
        rw [upd_ne (ne_of_none e hp)]
        exact s2 _ _ (s0 _ _ e)
      have ml := m2.length
      refine ⟨s, [p], ⟨p, mergeK [] kvs, [], rfl, .inl upd_same, m1, by rw [List.length_map] at ml; rw [show (dictOf kds).2.length = _ from ml]; exact hml, m2.keep kp, rfl⟩, ⟨by simp, fun a m => ?_, fun a m => ?_⟩⟩
      · obtain rfl : a = p := by simpa using m
        exact hp
      · obtain rfl : a = p := by simpa using m
        rw [upd_same]; trivial
    · rw [if_neg hz] at q; exact q.elim
end
end DL
/-! DL25: the order of numbers and of texts. -/
namespace DL
open PySem L2
section
variable {R : Nat} {C : Ctx} {X : Cx} {W : WX} {a b c e : Expr} {f g h : Env → Res FD} {pos p p2 apos cpos tpos spos : Pos} {tg : Expr}
def strLt (x y : Str) : Bool := decide (x.cps.toList < y.cps.toList)
def gtE : FD → FD → Res FD := fun x y => match x.2, y.2 with
  | .int i, .int j => .ok (.fr, .bl (decide (j < i)))
  | .str i, .str j => .ok (.fr, .bl (strLt j i))
  | _, _ => .bad
def ltE : FD → FD → Res FD := fun x y => match x.2, y.2 with
  | .int i, .int j => .ok (.fr, .bl (decide (i < j)))
  | .str i, .str j => .ok (.fr, .bl (strLt i j))
  | _, _ => .bad
theorem gtE_nx : ∀ x y c, gtE x y ≠ .ex c := fun x y c e => by
  unfold gtE at e
  split at e <;> cases e
theorem ltE_nx : ∀ x y c, ltE x y ≠ .ex c := fun x y c e => by
  unfold ltE at e
  split at e <;> cases e
theorem gtE_op : Op2 C (fun x y H Q => (rI0 fun i j => .bl (decide (j < i))) x y H Q ∨ ∃ i j, x = .str i ∧ y = .str j ∧ Q (.bl (decide (j.cps.toList < i.cps.toList))) H) gtE := by
  intro H x y fx fy M N Q z r1 r2 e q
  obtain ⟨f1, dx⟩ := fx
  obtain ⟨f2, dy⟩ := fy
  unfold gtE at e
  dsimp only at e r1 r2
  split at e
  · cases e
    exact .inl ⟨_, _, r1.1, r2.1, q.1 _ H bl_new rfl⟩
  · cases e
    exact .inr ⟨_, _, r1.1, r2.1, q.1 _ H bl_new rfl⟩
  · cases e
theorem ltE_op : Op2 C (fun x y H Q => (rI0 fun i j => .bl (decide (i < j))) x y H Q ∨ ∃ i j, x = .str i ∧ y = .str j ∧ Q (.bl (decide (i.cps.toList < j.cps.toList))) H) ltE := by
  intro H x y fx fy M N Q z r1 r2 e q
  obtain ⟨f1, dx⟩ := fx
  obtain ⟨f2, dy⟩ := fy
  unfold ltE at e
  dsimp only at e r1 r2
  split at e
  · cases e
    exact .inl ⟨_, _, r1.1, r2.1, q.1 _ H bl_new rfl⟩
  · cases e
    exact .inr ⟨_, _, r1.1, r2.1, q.1 _ H bl_new rfl⟩
  · cases e
theorem pd_gtE (ha : PE X a (RV C W f)) (hb : PE X b (RV C W g)) : PE X (.Compare a [.Gt] [b] pos) (RV C W (bind2 f g gtE)) := pd_cmp (op_gt.or op_gt_str) gtE_op gtE_nx ha hb (nomark _)
theorem td_gtE (ha : PE X a (RV C W f)) (hb : PE X b (RV C W g)) : PT X (.Compare a [.Gt] [b] pos) (RT C W (blOf (bind2 f g gtE))) := pt_ofCmp (op_gt.or op_gt_str) gtE_op gtE_nx ha hb (nomark _)
theorem pd_ltE (ha : PE X a (RV C W f)) (hb : PE X b (RV C W g)) : PE X (.Compare a [.Lt] [b] pos) (RV C W (bind2 f g ltE)) := pd_cmp (op_lt.or op_lt_str) ltE_op ltE_nx ha hb (nomark _)
theorem td_ltE (ha : PE X a (RV C W f)) (hb : PE X b (RV C W g)) : PT X (.Compare a [.Lt] [b] pos) (RT C W (blOf (bind2 f g ltE))) := pt_ofCmp (op_lt.or op_lt_str) ltE_op ltE_nx ha hb (nomark _)
end
end DL
/-! DL26: x[k].append(e): the list at a key lengthened. -/
namespace DL
open PySem L2
section
variable {R : Nat} {C : Ctx} {X : Cx} {W : WX} {P : List Pt} {a b e : Expr} {f g : Env → Res FD} {pos pos' p apos cpos ipos : Pos}
/-- the list at q, lengthened -/
def kapp (q : Key) (y : D) : List Key → List D → Option (List D)
  | k :: ks, d :: ds => if k = q then match d with
      | .lst es => if es.length < sizeLine then some (.lst (es ++ [y]) :: ds) else none
      | _ => none
    else (kapp q y ks ds).map (d :: ·)
  | _, _ => none
def kappF (d k y : D) : Option D := match d with
  | .dK ks ds => match keyOf k with
    | some q => if imm y = true then (kapp q y ks ds).map (.dK ks) else none
    | none => none
  | _ => none
theorem kapp_rep {H : Hp} {q : Key} {y : D} {v : V} (rv : Rep C H y v []) : ∀ {kvs : List (Key × V)} {ds ds' : List D} {M : List Addr}, RepL C H ds (kvs.map (·.2)) M → M.Nodup → kapp q y (kvs.map (·.1)) ds = some ds' →
    ds'.length = ds.length ∧ ∃ l vs, valV kvs q = some (.ref l) ∧ H l = some (.lst vs) ∧ vs.length < sizeLine ∧ l ∈ M ∧ RepL C (upd H l (.lst (vs ++ [v]))) ds' (kvs.map (·.2)) M
  | [], ds, ds', M, r, nd, e => by cases ds <;> simp [kapp] at e
  | p :: kvs, [], ds', M, r, nd, e => by simp [kapp] at e
  | p :: kvs, x :: ds, ds', M, r, nd, e => by
    obtain ⟨w, ws, M1, M2, e0, r1, r2, rfl⟩ := r
    obtain ⟨rfl, rfl⟩ := List.cons.inj e0
    obtain ⟨n1, n2, n3⟩ := List.nodup_append.mp nd
    rw [List.map_cons] at e
    unfold kapp at e
    by_cases h : p.1 = q
    · rw [if_pos h] at e
      cases x <;> first | (cases e; done) | skip
      rename_i es
      dsimp only at e
      by_cases hz : es.length < sizeLine
      · rw [if_pos hz] at e
        cases e
        obtain ⟨l, vs, M', e1, el, z, rl, rfl⟩ := r1
        have e1 : p.2 = .ref l := e1
        refine ⟨rfl, l, vs, ?_, el, by rw [← rl.length]; exact hz, by simp, ?_⟩
        · unfold valV
          rw [List.find?_cons_of_pos (by simp [h])]
          show some p.2 = _
          rw [e1]
        · obtain ⟨l1, l2⟩ := List.nodup_cons.mp n1
          have l3 : l ∉ M2 := fun m => n3 l List.mem_cons_self l m rfl
          have q1 := list_upd el rl (RepL.one rv) l1 (fun m => nomatch m) (by rw [List.length_append, List.length_singleton]; exact hz)
          rw [List.append_nil] at q1
          refine ⟨p.2, _, l :: M', M2, rfl, by rw [e1]; exact q1, r2.keep (upd_keep el (fun _ z => by cases z) (fun _ _ z => by cases z) l3), rfl⟩
      · rw [if_neg hz] at e; cases e
    · rw [if_neg h] at e
      obtain ⟨ds2, e2, rfl⟩ := Option.map_eq_some_iff.mp e
      obtain ⟨z, l, vs, h1, h2, h3, h4, h5⟩ := kapp_rep rv r2 n2 e2
      have l3 : l ∉ M1 := fun m => n3 l m l h4 rfl
      refine ⟨by rw [List.length_cons, List.length_cons, z], l, vs, ?_, h2, h3, List.mem_append_right _ h4, ?_⟩
      · unfold valV at h1 ⊢
        rw [List.find?_cons_of_neg (by simp [h])]
        exact h1
      · exact ⟨p.2, _, M1, M2, rfl, r1.keep (upd_keep h2 (fun _ z => by cases z) (fun _ _ z => by cases z) l3), h5, rfl⟩
def appKE (i : Nat) (fk f : Env → Res FD) (ρ : Env) : Option Env := match ρ[i]?, fk ρ, f ρ with
  | some (some (o, d)), .ok k, .ok x => if o.own = true then (kappF d k.2 x.2).map fun d' => ρ.set i (some (o, d')) else none
  | _, _, _ => none
def xAppK (i : Nat) (fk f : Env → Res FD) : XS := fun ρ => match appKE i fk f ρ with
  | some ρ' => .nx ρ'
  | none => .bad
theorem appKE_ok {i : Nat} {fk f : Env → Res FD} {ρ ρ' : Env} (h : appKE i fk f ρ = some ρ') : ∃ o d k x d', ρ[i]? = some (some (o, d)) ∧ fk ρ = .ok k ∧ f ρ = .ok x ∧ o.own = true ∧ kappF d k.2 x.2 = some d' ∧ ρ' = ρ.set i (some (o, d')) := by
  unfold appKE at h
  cases e1 : ρ[i]? with
  | none => simp [e1] at h
  | some s => cases s with
    | none => simp [e1] at h
    | some q => cases e2 : fk ρ with
      | bad => simp [e1, e2] at h
      | ex c => simp [e1, e2] at h
      | ok k => cases e3 : f ρ with
        | bad => simp [e1, e2, e3] at h
        | ex c => simp [e1, e2, e3] at h
        | ok x =>
          obtain ⟨o, d⟩ := q
          simp only [e1, e2, e3] at h
          by_cases ow : o.own = true
          · rw [if_pos ow] at h
            obtain ⟨d', e4, e5⟩ := Option.map_eq_some_iff.mp h
            exact ⟨o, d, k, x, d', rfl, rfl, rfl, ow, e4, e5.symm⟩
          · rw [if_neg ow] at h; cases h
theorem rs_appK {i : Nat} {D' : Ends} {σ : St} {H : Hp} (h : RS C W (tX (xAppK i g f)) D' σ H) :
    tDrop (tBM X.K "list" rAppend (tOp (fun x y H Q => ∃ a v, x = .ref a ∧ DGet H a y (some v) ∧ Q v H) (tVar i) (RV C W g)) (tCons (RV C W f) tNil)) D' σ H := by
  obtain ⟨ρ, P, DD, E, I, h⟩ := h
  unfold tX xAppK at h
  cases e0 : appKE i g f ρ with
  | none => rw [e0] at h; exact h.elim
  | some ρ' =>
    rw [e0] at h
    obtain ⟨o, d, k, x, d', ei, ek, ex, ow, e4, rfl⟩ := appKE_ok e0
    obtain ⟨vd, M, e1, r, own, _⟩ := E.at_ i o _ ei
    refine ⟨vd, e1, ρ, P, E, ?_⟩
    rw [ek]
    intro vk H1 ⟨s1, L1, rk, _⟩
    unfold kappF at e4
    split at e4
    · rename_i ks ds
      split at e4
      · rename_i q eq
        split at e4
        · rename_i hi
          obtain ⟨ds', e5, rfl⟩ := Option.map_eq_some_iff.mp e4
          obtain ⟨ad, kvs, M', rfl, ed, rfl, z, rl, rfl⟩ := id r
          obtain ⟨q1, q2, _⟩ := own ow
          have nd' := (List.nodup_cons.mp q1).2
          have ad1 := (List.nodup_cons.mp q1).1
          have ed1 := mut_rd (q2 ad List.mem_cons_self) ed
          -- the list stands now, whatever is laid
          have pre : ∀ {H2 : Hp} {v : V}, Same H H2 → Rep C H2 x.2 v [] → ds'.length = ds.length ∧ ∃ l vs, valV kvs q = some (.ref l) ∧ H2 l = some (.lst vs) ∧ vs.length < sizeLine ∧ l ∈ M' ∧ RepL C (upd H2 l (.lst (vs ++ [v]))) ds' (kvs.map (·.2)) M' := fun s rv => kapp_rep rv (rl.same s) nd' e5
          obtain ⟨_, l, vs, g1, g2, g3, g4, _⟩ := kapp_rep (v := .non) (y := .non) (ds' := (kapp q .non (kvs.map (·.1)) ds).getD []) ⟨rfl, rfl⟩ (rl.same s1) nd' (by
            have gen : ∀ (y y' : D) (ks : List Key) (ds ds' : List D), kapp q y ks ds = some ds' → ∃ ds2, kapp q y' ks ds = some ds2 := fun y y' ks => by
              induction ks with
              | nil => intro ds ds' e; cases ds <;> simp [kapp] at e
              | cons k ks ih =>
                intro ds ds' e
                cases ds with
                | nil => simp [kapp] at e
                | cons d ds =>
                  unfold kapp at e ⊢
                  by_cases c : k = q
                  · rw [if_pos c] at e ⊢
                    cases d <;> first | (cases e; done) | skip
                    dsimp only at e ⊢
                    split at e
                    · rename_i hz; rw [if_pos hz]; exact ⟨_, rfl⟩
                    · cases e
                  · rw [if_neg c] at e ⊢
                    obtain ⟨d2, e2, _⟩ := Option.map_eq_some_iff.mp e
                    obtain ⟨d3, e3⟩ := ih _ _ e2
                    exact ⟨d :: d3, by rw [e3]; rfl⟩
            obtain ⟨d3, e3⟩ := gen _ .non _ _ _ e5
            rw [e3]; rfl)
          refine ⟨ad, .ref l, rfl, .inl ⟨kvs, q, .inl (s1 _ _ ed1), key_rep rk eq, g1.symm⟩, .inl ⟨rfl, _, SqL.of g2⟩, ρ, P, E.same s1, ?_⟩
          rw [ex]
          intro v H2 ⟨s2, L2, rv, _⟩
          have s12 := s1.trans s2
          rw [rv.imm hi] at rv
          obtain ⟨len, l', vs', h1, h2, h3, h4, h5⟩ := pre s12 rv
          rw [g1] at h1
          cases h1
          have nl : l ≠ ad := fun z => ad1 (by rw [← z]; exact h4)
          refine ⟨l, vs', v, rfl, rfl, h2, h3, I.nx _ _ _ ?_ h⟩
          have rr := r.same s12
          have ud : upd H2 l (.lst (vs' ++ [v])) ad = some (.dK kvs) := by rw [upd_ne (Ne.symm nl)]; exact s12 _ _ ed1
          refine E.mutate s12 ei ow e1 rr (M' := ad :: M') ⟨ad, kvs, M', rfl, .inl ud, rfl, by rw [len]; exact z, h5, rfl⟩ (fun a u na e => (upd_ne fun zz => na (by rw [zz]; exact List.mem_cons_of_mem _ h4)).trans e) (fun a m => ?_) q1 (fun a m => ?_) fun a m => .inl m
          · by_cases c : a = l
            · rw [c, upd_same]; exact fun zz => by cases zz
            · rw [upd_ne c]
              obtain ⟨u, hu⟩ := rr.dom a m
              rw [hu]; exact fun zz => by cases zz
          · by_cases c : a = l
            · rw [c, upd_same]; trivial
            · rw [upd_ne c]; exact mut_same s12 (q2 a m)
        · cases e4
      · cases e4
    · cases e4
theorem xs_appK (i : Nat) {x : Str} (F : Fx R C X W) (hk : PE X a (RV C W g)) (he : PE X e (RV C W f)) (hs0 : PlainIx a := by exact fun _ _ => rfl) (hN : X.N[i]? = some x := by rfl) (hv : Vis X.env.scope x := by first | exact Or.inl rfl | exact Or.inr (Or.inl rfl) | exact Or.inr (Or.inr rfl)) (hd : (x == ("__debug__" : Str)) = false := by decide)
    (hcd : (x == ("__classdict__" : Str)) = false := by decide) (hbase : attributeBase (.Subscript (.Name x p) a ipos) "append" X.env (eval (.Subscript (.Name x p) a ipos) X.env) = eval (.Subscript (.Name x p) a ipos) X.env := by rfl)
    (hfew : ((backTo cpos (starEach [e] X.env)).all (fun x => !x.1) && (backToKw cpos (keywordEach [] X.env)).all (fun x => x.1.isSome)
      && decide ([e].length + ([] : List Keyword).length + (if ([] : List Keyword).isEmpty then 0 else 1) < 30)) = true := by rfl)
    (hline : (apos.endLine == cpos.line) = true := by rfl) (hs : starEach [e] X.env = (false, eval e X.env) :: starEach [] X.env := by rfl) (hplain : (backTo cpos (starEach [] X.env)).any (·.1) = false := by rfl) (hsw : swapsWith (.Call (.Attribute (.Subscript (.Name x p) a ipos) "append" apos) [e] [] cpos) none pos.line X.env = pure false := by rfl) :
    PS X (.Expr (.Call (.Attribute (.Subscript (.Name x p) a ipos) "append" apos) [e] [] cpos) pos) (RS C W (tX (xAppK i g f))) :=
  (ps_expr (pe_bm PySem.F.plainAttrs_list PySem.F.slot_list_append PySem.F.type_list_append mt_append (pe_ix (ix_dict (by have := F.hu; omega)) (pv i hN hv hd hcd) hk hs0) (pa_cons he pa_nil hs) hbase hfew hline hs hplain) hsw).imp fun _ _ _ => rs_appK
end
end DL
/-! DL27: dict(pairs) whose values are new lists. -/
namespace DL
open PySem L2
section
variable {R : Nat} {C : Ctx} {X : Cx} {W : WX} {P : List Pt} {a b e : Expr} {f g : Env → Res FD} {pos pos' p apos cpos ipos : Pos}
def pairsN : List D → Option (List (Key × D))
  | [] => some []
  | .tup [k, v] :: ds => match keyOf k, pairsN ds with
    | some q, some r => some ((q, v) :: r)
    | _, _ => none
  | _ => none
def dictND (x : FD) : Res FD := match x.2 with
  | .lst ds => match pairsN ds with
    | some kvs => if x.1 = .fr ∧ (kvs.map (·.1)).Nodup then .ok (.fr, .dK (kvs.map (·.1)) (kvs.map (·.2))) else .bad
    | none => .bad
  | _ => .bad
def dictNF (f : Env → Res FD) : Env → Res FD := fun ρ => (f ρ).bind dictND
theorem pairsN_rep (K : PySem.W.Frag) {H : Hp} : ∀ {ds : List D} {vs : List V} {M : List Addr} {kds : List (Key × D)}, RepL C H ds vs M → pairsN ds = some kds →
    ∃ ps kvs, vs = ps.map V.ref ∧ Paired (fun p (kv : Key × V) => SqT K H p [kV kv.1, kv.2]) ps kvs ∧ kvs.map (·.1) = kds.map (·.1) ∧ RepL C H (kds.map (·.2)) (kvs.map (·.2)) M
  | [], vs, M, kds, r, e => by
    cases e
    obtain ⟨rfl, rfl⟩ := r
    exact ⟨[], [], rfl, .nil, rfl, rfl, rfl⟩
  | d :: ds, vs, M, kds, r, e => by
    obtain ⟨v, w, M1, M2, rfl, r1, r2, rfl⟩ := r
    unfold pairsN at e
    split at e
    · rename_i heq; cases heq
    · rename_i k v' ds' heq
      cases heq
      split at e
      · rename_i q rr ek er
        cases e
        obtain ⟨ps, kvs, rfl, h1, h2, h3⟩ := pairsN_rep K r2 er
        obtain ⟨a, us, rfl, ea, _, ru⟩ := r1
        obtain ⟨x, us', N1, N2, rfl, rx, ⟨y, us'', N3, N4, rfl, ry, ⟨rfl, rfl⟩, rfl⟩, rfl⟩ := ru
        have nx : N1 = [] := by cases k <;> cases ek <;> exact rx.2
        subst nx
        rw [List.nil_append, List.append_nil]
        refine ⟨a :: ps, (q, y) :: kvs, rfl, .cons (.inl (.inl ?_)) h1, by simp [h2], ⟨y, _, N3, M2, rfl, ry, h3, rfl⟩⟩
        rw [key_rep rx ek] at ea
        exact ea
      · cases e
    · cases e
theorem merge_nodup : ∀ (kvs acc : List (Key × V)), ((acc ++ kvs).map (·.1)).Nodup → mergeK acc kvs = acc ++ kvs
  | [], acc, _ => by rw [List.append_nil]; rfl
  | kv :: kvs, acc, nd => by
    show mergeK (putK acc kv.1 kv.2) kvs = _
    have h : kv.1 ∉ acc.map (·.1) := fun m => by
      rw [List.map_append, List.nodup_append] at nd
      exact nd.2.2 kv.1 m kv.1 (by simp) rfl
    have e : putK acc kv.1 kv.2 = acc ++ [kv] := by
      unfold putK
      rw [if_neg fun z => h ((any_mem acc kv.1).mp z)]
    rw [e, merge_nodup kvs (acc ++ [kv]) (by simpa using nd)]
    simp
theorem rv_dictN (F : Fx R C X W) {σ : St} {H : Hp} {Q : VK} (h : RV C W (dictNF f) σ H Q) :
    tCB (fun xs H Q => ∃ (a : Addr) (ps : List Addr) (kvs : List (Key × V)), xs = [.ref a] ∧ SqL X.K H a (ps.map V.ref) ∧ Paired (fun p kv => SqT X.K H p [kV kv.1, kv.2]) ps kvs ∧
    ∀ p, H p = none → Q (.ref p) (upd H p (.dK (mergeK [] kvs)))) (tCons (RV C W f) tNil) σ H Q := by
  obtain ⟨ρ, P, E, h⟩ := h
  refine ⟨ρ, P, E, ?_⟩
  unfold dictNF at h
  cases ef : f ρ with
  | bad => rw [ef] at h; exact h
  | ex c => rw [ef] at h; exact h
  | ok x =>
    rw [ef] at h
    obtain ⟨fl, d⟩ := x
    intro v H1 ⟨s1, M, r1, q1⟩
    simp only [Res.ok_bind] at h
    unfold dictND at h
    cases d <;> first | exact h.elim | skip
    rename_i ds
    dsimp only at h
    cases ep : pairsN ds with
    | none => rw [ep] at h; exact h.elim
    | some kds =>
      rw [ep] at h
      dsimp only at h
      by_cases hc : fl = .fr ∧ (kds.map (·.1)).Nodup
      · rw [if_pos hc] at h
        obtain ⟨rfl, nd⟩ := hc
        obtain ⟨a, ws, M', rfl, ea, z, rl, rfl⟩ := r1
        obtain ⟨ps, kvs, rfl, h1, h2, h3⟩ := pairsN_rep X.K rl ep
        refine ⟨a, ps, kvs, rfl, .inl (.inl ea), h1, fun p hp => ?_⟩
        have em : mergeK [] kvs = kvs := merge_nodup kvs [] (by rw [List.nil_append, h2]; exact nd)
        rw [em]
        obtain ⟨f1, f2, f3⟩ := q1
        have s2 : Same H1 (upd H1 p (.dK kvs)) := fun b o e => by rw [upd_ne (ne_of_none e hp)]; exact e
        have pM : p ∉ M' := fun m => by
          obtain ⟨u, hu⟩ := h3.dom p m
          rw [hp] at hu; cases hu
        have hl : (kds.map (·.2)).length ≤ sizeLine := by
          have e1 := rl.length
          have e2 := Paired.length h1
          have e3 := congrArg List.length h2
          simp at e1 e2 e3 ⊢
          omega
        refine h _ _ ⟨s1.trans s2, p :: M', ⟨p, kvs, M', rfl, .inl upd_same, h2.symm, hl, h3.same s2, rfl⟩, List.nodup_cons.mpr ⟨pM, (List.nodup_cons.mp f1).2⟩, fun b m => ?_, fun b m => ?_⟩
        · rcases List.mem_cons.mp m with rfl | m
          · exact s1.free hp
          · exact f2 b (List.mem_cons_of_mem _ m)
        · rcases List.mem_cons.mp m with rfl | m
          · rw [upd_same]; trivial
          · exact mut_same s2 (f3 b (List.mem_cons_of_mem _ m))
      · rw [if_neg hc] at h; exact h.elim
theorem pd_dictN (F : Fx R C X W) (hg : Gl X "dict") (hm : X.mg "dict" = none) (ha : PE X a (RV C W f)) (he : starEach [a] X.env = (false, eval a X.env) :: starEach [] X.env := by rfl) (hpl : (backTo pos (starEach [] X.env)).any (·.1) = false := by rfl) :
    PE X (.Call (.Name "dict" p) [a] [] pos) (RV C W (dictNF f)) :=
  (pe_callTy (call_dictP F.calm) hg hm rfl (pa_cons ha pa_nil he) (by decide) (by decide) he hpl).imp fun _ _ _ => rv_dictN F
end
end DL
/-! DL28: d[k] = y, y a local list that is moved there. -/
namespace DL
open PySem L2
section
variable {R : Nat} {C : Ctx} {X : Cx} {W : WX} {P : List Pt} {a b e : Expr} {f g : Env → Res FD} {pos pos' p apos cpos ipos : Pos}
/-- the object of an own slot is changed; what comes new lies apart -/
theorem EnvOk.mutateG {G : Addr → Prop} {H0 H H' : Hp} {σ : St} {ρ : Env} {i : Nat} {o : Ow} {d d' : D} {v : V} {M M' : List Addr} (E : EnvOk C P H0 σ ρ) (s : Same H0 H) (ei : ρ[i]? = some (some (o, d))) (ow : o.own = true) (ev : σ[i]? = some (some v)) (r : Rep C H d v M)
    (r' : Rep C H' d' v M') (k : ∀ a u, a ∉ M → H a = some u → H' a = some u) (kd : ∀ a ∈ M, H' a ≠ none) (nd : M'.Nodup) (mu : ∀ a ∈ M', Mut (H' a)) (sub : ∀ a ∈ M', a ∈ M ∨ G a)
    (gap : ∀ a, G a → (∀ (l : Nat) (o' : Ow) (dl : D) (w : V) (N : List Addr), l ≠ i → ρ[l]? = some (some (o', dl)) → σ[l]? = some (some w) → Rep C H dl w N → a ∉ N) ∧ (∀ p ∈ P, ∀ N, PRep C H p N → a ∉ N) ∧ C.H0 a = none) : EnvOk C P H' σ (ρ.set i (some (o, d'))) := by
  have E1 := E.same s
  have hi : i < ρ.length := (List.getElem?_eq_some_iff.mp ei).1
  obtain ⟨w, M1, e1, r1, own1, lo1, io1⟩ := E1.at_ i o d ei
  rw [ev] at e1; cases e1
  rw [r1.uniq r] at own1 lo1 io1
  obtain ⟨q1, q2, q3, q4⟩ := own1 ow
  have ko : ∀ N : List Addr, (∀ a ∈ M, a ∉ N) → KeepOn N H H' := fun N dj => ⟨fun a u m e => k a u (fun z => dj a z m) e,
    fun a vs e => k a _ (fun z => by have := q2 a z; rw [e] at this; exact this) e, fun a ob vs e => k a _ (fun z => by have := q2 a z; rw [e] at this; exact this) e⟩
  have back : ∀ {d : D} {w : V} {N N0 : List Addr}, Rep C H d w N0 → (∀ a ∈ M, a ∉ N0) → Rep C H' d w N → N = N0 := fun h dj h' => h'.uniq (h.keep (ko _ dj))
  have fresh : ∀ {d : D} {w : V} {N : List Addr} {j : Nat} {oj : Ow}, ρ[j]? = some (some (oj, d)) → σ[j]? = some (some w) → Rep C H d w N → j ≠ i → ∀ a ∈ M', a ∉ N := fun {d w N j oj} ej sj rj hj a ma na => by
    rcases sub a ma with m | m
    · exact q3 j oj d w N hj ej sj rj a m na
    · exact (gap a m).1 j oj d w N hj ej sj rj na
  refine ⟨by simpa using E.len, fun j oj dj e => ?_, fun p hp => ?_, fun a u e n => ?_, fun a e => ?_⟩
  · rcases set_get e with ⟨rfl, e, _⟩ | ⟨hj, ej⟩
    · cases e
      refine ⟨v, M', ev, r', fun hw => ⟨nd, mu, fun l o' dl w N hl el sl rl => ?_, fun p hp N rp => ?_⟩, fun z a ma => ?_, fun z => ⟨fun a ma => ?_, (io1.1 z).2⟩, io1.2⟩
      · rw [List.getElem?_set_ne (Ne.symm hl)] at el
        obtain ⟨w', N0, e', r0, _⟩ := E1.at_ l o' dl el
        rw [sl] at e'; cases e'
        rw [back r0 (q3 l o' dl w N0 hl el sl r0) rl]
        exact fresh el sl r0 hl
      · obtain ⟨N0, r0⟩ := E1.prot p hp
        have dj := q4 p hp N0 r0
        have eN : N = N0 := by
          cases p with
          | inl p => exact back r0 dj rp
          | inr q => exact rp.2.trans r0.2.symm
        rw [eN]
        intro a ma na
        rcases sub a ma with m | m
        · exact dj a m na
        · exact (gap a m).2.1 p hp N0 r0 na
      · rcases sub a ma with m | m
        · exact lo1 z a m
        · exact (gap a m).2.2
      · rcases sub a ma with m | m
        · exact (io1.1 z).1 a m
        · exact .inr (gap a m).2.2
    · obtain ⟨w, N0, e1, r0, own0, lo0, io0⟩ := E1.at_ j oj dj ej
      have dj := q3 j oj dj w N0 hj ej e1 r0
      refine ⟨w, N0, e1, r0.keep (ko _ dj), fun hw => ?_, lo0, io0⟩
      obtain ⟨p1, p2, p3, p4⟩ := own0 hw
      refine ⟨p1, fun a ma => ?_, fun l o' dl w' N hl el sl rl => ?_, fun p hp N rp => ?_⟩
      · obtain ⟨u, hu⟩ := r0.dom a ma
        rw [k a u (fun z => dj a z ma) hu, ← hu]
        exact p2 a ma
      · rcases set_get el with ⟨rfl, el, _⟩ | ⟨hli, el⟩
        · cases el
          rw [ev] at sl; cases sl
          rw [rl.uniq r']
          exact fun a ma na => fresh ej e1 r0 hj a na ma
        · obtain ⟨w2, N2, e2, r2, _⟩ := E1.at_ l o' dl el
          rw [sl] at e2; cases e2
          rw [back r2 (q3 l o' dl w' N2 hli el sl r2) rl]
          exact p3 l o' dl w' N2 hl el sl r2
      · obtain ⟨N2, r2⟩ := E1.prot p hp
        have eN : N = N2 := by
          cases p with
          | inl p => exact back r2 (q4 _ hp N2 r2) rp
          | inr q => exact rp.2.trans r2.2.symm
        rw [eN]
        exact p4 p hp N2 r2
  · obtain ⟨N0, r0⟩ := E1.prot p hp
    have dj := q4 p hp N0 r0
    cases p with
    | inl p => exact ⟨N0, Rep.keep r0 (ko _ dj)⟩
    | inr q => exact ⟨N0, k _ _ (fun z => by have := q2 _ z; rw [r0.1] at this; exact this) r0.1, r0.2⟩
  · rcases E1.kept a u e n with q | q
    · refine .inl (k a u (fun z => ?_) q)
      cases o with
      | sh => cases ow
      | loc => have := lo1 rfl a z; rw [e] at this; cases this
      | lk => cases ow
      | io =>
        rcases (io1.1 rfl).1 a z with m | m
        · exact n m
        · rw [e] at m; cases m
    · exact .inr q
  · refine E1.keptd a ?_
    cases q : H a with
    | none => rfl
    | some u =>
      by_cases z : a ∈ M
      · exact absurd e (kd a z)
      · rw [k a u z q] at e; cases e

theorem notIn_no {κ : Type} [DecidableEq κ] {q : κ} {ks : List κ} (h : notIn q ks = true) : q ∉ ks := of_decide_eq_true h
def putME (i j : Nat) (fk : Env → Res FD) (ρ : Env) : Option Env := match ρ[i]?, ρ[j]?, fk ρ with
  | some (some (o, .dK ks ds)), some (some (.loc, dj)), .ok k => match keyOf k.2 with
    | some q => if o.own = true ∧ decide (i = j) = false ∧ notIn q ks = true ∧ ds.length < sizeLine then some ((ρ.set j none).set i (some (o, .dK (ks ++ [q]) (ds ++ [dj])))) else none
    | none => none
  | _, _, _ => none
/-- slot i[k] = slot j; j is moved -/
def xPutM (i j : Nat) (fk : Env → Res FD) : XS := fun ρ => match putME i j fk ρ with
  | some ρ' => .nx ρ'
  | none => .bad
theorem putME_ok {i j : Nat} {fk : Env → Res FD} {ρ ρ' : Env} (h : putME i j fk ρ = some ρ') : ∃ o ks ds dj k q, ρ[i]? = some (some (o, .dK ks ds)) ∧ ρ[j]? = some (some (.loc, dj)) ∧ fk ρ = .ok k ∧ keyOf k.2 = some q ∧ o.own = true ∧ i ≠ j ∧ q ∉ ks ∧ ds.length < sizeLine ∧
    ρ' = (ρ.set j none).set i (some (o, .dK (ks ++ [q]) (ds ++ [dj]))) := by
  unfold putME at h
  split at h
  · rename_i o ks ds dj k e1 e2 e3
    split at h
    · rename_i q eq
      split at h
      · rename_i hc
        cases h
        exact ⟨o, ks, ds, dj, k, q, e1, e2, e3, eq, hc.1, of_decide_eq_false hc.2.1, notIn_no hc.2.2.1, hc.2.2.2, rfl⟩
      · cases h
    · cases h
  · cases h
theorem rs_putM {i j : Nat} {D' : Ends} {σ : St} {H : Hp} (h : RS C W (tX (xPutM i j f)) D' σ H) : sDPut (tVar i) (RV C W f) (tVar j) D' σ H := by
  obtain ⟨ρ, P, DD, E, I, h⟩ := h
  unfold tX xPutM at h
  cases e0 : putME i j f ρ with
  | none => rw [e0] at h; exact h.elim
  | some ρ' =>
    rw [e0] at h
    obtain ⟨o, ks, ds, dj, k, q, ei, ej, ek, eq, ow, ne, nq, hz, rfl⟩ := putME_ok e0
    obtain ⟨vj, N, f1, rj, ownj, loj, _⟩ := E.at_ j _ _ ej
    obtain ⟨vd, M, e1, r, own, _⟩ := E.at_ i o _ ei
    refine ⟨vj, f1, vd, e1, ρ, P, E, ?_⟩
    rw [ek]
    intro vk H1 ⟨s1, L1, rk, _⟩
    obtain ⟨ad, kvs, M', rfl, ed, rfl, z, rl, rfl⟩ := id r
    obtain ⟨q1, q2, q3, q4⟩ := own ow
    obtain ⟨p1, p2, p3, p4⟩ := ownj rfl
    have ed1 := mut_rd (q2 ad List.mem_cons_self) ed
    obtain ⟨a1, a2⟩ := List.nodup_cons.mp q1
    have dis : ∀ a ∈ ad :: M', a ∉ N := q3 j _ _ vj N (Ne.symm ne) ej f1 rj
    have eL := s1 _ _ ed1
    have hk : putK kvs q vj = kvs ++ [(q, vj)] := by
      unfold putK
      rw [if_neg fun zz => nq ((any_mem kvs q).mp zz)]
    refine ⟨ad, upd H1 ad (.dK (kvs ++ [(q, vj)])), rfl, .inl ⟨kvs, q, eL, key_rep rk eq, by have := rl.length; rw [List.length_map] at this; omega, by rw [hk]⟩, I.nx _ _ _ ?_ h⟩
    have E2 : EnvOk C P H σ (ρ.set j none) := E.weak (by rw [List.length_set]; exact E.len) fun l o' d' el => by
      rcases set_get el with ⟨_, e, _⟩ | ⟨hl, el⟩
      · cases e
      · exact ⟨o', el, .inl rfl, rfl⟩
    have adN : ad ∉ N := dis ad List.mem_cons_self
    have rr := r.same s1
    refine E2.mutateG (G := fun a => a ∈ N) s1 (by rw [List.getElem?_set_ne (Ne.symm ne)]; exact ei) ow e1 rr (M' := ad :: (M' ++ N)) ⟨ad, kvs ++ [(q, vj)], M' ++ N, rfl, .inl upd_same, by simp, by rw [List.length_append, List.length_singleton]; exact hz, ?_, rfl⟩ (fun a u na e => (upd_ne fun zz => na (by rw [zz]; exact List.mem_cons_self)).trans e) (fun a m => ?_) (List.nodup_cons.mpr ⟨fun m => (List.mem_append.mp m).elim a1 adN, List.nodup_append.mpr ⟨a2, p1, fun a ma b mb e => dis a (List.mem_cons_of_mem _ ma) (by rw [e]; exact mb)⟩⟩) (fun a m => ?_) (fun a m => ?_) fun a ma => ⟨fun l o' dl w N' hl el sl rl' na => ?_, fun p hp N' rp na => ?_, loj rfl a ma⟩
    · rw [List.map_append]
      have ra : RepL C H1 (ds ++ [dj]) (kvs.map (·.2) ++ [vj]) (M' ++ N) := (rl.same s1).append (RepL.one (rj.same s1))
      exact ra.keep (upd_keep eL (fun _ zz => by cases zz) (fun _ _ zz => by cases zz) fun m => (List.mem_append.mp m).elim a1 adN)
    · by_cases c : a = ad
      · rw [c, upd_same]; exact fun zz => by cases zz
      · rw [upd_ne c]
        obtain ⟨u, hu⟩ := rr.dom a m
        rw [hu]; exact fun zz => by cases zz
    · rcases List.mem_cons.mp m with rfl | m
      · rw [upd_same]; trivial
      · have m2 := List.mem_append.mp m
        rw [upd_ne fun zz => by subst zz; exact m2.elim a1 adN]
        rcases m2 with m | m
        · exact mut_same s1 (q2 a (List.mem_cons_of_mem _ m))
        · exact mut_same s1 (p2 a m)
    · rcases List.mem_cons.mp m with rfl | m
      · exact .inl List.mem_cons_self
      · exact (List.mem_append.mp m).imp (List.mem_cons_of_mem _) id
    · rcases set_get el with ⟨_, e, _⟩ | ⟨hj, el⟩
      · cases e
      · obtain ⟨w', N0, e', r0, _⟩ := E.at_ l o' dl el
        rw [sl] at e'; cases e'
        exact p3 l o' dl w N' hj el sl (r0.back s1 rl') a ma na
    · obtain ⟨N0, r0⟩ := E.prot p hp
      exact p4 p hp N' (r0.back s1 rp) a ma na
theorem xs_putM (i j : Nat) {x y : Str} (F : Fx R C X W) (hk : PE X a (RV C W f)) (hN : X.N[i]? = some x := by rfl) (hvi : Vis X.env.scope x := by first | exact Or.inl rfl | exact Or.inr (Or.inl rfl) | exact Or.inr (Or.inr rfl)) (hd : (x == ("__debug__" : Str)) = false := by decide)
    (hcd : (x == ("__classdict__" : Str)) = false := by decide) (hNj : X.N[j]? = some y := by rfl) (hvj : Vis X.env.scope y := by first | exact Or.inl rfl | exact Or.inr (Or.inl rfl) | exact Or.inr (Or.inr rfl)) (hdj : (y == ("__debug__" : Str)) = false := by decide)
    (hcdj : (y == ("__classdict__" : Str)) = false := by decide) (hs : swapsWith (.Name y apos) (some (.Subscript (.Name x p) a pos')) pos.line X.env = pure false := by rfl) :
    PS X (.Assign [.Subscript (.Name x p) a pos'] (.Name y apos) pos) (RS C W (tX (xPutM i j f))) := (ps_dput (by have := F.hu; omega) (pv i hN hvi hd hcd) hk (pv j hNj hvj hdj hcdj) hs).imp fun _ _ _ => rs_putM
end
end DL
/-! DL29: d.update(d2), both of plain values. -/
namespace DL
open PySem L2
def rUpd : V → List V → Hp → VK → Prop := fun x xs H Q => ∃ (a b : Addr) (kvs more : List (Key × V)), x = .ref a ∧ xs = [.ref b] ∧ a ≠ b ∧ H a = some (.dK kvs) ∧ Rd H b (.dK more) ∧ kvs.length + more.length ≤ sizeLine ∧ Q .non (upd H a (.dK (mergeK kvs more)))
theorem mt_upd {X : Cx} : MtM X "dict.update" rUpd := by
  intro pins s σ H x xs v us Q I rx rxs h
  obtain ⟨a, b, kvs, more, rfl, rfl, ne, ha, hb, hz, q⟩ := h
  cases rx
  obtain ⟨u, rfl, ru⟩ := rxs.one
  cases ru
  obtain ⟨z, hd, xs', rel, dd⟩ := dk_of I.hok ha
  obtain ⟨z2, hd2, ys', rel2, dd2⟩ := dk_rd I.hok hb
  refine call_meetsIn PySem.F.slot_dict_update dd.typeIs PySem.F.entry_dict_update (PySem.F.args_dict_update_2 _ _) (meets_dict_update (mixKind X.prog X.w) a b ne hd2) ⟨xs', ys', dd, dd2, (by rw [← rel.length, ← rel2.length]; exact hz), fun h' d1 d2 hs => ?_⟩
  have hl : (mergeK kvs more).length ≤ sizeLine := Nat.le_trans (length_mergeK more kvs) hz
  exact (⟨.non, _, d_write (t' := s.toks) I (by rw [ha]; exact True.intro) hs (let ⟨q, _, _, hq, _⟩ := d1; ⟨q, hq⟩) (dk_new hl hd (KV.merge rel2 rel) d1), rfl, q⟩ : EP X pins σ Q .none _)
section
variable {R : Nat} {C : Ctx} {X : Cx} {W : WX} {P : List Pt} {a b e : Expr} {f g : Env → Res FD} {pos pos' p apos cpos ipos : Pos}
def updKE (i : Nat) (f : Env → Res FD) (ρ : Env) : Option Env := match ρ[i]?, f ρ with
  | some (some (o, .dK ks ds)), .ok (.fr, .dK ks' ds') => if o.own = true ∧ immL ds = true ∧ immL ds' = true ∧ ds.length + ds'.length ≤ sizeLine then
      some (ρ.set i (some (o, .dK ((ks'.zip ds').foldl (fun acc kv => putD acc.1 acc.2 kv.1 kv.2) (ks, ds)).1 ((ks'.zip ds').foldl (fun acc kv => putD acc.1 acc.2 kv.1 kv.2) (ks, ds)).2))) else none
  | _, _ => none
/-- slot.update(e) -/
def xUpd (i : Nat) (f : Env → Res FD) : XS := fun ρ => match updKE i f ρ with
  | some ρ' => .nx ρ'
  | none => .bad
theorem updKE_ok {i : Nat} {f : Env → Res FD} {ρ ρ' : Env} (h : updKE i f ρ = some ρ') : ∃ o ks ds ks' ds', ρ[i]? = some (some (o, .dK ks ds)) ∧ f ρ = .ok (.fr, .dK ks' ds') ∧ o.own = true ∧ immL ds = true ∧ immL ds' = true ∧ ds.length + ds'.length ≤ sizeLine ∧
    ρ' = ρ.set i (some (o, .dK ((ks'.zip ds').foldl (fun acc kv => putD acc.1 acc.2 kv.1 kv.2) (ks, ds)).1 ((ks'.zip ds').foldl (fun acc kv => putD acc.1 acc.2 kv.1 kv.2) (ks, ds)).2)) := by
  unfold updKE at h
  split at h
  · rename_i o ks ds ks' ds' e1 e2
    split at h
    · rename_i hc
      cases h
      exact ⟨o, ks, ds, ks', ds', e1, e2, hc.1, hc.2.1, hc.2.2.1, hc.2.2.2, rfl⟩
    · cases h
  · cases h
theorem rs_upd {i : Nat} {D' : Ends} {σ : St} {H : Hp} (h : RS C W (tX (xUpd i f)) D' σ H) : tDrop (tBM X.K "dict" rUpd (tVar i) (tCons (RV C W f) tNil)) D' σ H := by
  obtain ⟨ρ, P, DD, E, I, h⟩ := h
  unfold tX xUpd at h
  cases e0 : updKE i f ρ with
  | none => rw [e0] at h; exact h.elim
  | some ρ' =>
    rw [e0] at h
    obtain ⟨o, ks, ds, ks', ds', ei, ef, ow, im1, im2, hz, rfl⟩ := updKE_ok e0
    obtain ⟨vd, M, e1, r, own, _⟩ := E.at_ i o _ ei
    obtain ⟨ad, kvs, M', rfl, ed, rfl, z, rl, rfl⟩ := id r
    obtain ⟨q1, q2, q3, q4⟩ := own ow
    have ed1 := mut_rd (q2 ad List.mem_cons_self) ed
    obtain rfl := rl.imm im1
    refine ⟨.ref ad, e1, .inr (.inr (.inl ⟨rfl, .inl ⟨kvs, ed1⟩⟩)), ρ, P, E, ?_⟩
    rw [ef]
    intro v H1 ⟨s1, N, rv, qv⟩
    obtain ⟨b, more, N', rfl, eb, rfl, z2, rb, rfl⟩ := rv
    obtain rfl := rb.imm im2
    have ne : ad ≠ b := fun zz => by
      have := qv.2.1 b List.mem_cons_self
      rw [← zz, ed1] at this; cases this
    have l1 : (kvs.map (·.2)).length = kvs.length := List.length_map ..
    have l2 := rl.length
    have l3 := rb.length
    rw [List.length_map] at l2 l3
    have hzz : ((more.map (·.1)).zip ds').map (·.1) = more.map (·.1) := List.map_fst_zip (by rw [List.length_map]; omega)
    have hzy : ((more.map (·.1)).zip ds').map (·.2) = ds' := List.map_snd_zip (by rw [List.length_map]; omega)
    obtain ⟨m1, m2⟩ := merge_rep ((more.map (·.1)).zip ds') more kvs ds hzz.symm (by rw [hzy]; exact rb) (rl.same s1)
    have eL := s1 _ _ ed1
    refine ⟨ad, b, kvs, more, rfl, rfl, ne, eL, eb, by omega, I.nx _ _ _ ?_ h⟩
    have rr := r.same s1
    have hl : (mergeK kvs more).length ≤ sizeLine := Nat.le_trans (length_mergeK more kvs) (by omega)
    have m3 := m2.length
    rw [List.length_map] at m3
    refine E.mutate s1 ei ow e1 rr (M' := [ad]) ⟨ad, mergeK kvs more, [], rfl, .inl upd_same, m1, by rw [m3]; exact hl, m2.keep (upd_keep eL (fun _ zz => by cases zz) (fun _ _ zz => by cases zz) fun m => nomatch m), rfl⟩ (fun a u na e => (upd_ne fun zz => na (by rw [zz]; exact List.mem_cons_self)).trans e) (fun a m => ?_) q1 (fun a m => ?_) fun a m => .inl m
    · rw [List.mem_singleton.mp m, upd_same]; exact fun zz => by cases zz
    · rw [List.mem_singleton.mp m, upd_same]; trivial
theorem xs_upd (i : Nat) {x : Str} (F : Fx R C X W) (he : PE X e (RV C W f)) (hN : X.N[i]? = some x := by rfl) (hv : Vis X.env.scope x := by first | exact Or.inl rfl | exact Or.inr (Or.inl rfl) | exact Or.inr (Or.inr rfl)) (hd : (x == ("__debug__" : Str)) = false := by decide)
    (hcd : (x == ("__classdict__" : Str)) = false := by decide) (hbase : attributeBase (.Name x p) "update" X.env (eval (.Name x p) X.env) = eval (.Name x p) X.env := by rfl)
    (hfew : ((backTo cpos (starEach [e] X.env)).all (fun x => !x.1) && (backToKw cpos (keywordEach [] X.env)).all (fun x => x.1.isSome)
      && decide ([e].length + ([] : List Keyword).length + (if ([] : List Keyword).isEmpty then 0 else 1) < 30)) = true := by rfl)
    (hline : (apos.endLine == cpos.line) = true := by rfl) (hs : starEach [e] X.env = (false, eval e X.env) :: starEach [] X.env := by rfl) (hplain : (backTo cpos (starEach [] X.env)).any (·.1) = false := by rfl) (hsw : swapsWith (.Call (.Attribute (.Name x p) "update" apos) [e] [] cpos) none pos.line X.env = pure false := by rfl) :
    PS X (.Expr (.Call (.Attribute (.Name x p) "update" apos) [e] [] cpos) pos) (RS C W (tX (xUpd i f))) :=
  (ps_expr (pe_bm PySem.F.plainAttrs_dict PySem.F.slot_dict_update PySem.F.type_dict_update mt_upd (pv i hN hv hd hcd) (pa_cons he pa_nil hs) hbase hfew hline hs hplain) hsw).imp fun _ _ _ => rs_upd
end
end DL
/-! DL30: sorted(set(pairs of small numbers)). -/
namespace DL
open PySem L2
theorem leD_pair (a b c d : Int) : leD (.tup [.int a, .int b]) (.tup [.int c, .int d]) = decide (a < c ∨ (a = c ∧ b ≤ d)) := by
  show (!PySem.W.dataLt (toP (.tup [.int c, .int d])) (toP (.tup [.int a, .int b]))) = _
  simp only [toP, toPL, PySem.W.dataLt_tuple, PySem.W.keyToksAll, PySem.W.keyToks, List.cons_append, List.nil_append]
  show (!((decide ((1 : Int) < 1) || (!decide ((1 : Int) < 1) && (decide (c < a) || (!decide (a < c) && (decide ((1 : Int) < 1) || (!decide ((1 : Int) < 1) && (decide (d < b) || (!decide (b < d) && (decide ((0 : Int) < 0) || (!decide ((0 : Int) < 0) && false)))))))))))) = _
  rw [Bool.eq_iff_iff]
  simp
  omega
def pD (p : Int × Int) : D := .tup [.int p.1, .int p.2]
def pairOf : D → Option (Int × Int)
  | .tup [.int i, .int j] => if 0 ≤ i ∧ i < 64 ∧ 0 ≤ j ∧ j < 64 then some (i, j) else none
  | _ => none
def pairsOf : List D → Option (List (Int × Int))
  | [] => some []
  | d :: ds => match pairOf d, pairsOf ds with
    | some p, some ps => some (p :: ps)
    | _, _ => none
def dedP : List (Int × Int) → List (Int × Int)
  | [] => []
  | x :: xs => if x ∈ xs then dedP xs else x :: dedP xs
theorem dedP_mem {x : Int × Int} : ∀ {xs : List (Int × Int)}, x ∈ dedP xs ↔ x ∈ xs
  | [] => Iff.rfl
  | y :: xs => by
    unfold dedP
    by_cases h : y ∈ xs
    · rw [if_pos h, dedP_mem, List.mem_cons]
      exact ⟨.inr, fun z => z.elim (fun z => z ▸ h) id⟩
    · rw [if_neg h, List.mem_cons, List.mem_cons, dedP_mem]
theorem dedP_nd : ∀ xs : List (Int × Int), (dedP xs).Nodup
  | [] => List.nodup_nil
  | y :: xs => by
    unfold dedP
    by_cases h : y ∈ xs
    · rw [if_pos h]; exact dedP_nd xs
    · rw [if_neg h]; exact List.nodup_cons.mpr ⟨fun z => h (dedP_mem.mp z), dedP_nd xs⟩
def setPairD (x : FD) : Res FD := match x.2 with
  | .lst ds => match pairsOf ds with
    | some ps => if ps.length < 64 then .ok (.fr, .lst (sortD ((dedP ps).map pD))) else .bad
    | none => .bad
  | _ => .bad
def sortPairF (f : Env → Res FD) : Env → Res FD := fun ρ => (f ρ).bind setPairD
theorem pairOf_ok {d : D} {p : Int × Int} (h : pairOf d = some p) : d = pD p ∧ 0 ≤ p.1 ∧ p.1 < 64 ∧ 0 ≤ p.2 ∧ p.2 < 64 := by
  unfold pairOf at h
  split at h
  · split at h
    · rename_i hc
      cases h
      exact ⟨rfl, hc⟩
    · cases h
  · cases h
def l2 (p : Int × Int) : List Int := [p.1, p.2]
theorem l2_inj {p q : Int × Int} (h : l2 p = l2 q) : p = q := by
  obtain ⟨a, b⟩ := p
  obtain ⟨c, d⟩ := q
  unfold l2 at h
  simp at h
  rw [h.1, h.2]
theorem pairs_repP {C : Ctx} {H : Hp} : ∀ {ds : List D} {vs : List V} {M : List Addr} {ps : List (Int × Int)}, RepL C H ds vs M → pairsOf ds = some ps →
    ∃ ks : List (Addr × List Int), vs = ks.map (fun p => V.ref p.1) ∧ ks.map (·.2) = ps.map l2 ∧ (∀ p ∈ ks, H p.1 = some (.tup (p.2.map V.int))) ∧ ∀ p ∈ ps, 0 ≤ p.1 ∧ p.1 < 64 ∧ 0 ≤ p.2 ∧ p.2 < 64
  | [], vs, M, ps, r, e => by
    cases e
    obtain ⟨rfl, rfl⟩ := r
    exact ⟨[], rfl, rfl, (fun _ m => nomatch m), (fun _ m => nomatch m)⟩
  | d :: ds, vs, M, ps, r, e => by
    obtain ⟨v, w, M1, M2, rfl, r1, r2, rfl⟩ := r
    unfold pairsOf at e
    split at e
    · rename_i p qs ep eq
      cases e
      obtain ⟨rfl, hb⟩ := pairOf_ok ep
      obtain ⟨ks, rfl, h2, h3, h4⟩ := pairs_repP r2 eq
      obtain ⟨a, us, rfl, ea, _, ru⟩ := r1
      obtain ⟨x, y, N, N', rfl, rx, ry⟩ := rep2 ru
      obtain ⟨rfl, _⟩ := rx
      obtain ⟨rfl, _⟩ := ry
      refine ⟨(a, l2 p) :: ks, rfl, by rw [List.map_cons, List.map_cons, h2], fun q m => ?_, fun q m => ?_⟩
      · rcases List.mem_cons.mp m with rfl | m
        · exact ea
        · exact h3 q m
      · rcases List.mem_cons.mp m with rfl | m
        · exact hb
        · exact h4 q m
    · cases e
theorem rep_pairs {C : Ctx} {H : Hp} : ∀ {ks : List (Addr × List Int)} {ps : List (Int × Int)}, ks.map (·.2) = ps.map l2 → (∀ p ∈ ks, H p.1 = some (.tup (p.2.map V.int))) → RepL C H (ps.map pD) (ks.map fun p => V.ref p.1) []
  | [], [], _, _ => ⟨rfl, rfl⟩
  | [], p :: ps, e, _ => by cases e
  | k :: ks, [], e, _ => by cases e
  | k :: ks, p :: ps, e, h => by
    simp only [List.map_cons, List.cons.injEq] at e
    refine ⟨.ref k.1, _, [], [], rfl, ⟨k.1, [.int p.1, .int p.2], rfl, ?_, by rw [sizeLine_eq]; show 2 ≤ 16777216; omega, ⟨.int p.1, _, [], [], rfl, ⟨rfl, rfl⟩, ⟨.int p.2, _, [], [], rfl, ⟨rfl, rfl⟩, ⟨rfl, rfl⟩, rfl⟩, rfl⟩⟩, rep_pairs e.2 fun q m => h q (List.mem_cons_of_mem _ m), rfl⟩
    have := h k List.mem_cons_self
    rw [e.1] at this
    exact this
section
variable {R : Nat} {C : Ctx} {X : Cx} {W : WX} {P : List Pt} {a b e : Expr} {f g : Env → Res FD} {pos pos' p apos cpos ipos p2 q : Pos}
theorem rv_sortPair {σ : St} {H : Hp} {Q : VK} (h : RV C W (sortPairF f) σ H Q) : tCB (rSortedT X.K X.prog X.w) (tCons (tCB (rSetOfT X.K X.prog X.w) (tCons (RV C W f) tNil)) tNil) σ H Q := by
  obtain ⟨ρ, P, E, h⟩ := h
  refine ⟨ρ, P, E, ?_⟩
  unfold sortPairF at h
  cases ef : f ρ with
  | bad => rw [ef] at h; exact h
  | ex c => rw [ef] at h; exact h
  | ok x =>
    rw [ef] at h
    obtain ⟨fl, d⟩ := x
    intro v H1 ⟨s1, M, r1, q1⟩
    simp only [Res.ok_bind] at h
    unfold setPairD at h
    cases d <;> first | exact h.elim | skip
    rename_i ds
    dsimp only at h
    cases ep : pairsOf ds with
    | none => rw [ep] at h; exact h.elim
    | some ps =>
      rw [ep] at h
      dsimp only at h
      by_cases hc : ps.length < 64
      · rw [if_pos hc] at h
        obtain ⟨l, ws, M', rfl, ea, z, rl, rfl⟩ := r1
        obtain ⟨ks, rfl, h2, h3, h4⟩ := pairs_repP rl ep
        have hlen : ks.length = ps.length := by have := congrArg List.length h2; simpa using this
        refine ⟨l, ks, rfl, .inl (.inl ea), fun p m => .inl (.inl (h3 p m)), by omega, fun a L ha hL1 hL2 => ?_⟩
        have s2 : Same H1 (upd H1 a (SetTO X.prog X.w a L)) := fun b o e => by rw [upd_ne (ne_of_none e ha)]; exact e
        have two : ∀ p ∈ L, ∃ q ∈ ps, p.2 = l2 q := fun p m => by
          have : p.2 ∈ ks.map (·.2) := List.mem_map_of_mem (hL1 p m)
          rw [h2] at this
          obtain ⟨q, mq, e⟩ := List.mem_map.mp this
          exact ⟨q, mq, e.symm⟩
        refine ⟨a, L, 2, 64, rfl, upd_same, fun p m => .inl (.inl (s2 _ _ (h3 p (hL1 p m)))), by decide, fun p m => ?_, fun L' p pm nd few pw hp => ?_⟩
        · obtain ⟨q, mq, e⟩ := two p m
          obtain ⟨b1, b2, b3, b4⟩ := h4 q mq
          rw [e]
          refine ⟨rfl, fun x mx => ?_⟩
          unfold l2 at mx
          simp at mx
          rcases mx with rfl | rfl
          · exact ⟨b1, b2⟩
          · exact ⟨b3, b4⟩
        · have s3 : Same (upd H1 a (SetTO X.prog X.w a L)) (upd (upd H1 a (SetTO X.prog X.w a L)) p (.lst (L'.map fun q => V.ref q.1))) := fun b o e => by rw [upd_ne (ne_of_none e hp)]; exact e
          -- the pairs behind L'
          obtain ⟨qs, eq⟩ : ∃ qs : List (Int × Int), L'.map (·.2) = qs.map l2 := by
            have gen : ∀ K : List (Addr × List Int), (∀ p ∈ K, ∃ q ∈ ps, p.2 = l2 q) → ∃ qs : List (Int × Int), K.map (·.2) = qs.map l2 := fun K => by
              induction K with
              | nil => intro _; exact ⟨[], rfl⟩
              | cons k K ih =>
                intro hk
                obtain ⟨q, _, e⟩ := hk k List.mem_cons_self
                obtain ⟨qs, e2⟩ := ih fun p m => hk p (List.mem_cons_of_mem _ m)
                exact ⟨q :: qs, by rw [List.map_cons, List.map_cons, e, e2]⟩
            exact gen L' fun p m => two p (pm.mem_iff.mp m)
          have mem : ∀ x, x ∈ qs ↔ x ∈ ps := fun x => by
            constructor
            · intro m
              have : l2 x ∈ L'.map (·.2) := by rw [eq]; exact List.mem_map_of_mem m
              obtain ⟨k, mk, e⟩ := List.mem_map.mp this
              obtain ⟨q, mq, e2⟩ := two k (pm.mem_iff.mp mk)
              rw [e] at e2
              rw [l2_inj e2]; exact mq
            · intro m
              have : l2 x ∈ ks.map (·.2) := by rw [h2]; exact List.mem_map_of_mem m
              obtain ⟨k, mk, e⟩ := List.mem_map.mp this
              have := hL2 k mk
              rw [e] at this
              obtain ⟨k2, mk2, e2⟩ := List.mem_map.mp this
              have : k2.2 ∈ L'.map (·.2) := List.mem_map_of_mem (pm.mem_iff.mpr mk2)
              rw [e2, eq] at this
              obtain ⟨y, my, e3⟩ := List.mem_map.mp this
              rw [← l2_inj e3]; exact my
          have ndq : qs.Nodup := by rw [eq] at nd; exact List.Pairwise.of_map l2 (fun _ _ ne e => ne (congrArg l2 e)) nd
          have pq : qs.Perm (dedP ps) := (List.perm_ext_iff_of_nodup ndq (dedP_nd ps)).mpr fun x => by rw [mem x, dedP_mem]
          have up : (qs.map pD).Pairwise fun a b => leD a b = true := by
            have pw2 : (L'.map (·.2)).Pairwise fun a b => TS.code 64 a ≤ TS.code 64 b := List.pairwise_map.mpr pw
            rw [eq, List.pairwise_map] at pw2
            rw [List.pairwise_map]
            refine pw2.imp_of_mem fun {a b} ma mb hle => ?_
            obtain ⟨b1, b2, b3, b4⟩ := h4 a ((mem a).mp ma)
            obtain ⟨c1, c2, c3, c4⟩ := h4 b ((mem b).mp mb)
            unfold l2 at hle
            rw [code_pair, code_pair] at hle
            unfold pD
            rw [leD_pair, decide_eq_true_eq]
            omega
          have es : qs.map pD = sortD ((dedP ps).map pD) := sortD_uniq (fun a b ha hb x y => by
            obtain ⟨a, _, rfl⟩ := List.mem_map.mp ha
            obtain ⟨b, _, rfl⟩ := List.mem_map.mp hb
            unfold pD at x y ⊢
            rw [leD_pair, decide_eq_true_eq] at x y
            have e1 : a.1 = b.1 := by omega
            have e2 : a.2 = b.2 := by omega
            rw [e1, e2]) (pq.map pD) up
          have hq : H1 p = none := by
            have := s2.free hp
            exact this
          refine h _ _ ⟨s1.trans (s2.trans s3), [p], ⟨p, L'.map fun q => V.ref q.1, [], rfl, upd_same, ?_, ?_, rfl⟩, by simp, fun b m => ?_, fun b m => ?_⟩
          · rw [← es, List.length_map]
            have := congrArg List.length eq
            simp at this
            rw [sizeLine_eq]; omega
          · rw [← es]
            exact (rep_pairs eq fun k m => s2 _ _ (h3 k (hL1 k (pm.mem_iff.mp m)))).same s3
          · rw [List.mem_singleton.mp m]; exact s1.free hq
          · rw [List.mem_singleton.mp m, upd_same]; trivial
      · rw [if_neg hc] at h; exact h.elim
theorem pd_sortPair (F : Fx R C X W) (hg : Gl X "sorted") (hm : X.mg "sorted" = none) (hg2 : Gl X "set") (hm2 : X.mg "set" = none) (ha : PE X a (RV C W f)) (na : starEach [a] X.env = (false, eval a X.env) :: starEach [] X.env := by rfl)
    (nb : starEach [.Call (.Name "set" p2) [a] [] q] X.env = (false, eval (.Call (.Name "set" p2) [a] [] q) X.env) :: starEach [] X.env := by rfl) (hpl : (backTo pos (starEach [] X.env)).any (·.1) = false := by rfl) (hpl2 : (backTo q (starEach [] X.env)).any (·.1) = false := by rfl) :
    PE X (.Call (.Name "sorted" p) [.Call (.Name "set" p2) [a] [] q] [] pos) (RV C W (sortPairF f)) :=
  (pe_callB (cr_sortedT F.calm) hg hm rfl (pa_cons (pe_callTy (cr_setOfT F.calm (by have := F.hu; omega)) hg2 hm2 rfl (pa_cons ha pa_nil na) (by decide) (by decide) na hpl2) pa_nil nb) (by decide) (by decide) nb hpl).imp fun _ _ _ => rv_sortPair
end
end DL
/-! DL31: sorted(dict whose keys are tuples). -/
namespace DL
open PySem PyProof.Rows L2
def tkD (k : List Key) : D := .tup (k.map kD)
theorem key_reads {h : Heap} : ∀ {ks : List Key} {us : List Value}, Vals (ks.map kV) us → ReadsAll h us (toPL (ks.map kD)) []
  | [], _, .nil => by rw [List.map_nil, toPL]; exact .nil
  | k :: ks, _, .cons r t => by
    rw [List.map_cons, toPL]
    have r2 := key_reads (h := h) t
    rcases k with i | x
    · obtain ⟨t, rfl⟩ := (show ∃ t, _ = Value.int i t from r)
      exact .cons (as := []) (bs := []) (by show Reads h _ (toP (.int i)) []; rw [toP]; exact .int _ _) r2
    · obtain ⟨t, rfl⟩ := (show ∃ t, _ = Value.str x t from r)
      exact .cons (as := []) (bs := []) (by show Reads h _ (toP (.str x)) []; rw [toP]; exact .str _ _) r2
def rSortDT : List V → Hp → VK → Prop := fun xs H Q => ∃ (a : Addr) (kvs : List (List Key × V)), xs = [.ref a] ∧ Rd H a (.dT kvs) ∧ sortOk ((kvs.map (·.1)).map tkD) = true ∧
  ∀ (qs : List (Addr × List Key)) (p : Addr), qs.map (fun q => tkD q.2) = sortD ((kvs.map (·.1)).map tkD) → (∀ q ∈ qs, H q.1 = some (.tup (q.2.map kV))) → qs.length ≤ sizeLine → H p = none → Q (.ref p) (upd H p (.lst (qs.map fun q => V.ref q.1)))
theorem kt_rows {H : Hp} : ∀ {kvs : List (List Key × V)} {xs : List (List Key × Addr × Value)}, KT H kvs xs → kvs.map (·.1) = xs.map (·.1) ∧ ∀ x ∈ xs, H x.2.1 = some (.tup (x.1.map kV))
  | _, _, .nil => ⟨rfl, fun _ m => nomatch m⟩
  | _, _, .cons h t => by
    obtain ⟨a, b⟩ := kt_rows t
    refine ⟨by rw [List.map_cons, List.map_cons, a, h.1], fun x m => ?_⟩
    rcases List.mem_cons.mp m with rfl | m
    · rw [← h.1]; exact h.2.1
    · exact b x m
theorem each_refs : ∀ (qs : List (Addr × List Key)), PySem.W.EachIs (fun u (q : Addr × List Key) => u = Value.ref q.1) (qs.map fun q => Value.ref q.1) qs
  | [] => .nil
  | q :: qs => .cons rfl (each_refs qs)
theorem each_of {R : Value → (Addr × List Key) → Prop} : ∀ (qs : List (Addr × List Key)), (∀ q ∈ qs, R (.ref q.1) q) → PySem.W.EachIs R (qs.map fun q => Value.ref q.1) qs
  | [], _ => .nil
  | q :: qs, h => .cons (h q List.mem_cons_self) (each_of qs fun x m => h x (List.mem_cons_of_mem _ m))
theorem each_eq : ∀ {us : List Value} {qs : List (Addr × List Key)}, PySem.W.EachIs (fun u (q : Addr × List Key) => u = Value.ref q.1) us qs → us = qs.map fun q => Value.ref q.1
  | _, _, .nil => rfl
  | _, _, .cons h t => by rw [h, each_eq t]; rfl
section
variable {R : Nat} {C : Ctx} {X : Cx} {W : WX} {P : List Pt} {a b e : Expr} {f g : Env → Res FD} {pos pos' p apos cpos ipos p2 q : Pos}
theorem call_sortDT (F : Fx R C X W) : CallR X (.builtin "sorted") rSortDT := by
  intro pins s σ H xs us Q I r h
  obtain ⟨a, kvs, rfl, hd, ok, q⟩ := h
  obtain ⟨u, rfl, ru⟩ := vals1 r
  cases ru
  obtain ⟨z, lo, xs', rel, dd⟩ := dt_rd I.hok hd
  obtain ⟨o, es, ep, ho, hex, hdat, hes, hks, hnd⟩ := dd
  obtain ⟨kr1, kr2⟩ := kt_rows rel
  have raw : s.heap.DictRaw a es ep := ⟨o, ho, hex, hdat⟩
  have hlen : es.size = xs'.length := size_of_entries hes
  have hl2 : xs'.length = kvs.length := by have := congrArg List.length kr1; simpa using this.symm
  have h16 : es.size ≤ sizeLine := by rw [hlen, hl2]; exact z
  refine Calls.call_function_entry kind_sorted plain_sorted entry_sorted (args_sorted1 _) ?_
  unfold Builtin.«sorted»
  refine wpAny_bind (m := checkCount "sorted" 1 1 _) (wpAny_pure ?_)
  refine wpAny_bind (PySem.W.kdu_collect (A := X.A.in1) (PySem.KdlSrc.rawDict lo) (I.ok.hd F.calm) raw h16 fun h' tk acc hk hacc => ?_)
  have hqs : acc.toList = (xs'.map fun x => (x.2.1, x.1)).map fun q => Value.ref q.1 := by
    rw [List.map_map]
    apply List.ext_getElem?
    intro j
    cases ej : acc[j]? with
    | none =>
      have : acc.size ≤ j := by simpa using ej
      rw [Array.getElem?_toList, ej, List.getElem?_eq_none (by rw [List.length_map, ← hlen, ← hacc.1]; exact this)]
    | some v =>
      obtain ⟨hj, ev⟩ := hacc.2 j v ej
      have hj2 : j < xs'.length := by omega
      have e1 : es.toList[j]? = some es[j] := by rw [Array.getElem?_toList]; exact Array.getElem?_eq_getElem hj
      rw [hes, List.getElem?_map, List.getElem?_eq_getElem hj2] at e1
      have e2 : entryOfKey _ xs'[j] = es[j] := Option.some.inj e1
      rw [Array.getElem?_toList, ej, List.getElem?_map, List.getElem?_eq_getElem hj2, ev, ← e2]
      rfl
  rw [hqs]
  generalize hq0 : (xs'.map fun x => (x.2.1, x.1)) = qs0
  have q01 : qs0.map (fun q => tkD q.2) = (kvs.map (·.1)).map tkD := by rw [← hq0, kr1, List.map_map, List.map_map]; rfl
  have q02 : ∀ q ∈ qs0, H q.1 = some (.tup (q.2.map kV)) := fun q m => by
    rw [← hq0] at m
    obtain ⟨x, mx, rfl⟩ := List.mem_map.mp m
    exact kr2 x mx
  have q03 : qs0.length ≤ sizeLine := by rw [← hq0, List.length_map, hl2]; exact z
  have I1 : L2.Inv X pins σ H { s with heap := h', toks := tk } := I.kept hk
  refine wpAny_bind (wpAny_newList ?_ (by rw [List.length_map]; exact q03))
  have hoL : (h'.push (seqObj "list" (qs0.map fun q => Value.ref q.1).toArray 0)).get? h'.objs.size = some (seqObj "list" (qs0.map fun q => Value.ref q.1).toArray 0) := Heap.get?_push_size _ rfl
  simp only [sortOk, Bool.and_eq_true, Bool.or_eq_true] at ok
  obtain ⟨⟨⟨him, hok⟩, hal⟩, hsr⟩ := ok
  have hok' := List.all_eq_true.mp hok
  have tmem : ∀ q ∈ qs0, tkD q.2 ∈ (kvs.map (·.1)).map tkD := fun q m => by rw [← q01]; exact List.mem_map_of_mem m
  have hmap : qs0.map (fun q => toP (tkD q.2)) = ((kvs.map (·.1)).map tkD).map toP := by rw [← q01, List.map_map]; rfl
  have hu := F.hu
  refine wpAny_bind (wpAny_holding (PySem.W.list_sort_data (enc := fun q : Addr × List Key => toP (tkD q.2)) hoL (each_refs qs0) (each_of qs0 fun q m => ?_) ?_ ?_ q03 (fun q m => ?_) fun out ho2 eo => ?_))
  · obtain ⟨its, rv, ⟨ot, hot, hct, n, hdt⟩, _⟩ := I1.tuple (a := q.1) (xs := q.2.map kV) (.inl (.inl (q02 q m)))
    refine ⟨[], ?_, by simp⟩
    show Reads _ (.ref q.1) (toP (.tup (q.2.map kD))) []
    rw [toP]
    exact .tuple (Heap.get?_push_of_some _ hot) hct hdt (by rw [List.toList_toArray]; exact key_reads rv)
  · rw [hmap]
    intro x hx y hy
    obtain ⟨x', mx, rfl⟩ := List.mem_map.mp hx
    obtain ⟨y', my, rfl⟩ := List.mem_map.mp hy
    exact List.all_eq_true.mp (List.all_eq_true.mp hal x' mx) y' my
  · rw [hmap]
    rcases hsr with k | k
    · refine .inl fun x hx => ?_
      obtain ⟨x', mx, rfl⟩ := List.mem_map.mp hx
      have := List.all_eq_true.mp k x' mx
      split at this
      · rename_i e; exact ⟨_, _, e⟩
      · cases this
    · refine .inr fun x hx => ?_
      obtain ⟨x', mx, rfl⟩ := List.mem_map.mp hx
      have := List.all_eq_true.mp k x' mx
      split at this
      · cases this
      · cases this
      · rename_i n1 n2; exact ⟨n1, n2⟩
  · have := SeqAt.depth_of_shaped (hok' _ (tmem q m))
    show X.A.in1.units + 1 + _ < cLine
    have e3 : X.A.in1.units = X.A.units + 1 := rfl
    omega
  · obtain ⟨c3, hc3⟩ := sortedHeap_at (vs := qs0.map fun q => Value.ref q.1) (out := out.toArray) hoL
    have pq := List.mergeSort_perm qs0 (PySem.W.dataLe false fun q : Addr × List Key => toP (tkD q.2))
    have eout := each_eq eo
    have hn : H h'.objs.size = none := I1.hok.fresh (Nat.le_refl _)
    have hl3 : (qs0.mergeSort (PySem.W.dataLe false fun q : Addr × List Key => toP (tkD q.2))).length ≤ sizeLine := by rw [pq.length_eq]; exact q03
    have kept : ∀ b u, h'.get? b = some u → (sortedHeap (h'.push (seqObj "list" (qs0.map fun q => Value.ref q.1).toArray 0)) h'.objs.size (qs0.map fun q => Value.ref q.1) out.toArray).get? b = some u := fun b u eb => by
      have lt := Heap.lt_size eb
      rw [sortedHeap_old (Nat.ne_of_lt lt) (by rw [size_push']; exact Nat.lt_succ_of_lt lt)]
      exact Heap.get?_push_of_some _ eb
    have rv : Vals ((qs0.mergeSort (PySem.W.dataLe false fun q : Addr × List Key => toP (tkD q.2))).map fun q => V.ref q.1) out := by
      rw [eout]
      generalize qs0.mergeSort (PySem.W.dataLe false fun q : Addr × List Key => toP (tkD q.2)) = ms
      induction ms with
      | nil => exact .nil
      | cons m ms ih => exact .cons rfl ih
    have J := I1.laid (t' := tk) kept (Nat.le_refl h'.objs.size) (show ObjOk X.prog X.w _ _ h'.objs.size (.lst ((qs0.mergeSort (PySem.W.dataLe false fun q : Addr × List Key => toP (tkD q.2))).map fun q => V.ref q.1)) from ⟨by rw [List.length_map]; exact hl3, out, c3, rv, hc3⟩)
    refine wpAny_pure ⟨_, rfl, .ref h'.objs.size, _, J, rfl, q _ _ ?_ (fun q m => q02 q (pq.mem_iff.mp m)) hl3 hn⟩
    have k := List.map_mergeSort (r := PySem.W.dataLe false fun q : Addr × List Key => toP (tkD q.2)) (s := leD) (f := fun q : Addr × List Key => tkD q.2) (l := qs0) (fun _ _ _ _ => rfl)
    rw [k, q01]
    rfl
def sortDTD (x : FD) : Res FD := match x.2 with
  | .dT ks _ => if sortOk (ks.map tkD) = true ∧ (ks.all fun k => decide (k.length ≤ sizeLine)) = true then .ok (.fr, .lst (sortD (ks.map tkD))) else .bad
  | _ => .bad
def sortDTF (f : Env → Res FD) : Env → Res FD := fun ρ => (f ρ).bind sortDTD
theorem rep_tks {H : Hp} : ∀ {qs : List (Addr × List Key)}, (∀ q ∈ qs, H q.1 = some (.tup (q.2.map kV)) ∧ q.2.length ≤ sizeLine) → RepL C H (qs.map fun q => tkD q.2) (qs.map fun q => V.ref q.1) []
  | [], _ => ⟨rfl, rfl⟩
  | q :: qs, h => by
    obtain ⟨h1, h2⟩ := h q List.mem_cons_self
    exact ⟨.ref q.1, _, [], [], rfl, ⟨q.1, q.2.map kV, rfl, h1, by rw [List.length_map]; exact h2, repK q.2⟩, rep_tks fun x m => h x (List.mem_cons_of_mem _ m), rfl⟩
theorem rv_sortDT {σ : L2.St} {H : Hp} {Q : VK} (h : RV C W (sortDTF f) σ H Q) : tCB rSortDT (tCons (RV C W f) tNil) σ H Q := by
  obtain ⟨ρ, P, E, h⟩ := h
  refine ⟨ρ, P, E, ?_⟩
  unfold sortDTF at h
  cases ef : f ρ with
  | bad => rw [ef] at h; exact h
  | ex c => rw [ef] at h; exact h
  | ok x =>
    rw [ef] at h
    obtain ⟨fl, d⟩ := x
    intro v H1 ⟨s1, M, r1, q1⟩
    simp only [Res.ok_bind] at h
    unfold sortDTD at h
    cases d <;> first | exact h.elim | skip
    rename_i ks ds
    dsimp only at h
    by_cases hc : sortOk (ks.map tkD) = true ∧ (ks.all fun k => decide (k.length ≤ sizeLine)) = true
    · rw [if_pos hc] at h
      obtain ⟨a, kvs, M', rfl, ea, rfl, z, rl, rfl⟩ := r1
      refine ⟨a, kvs, rfl, ea, hc.1, fun qs p eq hq hl hp => ?_⟩
      have s2 : Same H1 (upd H1 p (.lst (qs.map fun q => V.ref q.1))) := fun b o e => by rw [upd_ne (ne_of_none e hp)]; exact e
      have pk : ∀ q ∈ qs, q.2.length ≤ sizeLine := fun q m => by
        have : tkD q.2 ∈ qs.map fun q => tkD q.2 := List.mem_map_of_mem m
        rw [eq] at this
        have := (sortD_perm _).mem_iff.mp this
        obtain ⟨k, mk, ek⟩ := List.mem_map.mp this
        have := List.all_eq_true.mp hc.2 k mk
        rw [decide_eq_true_eq] at this
        have e2 : k.length = q.2.length := by
          unfold tkD at ek
          have := D.tup.inj ek
          have := congrArg List.length this
          simpa using this
        omega
      refine h _ _ ⟨s1.trans s2, [p], ⟨p, qs.map fun q => V.ref q.1, [], rfl, upd_same, ?_, ?_, rfl⟩, by simp, fun b m => ?_, fun b m => ?_⟩
      · rw [← eq, List.length_map]; exact hl
      · rw [← eq]
        exact (rep_tks fun q m => ⟨hq q m, pk q m⟩).same s2
      · rw [List.mem_singleton.mp m]; exact s1.free hp
      · rw [List.mem_singleton.mp m, upd_same]; trivial
    · rw [if_neg hc] at h; exact h.elim
theorem pd_sortDT (F : Fx R C X W) (hg : Gl X "sorted") (hm : X.mg "sorted" = none) (ha : PE X a (RV C W f)) (na : starEach [a] X.env = (false, eval a X.env) :: starEach [] X.env := by rfl) (hpl : (backTo pos (starEach [] X.env)).any (·.1) = false := by rfl) :
    PE X (.Call (.Name "sorted" p) [a] [] pos) (RV C W (sortDTF f)) :=
  (pe_callB (call_sortDT F) hg hm rfl (pa_cons ha pa_nil na) (by decide) (by decide) na hpl).imp fun _ _ _ => rv_sortDT
end
end DL
/-! DL32: enumerate(tuple). -/
namespace PySem
open PySem.Spec PyProof.Rows
theorem dl_enum_newB {v : Value} {o : Obj} {H : Heap → Prop} (B : Begins v o H) :
    Meets (Builtin.«enumerate.__new__» ⟨[.type "enumerate", v], []⟩) (fun _ R s => H s.heap ∧
      R (.ok (.ret (.ref (s.heap.push o).objs.size))) { s with heap := (s.heap.push o).push { cls := .type "enumerate", data := .fields #[.none, .bool false, .ref s.heap.objs.size, rawInt 0, .none, .none] } }) :=
  .of_wp fun prog w A R s h => by
    obtain ⟨hp, g, d, tk, os⟩ := s; obtain ⟨h1, h⟩ := h
    have hsub := sub_enumerate
    have dl_q : ∀ {A2 : Around} {E2 : Value → Shared → Prop} {Q2 : Value → Shared → Prop}, Q2 (.ref hp.objs.size) ⟨hp.push o, g, d, tk, os⟩ → wpAny (model prog w) A2 (pyIter v) Q2 E2 ⟨hp, g, d, tk, os⟩ := fun z => B.iter prog w _ _ ⟨hp, g, d, tk, os⟩ _ h1 z
    wp_walk using dl_q
    refine wpAny_stack_any fun st => wpAny_pure ?_
    split
    · rename_i c _ _ _ _ _
      cases (c == Value.type "enumerate") <;> (wp_walk using dl_q; exact ⟨_, rfl, h⟩)
    · wp_walk using dl_q
      exact ⟨_, rfl, h⟩
section
variable {prog : Program} {w : World} {A : Around} {E : Value → Shared → Prop} {s : Shared}
theorem dl_call_enumB {v : Value} {o : Obj} {H : Heap → Prop} {Q : Value → Shared → Prop} (B : Begins v o H) (h1 : H s.heap)
    (h : ∀ h', IsEnum h' (s.heap.objs.size + 1) s.heap.objs.size 0 .none → h'.get? s.heap.objs.size = some o → h'.objs.size = s.heap.objs.size + 2 → (∀ b o, s.heap.get? b = some o → h'.get? b = some o) → Q (.ref (s.heap.objs.size + 1)) { s with heap := h' }) :
    wpAny (model prog w) A (call (.type "enumerate") [v]) Q E s := by
  refine callType_new F.called_enumerate (by decide) (F.typeCall_enumerate_1 _) (F.newCall_enumerate_1 _) (fun obj => F.args_object_init_2 obj _) F.entry_enumerate_new (dl_enum_newB B) ⟨h1, ?_⟩
  have hz : (s.heap.push o).objs.size = s.heap.objs.size + 1 := Heap.size_push ..
  show _ ∧ _
  rw [hz]
  have he : IsEnum ((s.heap.push o).push { cls := .type "enumerate", data := .fields #[.none, .bool false, .ref s.heap.objs.size, rawInt 0, .none, .none] }) (s.heap.objs.size + 1) s.heap.objs.size 0 .none := by
    have t := Heap.get?_push_size (s.heap.push o) (o := { cls := .type "enumerate", data := .fields #[.none, .bool false, .ref s.heap.objs.size, rawInt 0, .none, .none] }) rfl
    rw [hz] at t; exact t
  exact ⟨⟨_, he, rfl⟩, h _ he (Heap.get?_push_of_some _ (Heap.get?_push_size _ B.free)) (by rw [Heap.size_push, hz]) fun b o x => Heap.get?_push_of_some _ (Heap.get?_push_of_some _ x)⟩
theorem dl_enum_endT {e it t : Addr} {i : Nat} {items : Array Value} {old : Value} {c : Int} {Q : Option Value → Shared → Prop} (hh : A.handled = none) (he : IsEnum s.heap e it c old) (hit : s.heap.IsTupleIter it t i) (ht : s.heap.IsTuple t items) (hx : items[i]? = none)
    (hQ : ∀ h', Heap.ExtBut it s.heap h' → Q none { s with heap := h' }) : wpAny (model prog w) A (pyNext (.ref e)) Q E s := by
  have hT : s.TypeIs (.ref e) "enumerate" := ⟨_, he, rfl⟩
  unfold pyNext
  refine wpAny_bind (wpAny_attempt (wpAny_callSpecial?_slot (name := Str.ofString "__next__") hT F.slot_enumerate_next
    (wpAny_call_entry F.slot_enumerate_next hT F.entry_enumerate_next ?_ (F.args_enumerate_next_1 _))))
  show wpAny _ _ (field (.ref e) 2 >>= _) _ _ _
  refine wpAny_bind (wpAny_field he rfl (x := .ref it) rfl ?_)
  refine wpAny_bind (wpAny_nextOf_tuple_end (show A.in1.handled = none from hh) hit ht hx fun h' x he' hx' => ?_)
  obtain ⟨o, ho, hc⟩ := hx'
  refine wpAny_bind (wpAny_isInstance (T := "StopIteration") (b := true) ⟨o, ho, hc⟩ isSubtype_stop ?_)
  exact wpAny_pure (hQ _ he')
end
end PySem
namespace DL
open PySem PySem.Spec PyProof.Rows L2
/-- the tuple at a, each item in a new pair -/
def IteT (K : PySem.W.Frag) (a : Addr) : It :=
  ⟨fun i H => ∃ (xs : List V) (x : V), SqT K H a xs ∧ xs[i]? = some x, fun i H v H' => ∃ T x, v = .ref T ∧ H T = none ∧ H' = upd H T (.tup [.int (i : Nat), x]) ∧ ∀ xs, SqT K H a xs → xs[i]? = some x, fun i H => ∃ xs : List V, SqT K H a xs ∧ xs.length ≤ i⟩
theorem turn_enumT {P : Program} {w : World} {K : PySem.W.Frag} {elts : List Expr} {kk : Nat} {tpos : Pos} (a e it : Addr) :
    Turn P w K (.Tuple elts kk tpos) (IteT K a) [e, it] e (fun i h => (∃ old, IsEnum h e it ((i : Nat) : Int) old) ∧ h.IsTupleIter it a i ∧ e ≠ it ∧ a ≠ it ∧ e ≠ a) where
  mem := by simp
  obj := fun i h st b hb => by
    obtain ⟨⟨old, he⟩, ⟨o, ho, hc, hd⟩, _⟩ := st
    have e' : b = e ∨ b = it := by simpa using hb
    rcases e' with z | z
    · rw [z]; exact ⟨_, he, fun v q => nomatch q⟩
    · rw [z]; exact ⟨o, ho, fun v q => by rw [hd] at q; cases q⟩
  keep := fun i h h' st k => let ⟨⟨old, he⟩, hi, hne⟩ := st; ⟨⟨old, k e (by simp) _ he⟩, hi.at fun o q => k it (by simp) o q, hne⟩
  item := by
    intro X hP hw hK hc i pins s σ H E I hf st hg
    subst hP hw hK
    obtain ⟨⟨old, he⟩, hit, hne, hai, hea⟩ := st
    obtain ⟨xs, x, hq, hx⟩ := hg
    obtain ⟨its, rv, p, hz⟩ := I.tuple hq
    obtain ⟨u, hu, ru⟩ := rv.get hx
    have hel : e < s.heap.objs.size := Heap.lt_size he
    have hil : it < s.heap.objs.size := by obtain ⟨_, q, _⟩ := hit; exact Heap.lt_size q
    have hlt : i < its.toArray.size := by
      have := (List.getElem?_eq_some_iff.mp hu).1
      simpa using this
    have pt : s.heap.IsTuple a its.toArray := p
    refine wpAny_pyNext_enum_itemD (Draws.tuple (show X.A.in1.handled = none from I.ok.hd hc) it a hai its.toArray) he ⟨hit, pt⟩ hlt hne (by simp [hne, hea]) fun y h' tk hy ho hst hT hsz hk => ?_
    have hy' : y = u := by
      have h1 : its.toArray[i]? = some u := by simpa using hu
      rw [h1] at hy
      exact (Option.some.inj hy).symm
    subst hy'
    refine ⟨_, rfl, wpAny_letOwnedTupleGo_enum (s := { s with heap := h', toks := tk + 1 }) ho fun h'' he' sb => ?_⟩
    have hT2 : h''.get? s.heap.objs.size = some { cls := .type "tuple", data := .seq #[.int i tk, y] } := (sb.2 _ (Nat.ne_of_gt hel)).trans hT
    have new : ObjOk X.prog X.w (upd H s.heap.objs.size (.tup [.int (i : Nat), x])) h'' s.heap.objs.size (.tup [.int (i : Nat), x]) :=
      ⟨by show 2 ≤ sizeLine; decide, [.int i tk, y], .cons ⟨_, rfl⟩ (.cons ru .nil), ⟨_, hT2, rfl, _, rfl⟩⟩
    have I1 : L2.Inv X pins σ (upd H s.heap.objs.size (.tup [.int (i : Nat), x])) { s with heap := h'', toks := tk + 1 } :=
      I.turnedNew (ch := [e, it]) (fun b ob hb q => (sb.2 b (fun z => hb (by simp [z]))).trans (hk b ob (fun z => hb (by simp [z])) (fun z => hb (by simp [z])) q)) hf (Nat.le_refl _) new
    refine ⟨.ref s.heap.objs.size, _, I1, rfl, ⟨_, x, rfl, I.hok.fresh (Nat.le_refl _), rfl, fun ys hy => by rw [I.tuple_inj hy hq]; exact hx⟩, ⟨⟨y, ?_⟩, hst.1.at fun o q => (sb.2 it (Ne.symm hne)).trans q, hne, hai, hea⟩, fun b hb => ?_⟩
    · have e1 : ((i + 1 : Nat) : Int) = (i : Int) + 1 := by omega
      rw [e1]; exact he'
    · have hb' : b < s.heap.objs.size := by
        have e' : b = e ∨ b = it := by simpa using hb
        rcases e' with z | z
        · rw [z]; exact hel
        · rw [z]; exact hil
      rw [upd_ne (Nat.ne_of_lt hb')]
      exact (hf b hb).1
  done := by
    intro X hP hw hK hc i pins s σ H E I hf st hg
    subst hP hw hK
    obtain ⟨⟨old, he⟩, hit, hne, hai, hea⟩ := st
    obtain ⟨xs, hq, hx⟩ := hg
    obtain ⟨its, rv, p, hz⟩ := I.tuple hq
    have pt : s.heap.IsTuple a its.toArray := p
    obtain ⟨f0, f1, f2, f3, f4, f5⟩ := hf it (by simp)
    have hl := rv.length
    exact dl_enum_endT (I.ok.hd hc) he hit pt (by simp; omega) fun h' eb => ⟨rfl, I.turned (t' := s.toks) (fun b o hb q => eb b o hb q) f0 f1 f3 f4 f5⟩
  self := fun A i s Q E st h => let ⟨⟨_, he⟩, _⟩ := st; wpAny_pyIter_enum he h
def iEnumT (K : PySem.W.Frag) (ta : TA) : TI := fun σ H R => ta σ H fun vs H1 => ∃ a xs, vs = [.ref a] ∧ SqT K H1 a xs ∧ R (IteT K a) H1
theorem pi_enumT {X : Cx} {e : Expr} {ta : TA} {p pos tpos : Pos} {elts : List Expr} {kk : Nat} (hg : Gl X "enumerate") (hm : X.mg "enumerate" = none) (ha : PA X [e] ta) (hs : starEach [e] X.env = [(false, eval e X.env)] := by rfl) :
    PI X (.Tuple elts kk tpos) (.Call (.Name "enumerate" p) [e] [] pos) (iEnumT X.K ta) := by
  refine ⟨fun pins s σ H R I h => ?_⟩
  refine Call_ (ld_blt I hg hm boot_enumerate (PyProof.Rows.callWith_type1 (thn (ha.run pos pins s σ H _ I h) fun us s1 ⟨vs, H1, I1, r1, q1⟩ => ?_) hs rfl))
  obtain ⟨a, xs, ex, hq, q⟩ := q1
  subst ex
  cases r1 with
  | cons r rr =>
    cases rr
    cases r
    obtain ⟨its, rv, p', hz⟩ := I1.tuple hq
    have pt : s1.heap.IsTuple a its.toArray := p'
    have hal : a < s1.heap.objs.size := by obtain ⟨o, ho, _⟩ := pt; exact Heap.lt_size ho
    refine dl_call_enumB (begins_tuple a its.toArray) pt fun h' he hit hsz hk => wpAny_pyIter_enum he ?_
    have I2 : L2.Inv X pins σ H1 { s1 with heap := h' } := I1.kept (t' := s1.toks) hk
    refine ⟨s1.heap.objs.size + 1, [s1.heap.objs.size + 1, s1.heap.objs.size], _, _, H1, rfl, I2, turn_enumT a (s1.heap.objs.size + 1) s1.heap.objs.size, ⟨⟨.none, he⟩, ⟨_, hit, rfl, rfl⟩, Nat.succ_ne_self _, Nat.ne_of_lt hal, Nat.ne_of_gt (Nat.lt_succ_of_lt hal)⟩, fun b hb => ?_, q⟩
    have e' : b = s1.heap.objs.size + 1 ∨ b = s1.heap.objs.size := by simpa using hb
    have hle : s1.heap.objs.size ≤ b := by
      rcases e' with z | z
      · rw [z]; exact Nat.le_add_right _ _
      · rw [z]; exact Nat.le_refl _
    exact I1.fpOk hle (I1.hok.fresh hle)
section
variable {R : Nat} {C : Ctx} {X : Cx} {W : WX} {P : List Pt} {a b e : Expr} {f g : Env → Res FD} {pos pos' p apos cpos ipos tpos : Pos}
def enumTI (f : Env → Res FD) : Env → Res ID := fun ρ => (f ρ).bind fun x => match x.2 with
  | .tup ds => .ok ([x], enumD ds)
  | _ => .bad
theorem itok_enumT (K : PySem.W.Frag) (a : Addr) (ds : List D) : ItOk C (IteT K a) (enumD ds) [.inl (.ref a, .tup ds)] := by
  intro i H hp
  obtain ⟨N, a', vs, e0, e1, z, r⟩ := hp _ (List.mem_singleton.mpr rfl)
  cases e0
  refine ⟨fun d e => ?_, fun hl => ⟨vs, SqT.of e1, by rw [← r.length, ← enumD_len]; exact hl⟩⟩
  obtain ⟨d', eD, rfl⟩ := enumD_at e
  obtain ⟨v, L, e2, r', s⟩ := r.get eD
  refine ⟨⟨vs, v, SqT.of e1, e2⟩, fun x H' ⟨T, y, ex, hT, eH, q⟩ => ?_⟩
  subst ex eH
  have e3 := q vs (SqT.of e1)
  rw [e2] at e3
  cases e3
  have sm : Same H (upd H T (.tup [.int (i : Nat), v])) := fun b o e => by rw [upd_ne (ne_of_none e hT)]; exact e
  refine ⟨sm, L, ⟨T, _, rfl, upd_same, by rw [sizeLine_eq]; show 2 ≤ 16777216; decide, ⟨_, _, [], L, rfl, ⟨rfl, rfl⟩, ⟨_, _, L, [], rfl, r'.same sm, ⟨rfl, rfl⟩, by simp⟩, rfl⟩⟩, fun b m => ⟨_, List.mem_singleton.mpr rfl, N, ⟨a, vs, rfl, e1, z, r⟩, s.subset m⟩⟩
theorem ri_enumT {K : PySem.W.Frag} {σ : L2.St} {H : Hp} {R : It → Hp → Prop} (hh : RI C W (enumTI f) σ H R) : iEnumT K (tCons (RV C W f) tNil) σ H R := by
  obtain ⟨ρ, P, E, hh⟩ := hh
  refine ⟨ρ, P, E, ?_⟩
  unfold enumTI at hh
  cases e : f ρ with
  | bad => rw [e] at hh; exact hh
  | ex c => rw [e] at hh; exact hh
  | ok fx =>
    rw [e] at hh
    simp only [Res.ok_bind] at hh
    intro x H1 ⟨s1, M, r1, f1⟩
    obtain ⟨fl, d⟩ := fx
    cases d <;> first | exact hh.elim | skip
    rename_i ds
    have r0 := r1
    obtain ⟨a, vs, rfl, e1, z, r⟩ := r1
    exact ⟨a, vs, rfl, SqT.of e1, hh _ H1 _ [] s1 ⟨_, _, rfl, ⟨_, r0, f1⟩, rfl⟩ (fun p m => nomatch m) (itok_enumT K a ds)⟩
theorem di_enumT {elts : List Expr} {kk : Nat} (hg : Gl X "enumerate") (hm : X.mg "enumerate" = none) (ha : PE X a (RV C W f)) (hs : starEach [a] X.env = (false, eval a X.env) :: starEach [] X.env := by rfl) (hs2 : starEach [a] X.env = [(false, eval a X.env)] := by rfl) :
    PI X (.Tuple elts kk tpos) (.Call (.Name "enumerate" p) [a] [] pos) (RI C W (enumTI f)) := (pi_enumT hg hm (pa_cons ha pa_nil hs) hs2).imp fun _ _ _ => ri_enumT
end
end DL
/-! DL33: x = y, y's own list moved; x = y if t else x. -/
namespace DL
open PySem L2
section
variable {R : Nat} {C : Ctx} {X : Cx} {W : WX} {P : List Pt} {a b c e : Expr} {f g : Env → Res Nat} {ft : Env → Res Bool} {pos pos' p : Pos}
/-- an expression that is one of the names: which slot's -/
def RM (C : Ctx) (W : WX) (f : Env → Res Nat) : TE := fun σ H Q => ∃ ρ P, EnvOk C P H σ ρ ∧ match f ρ with
  | .ok j => ∀ v H', Same H H' → σ[j]? = some (some v) → Q v H'
  | .ex c => ∀ H', Same H H' → W (.ref (C.cls c)) none σ H'
  | .bad => False
def mVar (j : Nat) : Env → Res Nat := fun ρ => match ρ[j]? with
  | some (some (.loc, _)) => .ok j
  | _ => .bad
theorem rm_var {j : Nat} {σ : St} {H : Hp} {Q : VK} (h : RM C W (mVar j) σ H Q) : tVar j σ H Q := by
  obtain ⟨ρ, P, E, h⟩ := h
  unfold mVar at h
  cases e : ρ[j]? with
  | none => rw [e] at h; exact h.elim
  | some s =>
    cases s with
    | none => rw [e] at h; exact h.elim
    | some q =>
      obtain ⟨o, d⟩ := q
      obtain ⟨v, M, e1, _⟩ := E.at_ j o d e
      rw [e] at h
      cases o with
      | loc => exact ⟨v, e1, h v H (Same.refl H) e1⟩
      | sh => exact h.elim
      | io => exact h.elim
      | lk => exact h.elim
theorem pm_var (j : Nat) {x : Str} (hN : X.N[j]? = some x := by rfl) (hv : Vis X.env.scope x := by first | exact Or.inl rfl | exact Or.inr (Or.inl rfl) | exact Or.inr (Or.inr rfl)) (hd : (x == ("__debug__" : Str)) = false := by decide)
    (hcd : (x == ("__classdict__" : Str)) = false := by decide) : PE X (.Name x pos) (RM C W (mVar j)) := (pe_var hN hv hd hcd).imp fun _ _ _ => rm_var
def mIf (t : Env → Res Bool) (f g : Env → Res Nat) : Env → Res Nat := fun ρ => (t ρ).bind fun k => if k = true then f ρ else g ρ
theorem RM.early {σ : St} {H H1 : Hp} {ρ : Env} {Q : VK} (E : EnvOk C P H σ ρ) (s : Same H H1) (h : match f ρ with
  | .ok j => ∀ v H', Same H H' → σ[j]? = some (some v) → Q v H'
  | .ex c => ∀ H', Same H H' → W (.ref (C.cls c)) none σ H'
  | .bad => False) : RM C W f σ H1 Q := by
  refine ⟨ρ, P, E.same s, ?_⟩
  cases e : f ρ with
  | bad => rw [e] at h; exact h
  | ex c => rw [e] at h; exact fun H' s' => h H' (s.trans s')
  | ok j => rw [e] at h; exact fun v H' s' ev => h v H' (s.trans s') ev
theorem rm_if {σ : St} {H : Hp} {Q : VK} (h : RM C W (mIf ft f g) σ H Q) : tIf (RT C W ft) (RM C W f) (RM C W g) σ H Q := by
  obtain ⟨ρ, P, E, h⟩ := h
  refine ⟨ρ, P, E, ?_⟩
  unfold mIf at h
  cases e : ft ρ with
  | bad => rw [e] at h; exact h
  | ex c => rw [e] at h; exact h
  | ok k =>
    rw [e] at h
    simp only [Res.ok_bind] at h
    intro H1 s1
    cases k with
    | true =>
      simp only [if_true] at h ⊢
      exact RM.early E s1 h
    | false =>
      simp only [Bool.false_eq_true, if_false] at h ⊢
      exact RM.early E s1 h
theorem pm_if (hc : PT X c (RT C W ft)) (ha : PE X a (RM C W f)) (hb : PE X b (RM C W g)) : PE X (.IfExp c a b pos) (RM C W (mIf ft f g)) := (pe_ifExp hc ha hb).imp fun _ _ _ => rm_if
/-- name = the datum of an own slot, that is moved -/
def xMv (i : Nat) (f : Env → Res Nat) : XS := fun ρ => match f ρ with
  | .ok j => match ρ[j]? with
    | some (some (.loc, d)) => if i < ρ.length then .nx ((ρ.set j none).set i (some (.loc, d))) else .bad
    | _ => .bad
  | .ex c => .ex c ρ
  | .bad => .bad
theorem xs_mv {i : Nat} {x : Str} (F : Fx R C X W) (hi : X.N[i]? = some x) (hx : Loc X.env.scope x) (he : PE X e (RM C W f)) (hs : swapsWith e (some (.Name x pos')) pos.line X.env = pure false := by rfl) (hf : X.fn x = true ∨ X.env.scope.names.lookup x = some .local := by first | exact .inl rfl | exact .inr rfl | assumption) :
    PS X (.Assign [.Name x pos'] e pos) (RS C W (tX (xMv i f))) :=
  (ps_set F.nd hi hx he hs hf).imp fun D σ H h => by
    obtain ⟨ρ, P, DD, E, I, h⟩ := h
    refine ⟨ρ, P, E, ?_⟩
    unfold tX xMv at h
    cases ef : f ρ with
    | bad => rw [ef] at h; exact h
    | ex c => rw [ef] at h; exact fun H' s => I.ex σ H' ρ c (E.same s) h
    | ok j =>
      rw [ef] at h
      intro v H1 s1 ev
      dsimp only at h
      cases ej : ρ[j]? with
      | none => rw [ej] at h; exact h.elim
      | some q =>
        cases q with
        | none => rw [ej] at h; exact h.elim
        | some q =>
          obtain ⟨o, d⟩ := q
          rw [ej] at h
          cases o with
          | sh => exact h.elim
          | io => exact h.elim
          | lk => exact h.elim
          | loc =>
            dsimp only at h
            by_cases hl : i < ρ.length
            · rw [if_pos hl] at h
              have E1 := E.same s1
              obtain ⟨v', M, e1, r, own, lo, _⟩ := E1.at_ j _ _ ej
              rw [ev] at e1; cases e1
              obtain ⟨q1, q2, q3, q4⟩ := own rfl
              have E2 : EnvOk C P H1 σ (ρ.set j none) := E1.weak (by rw [List.length_set]; exact E1.len) fun l o' d' el => by
                rcases set_get el with ⟨_, e, _⟩ | ⟨hl, el⟩
                · cases e
                · exact ⟨o', el, .inl rfl, rfl⟩
              refine I.nx _ _ _ (Cnd.setOk E2 (o := .loc) ⟨q1, fun a m => ⟨q2 a m, lo rfl a m⟩, fun l o' d' w N el sl rl => ?_, q4⟩ r (by rw [List.length_set]; exact hl)) h
              rcases set_get el with ⟨_, e, _⟩ | ⟨hlj, el⟩
              · cases e
              · exact q3 l o' d' w N hlj el sl rl
            · rw [if_neg hl] at h; exact h.elim
end
end DL
/-! DL34: x = dict([(k, x[k]) for k in x if ..]): some items of a dict are kept. -/
namespace DL
open PySem L2
def msk {α : Type} : List Bool → List α → List α
  | true :: bs, x :: xs => x :: msk bs xs
  | false :: bs, _ :: xs => msk bs xs
  | _, _ => []
theorem msk_t {α : Type} (bs : List Bool) (x : α) (xs : List α) : msk (true :: bs) (x :: xs) = x :: msk bs xs := rfl
theorem msk_f {α : Type} (bs : List Bool) (x : α) (xs : List α) : msk (false :: bs) (x :: xs) = msk bs xs := rfl
theorem msk_nil {α : Type} (xs : List α) : msk [] xs = [] := by simp [msk]
theorem msk_map {α β : Type} (f : α → β) : ∀ (bs : List Bool) (xs : List α), msk bs (xs.map f) = (msk bs xs).map f
  | [], _ => by simp [msk]
  | true :: bs, [] => rfl
  | false :: bs, [] => rfl
  | true :: bs, x :: xs => by rw [List.map_cons]; unfold msk; rw [msk_map f bs xs, List.map_cons]
  | false :: bs, x :: xs => by rw [List.map_cons]; unfold msk; rw [msk_map f bs xs]
theorem msk_sub {α : Type} : ∀ (bs : List Bool) (xs : List α), (msk bs xs).Sublist xs
  | [], xs => List.nil_sublist xs
  | true :: bs, [] => List.Sublist.slnil
  | false :: bs, [] => List.Sublist.slnil
  | true :: bs, x :: xs => by unfold msk; exact (msk_sub bs xs).cons_cons x
  | false :: bs, x :: xs => by unfold msk; exact (msk_sub bs xs).cons x
/-- which items pass -/
def maskL (t : Tg) (tt : Env → Res Bool) (ρ : Env) : List D → Option (List Bool)
  | [] => some []
  | d :: ds => match asg .sh t d ρ with
    | some ρ1 => match tt ρ1 with
      | .ok b => (maskL t tt ρ ds).map (b :: ·)
      | _ => none
    | none => none
theorem maskL_len {t : Tg} {tt : Env → Res Bool} {ρ : Env} : ∀ {ds : List D} {bs : List Bool}, maskL t tt ρ ds = some bs → bs.length = ds.length
  | [], bs, h => by cases h; rfl
  | d :: ds, bs, h => by
    unfold maskL at h
    split at h
    · split at h
      · obtain ⟨r, hr, rfl⟩ := Option.map_eq_some_iff.mp h
        rw [List.length_cons, List.length_cons, maskL_len hr]
      · cases h
    · cases h
theorem maskL_at {t : Tg} {tt : Env → Res Bool} {ρ : Env} : ∀ {ds : List D} {bs : List Bool} {n : Nat} {d : D}, maskL t tt ρ ds = some bs → ds[n]? = some d → ∃ ρ1 k, asg .sh t d ρ = some ρ1 ∧ tt ρ1 = .ok k ∧ bs[n]? = some k
  | [], bs, n, d, h, e => by simp at e
  | d0 :: ds, bs, n, d, h, e => by
    unfold maskL at h
    split at h
    · rename_i ρ1 ea
      split at h
      · rename_i b et
        obtain ⟨r, hr, rfl⟩ := Option.map_eq_some_iff.mp h
        cases n with
        | zero => simp at e; subst e; exact ⟨ρ1, b, ea, et, rfl⟩
        | succ n =>
          obtain ⟨ρ2, k, h1, h2, h3⟩ := maskL_at (n := n) hr (by simpa using e)
          exact ⟨ρ2, k, h1, h2, by simpa using h3⟩
      · cases h
    · cases h
section
variable {R : Nat} {C : Ctx} {X : Cx} {W : WX} {P : List Pt} {e : Expr} {pos pos' p : Pos}
/-- v: a new list of pairs, items of the dict in slot i -/
def PairsAt (H : Hp) (i : Nat) (σ : St) (bs : List Bool) (v : V) : Prop := ∃ (l : Addr) (ps : List Addr) (b : Addr) (kvs : List (Key × V)), v = .ref l ∧ H l = some (.lst (ps.map V.ref)) ∧ σ[i]? = some (some (.ref b)) ∧ Rd H b (.dK kvs) ∧ Paired (fun p (kv : Key × V) => H p = some (.tup [kV kv.1, kv.2])) ps (msk bs kvs)
def RP (C : Ctx) (W : WX) (i : Nat) (f : Env → Option (List Bool)) : TE := fun σ H Q => ∃ ρ P, EnvOk C P H σ ρ ∧ ∃ o ks ds bs, ρ[i]? = some (some (o, .dK ks ds)) ∧ f ρ = some bs ∧ ∀ v H', Same H H' → PairsAt H' i σ bs v → Q v H'
def compP (i j : Nat) (tt : Env → Res Bool) (own : List Nat) : Env → Option (List Bool) := fun ρ => match ρ[i]? with
  | some (some (.lk, .dK ks _)) => if i ∉ own ∧ j ∈ own ∧ ks.Nodup then maskL (.nm j) tt (wipeE (fzE ρ) own) (ks.map kD) else none
  | _ => none
def rIxD : R2 := fun x y H Q => ∃ a v, x = .ref a ∧ DGet H a y (some v) ∧ Q v H
theorem kD_rep {H : Hp} {q : Key} {v : V} {M : List Addr} (r : Rep C H (kD q) v M) : v = kV q := by cases q <;> exact r.1
theorem valV_at : ∀ {kvs : List (Key × V)} {n : Nat} {kv : Key × V}, (kvs.map (·.1)).Nodup → kvs[n]? = some kv → valV kvs kv.1 = some kv.2
  | [], n, kv, _, e => by simp at e
  | p :: kvs, 0, kv, nd, e => by
    simp at e; subst e
    unfold valV
    rw [List.find?_cons_of_pos (by simp)]
    rfl
  | p :: kvs, n + 1, kv, nd, e => by
    rw [List.map_cons, List.nodup_cons] at nd
    have e' : kvs[n]? = some kv := by simpa using e
    have ne : ¬ p.1 = kv.1 := fun z => nd.1 (by rw [z]; exact List.mem_map_of_mem (f := (·.1)) (List.mem_of_getElem? e'))
    have h := valV_at nd.2 e'
    unfold valV at h ⊢
    rw [List.find?_cons_of_neg (by simp [ne])]
    exact h
theorem Paired.keepT {H H' : Hp} (s : Same H H') : ∀ {ps : List Addr} {acc : List (Key × V)}, Paired (fun p (kv : Key × V) => H p = some (.tup [kV kv.1, kv.2])) ps acc → Paired (fun p (kv : Key × V) => H' p = some (.tup [kV kv.1, kv.2])) ps acc
  | _, _, .nil => .nil
  | _, _, .cons h r => .cons (s _ _ h) (Paired.keepT s r)
theorem Paired.snocT {F : Addr → Key × V → Prop} {p : Addr} {kv : Key × V} (h : F p kv) : ∀ {ps : List Addr} {acc : List (Key × V)}, Paired F ps acc → Paired F (ps ++ [p]) (acc ++ [kv])
  | _, _, .nil => .cons h .nil
  | _, _, .cons q r => .cons q (Paired.snocT h r)
theorem Paired.setT {H : Hp} {D : Addr} {u : HO} {w : HO} (hD : H D = some w) (hw : ∀ vs, w ≠ .tup vs) : ∀ {ps : List Addr} {acc : List (Key × V)}, Paired (fun p (kv : Key × V) => H p = some (.tup [kV kv.1, kv.2])) ps acc → Paired (fun p (kv : Key × V) => upd H D u p = some (.tup [kV kv.1, kv.2])) ps acc
  | _, _, .nil => .nil
  | _, _, .cons h r => .cons (by rw [upd_ne fun z => by rw [z, hD] at h; cases h; exact hw _ rfl]; exact h) (Paired.setT hD hw r)
theorem rp_comp {i j : Nat} {tt : Env → Res Bool} {own : List Nat} (K : PySem.W.Frag) {σ : St} {H : Hp} {Q : VK} (h : RP C W i (compP i j tt own) σ H Q) :
    tLc (RI C W (keysI i)) (gOf K (.nm j)) (RT C W0 tt) (tTup (tCons (tVar j) (tCons (tOp rIxD (tVar i) (tVar j)) tNil))) own σ H Q := by
  obtain ⟨ρ, P, E, o, ks, ds, bs, ei, ef, hQ⟩ := h
  unfold compP at ef
  rw [ei] at ef
  cases o <;> first | (cases ef; done) | skip
  dsimp only at ef
  by_cases hc : i ∉ own ∧ j ∈ own ∧ ks.Nodup
  · rw [if_pos hc] at ef
    obtain ⟨hi, hj, knd⟩ := hc
    obtain ⟨v, M, e1, r, _⟩ := E.at_ i .lk _ ei
    obtain ⟨b, kvs, M', rfl, rd, hk, hz, rl, rfl⟩ := r
    have ek : keysI i ρ = .ok ([], ks.map kD) := by unfold keysI; rw [ei]; rfl
    have kl : kvs.length = ks.length := by rw [hk, List.length_map]
    have dl : ds.length = ks.length := by have := rl.length; rw [List.length_map] at this; omega
    have bl := maskL_len ef
    rw [List.length_map] at bl
    refine ⟨ρ, P, E, ?_⟩
    rw [ek]
    intro J H1 Ps Ls s1 po lks ok D hD
    have E1 := E.same s1
    refine ⟨fun n m Hc => m = ks.length - n ∧ n ≤ ks.length ∧ Same H1 Hc ∧ ∃ ps acc, Hc D = some (.lst (ps.map V.ref)) ∧ Paired (fun p (kv : Key × V) => Hc p = some (.tup [kV kv.1, kv.2])) ps acc ∧ acc.length ≤ n ∧ acc ++ msk (bs.drop n) (kvs.drop n) = msk bs kvs, ⟨_, rfl, Nat.zero_le _, upd_sameH hD, [], [], upd_same, .nil, Nat.le_refl _, rfl⟩, ?_⟩
    rintro n m Hc ⟨rfl, hn, sc, ps, acc, eD, pr, al, eacc⟩
    have hPs : ∀ p ∈ Ps ++ Ls, ∃ N, PRep C Hc p N := fun p m => by
      rcases List.mem_append.mp m with m | m
      · obtain ⟨⟨N, q⟩, _⟩ := po.rep p m
        exact ⟨N, q.same sc⟩
      · obtain ⟨N, q⟩ := E1.prot p (lks p m).1
        exact ⟨N, q.same sc⟩
    obtain ⟨go, stop⟩ := ok n Hc hPs
    by_cases hlt : n < ks.length
    · have hkn : kvs[n]? = some kvs[n] := List.getElem?_eq_getElem (by omega)
      have hki : (ks.map kD)[n]? = some (kD kvs[n].1) := by
        have e : ks[n]? = some kvs[n].1 := by
          have e2 : (kvs.map (·.1))[n]? = some kvs[n].1 := by rw [List.getElem?_map, hkn]; rfl
          exact (congrArg (fun l => l[n]?) hk).trans e2
        rw [List.getElem?_map, e]; rfl
      obtain ⟨g1, g2⟩ := go _ hki
      obtain ⟨ρ1, k, ea, et, eb⟩ := maskL_at ef hki
      have ebd : bs.drop n = k :: bs.drop (n + 1) := by
        obtain ⟨hb, eb'⟩ := List.getElem?_eq_some_iff.mp eb
        rw [List.drop_eq_getElem_cons hb, eb']
      have ekd : kvs.drop n = kvs[n] :: kvs.drop (n + 1) := List.drop_eq_getElem_cons (by omega)
      refine .inr ⟨g1, fun H' => ∃ m', m' < ks.length - n ∧ (m' = ks.length - (n + 1) ∧ n + 1 ≤ ks.length ∧ Same H1 H' ∧ ∃ ps acc, H' D = some (.lst (ps.map V.ref)) ∧ Paired (fun p (kv : Key × V) => H' p = some (.tup [kV kv.1, kv.2])) ps acc ∧ acc.length ≤ n + 1 ∧ acc ++ msk (bs.drop (n + 1)) (kvs.drop (n + 1)) = msk bs kvs), fun H' q => q, fun x H2 y => ?_⟩
      obtain ⟨s2, Mx, rx, _⟩ := g2 x H2 y
      have s12 := sc.trans s2
      have Eb : EnvOk C P H2 (L2.wipe σ own) (wipeE (fzE ρ) own) := ((E1.same s12).frozen).wipe own
      have nap : Apart C H2 (L2.wipe σ own) (wipeE (fzE ρ) own) Mx := fun j o d w N e ow _ _ => by
        have := fzE_own (wipeE_get e).1
        rw [this] at ow
        cases ow
      refine asg_ok K .sh (.nm j) _ x Mx _ _ ρ1 _ ea Eb rx nap fun σ2 E2 l2 a2 k2 => ?_
      have jx : ∀ l, l ∈ (Tg.nm j).ix → l = j := fun l m => by simpa [Tg.ix] using m
      have ag : L2.wipe σ2 own = L2.wipe σ own := wipe_agree (by rw [l2, wipe_length]) fun l hl => a2 l fun hm => hl (by rw [jx l hm]; exact hj)
      have eσi : σ2[i]? = some (some (.ref b)) := by
        rw [a2 i fun hm => hi (by rw [jx i hm]; exact hj), wipe_out hi]
        exact e1
      have eσj : σ2[j]? = some (some (kV kvs[n].1)) := by
        unfold asg at ea
        split at ea
        · rename_i hjl
          cases ea
          obtain ⟨v', M2, e2, r2, _⟩ := E2.at_ j .sh (kD kvs[n].1) (by rw [List.getElem?_set_self hjl])
          rw [kD_rep r2] at e2
          exact e2
        · cases ea
      refine ⟨ag, ρ1, P, E2, ?_⟩
      rw [et]
      intro H3 s3
      have s13 := s12.trans s3
      have eD3 : H3 D = some (.lst (ps.map V.ref)) := s3 _ _ (s2 _ _ eD)
      have pr3 := Paired.keepT (s2.trans s3) pr
      rw [ebd, ekd] at eacc
      cases k with
      | false =>
        simp only [Bool.false_eq_true, if_false]
        rw [msk_f] at eacc
        exact ⟨_, by omega, rfl, hlt, s13, ps, acc, eD3, pr3, by omega, eacc⟩
      | true =>
        simp only [if_true]
        rw [msk_t] at eacc
        have rd3 : Rd H3 b (.dK kvs) := by
          rcases rd with q | ⟨od, q⟩
          · exact .inl (s13 _ _ (s1 _ _ q))
          · exact .inr ⟨od, s13 _ _ (s1 _ _ q)⟩
        have kn2 : (kvs.map (·.1)).Nodup := by rw [← hk]; exact knd
        refine ⟨kV kvs[n].1, eσj, .ref b, eσi, kV kvs[n].1, eσj, b, kvs[n].2, rfl, .inl ⟨kvs, kvs[n].1, rd3, rfl, (valV_at kn2 hkn).symm⟩, by rw [sizeLine_eq]; simp, fun q hq => ?_⟩
        have s4 : Same H3 (upd H3 q (.tup [kV kvs[n].1, kvs[n].2])) := upd_sameH hq
        have eD4 := s4 _ _ eD3
        have hsz : (ps.map V.ref).length < sizeLine := by
          have := Paired.length pr
          rw [List.length_map]
          omega
        refine ⟨ps.map V.ref, eD4, hsz, _, by omega, rfl, hlt, (fun a u ea => by rw [upd_ne (ne_of_none ea hD)]; exact (s13.trans s4) a u ea), ps ++ [q], acc ++ [kvs[n]], ?_, ?_, by rw [List.length_append, List.length_singleton]; omega, ?_⟩
        · rw [upd_same, List.map_append]; rfl
        · exact Paired.setT eD4 (fun _ z => by cases z) (Paired.snocT upd_same (Paired.keepT s4 pr3))
        · rw [List.append_assoc]; exact eacc
    · have en : n = ks.length := by omega
      subst en
      refine .inl ⟨stop (by rw [List.length_map]; exact Nat.le_refl _), ?_⟩
      have e0 : acc = msk bs kvs := by
        rw [List.drop_eq_nil_of_le (by omega), msk_nil, List.append_nil] at eacc
        exact eacc
      refine hQ _ _ (s1.trans sc) ⟨D, ps, b, kvs, rfl, eD, e1, ?_, by rw [← e0]; exact pr⟩
      rcases rd with q | ⟨od, q⟩
      · exact .inl (sc _ _ (s1 _ _ q))
      · exact .inr ⟨od, sc _ _ (s1 _ _ q)⟩
  · rw [if_neg hc] at ef; cases ef
theorem pp_comp {i j : Nat} {tg iter : Expr} {ifs : List Expr} {scope : Scope} {own : List (Str × Nat)} {tt : Env → Res Bool} (F : Fx R C X W)
    (hi : PI X tg iter (RI C W (keysI i))) (ok : blkC X.N X.env.scope scope own = true)
    (hg : ∀ (s : Shared) (H : Hp) (C' : Addr) (cl : List (Str × Addr)) (fp : List Addr), Fx R C (X.blk s H scope (compEnvC scope cl C' X.env) fp) W0 → PG (X.blk s H scope (compEnvC scope cl C' X.env) fp) tg (gOf X.K (.nm j)))
    (ht : ∀ (s : Shared) (H : Hp) (C' : Addr) (cl : List (Str × Addr)) (fp : List Addr), Fx R C (X.blk s H scope (compEnvC scope cl C' X.env) fp) W0 → PTs (X.blk s H scope (compEnvC scope cl C' X.env) fp) ifs (RT C W0 tt))
    (he : ∀ (s : Shared) (H : Hp) (C' : Addr) (cl : List (Str × Addr)) (fp : List Addr), Fx R C (X.blk s H scope (compEnvC scope cl C' X.env) fp) W0 → PE (X.blk s H scope (compEnvC scope cl C' X.env) fp) e (tTup (tCons (tVar j) (tCons (tOp rIxD (tVar i) (tVar j)) tNil))))
    (hs : ∀ x, foldedSetIterable iter X.env x = pure x := by exact fun _ => rfl) :
    PE X (.ListComp e [⟨tg, iter, ifs, 0⟩] scope pos) (RP C W i (compP i j tt (own.map (·.2)))) :=
  (pe_lc F.calm F.nd hi (blkOk_by ok) (fun s H C' cl fp => hg s H C' cl fp F.blk) (fun s H C' cl fp => ht s H C' cl fp F.blk) (fun s H C' cl fp => he s H C' cl fp F.blk) hs).imp fun _ _ _ => rp_comp X.K
theorem pp_item (i j : Nat) {x k : Str} {kt} {pk px pk2 pt ps : Pos} (F : Fx R C X W) (hNj : X.N[j]? = some k := by rfl) (hvj : Vis X.env.scope k := by first | exact Or.inl rfl | exact Or.inr (Or.inl rfl) | exact Or.inr (Or.inr rfl)) (hdj : (k == ("__debug__" : Str)) = false := by decide)
    (hcdj : (k == ("__classdict__" : Str)) = false := by decide) (hNi : X.N[i]? = some x := by rfl) (hvi : Vis X.env.scope x := by first | exact Or.inl rfl | exact Or.inr (Or.inl rfl) | exact Or.inr (Or.inr rfl)) (hdi : (x == ("__debug__" : Str)) = false := by decide)
    (hcdi : (x == ("__classdict__" : Str)) = false := by decide) (h1 : starEach [.Name k pk, .Subscript (.Name x px) (.Name k pk2) ps] X.env = (false, eval (.Name k pk) X.env) :: starEach [.Subscript (.Name x px) (.Name k pk2) ps] X.env := by rfl)
    (h2 : starEach [.Subscript (.Name x px) (.Name k pk2) ps] X.env = (false, eval (.Subscript (.Name x px) (.Name k pk2) ps) X.env) :: starEach [] X.env := by rfl) (h3 : PlainIx (.Name k pk2) := by exact fun _ _ => rfl) :
    PE X (.Tuple [.Name k pk, .Subscript (.Name x px) (.Name k pk2) ps] kt pt) (tTup (tCons (tVar j) (tCons (tOp rIxD (tVar i) (tVar j)) tNil))) :=
  pe_tup (pa_cons (pv j hNj hvj hdj hcdj) (pa_cons (pe_ix (ix_dict (by have := F.hu; omega)) (pv i hNi hvi hdi hcdi) (pv j hNj hvj hdj hcdj) h3) pa_nil h2) h1)
/-- under the dict's lock -/
def lockP (i : Nat) (f : Env → Option (List Bool)) : Env → Option (List Bool) := fun ρ => match ρ[i]? with
  | some (some (_, .dK ks ds)) => f ((unlkE ρ).set i (some (.lk, .dK ks ds)))
  | _ => none
theorem pp_lock (i : Nat) {f : Env → Option (List Bool)} (h : PE X e (RP C W i f)) : PE X e (RP C W i (lockP i f)) :=
  ((pe_lock h).or h).imp fun σ H Q ⟨ρ, P, E, o, ks, ds, bs, ei, ef, hQ⟩ => by
    unfold lockP at ef
    rw [ei] at ef
    dsimp only at ef
    obtain ⟨v, M, ev, r, _⟩ := E.at_ i o _ ei
    obtain ⟨a, u, rfl, hu, hr, am⟩ := dict_rd r rfl
    have hl : i < (unlkE ρ).length := by rw [unlkE_len]; exact (List.getElem?_eq_some_iff.mp ei).1
    rcases id hr with h0 | ⟨od, h0⟩
    · refine .inl ⟨a, u, h0, (by cases u <;> first | trivial | cases hu), fun od => ⟨_, _, E.enter (od := od) ei ev r am hu hr upd_same upd_back (fun od' z => by rw [h0] at z; cases z), .lk, ks, ds, bs, List.getElem?_set_self hl, ef, fun v1 H1 s1 pa => ?_⟩⟩
      have q1 : H1 a = some (.frz od u) := s1 _ _ upd_same
      have sm : Same H (upd H1 a u) := fun b w e => by
        by_cases hb : b = a
        · subst hb; rw [upd_same, ← e]; exact h0.symm
        · rw [upd_ne hb]; exact s1 _ _ (by rw [upd_ne hb]; exact e)
      refine ⟨q1, hQ v1 _ sm ?_⟩
      obtain ⟨l, ps, b, kvs, rfl, el, eb, rd, pr⟩ := pa
      rw [ev] at eb
      cases eb
      have hu2 : u = .dK kvs := by
        rcases rd with q | ⟨od', q⟩
        · rw [q1] at q; cases q
        · rw [q1] at q; cases q; rfl
      refine ⟨l, ps, a, kvs, rfl, ?_, ev, .inl (by rw [upd_same, hu2]), Paired.setT q1 (fun _ z => by cases z) pr⟩
      rw [upd_ne fun z => by rw [z, q1] at el; cases el]
      exact el
    · exact .inr ⟨_, _, E.enter (od := od) ei ev r am hu hr h0 (fun _ _ => rfl) (fun od' z => by rw [h0] at z; cases z; rfl), .lk, ks, ds, bs, List.getElem?_set_self hl, ef, fun v1 H1 s1 pa => hQ v1 H1 s1 pa⟩
def Ow.ls : Ow → Bool
  | .loc => true
  | .sh => true
  | _ => false
/-- slot i keeps some of its items -/
def xRestr (i : Nat) (f : Env → Option (List Bool)) : XS := fun ρ => match ρ[i]? with
  | some (some (o, .dK ks ds)) => match f ρ with
    | some bs => if ks.Nodup ∧ o.ls = true then .nx (ρ.set i (some (o, .dK (msk bs ks) (msk bs ds)))) else .bad
    | none => .bad
  | _ => .bad
theorem rep_msk {H : Hp} : ∀ (bs : List Bool) {ds : List D} {vs : List V} {M : List Addr}, RepL C H ds vs M → ∃ N, RepL C H (msk bs ds) (msk bs vs) N ∧ N.Sublist M
  | [], ds, vs, M, _ => ⟨[], by rw [msk_nil, msk_nil]; exact ⟨rfl, rfl⟩, List.nil_sublist M⟩
  | b :: bs, [], vs, M, r => by
    obtain ⟨rfl, rfl⟩ := r
    cases b <;> exact ⟨[], ⟨rfl, rfl⟩, List.nil_sublist _⟩
  | true :: bs, d :: ds, vs, M, r => by
    obtain ⟨v, w, M1, M2, rfl, r1, r2, rfl⟩ := r
    obtain ⟨N, q, s⟩ := rep_msk bs r2
    exact ⟨M1 ++ N, ⟨v, msk bs w, M1, N, rfl, r1, q, rfl⟩, List.Sublist.append_left s M1⟩
  | false :: bs, d :: ds, vs, M, r => by
    obtain ⟨v, w, M1, M2, rfl, r1, r2, rfl⟩ := r
    obtain ⟨N, q, s⟩ := rep_msk bs r2
    exact ⟨N, q, s.trans (List.sublist_append_right _ _)⟩
theorem Paired.toT {K : PySem.W.Frag} {H : Hp} : ∀ {ps : List Addr} {acc : List (Key × V)}, Paired (fun p (kv : Key × V) => H p = some (.tup [kV kv.1, kv.2])) ps acc → Paired (fun p (kv : Key × V) => SqT K H p [kV kv.1, kv.2]) ps acc
  | _, _, .nil => .nil
  | _, _, .cons h r => .cons (.inl (.inl h)) (Paired.toT r)
theorem xs_restr {i : Nat} {x : Str} {f : Env → Option (List Bool)} {p2 : Pos} (F : Fx R C X W) (hi : X.N[i]? = some x) (hx : Loc X.env.scope x) (hg : Gl X "dict") (hm : X.mg "dict" = none) (ha : PE X e (RP C W i f))
    (hs : swapsWith (.Call (.Name "dict" p) [e] [] p2) (some (.Name x pos')) pos.line X.env = pure false := by rfl) (hf : X.fn x = true ∨ X.env.scope.names.lookup x = some .local := by first | exact .inl rfl | exact .inr rfl | assumption)
    (he : starEach [e] X.env = (false, eval e X.env) :: starEach [] X.env := by rfl) (hpl : (backTo p2 (starEach [] X.env)).any (·.1) = false := by rfl) :
    PS X (.Assign [.Name x pos'] (.Call (.Name "dict" p) [e] [] p2) pos) (RS C W (tX (xRestr i f))) :=
  (ps_set F.nd hi hx (pe_callTy (call_dictP F.calm) hg hm rfl (pa_cons ha pa_nil he) (by decide) (by decide) he hpl) hs hf).imp fun DE σ H h => by
    obtain ⟨ρ, P, DD, E, I, h⟩ := h
    unfold tX xRestr at h
    cases ei : ρ[i]? with
    | none => rw [ei] at h; exact h.elim
    | some q =>
      cases q with
      | none => rw [ei] at h; exact h.elim
      | some q =>
        obtain ⟨o, d⟩ := q
        rw [ei] at h
        cases d <;> first | exact h.elim | skip
        rename_i ks ds
        dsimp only at h
        cases ef : f ρ with
        | none => rw [ef] at h; exact h.elim
        | some bs =>
          rw [ef] at h
          dsimp only at h
          by_cases hc : ks.Nodup ∧ o.ls = true
          · rw [if_pos hc] at h
            obtain ⟨knd, ho⟩ := hc
            have ho : o = .loc ∨ o = .sh := by cases o <;> first | exact .inl rfl | exact .inr rfl | cases ho
            refine ⟨ρ, P, E, o, ks, ds, bs, ei, ef, fun v H1 s1 pa => ?_⟩
            obtain ⟨l, ps, b, kvs, rfl, el, eb, rd, pr⟩ := pa
            have E1 := E.same s1
            obtain ⟨v', M, e1, r, own, lo, _⟩ := E1.at_ i o _ ei
            rw [eb] at e1; cases e1
            obtain ⟨b', kvs', M', e2, rd', hk, hz, rl, rfl⟩ := r
            cases e2
            have ekv : kvs' = kvs := Rd.uniqK rd' rd
            subst ekv
            refine ⟨l, ps, msk bs kvs', rfl, .inl (.inl el), Paired.toT pr, fun q hq => ?_⟩
            have kn2 : ((msk bs kvs').map (·.1)).Nodup := by
              rw [← msk_map, ← hk]
              exact knd.sublist (msk_sub bs ks)
            have em : mergeK [] (msk bs kvs') = msk bs kvs' := merge_nodup _ [] (by rw [List.nil_append]; exact kn2)
            rw [em]
            obtain ⟨N, rN, sN⟩ := rep_msk bs rl
            have s2 : Same H1 (upd H1 q (.dK (msk bs kvs'))) := fun a u ea => by rw [upd_ne (ne_of_none ea hq)]; exact ea
            have qN : q ∉ N := fun m => by
              obtain ⟨u, hu⟩ := rN.dom q m
              rw [hq] at hu; cases hu
            have E2 := E1.same s2
            have E3 : EnvOk C P (upd H1 q (.dK (msk bs kvs'))) σ (ρ.set i none) := E2.weak (by rw [List.length_set]; exact E2.len) fun l o' d' el => by
              rcases set_get el with ⟨_, e, _⟩ | ⟨hl, el⟩
              · cases e
              · exact ⟨o', el, .inl rfl, rfl⟩
            have hil : i < ρ.length := (List.getElem?_eq_some_iff.mp ei).1
            have rD : Rep C (upd H1 q (.dK (msk bs kvs'))) (.dK (msk bs ks) (msk bs ds)) (.ref q) (q :: N) := by
              refine ⟨q, msk bs kvs', N, rfl, .inl upd_same, by rw [hk, msk_map], Nat.le_trans (msk_sub bs ds).length_le hz, ?_, rfl⟩
              have := rN.same s2
              rw [msk_map] at this
              exact this
            have fin : ∀ (hcn : Cnd C P (upd H1 q (.dK (msk bs kvs'))) σ (ρ.set i none) o (q :: N)), DE.nx (σ.set i (some (.ref q))) (upd H1 q (.dK (msk bs kvs'))) := fun hcn => by
              have := Cnd.setOk E3 hcn rD (by rw [List.length_set]; exact hil)
              rw [List.set_set] at this
              exact I.nx _ _ _ this h
            -- a node of another slot is none of these
            have far : ∀ (l : Nat) (o' : Ow) (d' : D) (w : V) (N' : List Addr), l ≠ i → ρ[l]? = some (some (o', d')) → σ[l]? = some (some w) → Rep C (upd H1 q (.dK (msk bs kvs'))) d' w N' → Rep C H1 d' w N' ∧ q ∉ N' := fun l o' d' w N' hl el sl rl' => by
              obtain ⟨w', N0, e', r0, _⟩ := E1.at_ l o' d' el
              rw [sl] at e'; cases e'
              have rb := r0.back s2 rl'
              exact ⟨rb, fun m => by
                obtain ⟨u, hu⟩ := rb.dom q m
                rw [hq] at hu; cases hu⟩
            refine fin ?_
            rcases ho with rfl | rfl
            · obtain ⟨q1, q2, q3, q4⟩ := own rfl
              refine ⟨List.nodup_cons.mpr ⟨qN, (List.nodup_cons.mp q1).2.sublist sN⟩, fun a m => ?_, fun l o' d' w N' el sl rl' a m => ?_, fun pp hp N' rp a m => ?_⟩
              · rcases List.mem_cons.mp m with rfl | m
                · exact ⟨by rw [upd_same]; trivial, E1.keptd a hq⟩
                · have mM := List.mem_cons_of_mem b (sN.subset m)
                  exact ⟨mut_same s2 (q2 a mM), lo rfl a mM⟩
              · rcases set_get el with ⟨_, e, _⟩ | ⟨hl, el⟩
                · cases e
                · obtain ⟨rb, nq⟩ := far l o' d' w N' hl el sl rl'
                  rcases List.mem_cons.mp m with rfl | m
                  · exact nq
                  · exact q3 l o' d' w N' hl el sl rb a (List.mem_cons_of_mem b (sN.subset m))
              · obtain ⟨N0, r0⟩ := E1.prot pp hp
                have rb := r0.back s2 rp
                rcases List.mem_cons.mp m with rfl | m
                · exact E.newApartP (M := [a]) (fun c mc => by rw [List.mem_singleton] at mc; rw [mc]; exact s1.free hq) (s1.trans s2) pp hp N' rp a (by simp)
                · exact q4 pp hp N' rb a (List.mem_cons_of_mem b (sN.subset m))
            · intro l o' d' w N' el ow sl rl' a m
              rcases set_get el with ⟨_, e, _⟩ | ⟨hl, el⟩
              · cases e
              · obtain ⟨rb, nq⟩ := far l o' d' w N' hl el sl rl'
                rcases List.mem_cons.mp m with rfl | m
                · exact nq
                · obtain ⟨w', N0, e', r0, own0, _⟩ := E1.at_ l o' d' el
                  rw [sl] at e'; cases e'
                  rw [r0.uniq rb] at own0
                  exact fun na => (own0 ow).2.2.1 i .sh _ _ _ (Ne.symm hl) ei eb ⟨b, kvs', M', rfl, rd', hk, hz, rl, rfl⟩ a na (List.mem_cons_of_mem b (sN.subset m))
          · rw [if_neg hc] at h; exact h.elim
end
end DL
/-! DL35: try .. except X .. except Y. -/
namespace DL
open PySem L2
/-- which clause takes which exception -/
abbrev Tab := List (Str × Str × Bool)
def tabF (tab : Tab) (c c' : Str) : Option Bool := (tab.find? fun p => decide (p.1 = c) && decide (p.2.1 = c')).map (·.2.2)
def TabOk (K : PySem.W.Frag) (cls : Str → Addr) (tab : Tab) : Prop := ∀ p ∈ tab, PySem.W.exmOne K (.ref (cls p.1)) (.ref (cls p.2.1)) = some p.2.2
theorem tab_nil {K : PySem.W.Frag} {cls : Str → Addr} : TabOk K cls [] := fun _ m => nomatch m
theorem tab_cons {K : PySem.W.Frag} {cls : Str → Addr} {c c' : Str} {b : Bool} {tab : Tab} (h : PySem.W.exmOne K (.ref (cls c)) (.ref (cls c')) = some b) (r : TabOk K cls tab) : TabOk K cls ((c, c', b) :: tab) := fun p m => by
  rcases List.mem_cons.mp m with rfl | m
  · exact h
  · exact r p m
theorem tabF_ok {K : PySem.W.Frag} {cls : Str → Addr} {tab : Tab} (T : TabOk K cls tab) {c c' : Str} {b : Bool} (h : tabF tab c c' = some b) : PySem.W.exmOne K (.ref (cls c)) (.ref (cls c')) = some b := by
  unfold tabF at h
  obtain ⟨p, hp, rfl⟩ := Option.map_eq_some_iff.mp h
  have m := List.mem_of_find?_eq_some hp
  have q := List.find?_some hp
  rw [Bool.and_eq_true, decide_eq_true_eq, decide_eq_true_eq] at q
  have := T p m
  rw [q.1, q.2] at this
  exact this
def xHandle (tab : Tab) (c : Str) : List (Str × XS) → XS
  | [] => .ex c
  | p :: hs => fun ρ => match tabF tab c p.1 with
    | some true => p.2 ρ
    | some false => xHandle tab c hs ρ
    | none => .bad
def xTry (tab : Tab) (x : XS) (hs : List (Str × XS)) : XS := fun ρ => match x ρ with
  | .ex c ρ' => xHandle tab c hs ρ'
  | o => o
section
variable {R : Nat} {C : Ctx} {X : Cx} {W : WX} {P : List Pt} {pos pos' p : Pos}
inductive HdsD (C : Ctx) (W : WX) (X : Cx) : List ExceptHandler → List (Str × XS) → Prop
  | nil : HdsD C W X [] []
  | cons {c : Str} {x : XS} {b₀ : Stmt} {suite : List Stmt} {np pos' : Pos} {hds : List ExceptHandler} {hs : List (Str × XS)} (hc : Names X c (.ref (C.cls c)))
      (hsu : ∀ (a : Addr) (pn : List (Addr × Obj)), PSs (X.suite a pn) (b₀ :: suite) (RS C W (tX x))) (r : HdsD C W X hds hs) : HdsD C W X (.ExceptHandler (some (.Name c np)) none (b₀ :: suite) pos' :: hds) ((c, x) :: hs)
theorem HdsD.to {hds : List ExceptHandler} {hs : List (Str × XS)} (h : HdsD C W X hds hs) : HdsOk X hds (hs.map fun p => ((.ref (C.cls p.1) : Value), fun _ _ _ => RS C W (tX p.2))) := by
  induction h with
  | nil => exact .nil
  | cons hc hsu _ ih => exact .cons hc (fun a oe cls d pn _ _ => hsu a _) ih
theorem handle_to {tab : Tab} (T : TabOk X.K C.cls tab) {DD : EndsD} {D : Ends} (I : Imp C P W DD D) {c : Str} : ∀ (hs : List (Str × XS)) (σ : St) (H : Hp) (ρ : Env), EnvOk C P H σ ρ → (xHandle tab c hs ρ).ends DD →
    wMany X.K W D (hs.map fun p => ((.ref (C.cls p.1) : Value), fun _ _ _ => RS C W (tX p.2))) (.ref (C.cls c)) none σ H
  | [], σ, H, ρ, E, h => I.ex σ H ρ c E h
  | q :: hs, σ, H, ρ, E, h => by
    unfold xHandle at h
    cases e : tabF tab c q.1 with
    | none => rw [e] at h; exact h.elim
    | some b =>
      rw [e] at h
      refine ⟨b, tabF_ok T e, fun hb a _ => ?_, fun hb => ?_⟩
      · subst hb; exact ⟨ρ, P, DD, E, I, h⟩
      · subst hb; exact handle_to T I hs σ H ρ E h
theorem xs_try {tab : Tab} {x : XS} {body : List Stmt} {h₀ : ExceptHandler} {hds : List ExceptHandler} {hs : List (Str × XS)} (F : Fx R C X W) (T : TabOk X.K C.cls tab) (hst : X.stack = X.env :: X.outer) (hf : X.env.frame = some X.env.locals)
    (hb : ∀ (W : WX) (pn : List (Addr × Obj)) (xe : Value → Shared → Prop), Fx R C (X.tr pn xe) W → PSs (X.tr pn xe) body (RS C W (tX x))) (hh : HdsD C W X (h₀ :: hds) hs) : PS X (.Try body (h₀ :: hds) [] [] pos) (RS C W (tX (xTry tab x hs))) :=
  (ps_try_many (tb := fun W => RS C W (tX x)) hst hf F.tk (fun W pn xe tk ps => hb W pn xe ⟨F.hK, tk, ps, F.calm, F.hu, F.nd, F.room⟩) hh.to).imp fun D σ H h => by
    obtain ⟨ρ, P, DD, E, I, h⟩ := h
    refine ⟨ρ, P, { DD with ex := fun c ρ' => (xHandle tab c hs ρ').ends DD }, E, ⟨I.nx, I.rt, I.bk, I.ct, fun σ H ρ c E q => handle_to T I hs σ H ρ E q⟩, ?_⟩
    unfold tX xTry at h
    unfold tX
    cases ex : x ρ <;> rw [ex] at h <;> exact h
/-- a suite's own: name = 'text' -/
theorem su_setS {i : Nat} {x s : Str} {j} (nd : X.N.Nodup) (hi : X.N[i]? = some x) (hx : Loc X.env.scope x) (hs : swapsWith (.Constant (.str s) j p) (some (.Name x pos')) pos.line X.env = pure false := by rfl) (hf : X.fn x = true ∨ X.env.scope.names.lookup x = some .local := by first | exact .inl rfl | exact .inr rfl | assumption) :
    PSs X [.Assign [.Name x pos'] (.Constant (.str s) j p) pos] (RS C W (tX (xSet i (dC (.str s))))) :=
  pss_one ((ps_set nd hi hx (pd_str (C := C) (W := W)) hs hf).imp fun D σ H h => by
    obtain ⟨ρ, P, DD, E, I, h⟩ := h
    refine ⟨ρ, P, E, fun v H' vo => ?_⟩
    unfold tX xSet xVal dC at h
    dsimp only at h
    by_cases hl : i < ρ.length
    · rw [if_pos hl] at h
      exact I.nx _ H' _ (assign_own E vo hl (.inl rfl)) h
    · rw [if_neg hl] at h; exact h.elim)
end
end DL
/-! DL36: what is never come to. -/
namespace DL
open PySem L2
def xBad : XS := fun _ => .bad
section
variable {C : Ctx} {X : Cx} {W : WX} {st : Stmt}
theorem xs_never : PS X st (RS C W (tX xBad)) := ds_never.imp (rs_to fun _ _ h => h.elim)
end
end DL
/-! DT1: typed readings of the mirrors: what a mirror computes, as a plain Lean function over plain types. -/
namespace DL
open PySem L2
/-- a type's trees -/
structure Em (α : Type) where
  e : α → D
  im : Bool
  him : im = true → ∀ a, imm (e a) = true
/-- what is known of a slot: whose it is -/
inductive Lo where
  | any | own | sh | io
def Lo.of : Lo → Ow → Prop
  | .any, _ => True
  | .own, o => o = .loc
  | .sh, o => o = .sh
  | .io, o => o = .io
abbrev Lit := List (Option (Lo × D))
/-- the names hold at least this -/
inductive Le : Lit → Env → Prop
  | nil : Le [] []
  | no {L : Lit} {ρ : Env} {s} : Le L ρ → Le (none :: L) (s :: ρ)
  | yes {L : Lit} {ρ : Env} {l : Lo} {o : Ow} {d : D} : l.of o → Le L ρ → Le (some (l, d) :: L) (some (o, d) :: ρ)
def Lit.at : Lit → Nat → Option (Lo × D)
  | [], _ => none
  | s :: _, 0 => s
  | _ :: L, i + 1 => Lit.at L i
def Lit.put : Lit → Nat → Option (Lo × D) → Lit
  | [], _, _ => []
  | _ :: L, 0, x => x :: L
  | s :: L, i + 1, x => s :: Lit.put L i x
def Lit.wipe (L : Lit) : List Nat → Lit
  | [] => L
  | i :: is => (Lit.wipe L is).put i none
def Lit.fz : Lit → Lit
  | [] => []
  | none :: L => none :: Lit.fz L
  | some (_, d) :: L => some (.sh, d) :: Lit.fz L
theorem Le.len {L : Lit} {ρ : Env} (h : Le L ρ) : L.length = ρ.length := by
  induction h with
  | nil => rfl
  | no _ ih => simp [ih]
  | yes _ _ ih => simp [ih]
theorem Le.get {L : Lit} {ρ : Env} (h : Le L ρ) : ∀ {i : Nat} {l : Lo} {d : D}, L.at i = some (l, d) → ∃ o, l.of o ∧ ρ[i]? = some (some (o, d)) := by
  induction h with
  | nil => intro i l d e; cases e
  | no _ ih =>
    intro i l d e
    cases i with
    | zero => cases e
    | succ i => exact ih e
  | yes ho _ ih =>
    intro i l d e
    cases i with
    | zero => cases e; exact ⟨_, ho, rfl⟩
    | succ i => exact ih e
theorem Le.put {L : Lit} {ρ : Env} (h : Le L ρ) {l : Lo} {o : Ow} {d : D} (ho : l.of o) : ∀ (i : Nat), Le (L.put i (some (l, d))) (ρ.set i (some (o, d))) := by
  induction h with
  | nil => exact fun _ => .nil
  | no h ih =>
    intro i
    cases i with
    | zero => exact .yes ho h
    | succ i => exact .no (ih i)
  | yes q h ih =>
    intro i
    cases i with
    | zero => exact .yes ho h
    | succ i => exact .yes q (ih i)
theorem Le.off {L : Lit} {ρ : Env} (h : Le L ρ) {s : Option (Ow × D)} : ∀ (i : Nat), Le (L.put i none) (ρ.set i s) := by
  induction h with
  | nil => exact fun _ => .nil
  | no h ih =>
    intro i
    cases i with
    | zero => exact .no h
    | succ i => exact .no (ih i)
  | yes q h ih =>
    intro i
    cases i with
    | zero => exact .no h
    | succ i => exact .yes q (ih i)
theorem Le.fz {L : Lit} {ρ : Env} (h : Le L ρ) : Le L.fz (fzE ρ) := by
  induction h with
  | nil => exact .nil
  | @no L ρ s h ih =>
    show Le (Option.none :: L.fz) (_ :: fzE ρ)
    exact .no ih
  | yes q h ih => exact .yes rfl ih
theorem Le.wipe {L : Lit} {ρ : Env} (h : Le L ρ) : ∀ (is : List Nat), Le (L.wipe is) (wipeE ρ is)
  | [] => h
  | i :: is => (Le.wipe h is).off i
theorem Lit.put_len (L : Lit) (i : Nat) (x : Option (Lo × D)) : (L.put i x).length = L.length := by
  induction L generalizing i with
  | nil => rfl
  | cons s L ih => cases i with
    | zero => rfl
    | succ i => simp [Lit.put, ih]
/-- less is told -/
def Lo.le : Lo → Lo → Bool
  | .any, _ => true
  | .own, .own => true
  | .sh, .sh => true
  | .io, .io => true
  | _, _ => false
theorem Lo.le_of {a b : Lo} {o : Ow} (h : Lo.le a b = true) (k : b.of o) : a.of o := by
  cases a <;> cases b <;> first | (cases h; done) | exact trivial | exact k
inductive Lt : Lit → Lit → Prop
  | nil : Lt [] []
  | no {A B : Lit} {s} : Lt A B → Lt (none :: A) (s :: B)
  | yes {A B : Lit} {a b : Lo} {d : D} : Lo.le a b = true → Lt A B → Lt (some (a, d) :: A) (some (b, d) :: B)
theorem Lt.to {A B : Lit} (h : Lt A B) : ∀ {ρ : Env}, Le B ρ → Le A ρ := by
  induction h with
  | nil => exact fun h => h
  | no _ ih =>
    intro ρ h
    cases h with
    | no h => exact .no (ih h)
    | yes _ h => exact .no (ih h)
  | yes q _ ih =>
    intro ρ h
    cases h with
    | yes k h => exact .yes (Lo.le_of q k) (ih h)
/-- whose a value is -/
inductive Fk where
  | fr | sf | mv | any
def Fk.ok : Fk → Fl → Prop
  | .fr, f => f = .fr
  | .sf, f => f = .fr ∨ f = .sf
  | .mv, f => f = .fr ∨ f = .mv
  | .any, _ => True
theorem Fk.fr_ok : ∀ k : Fk, k.ok .fr
  | .fr => rfl
  | .sf => .inl rfl
  | .mv => .inl rfl
  | .any => trivial
/-- an expression's typed reading -/
def TM {α : Type} (L : Lit) (f : Env → Res FD) (k : Fk) (m : Em α) (r : Res α) : Prop := ∀ ρ, Le L ρ → match r with
  | .ok a => ∃ fl, f ρ = .ok (fl, m.e a) ∧ k.ok fl
  | .ex c => f ρ = .ex c
  | .bad => True
/-- a test's -/
def TT (L : Lit) (f : Env → Res Bool) (r : Res Bool) : Prop := ∀ ρ, Le L ρ → match r with
  | .ok a => f ρ = .ok a
  | .ex c => f ρ = .ex c
  | .bad => True
/-- the arguments' -/
def TA {α : Type} (L : Lit) (f : Env → Res AD) (g : α → List D) (r : Res α) : Prop := ∀ ρ, Le L ρ → match r with
  | .ok a => ∃ b, f ρ = .ok (b, g a)
  | .ex c => f ρ = .ex c
  | .bad => True
/-- of what is walked; lp: by a loop -/
def TI {α : Type} (lp : Bool) (L : Lit) (f : Env → Res ID) (m : Em α) (r : Res (List α)) : Prop := ∀ ρ, Le L ρ → match r with
  | .ok xs => ∃ fs, f ρ = .ok (fs, xs.map m.e) ∧ szOk (fs, xs.map m.e) = true ∧ (lp = true → fs.all flOk = true)
  | .ex c => f ρ = .ex c
  | .bad => True
section
variable {α β γ δ : Type} {L : Lit} {f g : Env → Res FD} {k k' : Fk} {m : Em α} {n : Em β} {q : Em γ} {r : Res α} {s : Res β} {a : α} {b : β}
theorem TM.weak (h : TM L f .fr m r) : TM L f k m r := fun ρ le => by
  have := h ρ le
  cases r with
  | ok a =>
    obtain ⟨fl, e, x⟩ := this
    cases x
    exact ⟨_, e, k.fr_ok⟩
  | ex c => exact this
  | bad => trivial
theorem TM.any (h : TM L f k m r) : TM L f .any m r := fun ρ le => by
  have := h ρ le
  cases r with
  | ok a =>
    obtain ⟨fl, e, x⟩ := this
    exact ⟨_, e, trivial⟩
  | ex c => exact this
  | bad => trivial
/-! names -/
theorem tm_own (i : Nat) (h : L.at i = some (.own, m.e a)) : TM L (dVar i) .mv m (.ok a) := fun ρ le => by
  obtain ⟨o, ho, e⟩ := le.get h
  cases ho
  unfold dVar
  rw [e]
  dsimp only
  unfold up
  by_cases c : imm (m.e a) = true
  · exact ⟨.fr, by rw [if_pos c], .inl rfl⟩
  · exact ⟨.mv, by rw [if_neg c], .inr rfl⟩
theorem tm_sh (i : Nat) (h : L.at i = some (.sh, m.e a)) : TM L (dVar i) .sf m (.ok a) := fun ρ le => by
  obtain ⟨o, ho, e⟩ := le.get h
  cases ho
  unfold dVar
  rw [e]
  dsimp only
  unfold up
  by_cases c : imm (m.e a) = true
  · exact ⟨.fr, by rw [if_pos c], .inl rfl⟩
  · exact ⟨.sf, by rw [if_neg c], .inr rfl⟩
theorem tm_var (i : Nat) {l : Lo} (h : L.at i = some (l, m.e a)) : TM L (dVar i) .any m (.ok a) := fun ρ le => by
  obtain ⟨o, ho, e⟩ := le.get h
  unfold dVar
  rw [e]
  cases o <;> exact ⟨_, rfl, trivial⟩
theorem tm_im (i : Nat) {l : Lo} (h : L.at i = some (l, m.e a)) (hm : m.im = true := by rfl) : TM L (dVar i) .fr m (.ok a) := fun ρ le => by
  obtain ⟨o, ho, e⟩ := le.get h
  have c := m.him hm a
  unfold dVar
  rw [e]
  dsimp only
  unfold up
  cases o <;> exact ⟨.fr, by dsimp only; rw [if_pos c], rfl⟩
theorem tm_c {d : D} (h : m.e a = d := by rfl) : TM L (dC d) .fr m (.ok a) := fun ρ le => by
  subst h
  exact ⟨.fr, rfl, rfl⟩
/-! one, two values -/
theorem tm_bind1 {j : FD → Res FD} {o : α → Res β} (hj : ∀ fl a, k.ok fl → match o a with
    | .ok b => ∃ fl2, j (fl, m.e a) = .ok (fl2, n.e b) ∧ k'.ok fl2
    | .ex c => j (fl, m.e a) = .ex c
    | .bad => True) (h : TM L f k m r) : TM L (bind1 f j) k' n (r.bind o) := fun ρ le => by
  have h1 := h ρ le
  unfold bind1
  cases r with
  | bad => trivial
  | ex c => dsimp only at h1 ⊢; rw [h1]; rfl
  | ok a =>
    obtain ⟨fl, e, x⟩ := h1
    rw [e]
    exact hj fl a x
/-- what an operator does with two typed values -/
def Op (k1 k2 : Fk) (m : Em α) (n : Em β) (j : FD → FD → Res FD) (k' : Fk) (q : Em γ) (o : α → β → Res γ) : Prop := ∀ fl fl' a b, k1.ok fl → k2.ok fl' → match o a b with
  | .ok c => ∃ fl2, j (fl, m.e a) (fl', n.e b) = .ok (fl2, q.e c) ∧ k'.ok fl2
  | .ex c => j (fl, m.e a) (fl', n.e b) = .ex c
  | .bad => True
theorem tm_bind2 {j : FD → FD → Res FD} {o : α → β → Res γ} {k1 k2 : Fk} (hj : Op k1 k2 m n j k' q o) (h1 : TM L f k1 m r) (h2 : TM L g k2 n s) : TM L (bind2 f g j) k' q (r.bind fun a => s.bind fun b => o a b) := fun ρ le => by
  have h1 := h1 ρ le
  have h2 := h2 ρ le
  unfold bind2
  cases r with
  | bad => trivial
  | ex c => dsimp only at h1 ⊢; rw [h1]; rfl
  | ok a =>
    obtain ⟨fl, e, x⟩ := h1
    rw [e]
    cases s with
    | bad => trivial
    | ex c => dsimp only at h2 ⊢; simp only [Res.ok_bind]; rw [h2]; rfl
    | ok b =>
      obtain ⟨fl', e', y⟩ := h2
      simp only [Res.ok_bind]
      rw [e']
      exact hj fl fl' a b x y
theorem tp_bind2 {j : FD → FD → Res FD} {o : α → β → Res γ} {k1 k2 : Fk} (hj : Op k1 k2 m n j k' q o) (h1 : TM L f k1 m (.ok a)) (h2 : TM L g k2 n (.ok b)) : TM L (bind2 f g j) k' q (o a b) := tm_bind2 hj h1 h2
theorem tm_bind2p {j : FD → FD → Res FD} {o : α → β → Res γ} {k1 k2 : Fk} {pre : D → Bool} (hj : Op k1 k2 m n j k' q o) (hp : ∀ a, pre (m.e a) = true) (h1 : TM L f k1 m r) (h2 : TM L g k2 n s) : TM L (bind2p f g pre j) k' q (r.bind fun a => s.bind fun b => o a b) := fun ρ le => by
  have h1 := h1 ρ le
  have h2 := h2 ρ le
  unfold bind2p
  cases r with
  | bad => trivial
  | ex c => dsimp only at h1 ⊢; rw [h1]; rfl
  | ok a =>
    obtain ⟨fl, e, x⟩ := h1
    rw [e]
    simp only [Res.ok_bind]
    rw [if_pos (hp a)]
    cases s with
    | bad => trivial
    | ex c => dsimp only at h2 ⊢; rw [h2]; rfl
    | ok b =>
      obtain ⟨fl', e', y⟩ := h2
      rw [e']
      exact hj fl fl' a b x y
theorem tp_bind2p {j : FD → FD → Res FD} {o : α → β → Res γ} {k1 k2 : Fk} {pre : D → Bool} (hj : Op k1 k2 m n j k' q o) (hp : ∀ a, pre (m.e a) = true) (h1 : TM L f k1 m (.ok a)) (h2 : TM L g k2 n (.ok b)) : TM L (bind2p f g pre j) k' q (o a b) := tm_bind2p hj hp h1 h2
/-! tests -/
/-- truth by type -/
def Tru (m : Em α) (t : α → Bool) : Prop := ∀ a, truD (m.e a) = some (t a)
def Tru1 (m : Em α) (t : α → Bool) : Prop := ∀ a, truD1 (m.e a) = some (t a)
theorem tt_tru {t : α → Bool} (ht : Tru m t) (h : TM L f k m r) : TT L (tru1 f) (r.bind fun a => .ok (t a)) := fun ρ le => by
  have h1 := h ρ le
  unfold tru1
  cases r with
  | bad => trivial
  | ex c => dsimp only at h1 ⊢; rw [h1]; rfl
  | ok a =>
    obtain ⟨fl, e, x⟩ := h1
    rw [e]
    simp only [Res.ok_bind, ht a]
theorem tq_tru {t : α → Bool} (ht : Tru m t) (h : TM L f k m (.ok a)) : TT L (tru1 f) (.ok (t a)) := tt_tru ht h
def emB : Em Bool := ⟨.bl, true, fun _ _ => rfl⟩
theorem tt_bl {r : Res Bool} (h : TM L f k emB r) : TT L (blOf f) r := fun ρ le => by
  have h1 := h ρ le
  unfold blOf
  cases r with
  | bad => trivial
  | ex c => dsimp only at h1 ⊢; rw [h1]; rfl
  | ok a =>
    obtain ⟨fl, e, x⟩ := h1
    rw [e]
    rfl
variable {t u : Env → Res Bool} {rb sb : Res Bool} {x y : Bool}
theorem tt_not (h : TT L t rb) : TT L (notT t) (rb.bind fun a => .ok (!a)) := fun ρ le => by
  have h1 := h ρ le
  unfold notT
  cases rb with
  | bad => trivial
  | ex c => dsimp only at h1 ⊢; rw [h1]; rfl
  | ok a => dsimp only at h1 ⊢; rw [h1]; rfl
theorem tq_not (h : TT L t (.ok x)) : TT L (notT t) (.ok (!x)) := tt_not h
theorem tt_and (h1 : TT L t rb) (h2 : TT L u sb) : TT L (andT t u) (rb.bind fun a => if a = true then sb else .ok false) := fun ρ le => by
  have h1 := h1 ρ le
  have h2 := h2 ρ le
  unfold andT
  cases rb with
  | bad => trivial
  | ex c => dsimp only at h1 ⊢; rw [h1]; rfl
  | ok a =>
    dsimp only at h1 ⊢
    rw [h1]
    cases a with
    | false => rfl
    | true =>
      simp only [Res.ok_bind, if_true]
      exact h2
theorem tq_and (h1 : TT L t (.ok x)) (h2 : TT L u (.ok y)) : TT L (andT t u) (.ok (x && y)) := by
  have h := tt_and h1 h2
  cases x <;> exact h
theorem tt_or (h1 : TT L t rb) (h2 : TT L u sb) : TT L (orT t u) (rb.bind fun a => if a = true then .ok true else sb) := fun ρ le => by
  have h1 := h1 ρ le
  have h2 := h2 ρ le
  unfold orT
  cases rb with
  | bad => trivial
  | ex c => dsimp only at h1 ⊢; rw [h1]; rfl
  | ok a =>
    dsimp only at h1 ⊢
    rw [h1]
    cases a with
    | true => rfl
    | false =>
      simp only [Res.ok_bind, Bool.false_eq_true, if_false]
      exact h2
theorem tq_or (h1 : TT L t (.ok x)) (h2 : TT L u (.ok y)) : TT L (orT t u) (.ok (x || y)) := by
  have h := tt_or h1 h2
  cases x <;> exact h
theorem tt_no : TT L noIf (.ok true) := fun ρ le => rfl
/-! values of tests -/
theorem tru1_bl (b : Bool) : truD1 (.bl b) = some b := rfl
theorem tm_andV {r : Res Bool} {s : Res Bool} (h1 : TM L f .fr emB r) (h2 : TM L g .fr emB s) : TM L (andV f g) .fr emB (r.bind fun a => if a = true then s else .ok false) := fun ρ le => by
  have h1 := h1 ρ le
  have h2 := h2 ρ le
  unfold andV
  cases r with
  | bad => trivial
  | ex c => dsimp only at h1 ⊢; rw [h1]; rfl
  | ok a =>
    obtain ⟨fl, e, rfl⟩ := h1
    rw [e]
    cases a with
    | false => exact ⟨.fr, rfl, rfl⟩
    | true =>
      simp only [Res.ok_bind, if_true]
      exact h2
theorem tp_andV (h1 : TM L f .fr emB (.ok x)) (h2 : TM L g .fr emB (.ok y)) : TM L (andV f g) .fr emB (.ok (x && y)) := by
  have h := tm_andV h1 h2
  cases x <;> exact h
theorem tm_orV {r : Res Bool} {s : Res Bool} (h1 : TM L f .fr emB r) (h2 : TM L g .fr emB s) : TM L (orV f g) .fr emB (r.bind fun a => if a = true then .ok true else s) := fun ρ le => by
  have h1 := h1 ρ le
  have h2 := h2 ρ le
  unfold orV
  cases r with
  | bad => trivial
  | ex c => dsimp only at h1 ⊢; rw [h1]; rfl
  | ok a =>
    obtain ⟨fl, e, rfl⟩ := h1
    rw [e]
    cases a with
    | true => exact ⟨.fr, rfl, rfl⟩
    | false =>
      simp only [Res.ok_bind, Bool.false_eq_true, if_false]
      exact h2
theorem tp_orV (h1 : TM L f .fr emB (.ok x)) (h2 : TM L g .fr emB (.ok y)) : TM L (orV f g) .fr emB (.ok (x || y)) := by
  have h := tm_orV h1 h2
  cases x <;> exact h
theorem tm_notV {t : α → Bool} (ht : Tru1 m t) (h : TM L f k m r) : TM L (notV f) .fr emB (r.bind fun a => .ok (!t a)) := fun ρ le => by
  have h1 := h ρ le
  unfold notV
  cases r with
  | bad => trivial
  | ex c => dsimp only at h1 ⊢; rw [h1]; rfl
  | ok a =>
    obtain ⟨fl, e, x⟩ := h1
    rw [e]
    simp only [Res.ok_bind, ht a]
    exact ⟨.fr, rfl, rfl⟩
theorem tp_notV {t : α → Bool} (ht : Tru1 m t) (h : TM L f k m (.ok a)) : TM L (notV f) .fr emB (.ok (!t a)) := tm_notV ht h
theorem tm_boolF (h : TT L t rb) : TM L (boolF t) .fr emB rb := fun ρ le => by
  have h1 := h ρ le
  unfold boolF
  cases rb with
  | bad => trivial
  | ex c => dsimp only at h1 ⊢; rw [h1]; rfl
  | ok a => dsimp only at h1 ⊢; rw [h1]; exact ⟨.fr, rfl, rfl⟩
theorem tm_ifV (hc : TT L t rb) (h1 : TM L f k m r) {r' : Res α} (h2 : TM L g k m r') : TM L (ifV t f g) k m (rb.bind fun a => if a = true then r else r') := fun ρ le => by
  have h0 := hc ρ le
  have h1 := h1 ρ le
  have h2 := h2 ρ le
  unfold ifV
  cases rb with
  | bad => trivial
  | ex c => dsimp only at h0 ⊢; rw [h0]; rfl
  | ok a =>
    dsimp only at h0 ⊢
    rw [h0]
    cases a with
    | true => simp only [Res.ok_bind, if_true]; exact h1
    | false => simp only [Res.ok_bind, Bool.false_eq_true, if_false]; exact h2
theorem tp_ifV (hc : TT L t (.ok x)) (h1 : TM L f k m (.ok a)) {a' : α} (h2 : TM L g k m (.ok a')) : TM L (ifV t f g) k m (.ok (if x = true then a else a')) := by
  have h := tm_ifV hc h1 h2
  cases x <;> exact h
/-! arguments, calls -/
def nilG : Unit → List D := fun _ => []
def consG (m : Em α) (g : β → List D) : α × β → List D := fun p => m.e p.1 :: g p.2
theorem ta_nil : TA L nilA nilG (.ok ()) := fun ρ le => ⟨true, rfl⟩
theorem ta_cons {fa : Env → Res AD} {G : β → List D} (h1 : TM L f k m r) (h2 : TA L fa G s) : TA L (consA f fa) (consG m G) (r.bind fun a => s.bind fun b => .ok (a, b)) := fun ρ le => by
  have h1 := h1 ρ le
  have h2 := h2 ρ le
  unfold consA
  cases r with
  | bad => trivial
  | ex c => dsimp only at h1 ⊢; rw [h1]; rfl
  | ok a =>
    obtain ⟨fl, e, x⟩ := h1
    rw [e]
    cases s with
    | bad => trivial
    | ex c => dsimp only at h2 ⊢; simp only [Res.ok_bind]; rw [h2]; rfl
    | ok b =>
      obtain ⟨z, e'⟩ := h2
      simp only [Res.ok_bind]
      rw [e']
      exact ⟨_, rfl⟩
theorem ta_p {fa : Env → Res AD} {G : β → List D} (h1 : TM L f k m (.ok a)) (h2 : TA L fa G (.ok b)) : TA L (consA f fa) (consG m G) (.ok (a, b)) := ta_cons h1 h2
/-- what a def or builtin does with typed arguments -/
def TD1 (F : List D → Res D) (G : α → List D) (q : Em γ) (T : α → Res γ) : Prop := ∀ a, match T a with
  | .ok c => F (G a) = .ok (q.e c)
  | .ex c => F (G a) = .ex c
  | .bad => True
theorem tm_call {F : List D → Res D} {fa : Env → Res AD} {G : α → List D} {T : α → Res γ} (hF : TD1 F G q T) (h : TA L fa G r) : TM L (callF F fa) .fr q (r.bind T) := fun ρ le => by
  have h1 := h ρ le
  unfold callF
  cases r with
  | bad => trivial
  | ex c => dsimp only at h1 ⊢; rw [h1]; rfl
  | ok a =>
    obtain ⟨z, e⟩ := h1
    rw [e]
    have hF := hF a
    simp only [Res.ok_bind]
    cases eT : T a with
    | bad => trivial
    | ex c => rw [eT] at hF; dsimp only at hF ⊢; rw [hF]
    | ok c => rw [eT] at hF; dsimp only at hF ⊢; rw [hF]; exact ⟨.fr, rfl, rfl⟩
theorem tp_call {F : List D → Res D} {fa : Env → Res AD} {G : α → List D} {T : α → Res γ} (hF : TD1 F G q T) (h : TA L fa G (.ok a)) : TM L (callF F fa) .fr q (T a) := tm_call hF h
/-! what is walked -/
/-- a list or a tuple of items -/
def Seq (m : Em α) (n : Em β) (g : α → List β) : Prop := ∀ a, m.e a = .lst ((g a).map n.e) ∨ m.e a = .tup ((g a).map n.e)
theorem ti_walk0 {lp : Bool} {g : α → List β} (hs : Seq m n g) (hf : ∀ fl, k.ok fl → lp = true → fl = .fr ∨ fl = .sf) (h : TM L f k m r) : TI lp L (walkI f) n (r.bind fun a => .ok (g a)) := fun ρ le => by
  have h1 := h ρ le
  unfold walkI
  cases r with
  | bad => trivial
  | ex c => dsimp only at h1 ⊢; rw [h1]; rfl
  | ok a =>
    obtain ⟨fl, e, x⟩ := h1
    rw [e]
    simp only [Res.ok_bind]
    refine ⟨[(fl, m.e a)], ?_, ?_, fun hl => ?_⟩
    · rcases hs a with q | q <;> rw [q]
    · unfold szOk
      rw [Bool.or_eq_true]
      right
      rcases hs a with q | q <;> simp [q, seqLen]
    · rcases hf fl x hl with rfl | rfl <;> rfl
theorem ti_walk {g : α → List β} (hs : Seq m n g) (h : TM L f k m r) : TI false L (walkI f) n (r.bind fun a => .ok (g a)) := ti_walk0 hs (fun _ _ z => nomatch z) h
theorem tj_walk {g : α → List β} (hs : Seq m n g) (h : TM L f k m (.ok a)) : TI false L (walkI f) n (.ok (g a)) := ti_walk hs h
theorem ti_walkL {g : α → List β} (hs : Seq m n g) (h : TM L f .sf m r) : TI true L (walkI f) n (r.bind fun a => .ok (g a)) := ti_walk0 (k := .sf) hs (fun _ z _ => z) h
theorem tj_walkL {g : α → List β} (hs : Seq m n g) (h : TM L f .sf m (.ok a)) : TI true L (walkI f) n (.ok (g a)) := ti_walkL hs h
end
end DL
/-! DT2: comprehensions, statements, defs by typed readings. -/
namespace DL
open PySem L2
/-- targets -/
def TG (t : Tg) (d : D) (L L' : Lit) : Prop := ∀ ρ, Le L ρ → ∃ ρ1, asg .sh t d ρ = some ρ1 ∧ Le L' ρ1
def TGs (ts : List Tg) (ds : List D) (L L' : Lit) : Prop := ∀ ρ, Le L ρ → ∃ ρ1, asgL .sh ts ds ρ = some ρ1 ∧ Le L' ρ1
theorem tg_nm {L : Lit} {i : Nat} {d : D} (h : decide (i < L.length) = true := by rfl) : TG (.nm i) d L (L.put i (some (.sh, d))) := fun ρ le => by
  have h := of_decide_eq_true h
  rw [le.len] at h
  exact ⟨_, by unfold asg; rw [if_pos h], le.put (show Lo.of .sh .sh from rfl) i⟩
theorem tgs_nil {L : Lit} : TGs [] [] L L := fun ρ le => ⟨ρ, rfl, le⟩
theorem tgs_cons {t : Tg} {ts : List Tg} {d : D} {ds : List D} {L L1 L2 : Lit} (h1 : TG t d L L1) (h2 : TGs ts ds L1 L2) : TGs (t :: ts) (d :: ds) L L2 := fun ρ le => by
  obtain ⟨ρ1, e1, l1⟩ := h1 ρ le
  obtain ⟨ρ2, e2, l2⟩ := h2 ρ1 l1
  exact ⟨ρ2, by unfold asgL; rw [e1]; exact e2, l2⟩
theorem tg_tp {ts : List Tg} {ds : List D} {L L' : Lit} (h : TGs ts ds L L') : TG (.tp ts) (.tup ds) L L' := fun ρ le => by
  obtain ⟨ρ1, e1, l1⟩ := h ρ le
  exact ⟨ρ1, by unfold asg; exact e1, l1⟩
/-- a comprehension -/
def compT {α β : Type} (t : α → Res Bool) (e : α → Res β) : List α → Res (List β)
  | [] => .ok []
  | x :: xs => match t x with
    | .ok true => match e x with
      | .ok y => (compT t e xs).bind fun ys => .ok (y :: ys)
      | _ => .bad
    | .ok false => compT t e xs
    | _ => .bad
def emL {α : Type} (m : Em α) : Em (List α) := ⟨fun xs => .lst (xs.map m.e), false, fun z => nomatch z⟩
def emT {α : Type} (m : Em α) : Em (List α) := ⟨fun xs => .tup (xs.map m.e), m.im, fun z xs => by
  show immL (xs.map m.e) = true
  induction xs with
  | nil => rfl
  | cons x xs ih =>
    show (imm (m.e x) && immL (xs.map m.e)) = true
    rw [m.him z x, ih]
    rfl⟩
section
variable {α β γ σ τ : Type} {L : Lit} {f : Env → Res FD} {fi : Env → Res ID} {k : Fk} {m : Em α} {n : Em β} {q : Em γ} {r : Res α} {a : α} {b : β}
theorem compL_T {tg : Tg} {tt : Env → Res Bool} {te : Env → Res FD} {ρ : Env} {L1 : α → Lit} {L0 : Lit} {t : α → Res Bool} {e : α → Res β} (hg : ∀ a, TG tg (m.e a) L0 (L1 a)) (ht : ∀ a, TT (L1 a) tt (t a)) (he : ∀ a, TM (L1 a) te .fr n (e a)) (le : Le L0 ρ) : ∀ xs : List α, match compT t e xs with
    | .ok ys => compL tg tt te ρ (xs.map m.e) = .ok (ys.map n.e)
    | _ => True
  | [] => rfl
  | x :: xs => by
    have ih := compL_T hg ht he le xs
    obtain ⟨ρ1, e1, l1⟩ := hg x ρ le
    have h1 := ht x ρ1 l1
    have h2 := he x ρ1 l1
    unfold compT
    rw [List.map_cons]
    unfold compL
    rw [e1]
    dsimp only
    cases q1 : t x with
    | bad => trivial
    | ex c => trivial
    | ok k =>
      rw [q1] at h1
      dsimp only at h1 ⊢
      rw [h1]
      cases k with
      | false => exact ih
      | true =>
        dsimp only
        cases q2 : e x with
        | bad => trivial
        | ex c => trivial
        | ok y =>
          rw [q2] at h2
          obtain ⟨fl, ey, rfl⟩ := h2
          rw [ey]
          dsimp only
          cases q3 : compT t e xs with
          | bad => trivial
          | ex c => trivial
          | ok ys =>
            rw [q3] at ih
            dsimp only at ih
            rw [ih]
            simp
theorem compT_nx {t : α → Res Bool} {e : α → Res β} {c : Str} : ∀ xs : List α, compT t e xs ≠ .ex c
  | [] => fun h => by cases h
  | x :: xs => fun h => by
    unfold compT at h
    split at h
    · split at h
      · cases q : compT t e xs with
        | ok ys => rw [q] at h; cases h
        | ex c' => exact compT_nx (c := c') xs q
        | bad => rw [q] at h; cases h
      · cases h
    · exact compT_nx xs h
    · cases h
theorem tm_comp {tg : Tg} {tt : Env → Res Bool} {te : Env → Res FD} {own : List Nat} {r : Res (List α)} {L1 : α → Lit} {t : α → Res Bool} {e : α → Res β} (hi : TI false L fi m r) (hg : ∀ a, TG tg (m.e a) (L.fz.wipe own) (L1 a)) (ht : ∀ a, TT (L1 a) tt (t a)) (he : ∀ a, TM (L1 a) te .fr n (e a)) :
    TM L (compF fi tg tt te own) .fr (emL n) (r.bind fun xs => compT t e xs) := fun ρ le => by
  have h1 := hi ρ le
  unfold compF
  cases r with
  | bad => trivial
  | ex c => dsimp only at h1 ⊢; rw [h1]; rfl
  | ok xs =>
    obtain ⟨fs, e1, z, _⟩ := h1
    rw [e1]
    simp only [Res.ok_bind]
    rw [if_pos z]
    have h2 := compL_T hg ht he (le.fz.wipe own) xs
    cases q : compT t e xs with
    | bad => trivial
    | ex c => exact absurd q (compT_nx xs)
    | ok ys =>
      rw [q] at h2
      dsimp only at h2 ⊢
      rw [h2]
      exact ⟨.fr, rfl, rfl⟩
theorem compT_p {t : α → Bool} {e : α → β} : ∀ xs : List α, compT (fun a => .ok (t a)) (fun a => .ok (e a)) xs = .ok ((xs.filter t).map e)
  | [] => rfl
  | x :: xs => by
    unfold compT
    rw [compT_p xs]
    cases h : t x with
    | true => rw [List.filter_cons_of_pos h]; rfl
    | false => rw [List.filter_cons_of_neg (by rw [h]; decide)]
theorem compT_m {e : α → β} (xs : List α) : compT (fun _ => .ok true) (fun a => .ok (e a)) xs = .ok (xs.map e) := by
  have h := compT_p (t := fun _ => true) (e := e) xs
  rw [List.filter_eq_self.mpr fun _ _ => rfl] at h
  exact h
theorem compT_f {t : α → Bool} (xs : List α) : compT (fun a => .ok (t a)) (fun a => .ok a) xs = .ok (xs.filter t) := by
  have h := compT_p (t := t) (e := fun a => a) xs
  rw [h, List.map_id']
/-- test and value pure -/
theorem tp_comp {tg : Tg} {tt : Env → Res Bool} {te : Env → Res FD} {own : List Nat} {xs : List α} {L1 : α → Lit} {t : α → Bool} {e : α → β} (hi : TI false L fi m (.ok xs)) (hg : ∀ a, TG tg (m.e a) (L.fz.wipe own) (L1 a)) (ht : ∀ a, TT (L1 a) tt (.ok (t a))) (he : ∀ a, TM (L1 a) te .fr n (.ok (e a))) :
    TM L (compF fi tg tt te own) .fr (emL n) (.ok ((xs.filter t).map e)) := by
  have h := tm_comp hi hg ht he
  rw [Res.ok_bind, compT_p] at h
  exact h
theorem tp_compM {tg : Tg} {te : Env → Res FD} {own : List Nat} {xs : List α} {L1 : α → Lit} {e : α → β} (hi : TI false L fi m (.ok xs)) (hg : ∀ a, TG tg (m.e a) (L.fz.wipe own) (L1 a)) (he : ∀ a, TM (L1 a) te .fr n (.ok (e a))) :
    TM L (compF fi tg noIf te own) .fr (emL n) (.ok (xs.map e)) := by
  have h := tm_comp hi hg (fun _ => tt_no) he
  rw [Res.ok_bind, compT_m] at h
  exact h
theorem tp_compF {tg : Tg} {tt : Env → Res Bool} {te : Env → Res FD} {own : List Nat} {xs : List α} {L1 : α → Lit} {t : α → Bool} (hi : TI false L fi m (.ok xs)) (hg : ∀ a, TG tg (m.e a) (L.fz.wipe own) (L1 a)) (ht : ∀ a, TT (L1 a) tt (.ok (t a))) (he : ∀ a, TM (L1 a) te .fr m (.ok a)) :
    TM L (compF fi tg tt te own) .fr (emL m) (.ok (xs.filter t)) := by
  have h := tm_comp hi hg ht he
  rw [Res.ok_bind, compT_f] at h
  exact h
/-! ### statements -/
/-- goes on -/
def TF (L : Lit) (x : XS) (E : σ → Lit) (r : Res σ) : Prop := ∀ ρ, Le L ρ → match r with
  | .ok s => ∃ ρ', x ρ = .nx ρ' ∧ Le (E s) ρ'
  | .ex c => ∃ ρ', x ρ = .ex c ρ'
  | .bad => True
/-- ends the def -/
def TB (L : Lit) (x : XS) (n : Em β) (r : Res β) : Prop := ∀ ρ, Le L ρ → match r with
  | .ok b => ∃ ρ', x ρ = .rt (n.e b) ρ'
  | .ex c => ∃ ρ', x ρ = .ex c ρ'
  | .bad => True
inductive Stp (σ β : Type) where
  | nx (s : σ) | rt (b : β) | bk (s : σ) | ct (s : σ)
/-- either -/
def TX (L : Lit) (x : XS) (E : σ → Lit) (n : Em β) (r : Res (Stp σ β)) : Prop := ∀ ρ, Le L ρ → match r with
  | .ok (.nx s) => ∃ ρ', x ρ = .nx ρ' ∧ Le (E s) ρ'
  | .ok (.bk s) => ∃ ρ', x ρ = .bk ρ' ∧ Le (E s) ρ'
  | .ok (.ct s) => ∃ ρ', x ρ = .ct ρ' ∧ Le (E s) ρ'
  | .ok (.rt b) => ∃ ρ', x ρ = .rt (n.e b) ρ'
  | .ex c => ∃ ρ', x ρ = .ex c ρ'
  | .bad => True
theorem tf_set {i : Nat} (h : TM L f .fr m r) (hi : decide (i < L.length) = true := by rfl) : TF L (xSet i f) (fun a => L.put i (some (.own, m.e a))) r := fun ρ le => by
  have h1 := h ρ le
  have hi := of_decide_eq_true hi
  rw [le.len] at hi
  unfold xSet xVal
  cases r with
  | bad => trivial
  | ex c => dsimp only at h1 ⊢; rw [h1]; exact ⟨_, rfl⟩
  | ok a =>
    obtain ⟨fl, e, rfl⟩ := h1
    dsimp only
    rw [e]
    dsimp only
    rw [if_pos hi]
    exact ⟨_, rfl, le.put (show Lo.of .own .loc from rfl) i⟩
theorem tf_setS {i : Nat} (h : TM L f .sf m r) (hi : decide (i < L.length) = true := by rfl) : TF L (xSet i f) (fun a => L.put i (some (.any, m.e a))) r := fun ρ le => by
  have h1 := h ρ le
  have hi := of_decide_eq_true hi
  rw [le.len] at hi
  unfold xSet xVal
  cases r with
  | bad => trivial
  | ex c => dsimp only at h1 ⊢; rw [h1]; exact ⟨_, rfl⟩
  | ok a =>
    obtain ⟨fl, e, x⟩ := h1
    dsimp only
    rw [e]
    dsimp only
    rw [if_pos hi]
    rcases x with rfl | rfl
    · exact ⟨_, rfl, le.put (show Lo.of .any .loc from trivial) i⟩
    · exact ⟨_, rfl, le.put (show Lo.of .any .sh from trivial) i⟩
theorem tf_expr (h : TM L f k m r) : TF L (xExpr f) (fun _ : Unit => L) (r.bind fun _ => .ok ()) := fun ρ le => by
  have h1 := h ρ le
  unfold xExpr xVal
  cases r with
  | bad => trivial
  | ex c => dsimp only at h1 ⊢; rw [h1]; exact ⟨_, rfl⟩
  | ok a =>
    obtain ⟨fl, e, x⟩ := h1
    rw [e]
    exact ⟨_, rfl, le⟩
theorem tf_next : TF L xNext (fun _ : Unit => L) (.ok ()) := fun ρ le => ⟨_, rfl, le⟩
theorem tf_tgt {t : Tg} {L' : α → Lit} (h : TM L f .sf m r) (hg : ∀ a o, (o = .sh ∨ o = .loc) → ∀ ρ, Le L ρ → ∃ ρ1, asg o t (m.e a) ρ = some ρ1 ∧ Le (L' a) ρ1) : TF L (xTgt t f) L' r := fun ρ le => by
  have h1 := h ρ le
  unfold xTgt xVal
  cases r with
  | bad => trivial
  | ex c => dsimp only at h1 ⊢; rw [h1]; exact ⟨_, rfl⟩
  | ok a =>
    obtain ⟨fl, e, x⟩ := h1
    dsimp only
    rw [e]
    rcases x with rfl | rfl
    · obtain ⟨ρ1, e1, l1⟩ := hg a .loc (.inr rfl) ρ le
      dsimp only
      rw [e1]
      exact ⟨_, rfl, l1⟩
    · obtain ⟨ρ1, e1, l1⟩ := hg a .sh (.inl rfl) ρ le
      dsimp only
      rw [e1]
      exact ⟨_, rfl, l1⟩
/-! lists that grow -/
@[irreducible] noncomputable def appT {α : Type} (xs : List α) (a : α) : Res (List α) := @ite _ (xs.length < sizeLine) (Classical.propDecidable _) (.ok (xs ++ [a])) .bad
@[irreducible] noncomputable def catT {α : Type} (xs ys : List α) : Res (List α) := @ite _ (xs.length + ys.length ≤ sizeLine) (Classical.propDecidable _) (.ok (xs ++ ys)) .bad
def Lo.mut : Lo → Bool
  | .own => true
  | .io => true
  | _ => false
theorem Lo.mut_of {l : Lo} {o : Ow} (h : l.mut = true) (k : l.of o) : o.own = true := by
  cases l <;> first | (cases h; done) | (cases k; rfl)
theorem tf_app (i : Nat) {l : Lo} {xs : List α} (hx : L.at i = some (l, (emL m).e xs)) (h : TM L f .fr m r) (hl : l.mut = true := by rfl) : TF L (xApp i f) (fun ys => L.put i (some (l, (emL m).e ys))) (r.bind fun a => appT xs a) := fun ρ le => by
  have h1 := h ρ le
  obtain ⟨o, ho, e0⟩ := le.get hx
  unfold xApp xMutL
  rw [e0]
  dsimp only [emL]
  rw [if_pos (Lo.mut_of hl ho)]
  cases r with
  | bad => trivial
  | ex c => dsimp only at h1 ⊢; rw [h1]; exact ⟨_, rfl⟩
  | ok a =>
    obtain ⟨fl, e, rfl⟩ := h1
    rw [e]
    simp only [Res.ok_bind]
    unfold appT appK
    by_cases hz : xs.length < sizeLine
    · rw [if_pos hz]
      dsimp only
      rw [if_pos ⟨rfl, by rw [List.length_map]; exact hz⟩]
      refine ⟨_, rfl, ?_⟩
      rw [List.map_append]
      exact le.put ho i
    · rw [if_neg hz]; trivial
theorem tf_ext (i : Nat) {l : Lo} {xs : List α} {r : Res (List α)} (hx : L.at i = some (l, (emL m).e xs)) (h : TM L f .fr (emL m) r) (hl : l.mut = true := by rfl) : TF L (xExt i f) (fun ys => L.put i (some (l, (emL m).e ys))) (r.bind fun a => catT xs a) := fun ρ le => by
  have h1 := h ρ le
  obtain ⟨o, ho, e0⟩ := le.get hx
  unfold xExt xMutL
  rw [e0]
  dsimp only [emL]
  rw [if_pos (Lo.mut_of hl ho)]
  cases r with
  | bad => trivial
  | ex c => dsimp only at h1 ⊢; rw [h1]; exact ⟨_, rfl⟩
  | ok ys =>
    obtain ⟨fl, e, rfl⟩ := h1
    rw [e]
    simp only [Res.ok_bind]
    unfold catT extK
    by_cases hz : xs.length + ys.length ≤ sizeLine
    · rw [if_pos hz]
      dsimp only [emL]
      rw [if_pos ⟨.inl rfl, by rw [List.length_map, List.length_map]; exact hz⟩]
      refine ⟨_, rfl, ?_⟩
      rw [List.map_append]
      exact le.put ho i
    · rw [if_neg hz]; trivial
theorem tf_cat (i : Nat) {xs : List α} {r : Res (List α)} (hx : L.at i = some (.own, (emL m).e xs)) (h : TM L f .fr (emL m) r) : TF L (xCat i f) (fun ys => L.put i (some (.own, (emL m).e ys))) (r.bind fun a => catT xs a) := fun ρ le => by
  have h1 := h ρ le
  obtain ⟨o, ho, e0⟩ := le.get hx
  cases ho
  unfold xCat
  rw [e0]
  dsimp only [emL]
  cases r with
  | bad => trivial
  | ex c => dsimp only at h1 ⊢; rw [h1]; exact ⟨_, rfl⟩
  | ok ys =>
    obtain ⟨fl, e, rfl⟩ := h1
    rw [e]
    simp only [Res.ok_bind]
    unfold catT
    by_cases hz : xs.length + ys.length ≤ sizeLine
    · rw [if_pos hz]
      dsimp only [emL]
      rw [if_pos (by rw [List.length_map, List.length_map]; exact hz)]
      refine ⟨_, rfl, ?_⟩
      rw [List.map_append]
      exact le.put (show Lo.of .own .loc from rfl) i
    · rw [if_neg hz]; trivial
def emI : Em Int := ⟨.int, true, fun _ _ => rfl⟩
theorem tf_aug (i : Nat) {x : Int} {l : Lo} {r : Res Int} {o : Int → Int → Int} (hx : L.at i = some (l, emI.e x)) (h : TM L f k emI r) : TF L (xAug i f o) (fun y => L.put i (some (.own, emI.e y))) (r.bind fun y => .ok (o x y)) := fun ρ le => by
  have h1 := h ρ le
  obtain ⟨ow, ho, e0⟩ := le.get hx
  unfold xAug
  rw [e0]
  dsimp only [emI]
  cases r with
  | bad => trivial
  | ex c => dsimp only at h1 ⊢; rw [h1]; exact ⟨_, rfl⟩
  | ok y =>
    obtain ⟨fl, e, _⟩ := h1
    rw [e]
    exact ⟨_, rfl, le.put (show Lo.of .own .loc from rfl) i⟩
theorem tf_sh (i : Nat) {l : Lo} {d : D} {E : σ → Lit} {x : XS} {r : Res σ} (hx : L.at i = some (l, d)) (h : TF (L.put i (some (.sh, d))) x E r) : TF L (xSh i x) E r := fun ρ le => by
  obtain ⟨o, ho, e0⟩ := le.get hx
  have h1 := h (ρ.set i (some (.sh, d))) (le.put (show Lo.of .sh .sh from rfl) i)
  unfold xSh shE
  rw [e0]
  exact h1
theorem tx_sh (i : Nat) {l : Lo} {d : D} {E : σ → Lit} {x : XS} {r : Res (Stp σ β)} (hx : L.at i = some (l, d)) (h : TX (L.put i (some (.sh, d))) x E n r) : TX L (xSh i x) E n r := fun ρ le => by
  obtain ⟨o, ho, e0⟩ := le.get hx
  have h1 := h (ρ.set i (some (.sh, d))) (le.put (show Lo.of .sh .sh from rfl) i)
  unfold xSh shE
  rw [e0]
  exact h1
/-! joined -/
variable {x y z : XS} {E : σ → Lit} {E' : τ → Lit} {c : Env → Res Bool} {rb : Res Bool} {t : Bool}
theorem tf_seq {r : Res σ} {j : σ → Res τ} (h1 : TF L x E r) (h2 : ∀ s, TF (E s) y E' (j s)) : TF L (xSeq x y) E' (r.bind j) := fun ρ le => by
  have h1 := h1 ρ le
  unfold xSeq
  cases r with
  | bad => trivial
  | ex c => obtain ⟨ρ', e⟩ := h1; dsimp only [Res.ex_bind]; rw [e]; exact ⟨_, rfl⟩
  | ok s =>
    obtain ⟨ρ', e, l⟩ := h1
    rw [e]
    exact h2 s ρ' l
theorem tb_seq {r : Res σ} {j : σ → Res β} (h1 : TF L x E r) (h2 : ∀ s, TB (E s) y n (j s)) : TB L (xSeq x y) n (r.bind j) := fun ρ le => by
  have h1 := h1 ρ le
  unfold xSeq
  cases r with
  | bad => trivial
  | ex c => obtain ⟨ρ', e⟩ := h1; dsimp only [Res.ex_bind]; rw [e]; exact ⟨_, rfl⟩
  | ok s =>
    obtain ⟨ρ', e, l⟩ := h1
    rw [e]
    exact h2 s ρ' l
theorem tx_seq {r : Res σ} {j : σ → Res (Stp τ β)} (h1 : TF L x E r) (h2 : ∀ s, TX (E s) y E' n (j s)) : TX L (xSeq x y) E' n (r.bind j) := fun ρ le => by
  have h1 := h1 ρ le
  unfold xSeq
  cases r with
  | bad => trivial
  | ex c => obtain ⟨ρ', e⟩ := h1; dsimp only [Res.ex_bind]; rw [e]; exact ⟨_, rfl⟩
  | ok s =>
    obtain ⟨ρ', e, l⟩ := h1
    rw [e]
    exact h2 s ρ' l
/-- the last: less is told -/
theorem tf_out {r : Res σ} {j : σ → τ} (h : TF L x E r) (l : ∀ s, Lt (E' (j s)) (E s)) : TF L x E' (r.bind fun s => .ok (j s)) := fun ρ le => by
  have h1 := h ρ le
  cases r with
  | bad => trivial
  | ex c => exact h1
  | ok s =>
    obtain ⟨ρ', e, l1⟩ := h1
    exact ⟨ρ', e, (l s).to l1⟩
theorem tx_out {r : Res σ} {j : σ → τ} (h : TF L x E r) (l : ∀ s, Lt (E' (j s)) (E s)) : TX L x E' n (r.bind fun s => .ok (.nx (j s))) := fun ρ le => by
  have h1 := h ρ le
  cases r with
  | bad => trivial
  | ex c => exact h1
  | ok s =>
    obtain ⟨ρ', e, l1⟩ := h1
    exact ⟨ρ', e, (l s).to l1⟩
theorem tf_end {s : τ} (l : Lt (E' s) L) : TF L xNext E' (.ok s) := fun ρ le => ⟨ρ, rfl, l.to le⟩
theorem tx_end {s : τ} (l : Lt (E' s) L) : TX L xNext E' n (.ok (.nx s)) := fun ρ le => ⟨ρ, rfl, l.to le⟩
theorem tx_bk {s : τ} (l : Lt (E' s) L) : TX L xBreak E' n (.ok (.bk s)) := fun ρ le => ⟨ρ, rfl, l.to le⟩
theorem tx_ct {s : τ} (l : Lt (E' s) L) : TX L xCont E' n (.ok (.ct s)) := fun ρ le => ⟨ρ, rfl, l.to le⟩
theorem tx_ret {r : Res β} (h : TB L x n r) : TX L x E' n (r.bind fun b => .ok (.rt b)) := fun ρ le => by
  have h1 := h ρ le
  cases r <;> exact h1
theorem tb_ret {r : Res β} {k : Fk} (h : TM L f k n r) (hk : ∀ fl, k.ok fl → fl = .fr ∨ fl = .mv) : TB L (xRet f) n r := fun ρ le => by
  have h1 := h ρ le
  unfold xRet xVal
  cases r with
  | bad => trivial
  | ex c => dsimp only at h1 ⊢; rw [h1]; exact ⟨_, rfl⟩
  | ok a =>
    obtain ⟨fl, e, x⟩ := h1
    dsimp only
    rw [e]
    rcases hk fl x with rfl | rfl <;> exact ⟨_, rfl⟩
theorem tb_retF {r : Res β} (h : TM L f .fr n r) : TB L (xRet f) n r := tb_ret h fun _ k => .inl k
theorem tb_retM {r : Res β} (h : TM L f .mv n r) : TB L (xRet f) n r := tb_ret h fun _ k => k
theorem tb_raise {e : Str} : TB L (xRaise e) n (.ex e) := fun ρ le => ⟨ρ, rfl⟩
theorem tf_raise {e : Str} : TF L (xRaise e) E (.ex e) := fun ρ le => ⟨ρ, rfl⟩
theorem tx_raise {e : Str} : TX L (xRaise e) E n (.ex e) := fun ρ le => ⟨ρ, rfl⟩
theorem tf_if {r r' : Res σ} (hc : TT L c rb) (h1 : TF L x E r) (h2 : TF L y E r') : TF L (xIf c x y) E (rb.bind fun b => if b = true then r else r') := fun ρ le => by
  have h0 := hc ρ le
  unfold xIf
  cases rb with
  | bad => trivial
  | ex c => dsimp only at h0 ⊢; rw [h0]; exact ⟨_, rfl⟩
  | ok b =>
    dsimp only at h0
    rw [h0]
    cases b with
    | true => exact h1 ρ le
    | false => exact h2 ρ le
theorem tb_if {r r' : Res β} (hc : TT L c rb) (h1 : TB L x n r) (h2 : TB L y n r') : TB L (xIf c x y) n (rb.bind fun b => if b = true then r else r') := fun ρ le => by
  have h0 := hc ρ le
  unfold xIf
  cases rb with
  | bad => trivial
  | ex c => dsimp only at h0 ⊢; rw [h0]; exact ⟨_, rfl⟩
  | ok b =>
    dsimp only at h0
    rw [h0]
    cases b with
    | true => exact h1 ρ le
    | false => exact h2 ρ le
theorem tx_if {r r' : Res (Stp σ β)} (hc : TT L c rb) (h1 : TX L x E n r) (h2 : TX L y E n r') : TX L (xIf c x y) E n (rb.bind fun b => if b = true then r else r') := fun ρ le => by
  have h0 := hc ρ le
  unfold xIf
  cases rb with
  | bad => trivial
  | ex c => dsimp only at h0 ⊢; rw [h0]; exact ⟨_, rfl⟩
  | ok b =>
    dsimp only at h0
    rw [h0]
    cases b with
    | true => exact h1 ρ le
    | false => exact h2 ρ le
theorem uf_if {r r' : Res σ} (hc : TT L c (.ok t)) (h1 : TF L x E r) (h2 : TF L y E r') : TF L (xIf c x y) E (if t = true then r else r') := tf_if hc h1 h2
theorem ub_if {r r' : Res β} (hc : TT L c (.ok t)) (h1 : TB L x n r) (h2 : TB L y n r') : TB L (xIf c x y) n (if t = true then r else r') := tb_if hc h1 h2
theorem ux_if {r r' : Res (Stp σ β)} (hc : TT L c (.ok t)) (h1 : TX L x E n r) (h2 : TX L y E n r') : TX L (xIf c x y) E n (if t = true then r else r') := tx_if hc h1 h2
/-! an if ahead of the rest -/
theorem seq_if : xSeq (xIf c x y) z = xIf c (xSeq x z) (xSeq y z) := by
  funext ρ
  unfold xSeq xIf
  cases c ρ with
  | bad => rfl
  | ex c => rfl
  | ok b => cases b <;> rfl
theorem seq_next : xSeq xNext z = z := rfl
theorem tb_stop {r : Res β} (h : TB L x n r) : TB L (xSeq x z) n r := fun ρ le => by
  have h1 := h ρ le
  unfold xSeq
  cases r with
  | bad => trivial
  | ex c => obtain ⟨ρ', e⟩ := h1; rw [e]; exact ⟨_, rfl⟩
  | ok b => obtain ⟨ρ', e⟩ := h1; rw [e]; exact ⟨_, rfl⟩
theorem tx_stop {r : Res β} (h : TB L x n r) : TX L (xSeq x z) E n (r.bind fun b => .ok (.rt b)) := tx_ret (tb_stop h)
/-- the first way ends, the second has nothing -/
theorem tb_ifR {r r' : Res β} (hc : TT L c rb) (h1 : TB L x n r) (h2 : TB L z n r') : TB L (xSeq (xIf c x xNext) z) n (rb.bind fun b => if b = true then r else r') := by
  rw [seq_if]
  exact tb_if hc (tb_stop h1) h2
theorem ub_ifR {r r' : Res β} (hc : TT L c (.ok t)) (h1 : TB L x n r) (h2 : TB L z n r') : TB L (xSeq (xIf c x xNext) z) n (if t = true then r else r') := tb_ifR hc h1 h2
theorem tx_ifR {r : Res β} {r' : Res (Stp σ β)} (hc : TT L c rb) (h1 : TB L x n r) (h2 : TX L z E n r') : TX L (xSeq (xIf c x xNext) z) E n (rb.bind fun b => if b = true then r.bind fun b => .ok (.rt b) else r') := by
  rw [seq_if]
  exact tx_if hc (tx_stop h1) h2
theorem ux_ifR {r : Res β} {r' : Res (Stp σ β)} (hc : TT L c (.ok t)) (h1 : TB L x n r) (h2 : TX L z E n r') : TX L (xSeq (xIf c x xNext) z) E n (if t = true then r.bind fun b => .ok (.rt b) else r') := tx_ifR hc h1 h2
/-- the first way raises, the second has nothing -/
theorem uf_ifR {e : Str} {r' : Res σ} (hc : TT L c (.ok t)) (h2 : TF L z E r') : TF L (xSeq (xIf c (xRaise e) xNext) z) E (if t = true then .ex e else r') := by
  rw [seq_if]
  exact uf_if hc (fun ρ le => ⟨ρ, rfl⟩) h2
def seqT {σ β : Type} (j : σ → Res β) : Stp σ β → Res β
  | .nx s => j s
  | .rt b => .ok b
  | _ => .bad
theorem tb_seqX {r : Res (Stp σ β)} {j : σ → Res β} (h1 : TX L x E n r) (h2 : ∀ s, TB (E s) z n (j s)) : TB L (xSeq x z) n (r.bind (seqT j)) := fun ρ le => by
  have h1 := h1 ρ le
  unfold xSeq
  cases r with
  | bad => trivial
  | ex c => obtain ⟨ρ', e⟩ := h1; dsimp only [Res.ex_bind]; rw [e]; exact ⟨_, rfl⟩
  | ok s =>
    cases s with
    | nx s =>
      obtain ⟨ρ', e, l⟩ := h1
      dsimp only [Res.ok_bind, seqT]
      rw [e]
      exact h2 s ρ' l
    | rt b => obtain ⟨ρ', e⟩ := h1; dsimp only [Res.ok_bind, seqT]; rw [e]; exact ⟨_, rfl⟩
    | bk s => exact trivial
    | ct s => exact trivial
end
end DL
/-! DT3: loops, dicts walked, defs by typed readings. -/
namespace DL
open PySem L2
def foldT {σ α : Type} (b : σ → α → Res σ) : List α → σ → Res σ
  | [], s => .ok s
  | x :: xs, s => (b s x).bind (foldT b xs)
def foldX {σ α β : Type} (b : σ → α → Res (Stp σ β)) : List α → σ → Res (Stp σ β)
  | [], s => .ok (.nx s)
  | x :: xs, s => (b s x).bind fun r => match r with
    | .nx s' => foldX b xs s'
    | .ct s' => foldX b xs s'
    | .bk s' => .ok (.nx s')
    | .rt v => .ok (.rt v)
def whileT {σ : Type} (c : σ → Res Bool) (b : σ → Res σ) : Nat → σ → Res σ
  | 0, _ => .bad
  | n + 1, s => (c s).bind fun t => if t = true then (b s).bind (whileT c b n) else .ok s
def whileX {σ β : Type} (c : σ → Res Bool) (b : σ → Res (Stp σ β)) : Nat → σ → Res (Stp σ β)
  | 0, _ => .bad
  | n + 1, s => (c s).bind fun t => if t = true then (b s).bind fun r => match r with
    | .nx s' => whileX c b n s'
    | .ct s' => whileX c b n s'
    | .bk s' => .ok (.nx s')
    | .rt v => .ok (.rt v)
    else .ok (.nx s)
section
variable {α β γ σ τ : Type} {L : Lit} {f : Env → Res FD} {fi : Env → Res ID} {k : Fk} {m : Em α} {n : Em β} {q : Em γ} {x : XS} {E : σ → Lit} {tg : Tg} {L1 : σ → α → Lit} {s0 : σ}
theorem loop_T {b : σ → α → Res σ} (hg : ∀ s a, TG tg (m.e a) (E s) (L1 s a)) (hb : ∀ s a, TF (L1 s a) x E (b s a)) : ∀ (xs : List α) (s : σ) (ρ : Env), Le (E s) ρ → match foldT b xs s with
    | .ok s' => ∃ ρ', xLoop tg x (xs.map m.e) ρ = .nx ρ' ∧ Le (E s') ρ'
    | .ex c => ∃ ρ', xLoop tg x (xs.map m.e) ρ = .ex c ρ'
    | .bad => True
  | [], s, ρ, le => ⟨ρ, rfl, le⟩
  | a :: xs, s, ρ, le => by
    obtain ⟨ρ1, e1, l1⟩ := hg s a ρ le
    have h := hb s a ρ1 l1
    unfold foldT
    rw [List.map_cons]
    unfold xLoop
    rw [e1]
    dsimp only
    cases eb : b s a with
    | bad => trivial
    | ex c => rw [eb] at h; obtain ⟨ρ', e⟩ := h; dsimp only [Res.ex_bind]; rw [e]; exact ⟨_, rfl⟩
    | ok s' =>
      rw [eb] at h
      obtain ⟨ρ', e, l⟩ := h
      rw [e]
      exact loop_T hg hb xs s' ρ' l
theorem loop_X {b : σ → α → Res (Stp σ β)} (hg : ∀ s a, TG tg (m.e a) (E s) (L1 s a)) (hb : ∀ s a, TX (L1 s a) x E n (b s a)) : ∀ (xs : List α) (s : σ) (ρ : Env), Le (E s) ρ → match foldX b xs s with
    | .ok (.nx s') => ∃ ρ', xLoop tg x (xs.map m.e) ρ = .nx ρ' ∧ Le (E s') ρ'
    | .ok (.rt v) => ∃ ρ', xLoop tg x (xs.map m.e) ρ = .rt (n.e v) ρ'
    | .ok _ => False
    | .ex c => ∃ ρ', xLoop tg x (xs.map m.e) ρ = .ex c ρ'
    | .bad => True
  | [], s, ρ, le => ⟨ρ, rfl, le⟩
  | a :: xs, s, ρ, le => by
    obtain ⟨ρ1, e1, l1⟩ := hg s a ρ le
    have h := hb s a ρ1 l1
    unfold foldX
    rw [List.map_cons]
    unfold xLoop
    rw [e1]
    dsimp only
    cases eb : b s a with
    | bad => trivial
    | ex c => rw [eb] at h; obtain ⟨ρ', e⟩ := h; dsimp only [Res.ex_bind]; rw [e]; exact ⟨_, rfl⟩
    | ok r =>
      rw [eb] at h
      cases r with
      | nx s' =>
        obtain ⟨ρ', e, l⟩ := h
        dsimp only [Res.ok_bind]
        rw [e]
        exact loop_X hg hb xs s' ρ' l
      | ct s' =>
        obtain ⟨ρ', e, l⟩ := h
        dsimp only [Res.ok_bind]
        rw [e]
        exact loop_X hg hb xs s' ρ' l
      | bk s' =>
        obtain ⟨ρ', e, l⟩ := h
        dsimp only [Res.ok_bind]
        rw [e]
        exact ⟨ρ', rfl, l⟩
      | rt v =>
        obtain ⟨ρ', e⟩ := h
        dsimp only [Res.ok_bind]
        rw [e]
        exact ⟨ρ', rfl⟩
theorem tf_for {b : σ → α → Res σ} {r : Res (List α)} (hi : TI true L fi m r) (hg : ∀ s a, TG tg (m.e a) (E s) (L1 s a)) (hb : ∀ s a, TF (L1 s a) x E (b s a)) (l0 : Lt (E s0) L) : TF L (xFor fi tg x) E (r.bind fun xs => foldT b xs s0) := fun ρ le => by
  have h := hi ρ le
  unfold xFor xForW
  cases r with
  | bad => trivial
  | ex c => dsimp only at h ⊢; rw [h]; exact ⟨_, rfl⟩
  | ok xs =>
    obtain ⟨fs, e, _, hf⟩ := h
    rw [e]
    dsimp only [Res.ok_bind]
    rw [if_pos (hf rfl)]
    exact loop_T hg hb xs s0 ρ (l0.to le)
theorem uf_for {b : σ → α → Res σ} {xs : List α} (hi : TI true L fi m (.ok xs)) (hg : ∀ s a, TG tg (m.e a) (E s) (L1 s a)) (hb : ∀ s a, TF (L1 s a) x E (b s a)) (l0 : Lt (E s0) L) : TF L (xFor fi tg x) E (foldT b xs s0) := tf_for hi hg hb l0
theorem tx_for {b : σ → α → Res (Stp σ β)} {r : Res (List α)} (hi : TI true L fi m r) (hg : ∀ s a, TG tg (m.e a) (E s) (L1 s a)) (hb : ∀ s a, TX (L1 s a) x E n (b s a)) (l0 : Lt (E s0) L) : TX L (xFor fi tg x) E n (r.bind fun xs => foldX b xs s0) := fun ρ le => by
  have h := hi ρ le
  unfold xFor xForW
  cases r with
  | bad => trivial
  | ex c => dsimp only at h ⊢; rw [h]; exact ⟨_, rfl⟩
  | ok xs =>
    obtain ⟨fs, e, _, hf⟩ := h
    rw [e]
    dsimp only [Res.ok_bind]
    rw [if_pos (hf rfl)]
    have q := loop_X hg hb xs s0 ρ (l0.to le)
    cases eq : foldX b xs s0 with
    | bad => trivial
    | ex c => rw [eq] at q; exact q
    | ok r => rw [eq] at q; cases r <;> first | exact q | exact q.elim
theorem ux_for {b : σ → α → Res (Stp σ β)} {xs : List α} (hi : TI true L fi m (.ok xs)) (hg : ∀ s a, TG tg (m.e a) (E s) (L1 s a)) (hb : ∀ s a, TX (L1 s a) x E n (b s a)) (l0 : Lt (E s0) L) : TX L (xFor fi tg x) E n (foldX b xs s0) := tx_for hi hg hb l0
theorem while_T {c : Env → Res Bool} {t : σ → Res Bool} {b : σ → Res σ} (hc : ∀ s, TT (E s) c (t s)) (hb : ∀ s, TF (E s) x E (b s)) : ∀ (N : Nat) (s : σ) (ρ : Env), Le (E s) ρ → match whileT t b N s with
    | .ok s' => ∃ ρ', xWhile c x N ρ = .nx ρ' ∧ Le (E s') ρ'
    | .ex e => ∃ ρ', xWhile c x N ρ = .ex e ρ'
    | .bad => True
  | 0, s, ρ, le => trivial
  | N + 1, s, ρ, le => by
    have h0 := hc s ρ le
    have h1 := hb s ρ le
    unfold whileT xWhile
    cases et : t s with
    | bad => trivial
    | ex e => rw [et] at h0; dsimp only at h0 ⊢; rw [h0]; exact ⟨_, rfl⟩
    | ok k =>
      rw [et] at h0
      dsimp only at h0
      rw [h0]
      cases k with
      | false => exact ⟨ρ, rfl, le⟩
      | true =>
        simp only [Res.ok_bind, if_true]
        cases eb : b s with
        | bad => trivial
        | ex e => rw [eb] at h1; obtain ⟨ρ', e1⟩ := h1; dsimp only [Res.ex_bind]; rw [e1]; exact ⟨_, rfl⟩
        | ok s' =>
          rw [eb] at h1
          obtain ⟨ρ', e1, l1⟩ := h1
          rw [e1]
          exact while_T hc hb N s' ρ' l1
theorem while_X {c : Env → Res Bool} {t : σ → Res Bool} {b : σ → Res (Stp σ β)} (hc : ∀ s, TT (E s) c (t s)) (hb : ∀ s, TX (E s) x E n (b s)) : ∀ (N : Nat) (s : σ) (ρ : Env), Le (E s) ρ → match whileX t b N s with
    | .ok (.nx s') => ∃ ρ', xWhile c x N ρ = .nx ρ' ∧ Le (E s') ρ'
    | .ok (.rt v) => ∃ ρ', xWhile c x N ρ = .rt (n.e v) ρ'
    | .ok _ => False
    | .ex e => ∃ ρ', xWhile c x N ρ = .ex e ρ'
    | .bad => True
  | 0, s, ρ, le => trivial
  | N + 1, s, ρ, le => by
    have h0 := hc s ρ le
    have h1 := hb s ρ le
    unfold whileX xWhile
    cases et : t s with
    | bad => trivial
    | ex e => rw [et] at h0; dsimp only at h0 ⊢; rw [h0]; exact ⟨_, rfl⟩
    | ok k =>
      rw [et] at h0
      dsimp only at h0
      rw [h0]
      cases k with
      | false => exact ⟨ρ, rfl, le⟩
      | true =>
        simp only [Res.ok_bind, if_true]
        cases eb : b s with
        | bad => trivial
        | ex e => rw [eb] at h1; obtain ⟨ρ', e1⟩ := h1; dsimp only [Res.ex_bind]; rw [e1]; exact ⟨_, rfl⟩
        | ok r =>
          rw [eb] at h1
          cases r with
          | nx s' =>
            obtain ⟨ρ', e1, l1⟩ := h1
            dsimp only [Res.ok_bind]
            rw [e1]
            exact while_X hc hb N s' ρ' l1
          | ct s' =>
            obtain ⟨ρ', e1, l1⟩ := h1
            dsimp only [Res.ok_bind]
            rw [e1]
            exact while_X hc hb N s' ρ' l1
          | bk s' =>
            obtain ⟨ρ', e1, l1⟩ := h1
            dsimp only [Res.ok_bind]
            rw [e1]
            exact ⟨ρ', rfl, l1⟩
          | rt v =>
            obtain ⟨ρ', e1⟩ := h1
            dsimp only [Res.ok_bind]
            rw [e1]
            exact ⟨ρ', rfl⟩
theorem tf_while {c : Env → Res Bool} {t : σ → Res Bool} {b : σ → Res σ} {N : Nat} (hc : ∀ s, TT (E s) c (t s)) (hb : ∀ s, TF (E s) x E (b s)) (l0 : Lt (E s0) L) : TF L (xWhile c x N) E (whileT t b N s0) := fun ρ le => while_T hc hb N s0 ρ (l0.to le)
theorem tx_while {c : Env → Res Bool} {t : σ → Res Bool} {b : σ → Res (Stp σ β)} {N : Nat} (hc : ∀ s, TT (E s) c (t s)) (hb : ∀ s, TX (E s) x E n (b s)) (l0 : Lt (E s0) L) : TX L (xWhile c x N) E n (whileX t b N s0) := fun ρ le => by
  have q := while_X hc hb N s0 ρ (l0.to le)
  cases eq : whileX t b N s0 with
  | bad => trivial
  | ex c => rw [eq] at q; exact q
  | ok r => rw [eq] at q; cases r <;> first | exact q | exact q.elim
/-! ### dicts walked under their lock -/
def unlkOw : Ow → Ow
  | .lk => .sh
  | o => o
theorem unlkE_eq (ρ : Env) : unlkE ρ = ρ.map fun s => s.map fun p => (unlkOw p.1, p.2) := by
  unfold unlkE
  congr 1
theorem Lo.unlk {l : Lo} {o : Ow} (h : l.of o) : l.of (unlkOw o) := by
  cases o <;> first | exact h | (cases l <;> first | exact trivial | exact rfl | cases h)
theorem Le.unlk {L : Lit} {ρ : Env} (h : Le L ρ) : Le L (unlkE ρ) := by
  rw [unlkE_eq]
  induction h with
  | nil => exact .nil
  | @no L ρ s h ih => exact .no ih
  | yes q h ih => exact .yes (Lo.unlk q) ih
def Res.noEx {α : Type} : Res α → Res α
  | .ok a => .ok a
  | _ => .bad
@[simp] theorem Res.noEx_ok {α : Type} (a : α) : (Res.ok a).noEx = .ok a := rfl
/-- keys of a type -/
structure Ky (κ : Type) where
  m : Em κ
  k : κ → Key
  ek : ∀ a, m.e a = kD (k a)
  inj : ∀ a b, k a = k b → a = b
def emK {κ α : Type} (y : Ky κ) (n : Em α) : Em (List (κ × α)) := ⟨fun kvs => .dK (kvs.map fun p => y.k p.1) (kvs.map fun p => n.e p.2), false, fun z => nomatch z⟩
def keysT {κ α : Type} (kvs : List (κ × α)) : List κ := kvs.map (·.1)
variable {κ : Type} {y : Ky κ}
theorem keys_emb (kvs : List (κ × β)) : keysDk ((emK y n).e kvs) = some ((keysT kvs).map y.m.e) := by
  show some ((kvs.map fun p => y.k p.1).map kD) = _
  unfold keysT
  rw [List.map_map, List.map_map]
  congr 1
  exact List.map_congr_left fun p _ => (y.ek p.1).symm
theorem Le.lock {L : Lit} {ρ : Env} (le : Le L ρ) (i : Nat) {d : D} : Le (L.put i (some (.any, d))) ((unlkE ρ).set i (some (.lk, d))) := le.unlk.put (show Lo.of .any .lk from trivial) i
theorem tf_forK (i : Nat) {l : Lo} {kvs : List (κ × β)} {b : σ → κ → Res σ} {L1 : σ → κ → Lit} (hx : L.at i = some (l, (emK y n).e kvs)) (hg : ∀ s a, TG tg (y.m.e a) (E s) (L1 s a)) (hb : ∀ s a, TF (L1 s a) x E (b s a)) (l0 : Lt (E s0) (L.put i (some (.sh, (emK y n).e kvs)))) :
    TF L (xForK i tg x) E (foldT b (keysT kvs) s0).noEx := fun ρ le => by
  obtain ⟨o, ho, e0⟩ := le.get hx
  have hd : isDictD ((emK y n).e kvs) = true := rfl
  have hl : i < ρ.length := (List.getElem?_eq_some_iff.mp e0).1
  have hl2 : i < (unlkE ρ).length := by unfold unlkE; rw [List.length_map]; exact hl
  have el : ((unlkE ρ).set i (some (Ow.lk, (emK y n).e kvs)))[i]? = some (some (Ow.lk, (emK y n).e kvs)) := by rw [List.getElem?_set_self hl2]
  have q := loop_T (m := y.m) hg hb (keysT kvs) s0 (((unlkE ρ).set i (some (.lk, (emK y n).e kvs))).set i (some (.sh, (emK y n).e kvs))) (l0.to (by
    rw [List.set_set]
    exact le.unlk.put (show Lo.of .sh .sh from rfl) i))
  unfold xForK xLock
  rw [e0]
  dsimp only
  rw [if_pos hd]
  unfold xForW keysI shE
  rw [el]
  dsimp only
  rw [keys_emb]
  dsimp only
  rw [List.all_nil, if_pos rfl]
  cases eq : foldT b (keysT kvs) s0 with
  | bad => trivial
  | ex c => trivial
  | ok s' =>
    rw [eq] at q
    obtain ⟨ρ', e, l⟩ := q
    dsimp only [Res.noEx]
    rw [e]
    exact ⟨_, rfl, l.unlk⟩
/-- as many keys as can be held -/
@[irreducible] noncomputable def szT {α : Type} (xs : List α) : Res (List α) := @ite _ (xs.length ≤ sizeLine) (Classical.propDecidable _) (.ok xs) .bad
theorem tm_compK (i : Nat) {l : Lo} {kvs : List (κ × β)} {tt : Env → Res Bool} {te : Env → Res FD} {own : List Nat} {L1 : κ → Lit} {t : κ → Res Bool} {e : κ → Res γ} (hx : L.at i = some (l, (emK y n).e kvs)) (hg : ∀ a, TG tg (y.m.e a) ((L.put i (some (.any, (emK y n).e kvs))).fz.wipe own) (L1 a)) (ht : ∀ a, TT (L1 a) tt (t a)) (he : ∀ a, TM (L1 a) te .fr q (e a)) :
    TM L (lockF i (compF (keysI i) tg tt te own)) .fr (emL q) ((szT (keysT kvs)).bind fun xs => compT t e xs) := fun ρ le => by
  obtain ⟨o, ho, e0⟩ := le.get hx
  have hd : isDictD ((emK y n).e kvs) = true := rfl
  have hl : i < ρ.length := (List.getElem?_eq_some_iff.mp e0).1
  have hl2 : i < (unlkE ρ).length := by unfold unlkE; rw [List.length_map]; exact hl
  have el : ((unlkE ρ).set i (some (Ow.lk, (emK y n).e kvs)))[i]? = some (some (Ow.lk, (emK y n).e kvs)) := by rw [List.getElem?_set_self hl2]
  have q := compL_T hg ht he ((le.lock i (d := (emK y n).e kvs)).fz.wipe own) (keysT kvs)
  unfold szT
  by_cases hz : (keysT kvs).length ≤ sizeLine
  · rw [if_pos hz, Res.ok_bind]
    unfold lockF
    rw [e0]
    dsimp only
    rw [if_pos hd]
    unfold compF keysI
    rw [el]
    dsimp only
    rw [keys_emb]
    dsimp only [Res.ok_bind]
    rw [if_pos (by unfold szOk; rw [Bool.or_eq_true, decide_eq_true_eq]; left; rw [List.length_map]; exact hz)]
    cases eq : compT t e (keysT kvs) with
    | bad => trivial
    | ex c => exact absurd eq (compT_nx _)
    | ok ys =>
      rw [eq] at q
      dsimp only at q
      rw [q]
      exact ⟨.fr, rfl, rfl⟩
  · rw [if_neg hz]; trivial
/-! ### defs -/
def startL (k : Nat) (ds : List D) : Lit := ds.map (fun d => some (Lo.sh, d)) ++ List.replicate (k - ds.length) none
theorem start_le (k : Nat) (ds : List D) : Le (startL k ds) (startD k ds) := by
  unfold startL startD
  generalize k - ds.length = j
  induction ds with
  | nil =>
    induction j with
    | zero => exact .nil
    | succ j ih => exact .no ih
  | cons d ds ih => exact .yes (show Lo.of .sh .sh from rfl) ih
/-- a def that returns -/
theorem td_def {N K : Nat} {x : XS} {G : α → List D} {T : α → Res β} (hl : ∀ a, (G a).length = N) (h : ∀ a, TB (startL K (G a)) x n (T a)) : TD1 (defF N K x) G n T := fun a => by
  have q := h a _ (start_le K (G a))
  unfold defF
  rw [if_pos (hl a)]
  cases e : T a with
  | bad => trivial
  | ex c => rw [e] at q; obtain ⟨ρ', e'⟩ := q; dsimp only; rw [e']; rfl
  | ok b => rw [e] at q; obtain ⟨ρ', e'⟩ := q; dsimp only; rw [e']; rfl
def emU : Em Unit := ⟨fun _ => .non, true, fun _ _ => rfl⟩
/-- a def that returns nothing -/
theorem td_none {N K : Nat} {x : XS} {G : α → List D} {T : α → Res Unit} {E : α → Unit → Lit} (hl : ∀ a, (G a).length = N) (h : ∀ a, TF (startL K (G a)) x (E a) (T a)) : TD1 (defF N K x) G emU T := fun a => by
  have q := h a _ (start_le K (G a))
  unfold defF
  rw [if_pos (hl a)]
  cases e : T a with
  | bad => trivial
  | ex c => rw [e] at q; obtain ⟨ρ', e'⟩ := q; dsimp only; rw [e']; rfl
  | ok b => rw [e] at q; obtain ⟨ρ', e', _⟩ := q; dsimp only; rw [e']; rfl
theorem td_bad {G : α → List D} : TD1 (fun _ => .bad) G n fun _ => .bad := fun a => trivial
end
end DL
/-! DT4: types' trees; operators, builtins over them. -/
namespace DL
open PySem L2
structure Nm where
  s : Str
  ok : PyData.strOk s = true
  deriving DecidableEq
theorem Nm.ext' {a b : Nm} (h : a.s = b.s) : a = b := by
  cases a; cases b; cases h; rfl
def memB {α : Type} [DecidableEq α] (a : α) (xs : List α) : Bool := decide (a ∈ xs)
theorem memB_iff {α : Type} [DecidableEq α] {a : α} {xs : List α} : memB a xs = true ↔ a ∈ xs := by unfold memB; exact decide_eq_true_iff
def emS : Em Nm := ⟨fun a => .str a.1, true, fun _ _ => rfl⟩
def emTy : Em String := ⟨.ty, true, fun _ _ => rfl⟩
def emD : Em D := ⟨id, false, fun z => nomatch z⟩
def emP2 {α β : Type} (m : Em α) (n : Em β) : Em (α × β) := ⟨fun p => .tup [m.e p.1, n.e p.2], m.im && n.im, fun z p => by
  rw [Bool.and_eq_true] at z
  show (imm (m.e p.1) && (imm (n.e p.2) && true)) = true
  rw [m.him z.1, n.him z.2]; rfl⟩
def emP3 {α β γ : Type} (m : Em α) (n : Em β) (q : Em γ) : Em (α × β × γ) := ⟨fun p => .tup [m.e p.1, n.e p.2.1, q.e p.2.2], m.im && (n.im && q.im), fun z p => by
  rw [Bool.and_eq_true, Bool.and_eq_true] at z
  show (imm (m.e p.1) && (imm (n.e p.2.1) && (imm (q.e p.2.2) && true))) = true
  rw [m.him z.1, n.him z.2.1, q.him z.2.2]; rfl⟩
def emO {α : Type} (m : Em α) : Em (Option α) := ⟨fun a => match a with | some a => m.e a | none => .non, m.im, fun z a => by
  cases a with
  | none => rfl
  | some a => exact m.him z a⟩
def kyI : Ky Int := ⟨emI, Sum.inl, fun _ => rfl, fun _ _ e => Sum.inl.inj e⟩
def kyS : Ky Nm := ⟨emS, fun a => Sum.inr a.1, fun _ => rfl, fun _ _ e => Nm.ext' (Sum.inr.inj e)⟩
/-! ### equality -/
structure Eqm {α : Type} (m : Em α) (k : Nat) [DecidableEq α] : Prop where
  lay : ∀ a, (toP (m.e a)).canLay0 = true
  dep : ∀ a, PyData.depth (toP (m.e a)) ≤ k
  eqv : ∀ a b, PyData.eqv (toP (m.e a)) (toP (m.e b)) = decide (a = b)
section
variable {α β γ : Type} [DecidableEq α] [DecidableEq β] [DecidableEq γ] {m : Em α} {n : Em β} {q : Em γ} {i j l : Nat}
theorem Eqm.ok (h : Eqm m i) (hi : i ≤ 64) (a : α) : okP (m.e a) = true := by
  unfold okP SeqAt.shaped
  have := h.dep a
  rw [h.lay, Bool.true_and, decide_eq_true_eq]
  omega
theorem eq_I : Eqm emI 0 := ⟨fun a => by simp [emI, toP, PyData.canLay0], fun a => by simp [emI, toP, PyData.depth], fun a b => by
  simp only [emI]
  rw [toP, toP]
  simp only [PyData.eqv]
  by_cases h : a = b <;> simp [h]⟩
theorem eq_B : Eqm emB 0 := ⟨fun a => by simp [emB, toP, PyData.canLay0], fun a => by simp [emB, toP, PyData.depth], fun a b => by
  simp only [emB]
  rw [toP, toP]
  simp only [PyData.eqv]
  cases a <;> cases b <;> rfl⟩
theorem eq_U : Eqm emU 0 := ⟨fun a => by simp [emU, toP, PyData.canLay0], fun a => by simp [emU, toP, PyData.depth], fun a b => by
  simp only [emU]
  rw [toP]
  simp [PyData.eqv]⟩
theorem eq_S : Eqm emS 0 := ⟨fun a => by
  have := a.2
  simp [emS, toP, PyData.canLay0, this], fun a => by simp [emS, toP, PyData.depth], fun a b => by
  simp only [emS]
  rw [toP, toP]
  simp only [PyData.eqv]
  by_cases h : a = b
  · simp [h]
  · have : ¬ a.1 = b.1 := fun z => h (Nm.ext' z)
    simp [h, this]⟩
theorem layL (h : Eqm m i) : ∀ xs : List α, PyData.canLayAll0 (toPL (xs.map m.e)) = true
  | [] => by simp [toPL, PyData.canLayAll0]
  | x :: xs => by
    rw [List.map_cons, toPL]
    simp [PyData.canLayAll0, h.lay x, layL h xs]
theorem depL (h : Eqm m i) : ∀ xs : List α, PyData.depthAll (toPL (xs.map m.e)) ≤ i
  | [] => by simp [toPL, PyData.depthAll]
  | x :: xs => by
    have := h.dep x
    have := depL h xs
    rw [List.map_cons, toPL]
    simp only [PyData.depthAll]
    omega
theorem eqvL (h : Eqm m i) : ∀ xs ys : List α, PyData.eqvAll (toPL (xs.map m.e)) (toPL (ys.map m.e)) = decide (xs = ys)
  | [], [] => by simp [toPL, PyData.eqvAll]
  | [], y :: ys => by rw [List.map_cons]; simp [toPL, PyData.eqvAll]
  | x :: xs, [] => by rw [List.map_cons]; simp [toPL, PyData.eqvAll]
  | x :: xs, y :: ys => by
    rw [List.map_cons, List.map_cons, toPL, toPL]
    simp only [PyData.eqvAll, h.eqv, eqvL h xs ys]
    by_cases h1 : x = y <;> by_cases h2 : xs = ys <;> simp [h1, h2]
theorem eq_L (h : Eqm m i) : Eqm (emL m) (i + 1) := ⟨fun xs => by
  simp only [emL]; rw [toP]; simp only [PyData.canLay0]; exact layL h xs, fun xs => by
  simp only [emL]; rw [toP]; simp only [PyData.depth]; have := depL h xs; omega, fun xs ys => by
  simp only [emL]; rw [toP, toP]; simp only [PyData.eqv]; exact eqvL h xs ys⟩
theorem eq_T (h : Eqm m i) : Eqm (emT m) (i + 1) := ⟨fun xs => by
  simp only [emT]; rw [toP]; simp only [PyData.canLay0]; exact layL h xs, fun xs => by
  simp only [emT]; rw [toP]; simp only [PyData.depth]; have := depL h xs; omega, fun xs ys => by
  simp only [emT]; rw [toP, toP]; simp only [PyData.eqv]; exact eqvL h xs ys⟩
theorem eq_P2 (h : Eqm m i) (k : Eqm n j) : Eqm (emP2 m n) (i + j + 1) := ⟨fun p => by
  simp [emP2, toP, toPL, PyData.canLay0, PyData.canLayAll0, h.lay, k.lay], fun p => by
  have := h.dep p.1
  have := k.dep p.2
  simp only [emP2, toP, toPL, PyData.depth, PyData.depthAll]
  omega, fun p p' => by
  simp only [emP2, toP, toPL, PyData.eqv, PyData.eqvAll, h.eqv, k.eqv, Bool.and_true]
  obtain ⟨a, b⟩ := p
  obtain ⟨a', b'⟩ := p'
  by_cases h1 : a = a' <;> by_cases h2 : b = b' <;> simp [h1, h2]⟩
theorem eq_P3 (h : Eqm m i) (k : Eqm n j) (k' : Eqm q l) : Eqm (emP3 m n q) (i + j + l + 1) := ⟨fun p => by
  simp [emP3, toP, toPL, PyData.canLay0, PyData.canLayAll0, h.lay, k.lay, k'.lay], fun p => by
  have := h.dep p.1
  have := k.dep p.2.1
  have := k'.dep p.2.2
  simp only [emP3, toP, toPL, PyData.depth, PyData.depthAll]
  omega, fun p p' => by
  simp only [emP3, toP, toPL, PyData.eqv, PyData.eqvAll, h.eqv, k.eqv, k'.eqv, Bool.and_true]
  obtain ⟨a, b, c⟩ := p
  obtain ⟨a', b', c'⟩ := p'
  by_cases h1 : a = a' <;> by_cases h2 : b = b' <;> by_cases h3 : c = c' <;> simp [h1, h2, h3]⟩
/-- no datum of the type is None -/
def NotNon {α : Type} (m : Em α) : Prop := ∀ a, PyData.eqv .none (toP (m.e a)) = false ∧ PyData.eqv (toP (m.e a)) .none = false
theorem nn_I : NotNon emI := fun a => by simp [emI, toP, PyData.eqv]
theorem nn_S : NotNon emS := fun a => by simp [emS, toP, PyData.eqv]
theorem nn_L {α : Type} {m : Em α} : NotNon (emL m) := fun a => by simp [emL, toP, PyData.eqv]
theorem nn_T {α : Type} {m : Em α} : NotNon (emT m) := fun a => by simp [emT, toP, PyData.eqv]
theorem nn_P2 {α β : Type} {m : Em α} {n : Em β} : NotNon (emP2 m n) := fun a => by simp [emP2, toP, PyData.eqv]
theorem nn_P3 {α β γ : Type} {m : Em α} {n : Em β} {q : Em γ} : NotNon (emP3 m n q) := fun a => by simp [emP3, toP, PyData.eqv]
theorem eq_O (h : Eqm m i) (nn : NotNon m) : Eqm (emO m) i := ⟨fun a => by
  cases a with
  | none => simp [emO, toP, PyData.canLay0]
  | some a => exact h.lay a, fun a => by
  cases a with
  | none => simp [emO, toP, PyData.depth]
  | some a => exact h.dep a, fun a b => by
  cases a with
  | none => cases b with
    | none => simp [emO, toP, PyData.eqv]
    | some b =>
      have := (nn b).1
      have e : toP (D.non) = .none := by rw [toP]
      simp only [emO, e, this]
      rfl
  | some a => cases b with
    | none =>
      have := (nn a).2
      have e : toP (D.non) = .none := by rw [toP]
      simp only [emO, e, this]
      rfl
    | some b =>
      have := h.eqv a b
      simp only [emO, this]
      simp⟩
variable {k1 k2 : Fk}
theorem op_eq (h : Eqm m i) (hi : decide (i ≤ 64) = true := by rfl) : Op k1 k2 m m (eqD false) .fr emB fun a b => .ok (decide (a = b)) := fun fl fl' a b _ _ => by
  have hi := of_decide_eq_true hi
  unfold eqD
  dsimp only
  rw [h.ok hi, h.ok hi]
  exact ⟨.fr, by
    rw [Bool.and_self, if_pos rfl]
    unfold eqvD
    rw [h.eqv]
    rfl, rfl⟩
theorem op_ne (h : Eqm m i) (hi : decide (i ≤ 64) = true := by rfl) : Op k1 k2 m m (eqD true) .fr emB fun a b => .ok (!decide (a = b)) := fun fl fl' a b _ _ => by
  have hi := of_decide_eq_true hi
  unfold eqD
  dsimp only
  rw [h.ok hi, h.ok hi]
  exact ⟨.fr, by
    rw [Bool.and_self, if_pos rfl]
    unfold eqvD
    rw [h.eqv]
    rfl, rfl⟩
theorem anyL (h : Eqm m i) (a : α) : ∀ xs : List α, (xs.map m.e).any (fun z => eqvD z (m.e a)) = memB a xs
  | [] => by simp [memB]
  | x :: xs => by
    rw [List.map_cons, List.any_cons, anyL h a xs]
    unfold eqvD memB
    rw [h.eqv]
    by_cases e : x = a
    · simp [e]
    · have e2 : ¬ a = x := fun z => e z.symm
      simp [e, e2]
theorem op_inL (h : Eqm m i) (hi : decide (i ≤ 64) = true := by rfl) : Op k1 k2 m (emL m) (inF false) .fr emB fun a xs => .ok (memB a xs) := fun fl fl' a xs _ _ => by
  have hi := of_decide_eq_true hi
  unfold inF inD
  dsimp only [emL]
  rw [h.ok hi, layL h, anyL h]
  exact ⟨.fr, rfl, rfl⟩
theorem op_inT (h : Eqm m i) (hi : decide (i ≤ 64) = true := by rfl) : Op k1 k2 m (emT m) (inF false) .fr emB fun a xs => .ok (memB a xs) := fun fl fl' a xs _ _ => by
  have hi := of_decide_eq_true hi
  unfold inF inD
  dsimp only [emT]
  rw [h.ok hi, layL h, anyL h]
  exact ⟨.fr, rfl, rfl⟩
theorem op_niL (h : Eqm m i) (hi : decide (i ≤ 64) = true := by rfl) : Op k1 k2 m (emL m) (inF true) .fr emB fun a xs => .ok (!memB a xs) := fun fl fl' a xs _ _ => by
  have hi := of_decide_eq_true hi
  unfold inF inD
  dsimp only [emL]
  rw [h.ok hi, layL h, anyL h]
  exact ⟨.fr, rfl, rfl⟩
theorem op_niT (h : Eqm m i) (hi : decide (i ≤ 64) = true := by rfl) : Op k1 k2 m (emT m) (inF true) .fr emB fun a xs => .ok (!memB a xs) := fun fl fl' a xs _ _ => by
  have hi := of_decide_eq_true hi
  unfold inF inD
  dsimp only [emT]
  rw [h.ok hi, layL h, anyL h]
  exact ⟨.fr, rfl, rfl⟩
theorem op_inS : Op k1 k2 emS emS (inF false) .fr emB fun a b => .ok (within a.1 b.1) := fun fl fl' a b _ _ => ⟨.fr, rfl, rfl⟩
theorem op_niS : Op k1 k2 emS emS (inF true) .fr emB fun a b => .ok (!within a.1 b.1) := fun fl fl' a b _ _ => ⟨.fr, rfl, rfl⟩
/-! ### dicts -/
def dget {κ α : Type} [DecidableEq κ] : List (κ × α) → κ → Option α
  | [], _ => none
  | p :: d, k => if p.1 = k then some p.2 else dget d k
def dgetT {κ α : Type} [DecidableEq κ] (d : List (κ × α)) (k : κ) : Res α := match dget d k with
  | some a => .ok a
  | none => .bad
def dhas {κ α : Type} [DecidableEq κ] (d : List (κ × α)) (k : κ) : Bool := (dget d k).isSome
def dput {κ α : Type} [DecidableEq κ] (d : List (κ × α)) (k : κ) (a : α) : List (κ × α) := if dhas d k = true then d.map fun p => if p.1 = k then (p.1, a) else p else d ++ [(k, a)]
@[irreducible] noncomputable def dputT {κ α : Type} [DecidableEq κ] (d : List (κ × α)) (k : κ) (a : α) : Res (List (κ × α)) := @ite _ (d.length < sizeLine) (Classical.propDecidable _) (.ok (dput d k a)) .bad
def dictT {κ α : Type} [DecidableEq κ] (ps : List (κ × α)) : List (κ × α) := ps.foldl (fun d p => dput d p.1 p.2) []
end
section
variable {κ α β : Type} [DecidableEq κ] {y : Ky κ} {n : Em α} {k1 k2 : Fk} {L : Lit}
theorem look_emb (k : κ) : ∀ d : List (κ × α), lookD (d.map fun p => y.k p.1) (d.map fun p => n.e p.2) (y.k k) = (dget d k).map n.e
  | [] => rfl
  | p :: d => by
    rw [List.map_cons, List.map_cons]
    unfold lookD dget
    by_cases e : p.1 = k
    · rw [if_pos e, if_pos (by rw [e])]; rfl
    · rw [if_neg e, if_neg fun z => e (y.inj _ _ z), look_emb k d]
theorem keyOf_emb (k : κ) : keyOf (y.m.e k) = some (y.k k) := by
  rw [y.ek]
  cases y.k k <;> rfl
theorem dGet_emb (d : List (κ × α)) (k : κ) : dGet ((emK y n).e d) (y.m.e k) = some ((dget d k).map n.e) := by
  unfold dGet emK
  dsimp only
  rw [keyOf_emb, Option.map_some, look_emb]
theorem op_inK : Op k1 k2 y.m (emK y n) (inF false) .fr emB fun k d => .ok (dhas d k) := fun fl fl' k d _ _ => by
  have h := dGet_emb (y := y) (n := n) d k
  unfold inF inD
  unfold emK at h ⊢
  dsimp only at h ⊢
  rw [h]
  refine ⟨.fr, ?_, rfl⟩
  unfold dhas
  cases dget d k <;> rfl
theorem op_niK : Op k1 k2 y.m (emK y n) (inF true) .fr emB fun k d => .ok (!dhas d k) := fun fl fl' k d _ _ => by
  have h := dGet_emb (y := y) (n := n) d k
  unfold inF inD
  unfold emK at h ⊢
  dsimp only at h ⊢
  rw [h]
  refine ⟨.fr, ?_, rfl⟩
  unfold dhas
  cases dget d k <;> rfl
theorem ixK {fl fl' : Fl} (d : List (κ × α)) (k : κ) : ixF (fl, (emK y n).e d) (fl', y.m.e k) = match dget d k with
    | some a => .ok (up fl (n.e a))
    | none => .bad := by
  have h := dGet_emb (y := y) (n := n) d k
  unfold ixF
  unfold emK at h ⊢
  dsimp only at h ⊢
  rw [h]
  cases dget d k <;> rfl
theorem up_ok {k : Fk} {fl : Fl} (h : k.ok fl) (d : D) : ∃ fl2, up fl d = (fl2, d) ∧ k.ok fl2 := by
  unfold up
  by_cases c : imm d = true
  · exact ⟨.fr, by rw [if_pos c], k.fr_ok⟩
  · exact ⟨fl, by rw [if_neg c], h⟩
theorem up_im (h : n.im = true) {fl : Fl} (a : α) : up fl (n.e a) = (.fr, n.e a) := by
  unfold up
  rw [n.him h, if_pos rfl]
theorem op_ixK : Op k1 k2 (emK y n) y.m ixF k1 n dgetT := fun fl fl' d k h1 _ => by
  rw [ixK]
  unfold dgetT
  cases dget d k with
  | none => trivial
  | some a =>
    obtain ⟨fl2, e, h⟩ := up_ok h1 (n.e a)
    exact ⟨fl2, by dsimp only; rw [e], h⟩
theorem op_ixKi (hn : n.im = true := by rfl) : Op k1 k2 (emK y n) y.m ixF .fr n dgetT := fun fl fl' d k h1 _ => by
  rw [ixK]
  unfold dgetT
  cases dget d k with
  | none => trivial
  | some a => exact ⟨.fr, by dsimp only; rw [up_im hn], rfl⟩
/-- d.get(k) -/
theorem op_getK (hn : n.im = true := by rfl) : Op k1 k2 (emK y n) y.m getK .fr (emO n) fun d k => .ok (dget d k) := fun fl fl' d k h1 _ => by
  have h := dGet_emb (y := y) (n := n) d k
  unfold getK
  dsimp only
  rw [h]
  cases dget d k with
  | none => exact ⟨.fr, rfl, rfl⟩
  | some a => exact ⟨.fr, by dsimp only [Option.map_some]; rw [up_im hn]; rfl, rfl⟩
theorem pre_dict : ∀ d : List (κ × α), isDictD ((emK y n).e d) = true := fun _ => rfl
theorem notIn_emb (d : List (κ × α)) (k : κ) : notIn (y.k k) (d.map fun p => y.k p.1) = !dhas d k := by
  unfold notIn dhas
  induction d with
  | nil => rfl
  | cons p d ih =>
    unfold dget
    rw [List.map_cons]
    by_cases e : p.1 = k
    · rw [if_pos e]; simp [e]
    · rw [if_neg e, ← ih]
      have e2 : ¬ y.k k = y.k p.1 := fun z => e (y.inj _ _ z).symm
      simp [e2]
theorem repl_emb (k : κ) (a : α) : ∀ d : List (κ × α), replL (y.k k) (n.e a) (d.map fun p => y.k p.1) (d.map fun p => n.e p.2) = (d.map fun p => if p.1 = k then (p.1, a) else p).map fun p => n.e p.2
  | [] => rfl
  | p :: d => by
    rw [List.map_cons, List.map_cons, List.map_cons, List.map_cons]
    unfold replL
    rw [repl_emb k a d]
    congr 1
    by_cases e : p.1 = k
    · rw [if_pos e, if_pos (by rw [e])]
    · rw [if_neg e, if_neg fun z => e (y.inj _ _ z)]
theorem mem_emb (d : List (κ × α)) (k : κ) : y.k k ∈ (d.map fun p => y.k p.1) ↔ dhas d k = true := by
  have h := notIn_emb (y := y) d k
  unfold notIn at h
  cases e : dhas d k with
  | true => rw [e] at h; simpa using h
  | false => rw [e] at h; simpa using h
theorem put_emb (d : List (κ × α)) (k : κ) (a : α) : putD (d.map fun p => y.k p.1) (d.map fun p => n.e p.2) (y.k k) (n.e a) = ((dput d k a).map (fun p => y.k p.1), (dput d k a).map fun p => n.e p.2) := by
  unfold putD dput
  by_cases e : dhas d k = true
  · rw [if_pos ((mem_emb d k).mpr e), if_pos e, repl_emb]
    congr 1
    rw [List.map_map]
    refine List.map_congr_left fun p _ => ?_
    show y.k p.1 = y.k (if p.1 = k then (p.1, a) else p).1
    split <;> rfl
  · rw [if_neg fun z => e ((mem_emb d k).mp z), if_neg e]
    simp
/-- slot[k] = v, v of a type that is never changed -/
theorem tf_put (i : Nat) {f g : Env → Res FD} {l : Lo} {d : List (κ × α)} {rk : Res κ} {r : Res α} {kk kf : Fk} (hx : L.at i = some (l, (emK y n).e d)) (hk : TM L f kk y.m rk) (h : TM L g kf n r) (hn : n.im = true := by rfl) (hl : l.mut = true := by rfl) :
    TF L (xPut i f g) (fun d' => L.put i (some (l, (emK y n).e d'))) (r.bind fun a => rk.bind fun k => dputT d k a) := fun ρ le => by
  have h0 := hk ρ le
  have h1 := h ρ le
  obtain ⟨o, ho, e0⟩ := le.get hx
  unfold xPut
  cases r with
  | bad => trivial
  | ex c => dsimp only at h1 ⊢; rw [h1]; exact ⟨_, rfl⟩
  | ok a =>
    obtain ⟨fl, e, _⟩ := h1
    rw [e]
    dsimp only
    rw [e0]
    dsimp only
    rw [if_pos (Lo.mut_of hl ho)]
    cases rk with
    | bad => trivial
    | ex c => dsimp only at h0 ⊢; rw [h0]; exact ⟨_, rfl⟩
    | ok k =>
      obtain ⟨fl', e', _⟩ := h0
      rw [e']
      simp only [Res.ok_bind]
      unfold dputT putF
      by_cases hz : d.length < sizeLine
      · rw [if_pos hz]
        unfold emK
        dsimp only
        rw [keyOf_emb]
        dsimp only
        rw [if_pos ⟨.inr (n.him hn a), by rw [List.length_map]; exact hz⟩, put_emb]
        exact ⟨_, rfl, le.put ho i⟩
      · rw [if_neg hz]; trivial
/-- slot[k] = v, k new -/
@[irreducible] noncomputable def dnewT {κ α : Type} [DecidableEq κ] (d : List (κ × α)) (k : κ) (a : α) : Res (List (κ × α)) := if dhas d k = true then .bad else dputT d k a
theorem tf_putN (i : Nat) {f g : Env → Res FD} {l : Lo} {d : List (κ × α)} {rk : Res κ} {r : Res α} {kk : Fk} (hx : L.at i = some (l, (emK y n).e d)) (hk : TM L f kk y.m rk) (h : TM L g .fr n r) (hl : l.mut = true := by rfl) :
    TF L (xPut i f g) (fun d' => L.put i (some (l, (emK y n).e d'))) (r.bind fun a => rk.bind fun k => dnewT d k a) := fun ρ le => by
  have h0 := hk ρ le
  have h1 := h ρ le
  obtain ⟨o, ho, e0⟩ := le.get hx
  unfold xPut
  cases r with
  | bad => trivial
  | ex c => dsimp only at h1 ⊢; rw [h1]; exact ⟨_, rfl⟩
  | ok a =>
    obtain ⟨fl, e, rfl⟩ := h1
    rw [e]
    dsimp only
    rw [e0]
    dsimp only
    rw [if_pos (Lo.mut_of hl ho)]
    cases rk with
    | bad => trivial
    | ex c => dsimp only at h0 ⊢; rw [h0]; exact ⟨_, rfl⟩
    | ok k =>
      obtain ⟨fl', e', _⟩ := h0
      rw [e']
      simp only [Res.ok_bind]
      unfold dnewT
      by_cases hh : dhas d k = true
      · rw [if_pos hh]; trivial
      · rw [if_neg hh]
        unfold dputT putF
        by_cases hz : d.length < sizeLine
        · rw [if_pos hz]
          unfold emK
          dsimp only
          rw [keyOf_emb]
          dsimp only
          have hn : notIn (y.k k) (d.map fun p => y.k p.1) = true := by rw [notIn_emb]; simp [hh]
          rw [if_pos ⟨.inl ⟨rfl, hn⟩, by rw [List.length_map]; exact hz⟩, put_emb]
          exact ⟨_, rfl, le.put ho i⟩
        · rw [if_neg hz]; trivial
/-- dict(pairs) -/
theorem pairs_emb (hn : n.im = true) : ∀ ps : List (κ × α), pairsD (ps.map (emP2 y.m n).e) = some (ps.map fun p => (y.k p.1, n.e p.2))
  | [] => rfl
  | p :: ps => by
    rw [List.map_cons, List.map_cons]
    show (match keyOf (y.m.e p.1), pairsD (ps.map (emP2 y.m n).e) with
      | some q, some r => if imm (n.e p.2) = true then some ((q, n.e p.2) :: r) else none
      | _, _ => none) = _
    rw [keyOf_emb, pairs_emb hn ps]
    dsimp only
    rw [if_pos (n.him hn _)]
theorem dict_emb : ∀ (ps d : List (κ × α)), (ps.map fun p => (y.k p.1, n.e p.2)).foldl (fun acc kv => putD acc.1 acc.2 kv.1 kv.2) (d.map (fun p => y.k p.1), d.map fun p => n.e p.2) = ((ps.foldl (fun d p => dput d p.1 p.2) d).map (fun p => y.k p.1), (ps.foldl (fun d p => dput d p.1 p.2) d).map fun p => n.e p.2)
  | [], d => rfl
  | p :: ps, d => by
    rw [List.map_cons, List.foldl_cons, List.foldl_cons]
    dsimp only
    rw [put_emb, dict_emb ps]
theorem bt_dict (hn : n.im = true := by rfl) : TD1 dictF (consG (emL (emP2 y.m n)) nilG) (emK y n) fun p => .ok (dictT p.1) := fun p => by
  show dictF [D.lst (p.1.map (emP2 y.m n).e)] = _
  unfold dictF
  dsimp only
  rw [pairs_emb hn]
  dsimp only
  unfold dictOf dictT
  have h := dict_emb (y := y) (n := n) p.1 []
  simp only [List.map_nil] at h
  rw [h]
  rfl
end
end DL
/-! DT5: numbers, lists, tuples, builtins. -/
namespace DL
open PySem L2
section
variable {α β γ : Type} {L : Lit} {f g h : Env → Res FD} {k k1 k2 k3 : Fk} {m : Em α} {n : Em β} {q : Em γ} {r : Res α} {a : α}
/-! numbers -/
theorem op_add : Op k1 k2 emI emI addD .fr emI fun i j => .ok (i + j) := fun fl fl' i j _ _ => ⟨.fr, rfl, rfl⟩
theorem op_sub : Op k1 k2 emI emI subK .fr emI fun i j => .ok (i - j) := fun fl fl' i j _ _ => ⟨.fr, rfl, rfl⟩
@[irreducible] noncomputable def mulT (i j : Int) : Res Int := @ite _ (((decide (-(2 ^ 64) < i) && decide (i < 2 ^ 64)) || (decide (-(2 ^ 64) < j) && decide (j < 2 ^ 64))) = true) (Classical.propDecidable _) (.ok (i * j)) .bad
theorem op_mul : Op k1 k2 emI emI mulD .fr emI mulT := fun fl fl' i j _ _ => by
  unfold mulT mulD emI
  dsimp only
  by_cases c : ((decide (-(2 ^ 64) < i) && decide (i < 2 ^ 64)) || (decide (-(2 ^ 64) < j) && decide (j < 2 ^ 64))) = true
  · rw [if_pos c, if_pos c]; exact ⟨.fr, rfl, rfl⟩
  · rw [if_neg c]; trivial
@[irreducible] noncomputable def fdivT (i j : Int) : Res Int := @ite _ (divP i j = true) (Classical.propDecidable _) (.ok (i / j)) .bad
@[irreducible] noncomputable def modT (i j : Int) : Res Int := @ite _ (modP i j = true) (Classical.propDecidable _) (.ok (i % j)) .bad
@[irreducible] noncomputable def powT (i j : Int) : Res Int := @ite _ (powP i j = true) (Classical.propDecidable _) (.ok (i ^ j.toNat)) .bad
theorem op_ar {p : Int → Int → Bool} {o : Int → Int → Int} : Op k1 k2 emI emI (arI p o) .fr emI fun i j => if p i j = true then .ok (o i j) else .bad := fun fl fl' i j _ _ => by
  unfold arI emI
  dsimp only
  by_cases c : p i j = true
  · rw [if_pos c, if_pos c]; exact ⟨.fr, rfl, rfl⟩
  · rw [if_neg c]; trivial
theorem op_fdiv : Op k1 k2 emI emI fdivK .fr emI fdivT := by
  have e : fdivT = fun i j => if divP i j = true then .ok (i / j) else .bad := by
    funext i j
    unfold fdivT
    by_cases c : divP i j = true
    · rw [if_pos c, if_pos c]
    · rw [if_neg c, if_neg c]
  rw [e]
  exact op_ar
theorem op_mod : Op k1 k2 emI emI modK .fr emI modT := by
  have e : modT = fun i j => if modP i j = true then .ok (i % j) else .bad := by
    funext i j
    unfold modT
    by_cases c : modP i j = true
    · rw [if_pos c, if_pos c]
    · rw [if_neg c, if_neg c]
  rw [e]
  exact op_ar
theorem op_pow : Op k1 k2 emI emI powK .fr emI powT := by
  have e : powT = fun i j => if powP i j = true then .ok (i ^ j.toNat) else .bad := by
    funext i j
    unfold powT
    by_cases c : powP i j = true
    · rw [if_pos c, if_pos c]
    · rw [if_neg c, if_neg c]
  rw [e]
  exact op_ar
theorem op_lt : Op k1 k2 emI emI (ordD ltI) .fr emB fun i j => .ok (decide (i < j)) := fun fl fl' i j _ _ => ⟨.fr, rfl, rfl⟩
theorem op_le : Op k1 k2 emI emI (ordD leI) .fr emB fun i j => .ok (decide (i ≤ j)) := fun fl fl' i j _ _ => ⟨.fr, rfl, rfl⟩
theorem op_gt : Op k1 k2 emI emI (ordD gtI) .fr emB fun i j => .ok (decide (j < i)) := fun fl fl' i j _ _ => ⟨.fr, rfl, rfl⟩
theorem op_ge : Op k1 k2 emI emI (ordD geI) .fr emB fun i j => .ok (decide (j ≤ i)) := fun fl fl' i j _ _ => ⟨.fr, rfl, rfl⟩
theorem tm_neg {r : Res Int} (h : TM L f k emI r) : TM L (bind1 f negD) .fr emI (r.bind fun i => .ok (-i)) := tm_bind1 (fun fl i _ => ⟨.fr, rfl, rfl⟩) h
theorem tq_lele {a b c : Int} (h1 : TM L f k1 emI (.ok a)) (h2 : TM L g k2 emI (.ok b)) (h3 : TM L h k3 emI (.ok c)) : TT L (chainF f g h leI leI) (.ok (decide (a ≤ b) && decide (b ≤ c))) := fun ρ le => by
  obtain ⟨_, e1, _⟩ := h1 ρ le
  obtain ⟨_, e2, _⟩ := h2 ρ le
  obtain ⟨_, e3, _⟩ := h3 ρ le
  unfold chainF
  rw [e1, e2, e3]
  simp only [Res.ok_bind, emI]
  by_cases c1 : a ≤ b
  · rw [if_pos (decide_eq_true c1)]; simp [c1]
  · rw [if_neg (by simpa using c1)]; simp [c1]
theorem tt_lele {r1 r2 r3 : Res Int} (h1 : TM L f k1 emI r1) (h2 : TM L g k2 emI r2) (h3 : TM L h k3 emI r3) : TT L (chainF f g h leI leI) (r1.bind fun a => r2.bind fun b => if a ≤ b then r3.bind fun c => .ok (decide (b ≤ c)) else .ok false) := fun ρ le => by
  have h1 := h1 ρ le
  have h2 := h2 ρ le
  have h3 := h3 ρ le
  unfold chainF
  cases r1 with
  | bad => trivial
  | ex c => dsimp only at h1 ⊢; rw [h1]; rfl
  | ok a =>
    obtain ⟨_, e1, _⟩ := h1
    rw [e1]
    cases r2 with
    | bad => trivial
    | ex c => dsimp only at h2 ⊢; simp only [Res.ok_bind]; rw [h2]; rfl
    | ok b =>
      obtain ⟨_, e2, _⟩ := h2
      simp only [Res.ok_bind]
      rw [e2]
      simp only [Res.ok_bind, emI]
      by_cases c1 : a ≤ b
      · rw [if_pos c1, if_pos (decide_eq_true c1)]
        cases r3 with
        | bad => trivial
        | ex c => dsimp only at h3 ⊢; rw [h3]; rfl
        | ok c =>
          obtain ⟨_, e3, _⟩ := h3
          rw [e3]
          rfl
      · rw [if_neg c1, if_neg (by simpa using c1)]
/-! truth -/
theorem tr_B : Tru emB id := fun _ => rfl
theorem tr_I : Tru emI fun i => i != 0 := fun _ => rfl
theorem tr_L : Tru (emL m) fun xs => !xs.isEmpty := fun xs => by cases xs <;> rfl
theorem tr_T : Tru (emT m) fun xs => !xs.isEmpty := fun xs => by cases xs <;> rfl
theorem tr_K {κ : Type} {y : Ky κ} : Tru (emK y m) fun xs => !xs.isEmpty := fun xs => by cases xs <;> rfl
theorem tr1_B : Tru1 emB id := fun _ => rfl
theorem tr1_I : Tru1 emI fun i => i != 0 := fun _ => rfl
theorem tr1_L : Tru1 (emL m) fun xs => !xs.isEmpty := fun xs => by cases xs <;> rfl
theorem tr1_T : Tru1 (emT m) fun xs => !xs.isEmpty := fun xs => by cases xs <;> rfl
/-! displays -/
theorem imm_emL (him : m.im = true) (xs : List α) : immL (xs.map m.e) = true := (emT m).him him xs
/-- items of a display -/
def itemsG : List α → List α := id
theorem ti_nil : TA L nilA (fun xs : List α => xs.map m.e) (.ok []) := fun ρ le => ⟨true, rfl⟩
theorem ti_cons {fa : Env → Res AD} {r : Res α} {s : Res (List α)} (h1 : TM L f k m r) (h2 : TA L fa (fun xs : List α => xs.map m.e) s) : TA L (consA f fa) (fun xs : List α => xs.map m.e) (r.bind fun a => s.bind fun as => .ok (a :: as)) := fun ρ le => by
  have h1 := h1 ρ le
  have h2 := h2 ρ le
  unfold consA
  cases r with
  | bad => trivial
  | ex c => dsimp only at h1 ⊢; rw [h1]; rfl
  | ok a =>
    obtain ⟨fl, e, x⟩ := h1
    rw [e]
    cases s with
    | bad => trivial
    | ex c => dsimp only at h2 ⊢; simp only [Res.ok_bind]; rw [h2]; rfl
    | ok b =>
      obtain ⟨z, e'⟩ := h2
      simp only [Res.ok_bind]
      rw [e']
      exact ⟨_, rfl⟩
theorem tj_cons {fa : Env → Res AD} {a : α} {s : List α} (h1 : TM L f k m (.ok a)) (h2 : TA L fa (fun xs : List α => xs.map m.e) (.ok s)) : TA L (consA f fa) (fun xs : List α => xs.map m.e) (.ok (a :: s)) := ti_cons h1 h2
/-- [..] of items that are never changed -/
theorem tm_lst {fa : Env → Res AD} {r : Res (List α)} (h : TA L fa (fun xs : List α => xs.map m.e) r) (him : m.im = true := by rfl) : TM L (lstF fa) .fr (emL m) (r.bind szT) := fun ρ le => by
  have h1 := h ρ le
  unfold lstF
  cases r with
  | bad => trivial
  | ex c => dsimp only at h1 ⊢; rw [h1]; rfl
  | ok xs =>
    obtain ⟨z, e⟩ := h1
    rw [e]
    simp only [Res.ok_bind]
    unfold szT
    by_cases hz : xs.length ≤ sizeLine
    · rw [if_pos hz, List.length_map, if_pos hz, imm_emL him]
      exact ⟨.fr, by simp; rfl, rfl⟩
    · rw [if_neg hz]; trivial
theorem few_le {xs : List α} (h : decide (xs.length ≤ 1000) = true) : xs.length ≤ sizeLine := Nat.le_trans (of_decide_eq_true h) (by rw [sizeLine_eq]; omega)
theorem tp_lst {fa : Env → Res AD} {xs : List α} (h : TA L fa (fun xs : List α => xs.map m.e) (.ok xs)) (him : m.im = true := by rfl) (hz : decide (xs.length ≤ 1000) = true := by rfl) : TM L (lstF fa) .fr (emL m) (.ok xs) := by
  have q := tm_lst h him
  rw [Res.ok_bind] at q
  unfold szT at q
  rw [if_pos (few_le hz)] at q
  exact q
theorem tp_lst0 : TM L (lstF nilA) .fr (emL m) (.ok []) := fun ρ le => ⟨.fr, rfl, rfl⟩
/-- [..] of one new thing that can be changed -/
theorem tp_lst1 (h : TM L f .fr m (.ok a)) : TM L (lstF (consA f nilA)) .fr (emL m) (.ok [a]) := fun ρ le => by
  obtain ⟨fl, e, rfl⟩ := h ρ le
  unfold lstF consA nilA
  rw [e]
  exact ⟨.fr, rfl, rfl⟩
theorem tm_tup {fa : Env → Res AD} {r : Res (List α)} (h : TA L fa (fun xs : List α => xs.map m.e) r) (him : m.im = true := by rfl) : TM L (tupF fa) .fr (emT m) (r.bind szT) := fun ρ le => by
  have h1 := h ρ le
  unfold tupF
  cases r with
  | bad => trivial
  | ex c => dsimp only at h1 ⊢; rw [h1]; rfl
  | ok xs =>
    obtain ⟨z, e⟩ := h1
    rw [e]
    simp only [Res.ok_bind]
    unfold szT
    by_cases hz : xs.length ≤ sizeLine
    · rw [if_pos hz, List.length_map, if_pos hz]
      have q := up_im (n := emT m) (show (emT m).im = true from him) (fl := if z = true then .fr else .bo) xs
      exact ⟨.fr, congrArg Res.ok q, rfl⟩
    · rw [if_neg hz]; trivial
theorem tp_tup {fa : Env → Res AD} {xs : List α} (h : TA L fa (fun xs : List α => xs.map m.e) (.ok xs)) (him : m.im = true := by rfl) (hz : decide (xs.length ≤ 1000) = true := by rfl) : TM L (tupF fa) .fr (emT m) (.ok xs) := by
  have q := tm_tup h him
  rw [Res.ok_bind] at q
  unfold szT at q
  rw [if_pos (few_le hz)] at q
  exact q
/-- (a, b) -/
theorem tp_p2 {a : α} {b : β} (h1 : TM L f k1 m (.ok a)) (h2 : TM L g k2 n (.ok b)) (him : (m.im && n.im) = true := by rfl) : TM L (tupF (consA f (consA g nilA))) .fr (emP2 m n) (.ok (a, b)) := fun ρ le => by
  obtain ⟨_, e1, _⟩ := h1 ρ le
  obtain ⟨_, e2, _⟩ := h2 ρ le
  have q := fun fl => up_im (n := emP2 m n) (show (emP2 m n).im = true from him) (fl := fl) (a, b)
  unfold tupF consA nilA
  rw [e1, e2]
  exact ⟨.fr, congrArg Res.ok (q _), rfl⟩
theorem tp_p3 {a : α} {b : β} {c : γ} (h1 : TM L f k1 m (.ok a)) (h2 : TM L g k2 n (.ok b)) (h3 : TM L h k3 q (.ok c)) (him : (m.im && (n.im && q.im)) = true := by rfl) : TM L (tupF (consA f (consA g (consA h nilA)))) .fr (emP3 m n q) (.ok (a, b, c)) := fun ρ le => by
  obtain ⟨_, e1, _⟩ := h1 ρ le
  obtain ⟨_, e2, _⟩ := h2 ρ le
  obtain ⟨_, e3, _⟩ := h3 ρ le
  have q := fun fl => up_im (n := emP3 m n q) (show (emP3 m n q).im = true from him) (fl := fl) (a, b, c)
  unfold tupF consA nilA
  rw [e1, e2, e3]
  exact ⟨.fr, congrArg Res.ok (q _), rfl⟩
theorem tm_p2 {r : Res α} {s : Res β} (h1 : TM L f k1 m r) (h2 : TM L g k2 n s) (him : (m.im && n.im) = true := by rfl) : TM L (tupF (consA f (consA g nilA))) .fr (emP2 m n) (r.bind fun a => s.bind fun b => .ok (a, b)) := fun ρ le => by
  have h1 := h1 ρ le
  have h2 := h2 ρ le
  unfold tupF consA nilA
  cases r with
  | bad => trivial
  | ex c => dsimp only at h1 ⊢; rw [h1]; rfl
  | ok a =>
    obtain ⟨_, e1, _⟩ := h1
    rw [e1]
    cases s with
    | bad => trivial
    | ex c => dsimp only at h2 ⊢; simp only [Res.ok_bind]; rw [h2]; rfl
    | ok b =>
      obtain ⟨_, e2, _⟩ := h2
      rw [e2]
      have q := fun fl => up_im (n := emP2 m n) (show (emP2 m n).im = true from him) (fl := fl) (a, b)
      exact ⟨.fr, congrArg Res.ok (q _), rfl⟩
theorem tm_p3 {r : Res α} {s : Res β} {t : Res γ} (h1 : TM L f k1 m r) (h2 : TM L g k2 n s) (h3 : TM L h k3 q t) (him : (m.im && (n.im && q.im)) = true := by rfl) : TM L (tupF (consA f (consA g (consA h nilA)))) .fr (emP3 m n q) (r.bind fun a => s.bind fun b => t.bind fun c => .ok (a, b, c)) := fun ρ le => by
  have h1 := h1 ρ le
  have h2 := h2 ρ le
  have h3 := h3 ρ le
  unfold tupF consA nilA
  cases r with
  | bad => trivial
  | ex c => dsimp only at h1 ⊢; rw [h1]; rfl
  | ok a =>
    obtain ⟨_, e1, _⟩ := h1
    rw [e1]
    cases s with
    | bad => trivial
    | ex c => dsimp only at h2 ⊢; simp only [Res.ok_bind]; rw [h2]; rfl
    | ok b =>
      obtain ⟨_, e2, _⟩ := h2
      rw [e2]
      cases t with
      | bad => trivial
      | ex c => dsimp only at h3 ⊢; simp only [Res.ok_bind]; rw [h3]; rfl
      | ok c =>
        obtain ⟨_, e3, _⟩ := h3
        rw [e3]
        have q := fun fl => up_im (n := emP3 m n q) (show (emP3 m n q).im = true from him) (fl := fl) (a, b, c)
        exact ⟨.fr, congrArg Res.ok (q _), rfl⟩
/-! index -/
def ixT (xs : List α) (i : Int) : Res α := match atI xs i with
  | some a => .ok a
  | none => .bad
theorem atI_map (xs : List α) (i : Int) : atI (xs.map m.e) i = (atI xs i).map m.e := by
  unfold atI
  rw [List.length_map]
  cases ixN xs.length i with
  | none => rfl
  | some j => simp
theorem op_ixL : Op k1 k2 (emL m) emI ixF k1 m ixT := fun fl fl' xs i h1 _ => by
  unfold ixF ixT emL emI
  dsimp only
  rw [atI_map]
  cases atI xs i with
  | none => trivial
  | some a =>
    obtain ⟨fl2, e, h⟩ := up_ok h1 (m.e a)
    exact ⟨fl2, by dsimp only [Option.map_some]; rw [e], h⟩
theorem op_ixT : Op k1 k2 (emT m) emI ixF k1 m ixT := fun fl fl' xs i h1 _ => by
  unfold ixF ixT emT emI
  dsimp only
  rw [atI_map]
  cases atI xs i with
  | none => trivial
  | some a =>
    obtain ⟨fl2, e, h⟩ := up_ok h1 (m.e a)
    exact ⟨fl2, by dsimp only [Option.map_some]; rw [e], h⟩
theorem op_ixLi (hm : m.im = true := by rfl) : Op k1 k2 (emL m) emI ixF .fr m ixT := fun fl fl' xs i h1 _ => by
  unfold ixF ixT emL emI
  dsimp only
  rw [atI_map]
  cases atI xs i with
  | none => trivial
  | some a => exact ⟨.fr, by dsimp only [Option.map_some]; rw [up_im hm], rfl⟩
theorem op_ixTi (hm : m.im = true := by rfl) : Op k1 k2 (emT m) emI ixF .fr m ixT := fun fl fl' xs i h1 _ => by
  unfold ixF ixT emT emI
  dsimp only
  rw [atI_map]
  cases atI xs i with
  | none => trivial
  | some a => exact ⟨.fr, by dsimp only [Option.map_some]; rw [up_im hm], rfl⟩
def tupAt (d : D) (i : Int) : Option D := match d with
  | .tup ds => atI ds i
  | _ => none
/-- a part of a tuple of told length -/
theorem tm_proj {i : Int} {o : α → β} (h : TM L f k m r) (hp : ∀ a, tupAt (m.e a) i = some (n.e (o a)) := by exact fun _ => rfl) : TM L (bind2 f (dC (.int i)) ixF) k n (r.bind fun a => .ok (o a)) := fun ρ le => by
  have h1 := h ρ le
  unfold bind2
  cases r with
  | bad => trivial
  | ex c => dsimp only at h1 ⊢; rw [h1]; rfl
  | ok a =>
    obtain ⟨fl, e, x⟩ := h1
    rw [e]
    have p := hp a
    unfold tupAt at p
    simp only [Res.ok_bind, dC]
    unfold ixF
    dsimp only
    cases ed : m.e a <;> rw [ed] at p <;> first | (cases p; done) | skip
    dsimp only at p ⊢
    rw [p]
    obtain ⟨fl2, e2, h2⟩ := up_ok x (n.e (o a))
    exact ⟨fl2, by dsimp only; rw [e2], h2⟩
theorem tp_proj {i : Int} {o : α → β} {a : α} (h : TM L f k m (.ok a)) (hp : ∀ a, tupAt (m.e a) i = some (n.e (o a)) := by exact fun _ => rfl) : TM L (bind2 f (dC (.int i)) ixF) k n (.ok (o a)) := tm_proj h hp
theorem tp_projI {i : Int} {o : α → β} {a : α} (h : TM L f k m (.ok a)) (hn : n.im = true := by rfl) (hp : ∀ a, tupAt (m.e a) i = some (n.e (o a)) := by exact fun _ => rfl) : TM L (bind2 f (dC (.int i)) ixF) .fr n (.ok (o a)) := fun ρ le => by
  obtain ⟨fl, e, x⟩ := h ρ le
  unfold bind2
  rw [e]
  have p := hp a
  unfold tupAt at p
  simp only [Res.ok_bind, dC]
  unfold ixF
  dsimp only
  cases ed : m.e a <;> rw [ed] at p <;> first | (cases p; done) | skip
  dsimp only at p ⊢
  rw [p]
  dsimp only
  rw [up_im hn]
  exact ⟨.fr, rfl, rfl⟩
/-! put together -/
theorem op_catL (hm : m.im = true := by rfl) : Op k1 k2 (emL m) (emL m) addD .fr (emL m) catT := fun fl fl' xs ys _ _ => by
  unfold addD catT emL
  dsimp only
  rw [imm_emL hm, imm_emL hm, List.length_map, List.length_map]
  by_cases c : xs.length + ys.length ≤ sizeLine
  · rw [if_pos c, if_pos ⟨rfl, c⟩]; exact ⟨.fr, by rw [List.map_append], rfl⟩
  · rw [if_neg c]; trivial
theorem op_catT (hm : m.im = true := by rfl) : Op k1 k2 (emT m) (emT m) addD .fr (emT m) catT := fun fl fl' xs ys _ _ => by
  unfold addD catT emT
  dsimp only
  rw [imm_emL hm, imm_emL hm, List.length_map, List.length_map]
  by_cases c : xs.length + ys.length ≤ sizeLine
  · rw [if_pos c, if_pos ⟨rfl, c⟩]; exact ⟨.fr, by rw [List.map_append], rfl⟩
  · rw [if_neg c]; trivial
theorem op_catE : Op k1 k2 (emL m) (emL m) addE .any (emL m) catT := fun fl fl' xs ys _ _ => by
  unfold catT
  by_cases c : xs.length + ys.length ≤ sizeLine
  · rw [if_pos c]
    unfold addE addD addN emL
    dsimp only
    rw [List.length_map, List.length_map, if_pos c]
    by_cases i : (immL (xs.map m.e) && immL (ys.map m.e)) = true ∧ xs.length + ys.length ≤ sizeLine
    · rw [if_pos i]; exact ⟨.fr, by rw [List.map_append], trivial⟩
    · rw [if_neg i]; exact ⟨.bo, by rw [List.map_append], trivial⟩
  · rw [if_neg c]; trivial
@[irreducible] noncomputable def repT (xs : List α) (k : Int) : Res (List α) := @ite _ (-(2 ^ 63) ≤ k ∧ k < 2 ^ 63 ∧ xs.length * k.toNat ≤ sizeLine) (Classical.propDecidable _) (.ok (List.replicate k.toNat xs).flatten) .bad
theorem op_rep (hm : m.im = true := by rfl) : Op k1 k2 (emL m) emI mulD .fr (emL m) repT := fun fl fl' xs k _ _ => by
  unfold mulD repT emL emI
  dsimp only
  rw [imm_emL hm, List.length_map]
  by_cases c : -(2 ^ 63) ≤ k ∧ k < 2 ^ 63 ∧ xs.length * k.toNat ≤ sizeLine
  · rw [if_pos c, if_pos ⟨rfl, c⟩]
    refine ⟨.fr, ?_, rfl⟩
    rw [List.map_flatten, List.map_replicate]
  · rw [if_neg c]; trivial
theorem cutL_map (xs : List α) (lo hi : Option Int) : cutL (xs.map m.e) lo hi = (cutL xs lo hi).map m.e := by
  unfold cutL
  rw [List.length_map, List.map_take, List.map_drop]
/-- bounds of a slice -/
def TO (L : Lit) (f : Env → Res (Option Int)) (r : Res (Option Int)) : Prop := ∀ ρ, Le L ρ → match r with
  | .ok a => f ρ = .ok a
  | .ex c => f ρ = .ex c
  | .bad => True
theorem to_no : TO L noPart (.ok none) := fun ρ le => rfl
theorem to_yes {r : Res Int} (h : TM L f k emI r) : TO L (partF f) (r.bind fun i => .ok (some i)) := fun ρ le => by
  have h1 := h ρ le
  unfold partF
  cases r with
  | bad => trivial
  | ex c => dsimp only at h1 ⊢; rw [h1]; rfl
  | ok a =>
    obtain ⟨fl, e, x⟩ := h1
    rw [e]
    rfl
theorem tp_yes {i : Int} (h : TM L f k emI (.ok i)) : TO L (partF f) (.ok (some i)) := to_yes h
theorem tp_sliceL {xs : List α} {l u : Env → Res (Option Int)} {lo hi : Option Int} (h : TM L f k (emL m) (.ok xs)) (hl : TO L l (.ok lo)) (hu : TO L u (.ok hi)) (hm : m.im = true := by rfl) : TM L (slF f l u) .fr (emL m) (.ok (cutL xs lo hi)) := fun ρ le => by
  obtain ⟨_, e1, _⟩ := h ρ le
  have e2 := hl ρ le
  have e3 := hu ρ le
  dsimp only at e2 e3
  unfold slF
  rw [e1, e2, e3]
  simp only [Res.ok_bind]
  unfold sliceD emL
  dsimp only
  rw [imm_emL hm, if_pos rfl, cutL_map]
  exact ⟨.fr, rfl, rfl⟩
theorem tp_sliceT {xs : List α} {l u : Env → Res (Option Int)} {lo hi : Option Int} (h : TM L f k (emT m) (.ok xs)) (hl : TO L l (.ok lo)) (hu : TO L u (.ok hi)) (hm : m.im = true := by rfl) : TM L (slF f l u) .fr (emT m) (.ok (cutL xs lo hi)) := fun ρ le => by
  obtain ⟨_, e1, _⟩ := h ρ le
  have e2 := hl ρ le
  have e3 := hu ρ le
  dsimp only at e2 e3
  unfold slF
  rw [e1, e2, e3]
  simp only [Res.ok_bind]
  unfold sliceD emT
  dsimp only
  rw [imm_emL hm, if_pos rfl, cutL_map]
  exact ⟨.fr, rfl, rfl⟩
/-! builtins -/
theorem bt_lenL : TD1 lenF (consG (emL m) nilG) emI fun p => .ok (p.1.length : Nat) := fun p => by
  show lenF [.lst (p.1.map m.e)] = _
  unfold lenF
  dsimp only
  rw [List.length_map]
  rfl
theorem bt_lenT : TD1 lenF (consG (emT m) nilG) emI fun p => .ok (p.1.length : Nat) := fun p => by
  show lenF [.tup (p.1.map m.e)] = _
  unfold lenF
  dsimp only
  rw [List.length_map]
  rfl
theorem bt_lenK {κ : Type} {y : Ky κ} : TD1 lenF (consG (emK y m) nilG) emI fun p => .ok (p.1.length : Nat) := fun p => by
  show lenF [.dK _ (p.1.map fun q => m.e q.2)] = _
  unfold lenF
  dsimp only
  rw [List.length_map]
  rfl
theorem bt_len3 : TD1 lenF (consG (emP3 m n q) nilG) emI fun _ => .ok 3 := fun p => rfl
theorem bt_len2 : TD1 lenF (consG (emP2 m n) nilG) emI fun _ => .ok 2 := fun p => rfl
@[irreducible] noncomputable def lenST (x : Nm) : Res Int := @ite _ (x.1.length ≤ sizeLine) (Classical.propDecidable _) (.ok (x.1.length : Nat)) .bad
theorem bt_lenS : TD1 lenF (consG emS nilG) emI fun p => lenST p.1 := fun p => by
  dsimp only
  unfold lenST
  by_cases c : p.1.1.length ≤ sizeLine
  · rw [if_pos c]
    show lenF [.str p.1.1] = _
    unfold lenF
    dsimp only
    rw [if_pos c]
    rfl
  · rw [if_neg c]; trivial
theorem ints_emb : ∀ ns : List Int, intsD (ns.map emI.e) = some ns
  | [] => rfl
  | n :: ns => by
    show (intsD (ns.map emI.e)).map (n :: ·) = _
    rw [ints_emb ns]
    rfl
theorem bt_sum : TD1 sumF (consG (emL emI) nilG) emI fun p => .ok p.1.sum := fun p => by
  show sumF [.lst (p.1.map emI.e)] = _
  unfold sumF overI
  dsimp only
  rw [ints_emb]
  rfl
@[irreducible] def maxT (xs : List Int) : Res Int := if xs = [] then .bad else .ok (maxI xs)
@[irreducible] def minT (xs : List Int) : Res Int := if xs = [] then .bad else .ok (minI xs)
theorem bt_max : TD1 maxF (consG (emL emI) nilG) emI fun p => maxT p.1 := fun p => by
  dsimp only
  unfold maxT
  by_cases c : p.1 = []
  · rw [if_pos c]; trivial
  · rw [if_neg c]
    show maxF [.lst (p.1.map emI.e)] = _
    unfold maxF overI
    dsimp only
    rw [ints_emb]
    dsimp only
    rw [if_neg c]
    rfl
theorem bt_min : TD1 minF (consG (emL emI) nilG) emI fun p => minT p.1 := fun p => by
  dsimp only
  unfold minT
  by_cases c : p.1 = []
  · rw [if_pos c]; trivial
  · rw [if_neg c]
    show minF [.lst (p.1.map emI.e)] = _
    unfold minF overI
    dsimp only
    rw [ints_emb]
    dsimp only
    rw [if_neg c]
    rfl
theorem bt_listL (hm : m.im = true := by rfl) : TD1 listF (consG (emL m) nilG) (emL m) fun p => .ok p.1 := fun p => by
  show listF [.lst (p.1.map m.e)] = _
  unfold listF itemsD
  dsimp only
  rw [imm_emL hm, if_pos rfl]
  rfl
theorem bt_listT (hm : m.im = true := by rfl) : TD1 listF (consG (emT m) nilG) (emL m) fun p => .ok p.1 := fun p => by
  show listF [.tup (p.1.map m.e)] = _
  unfold listF itemsD
  dsimp only
  rw [imm_emL hm, if_pos rfl]
  rfl
theorem bt_tupL (hm : m.im = true := by rfl) : TD1 tupB (consG (emL m) nilG) (emT m) fun p => .ok p.1 := fun p => by
  show tupB [.lst (p.1.map m.e)] = _
  unfold tupB itemsD
  dsimp only
  rw [imm_emL hm, if_pos rfl]
  rfl
theorem bt_tupT (hm : m.im = true := by rfl) : TD1 tupB (consG (emT m) nilG) (emT m) fun p => .ok p.1 := fun p => by
  show tupB [.tup (p.1.map m.e)] = _
  unfold tupB itemsD
  dsimp only
  rw [imm_emL hm, if_pos rfl]
  rfl
theorem bt_intB : TD1 intF (consG emB nilG) emI fun p => .ok (if p.1 = true then 1 else 0) := fun p => rfl
theorem bt_intI : TD1 intF (consG emI nilG) emI fun p => .ok p.1 := fun p => rfl
/-! types -/
theorem tp_isi {s t : String} {b : Bool} (h : TM L f k m (.ok a)) (hs : ∀ a, tyD (m.e a) = some s) (hb : isiK s t = some b) : TM L (callF isiF (consA f (consA (dC (.ty t)) nilA))) .fr emB (.ok b) := fun ρ le => by
  obtain ⟨_, e, _⟩ := h ρ le
  unfold callF consA nilA
  rw [e]
  simp only [Res.ok_bind, dC]
  unfold isiF
  dsimp only
  rw [hs, ]
  dsimp only
  rw [hb]
  exact ⟨.fr, rfl, rfl⟩
theorem ty_I : ∀ a, tyD (emI.e a) = some "int" := fun _ => rfl
theorem ty_B : ∀ a, tyD (emB.e a) = some "bool" := fun _ => rfl
theorem ty_S : ∀ a, tyD (emS.e a) = some "str" := fun _ => rfl
theorem ty_T : ∀ a, tyD ((emT m).e a) = some "tuple" := fun _ => rfl
theorem ty_L : ∀ a, tyD ((emL m).e a) = some "list" := fun _ => rfl
theorem ty_P2 : ∀ a, tyD ((emP2 m n).e a) = some "tuple" := fun _ => rfl
theorem ty_P3 : ∀ a, tyD ((emP3 m n q).e a) = some "tuple" := fun _ => rfl
theorem ty_K {κ : Type} {y : Ky κ} : ∀ a, tyD ((emK y m).e a) = some "dict" := fun _ => rfl
/-! walked -/
theorem sq_L : Seq (emL m) m id := fun _ => .inl rfl
theorem sq_T : Seq (emT m) m id := fun _ => .inr rfl
theorem sq_P2 {m : Em α} : Seq (emP2 m m) m fun p => [p.1, p.2] := fun _ => .inr rfl
def rngT (j : Int) : List Int := (List.range (j - 0).toNat).map fun (i : Nat) => 0 + (i : Int)
@[irreducible] noncomputable def rngR (j : Int) : Res (List Int) := @ite _ (-(2 ^ 62) ≤ j ∧ j < 2 ^ 62 ∧ (rngT j).length ≤ sizeLine) (Classical.propDecidable _) (.ok (rngT j)) .bad
theorem ti_rng {lp : Bool} {r : Res Int} (h : TM L f k emI r) : TI lp L (rng1I f) emI (r.bind rngR) := fun ρ le => by
  have h1 := h ρ le
  unfold rng1I
  cases r with
  | bad => trivial
  | ex c => dsimp only at h1 ⊢; rw [h1]; rfl
  | ok j =>
    obtain ⟨fl, e, _⟩ := h1
    rw [e]
    simp only [Res.ok_bind]
    unfold rngR
    by_cases c : -(2 ^ 62) ≤ j ∧ j < 2 ^ 62 ∧ (rngT j).length ≤ sizeLine
    · rw [if_pos c]
      obtain ⟨c1, c2, z⟩ := c
      · unfold emI
        dsimp only
        rw [if_pos (by rw [Bool.and_eq_true, decide_eq_true_eq, decide_eq_true_eq]; exact ⟨c1, c2⟩)]
        have q : rngD 0 j = (rngT j).map D.int := by
          unfold rngD rngT
          rw [List.map_map]
          rfl
        refine ⟨[], by rw [q], ?_, fun _ => rfl⟩
        unfold szOk
        rw [Bool.or_eq_true, decide_eq_true_eq]
        left
        rw [List.length_map]
        exact z
    · rw [if_neg c]; trivial
/-- counted items -/
def enumT (xs : List α) : List (Int × α) := (List.range xs.length).zip xs |>.map fun q => ((q.1 : Nat), q.2)
theorem enum_emb (xs : List α) : enumD (xs.map m.e) = (enumT xs).map (emP2 emI m).e := by
  unfold enumD enumT
  rw [List.length_map, List.zip_map_right, List.map_map, List.map_map]
  rfl
theorem enum_len (xs : List α) : (enumT xs).length = xs.length := by
  unfold enumT
  rw [List.length_map, List.length_zip, List.length_range, Nat.min_self]
theorem ti_enum {lp : Bool} {r : Res (List α)} {k : Fk} (hf : ∀ fl, k.ok fl → lp = true → fl = .fr ∨ fl = .sf) (h : TM L f k (emL m) r) : TI lp L (enumI f) (emP2 emI m) (r.bind fun xs => .ok (enumT xs)) := fun ρ le => by
  have h1 := h ρ le
  unfold enumI
  cases r with
  | bad => trivial
  | ex c => dsimp only at h1 ⊢; rw [h1]; rfl
  | ok xs =>
    obtain ⟨fl, e, x⟩ := h1
    rw [e]
    simp only [Res.ok_bind]
    refine ⟨[(fl, (emL m).e xs)], ?_, ?_, fun hl => ?_⟩
    · unfold emL
      dsimp only
      rw [enum_emb]
    · unfold szOk
      rw [Bool.or_eq_true]
      right
      unfold emL
      simp [seqLen, enum_len]
    · rcases hf fl x hl with rfl | rfl <;> rfl
theorem tj_enumL {xs : List α} (h : TM L f .sf (emL m) (.ok xs)) : TI true L (enumI f) (emP2 emI m) (.ok (enumT xs)) := ti_enum (k := .sf) (fun _ z _ => z) h
theorem tj_enum {xs : List α} (h : TM L f k (emL m) (.ok xs)) : TI false L (enumI f) (emP2 emI m) (.ok (enumT xs)) := ti_enum (lp := false) (fun _ _ z => nomatch z) h
/-! sorted -/
def leM (m : Em α) (a b : α) : Bool := leD (m.e a) (m.e b)
def srtM (m : Em α) (xs : List α) : List α := xs.mergeSort (leM m)
theorem srt_emb (xs : List α) : sortD (xs.map m.e) = (srtM m xs).map m.e := by
  unfold sortD srtM
  exact (List.map_mergeSort (r := leM m) (s := leD) (f := m.e) (l := xs) (fun _ _ _ _ => rfl)).symm
/-- what can be put in order -/
structure Ordm (m : Em α) : Prop where
  im : m.im = true
  ok : ∀ a, okP (m.e a) = true
  alike : ∀ a b, PySem.W.alike (toP (m.e a)) (toP (m.e b)) = true
def rowM (m : Em α) (a : α) : Bool := match toP (m.e a) with
  | .tuple (_ :: _) => true
  | _ => false
def plainM (m : Em α) (a : α) : Bool := match toP (m.e a) with
  | .none => false
  | .tuple _ => false
  | _ => true
def srtT (m : Em α) (xs : List α) : Res (List α) := if (xs.all (rowM m) || xs.all (plainM m)) = true then .ok (srtM m xs) else .bad
theorem sortOk_emb (o : Ordm m) (xs : List α) : sortOk (xs.map m.e) = (xs.all (rowM m) || xs.all (plainM m)) := by
  unfold sortOk
  have h1 : immL (xs.map m.e) = true := imm_emL o.im xs
  have h2 : (xs.map m.e).all okP = true := by rw [List.all_map, List.all_eq_true]; exact fun a _ => o.ok a
  have h3 : ((xs.map m.e).all fun a => (xs.map m.e).all fun b => PySem.W.alike (toP a) (toP b)) = true := by
    rw [List.all_map, List.all_eq_true]
    intro a _
    show ((xs.map m.e).all fun b => PySem.W.alike (toP (m.e a)) (toP b)) = true
    rw [List.all_map, List.all_eq_true]
    exact fun b _ => o.alike a b
  rw [h1, h2, h3, Bool.true_and, Bool.true_and, Bool.true_and, List.all_map, List.all_map]
  rfl
theorem bt_sort (o : Ordm m) : TD1 sortF (consG (emL m) nilG) (emL m) fun p => srtT m p.1 := fun p => by
  dsimp only
  unfold srtT
  by_cases c : (p.1.all (rowM m) || p.1.all (plainM m)) = true
  · rw [if_pos c]
    show sortF [.lst (p.1.map m.e)] = _
    unfold sortF
    dsimp only
    rw [if_pos ((sortOk_emb o p.1).trans c), srt_emb]
    rfl
  · rw [if_neg c]; trivial
theorem ord_I : Ordm emI := ⟨rfl, fun a => eq_I.ok (by decide) a, fun a b => by simp [emI, toP, PySem.W.alike]⟩
theorem ord_S : Ordm emS := ⟨rfl, fun a => eq_S.ok (by decide) a, fun a b => by simp [emS, toP, PySem.W.alike]⟩
theorem srt_plain (h : ∀ a, plainM m a = true) (xs : List α) : srtT m xs = .ok (srtM m xs) := by
  unfold srtT
  rw [if_pos]
  rw [Bool.or_eq_true]
  right
  rw [List.all_eq_true]
  exact fun a _ => h a
theorem srt_row (h : ∀ a, rowM m a = true) (xs : List α) : srtT m xs = .ok (srtM m xs) := by
  unfold srtT
  rw [if_pos]
  rw [Bool.or_eq_true]
  left
  rw [List.all_eq_true]
  exact fun a _ => h a
theorem plain_I : ∀ a, plainM emI a = true := fun a => by simp [plainM, emI, toP]
theorem plain_S : ∀ a, plainM emS a = true := fun a => by simp [plainM, emS, toP]
theorem bt_sortI : TD1 sortF (consG (emL emI) nilG) (emL emI) fun p => .ok (srtM emI p.1) := fun p => by
  have h := bt_sort ord_I p
  dsimp only at h
  rw [srt_plain plain_I] at h
  exact h
theorem bt_sortS : TD1 sortF (consG (emL emS) nilG) (emL emS) fun p => .ok (srtM emS p.1) := fun p => by
  have h := bt_sort ord_S p
  dsimp only at h
  rw [srt_plain plain_S] at h
  exact h
theorem alikeL (h : ∀ a b, PySem.W.alike (toP (m.e a)) (toP (m.e b)) = true) : ∀ xs ys : List α, PySem.W.alikeAll (toPL (xs.map m.e)) (toPL (ys.map m.e)) = true
  | [], ys => by rw [List.map_nil, toPL]; unfold PySem.W.alikeAll; rfl
  | x :: xs, [] => by rw [List.map_cons, List.map_nil, toPL, toPL]; unfold PySem.W.alikeAll; rfl
  | x :: xs, y :: ys => by
    rw [List.map_cons, List.map_cons, toPL, toPL]
    unfold PySem.W.alikeAll
    rw [h, alikeL h xs ys]
    rfl
theorem ord_T (o : Ordm m) (h : ∀ xs, okP ((emT m).e xs) = true) : Ordm (emT m) := ⟨o.im, h, fun xs ys => by
  unfold emT
  dsimp only
  rw [toP, toP]
  unfold PySem.W.alike
  exact alikeL o.alike xs ys⟩
theorem ord_P2 (o : Ordm m) (o' : Ordm n) (h : ∀ p, okP ((emP2 m n).e p) = true) : Ordm (emP2 m n) := ⟨by show (m.im && n.im) = true; rw [o.im, o'.im]; rfl, h, fun p p' => by
  have a1 := o.alike p.1 p'.1
  have a2 := o'.alike p.2 p'.2
  simp [emP2, toP, toPL, PySem.W.alike, PySem.W.alikeAll, a1, a2]⟩
theorem ord_P3 (o : Ordm m) (o' : Ordm n) (o2 : Ordm q) (h : ∀ p, okP ((emP3 m n q).e p) = true) : Ordm (emP3 m n q) := ⟨by show (m.im && (n.im && q.im)) = true; rw [o.im, o'.im, o2.im]; rfl, h, fun p p' => by
  have a1 := o.alike p.1 p'.1
  have a2 := o'.alike p.2.1 p'.2.1
  have a3 := o2.alike p.2.2 p'.2.2
  simp [emP3, toP, toPL, PySem.W.alike, PySem.W.alikeAll, a1, a2, a3]⟩
theorem row_P2 : ∀ a, rowM (emP2 m n) a = true := fun a => by simp [rowM, emP2, toP, toPL]
theorem row_P3 : ∀ a, rowM (emP3 m n q) a = true := fun a => by simp [rowM, emP3, toP, toPL]
end
end DL
/-! DT6: sets of keys, None, texts. -/
namespace DL
open PySem L2
section
variable {α β γ κ : Type} {L : Lit} {f g h : Env → Res FD} {k k1 k2 k3 : Fk} {m : Em α} {n : Em β} {y : Ky κ}
theorem keysOf_emb [DecidableEq κ] : ∀ xs : List κ, keysOf (xs.map y.m.e) = some (xs.map y.k)
  | [] => rfl
  | x :: xs => by
    rw [List.map_cons]
    show (match keyOf (y.m.e x), keysOf (xs.map y.m.e) with
      | some k, some ks => some (k :: ks)
      | _, _ => none) = _
    rw [keyOf_emb, keysOf_emb xs]
    rfl
def dedupT [DecidableEq κ] : List κ → List κ
  | [] => []
  | x :: xs => if x ∈ xs then dedupT xs else x :: dedupT xs
theorem dedup_emb [DecidableEq κ] : ∀ xs : List κ, dedupK (xs.map y.k) = (dedupT xs).map y.k
  | [] => rfl
  | x :: xs => by
    rw [List.map_cons]
    unfold dedupK dedupT
    by_cases c : x ∈ xs
    · rw [if_pos c, if_pos (inK_iff.mpr (List.mem_map_of_mem c)), dedup_emb xs]
    · rw [if_neg c, if_neg, dedup_emb xs, List.map_cons]
      intro z
      obtain ⟨x', m', e⟩ := List.mem_map.mp (inK_iff.mp z)
      exact c (by rw [← y.inj _ _ e]; exact m')
@[irreducible] noncomputable def lenSetT [DecidableEq κ] (xs : List κ) : Res Int := @ite _ (xs.length + 1 < 4096) (Classical.propDecidable _) (.ok ((dedupT xs).length : Nat)) .bad
/-- a list or a tuple of keys -/
def itemsOf (n : Em (List κ)) (y : Ky κ) : Prop := ∀ xs, itemsD (n.e xs) = some (xs.map y.m.e)
theorem it_L : itemsOf (emL y.m) y := fun _ => rfl
theorem it_T : itemsOf (emT y.m) y := fun _ => rfl
theorem tm_lenSet [DecidableEq κ] {n : Em (List κ)} {r : Res (List κ)} (hi : itemsOf n y) (h : TM L f k n r) : TM L (lenSetF f) .fr emI (r.bind lenSetT) := fun ρ le => by
  have h1 := h ρ le
  unfold lenSetF overSetF bind1
  cases r with
  | bad => trivial
  | ex c => dsimp only at h1 ⊢; rw [h1]; rfl
  | ok xs =>
    obtain ⟨fl, e, _⟩ := h1
    rw [e]
    simp only [Res.ok_bind]
    unfold lenSetT onKeys
    dsimp only
    rw [hi xs]
    dsimp only
    rw [keysOf_emb]
    dsimp only
    rw [List.length_map]
    by_cases c : xs.length + 1 < 4096
    · have c2 : xs.length + 1 < scanBound := c
      rw [if_pos c, if_pos c2, dedup_emb, List.length_map]
      exact ⟨.fr, rfl, rfl⟩
    · rw [if_neg c]; trivial
/-- keys of one kind -/
def oneKy (y : Ky κ) : Prop := (∀ a, ∃ i, y.k a = .inl i) ∨ ∀ a, ∃ s, y.k a = .inr s
theorem one_I : oneKy kyI := .inl fun a => ⟨a, rfl⟩
theorem one_S : oneKy kyS := .inr fun a => ⟨a.1, rfl⟩
theorem oneKind_emb (o : oneKy y) (xs : List κ) : oneKind (xs.map y.k) = true := by
  unfold oneKind
  rw [Bool.or_eq_true]
  rcases o with o | o
  · left
    rw [List.all_map, List.all_eq_true]
    intro a _
    obtain ⟨i, e⟩ := o a
    show (match y.k a with | .inl _ => true | _ => false) = true
    rw [e]
  · right
    rw [List.all_map, List.all_eq_true]
    intro a _
    obtain ⟨i, e⟩ := o a
    show (match y.k a with | .inr _ => true | _ => false) = true
    rw [e]
@[irreducible] noncomputable def srtSetT [DecidableEq κ] (m : Em κ) (xs : List κ) : Res (List κ) := @ite _ (xs.length + 1 < 4096) (Classical.propDecidable _) (.ok (srtM m (dedupT xs))) .bad
theorem tm_srtSet [DecidableEq κ] {n : Em (List κ)} {r : Res (List κ)} (o : oneKy y) (hi : itemsOf n y) (h : TM L f k n r) : TM L (sortSetF f) .fr (emL y.m) (r.bind (srtSetT y.m)) := fun ρ le => by
  have h1 := h ρ le
  unfold sortSetF overSetF bind1
  cases r with
  | bad => trivial
  | ex c => dsimp only at h1 ⊢; rw [h1]; rfl
  | ok xs =>
    obtain ⟨fl, e, _⟩ := h1
    rw [e]
    simp only [Res.ok_bind]
    unfold srtSetT onKeys
    dsimp only
    rw [hi xs]
    dsimp only
    rw [keysOf_emb]
    dsimp only
    rw [List.length_map]
    by_cases c : xs.length + 1 < 4096
    · have c2 : xs.length + 1 < scanBound := c
      rw [if_pos c, if_pos c2, if_pos (oneKind_emb o xs), dedup_emb, List.map_map]
      have q : (dedupT xs).map (kD ∘ y.k) = (dedupT xs).map y.m.e := List.map_congr_left fun a _ => (y.ek a).symm
      rw [q, srt_emb]
      exact ⟨.fr, rfl, rfl⟩
    · rw [if_neg c]; trivial
/-! sorted(dict) -/
@[irreducible] noncomputable def srtKT (m : Em κ) (d : List (κ × α)) : Res (List κ) := @ite _ (d.length < 64) (Classical.propDecidable _) (.ok (srtM m (keysT d))) .bad
theorem strs_emb : ∀ xs : List Nm, strsD (xs.map emS.e) = some (xs.map (·.1))
  | [] => rfl
  | x :: xs => by
    show (strsD (xs.map emS.e)).map (x.1 :: ·) = _
    rw [strs_emb xs]
    rfl
theorem strs_ints : ∀ (i : Int) (xs : List D), strsD (.int i :: xs) = none := fun _ _ => rfl
theorem bt_sortKS : TD1 sortF (consG (emK kyS n) nilG) (emL emS) fun p => srtKT emS p.1 := fun p => by
  dsimp only
  unfold srtKT
  by_cases c : p.1.length < 64
  · rw [if_pos c]
    show sortF [.dK (p.1.map fun q => kyS.k q.1) (p.1.map fun q => n.e q.2)] = _
    have e : (p.1.map fun q => kyS.k q.1).map kD = (keysT p.1).map emS.e := by
      unfold keysT
      rw [List.map_map, List.map_map]
      rfl
    unfold sortF
    dsimp only
    rw [e, strs_emb]
    dsimp only
    rw [if_pos (by unfold keysT; rw [List.length_map, List.length_map]; exact c), List.map_map]
    have e2 : (keysT p.1).map (D.str ∘ fun (x : Nm) => x.1) = (keysT p.1).map emS.e := rfl
    rw [e2, srt_emb]
    rfl
  · rw [if_neg c]; trivial
theorem bt_sortKI : TD1 sortF (consG (emK kyI n) nilG) (emL emI) fun p => srtKT emI p.1 := fun p => by
  dsimp only
  unfold srtKT
  by_cases c : p.1.length < 64
  · rw [if_pos c]
    show sortF [.dK (p.1.map fun q => kyI.k q.1) (p.1.map fun q => n.e q.2)] = _
    have e : (p.1.map fun q => kyI.k q.1).map kD = (keysT p.1).map emI.e := by
      unfold keysT
      rw [List.map_map, List.map_map]
      rfl
    unfold sortF
    dsimp only
    rw [e]
    cases q : keysT p.1 with
    | nil =>
      show (if ([] : List Str).length < 64 then Res.ok (D.lst (sortD [])) else Res.bad) = _
      rw [if_pos (by decide)]
      unfold sortD srtM
      rw [List.mergeSort_nil, List.mergeSort_nil]
      rfl
    | cons x xs =>
      have e3 : strsD ((x :: xs).map emI.e) = none := strs_ints x _
      rw [e3]
      dsimp only
      rw [ints_emb]
      dsimp only
      have cl : (x :: xs).length < 64 := by rw [← q]; unfold keysT; rw [List.length_map]; exact c
      rw [if_pos cl]
      have e2 : (x :: xs).map D.int = (x :: xs).map emI.e := rfl
      rw [e2, srt_emb]
      rfl
  · rw [if_neg c]; trivial
/-! is None -/
theorem isNon_emb (a : Option α) (nn : ∀ a, isNonD (m.e a) = false) : isNonD ((emO m).e a) = !a.isSome := by
  cases a with
  | none => rfl
  | some a => exact nn a
theorem op_isN (nn : ∀ a, isNonD (m.e a) = false := by exact fun _ => rfl) : Op k1 k2 (emO m) emU (isND false) .fr emB fun a _ => .ok (!a.isSome) := fun fl fl' a b _ _ => ⟨.fr, by
  show Res.ok (Fl.fr, D.bl (isNonD ((emO m).e a))) = _
  rw [isNon_emb a nn]
  rfl, rfl⟩
theorem op_isNN (nn : ∀ a, isNonD (m.e a) = false := by exact fun _ => rfl) : Op k1 k2 (emO m) emU (isND true) .fr emB fun a _ => .ok a.isSome := fun fl fl' a b _ _ => ⟨.fr, by
  show Res.ok (Fl.fr, D.bl (!isNonD ((emO m).e a))) = _
  rw [isNon_emb a nn, Bool.not_not]
  rfl, rfl⟩
/-! a value as an optional one, and back -/
theorem tm_some {r : Res α} (h : TM L f k m r) : TM L f k (emO m) (r.bind fun a => .ok (some a)) := fun ρ le => by
  have h1 := h ρ le
  cases r <;> exact h1
theorem tp_some {a : α} (h : TM L f k m (.ok a)) : TM L f k (emO m) (.ok (some a)) := h
theorem tp_none : TM L (dC .non) .fr (emO m) (.ok none) := fun ρ le => ⟨.fr, rfl, rfl⟩
def theT {α : Type} (a : Option α) : Res α := match a with
  | some a => .ok a
  | none => .bad
theorem tm_the {r : Res (Option α)} (h : TM L f k (emO m) r) : TM L f k m (r.bind theT) := fun ρ le => by
  have h1 := h ρ le
  cases r with
  | bad => trivial
  | ex c => exact h1
  | ok a =>
    cases a with
    | none => trivial
    | some a => exact h1
/-! texts -/
@[irreducible] def mkT (s : Str) : Res Nm := if h : PyData.strOk s = true then .ok ⟨s, h⟩ else .bad
@[irreducible] noncomputable def joinT (s : Nm) (xs : List Nm) : Res Nm := @ite _ ((xs.map (·.1.length)).sum + xs.length * s.1.length ≤ 16777216) (Classical.propDecidable _) (mkT (Txt.join s.1 (xs.map (·.1)))) .bad
theorem op_joinL : Op k1 k2 emS (emL emS) joinK .fr emS joinT := fun fl fl' s xs _ _ => by
  unfold joinT
  by_cases c : (xs.map (·.1.length)).sum + xs.length * s.1.length ≤ 16777216
  · rw [if_pos c]
    unfold mkT
    by_cases hs : PyData.strOk (Txt.join s.1 (xs.map (·.1))) = true
    · rw [dif_pos hs]
      refine ⟨.fr, ?_, rfl⟩
      show (match strsD (xs.map emS.e) with
        | some ys => if (ys.map fun (y : Str) => y.length).sum + ys.length * s.1.length ≤ 16777216 then Res.ok (Fl.fr, D.str (Txt.join s.1 ys)) else .bad
        | none => .bad) = _
      rw [strs_emb]
      dsimp only
      rw [List.map_map, List.length_map]
      have c2 : (xs.map ((fun (x : Str) => x.length) ∘ fun (x : Nm) => x.1)).sum + xs.length * s.1.length ≤ 16777216 := c
      rw [if_pos c2]
      rfl
    · rw [dif_neg hs]; trivial
  · rw [if_neg c]; trivial
theorem pre_str : ∀ a, isStrD (emS.e a) = true := fun _ => rfl
theorem pre_lst : ∀ a, isLstD ((emL m).e a) = true := fun _ => rfl
@[irreducible] def ixST (s : Nm) (i : Int) : Res Nm := match atI s.1.cps.toList i with
  | some c => if s.1.length ≤ sizeLine then mkT ⟨#[c]⟩ else .bad
  | none => .bad
theorem op_ixS : Op k1 k2 emS emI ixF .fr emS ixST := fun fl fl' s i _ _ => by
  unfold ixST
  cases e : atI s.1.cps.toList i with
  | none => trivial
  | some c =>
    dsimp only
    by_cases z : s.1.length ≤ sizeLine
    · rw [if_pos z]
      unfold mkT
      by_cases hs : PyData.strOk ⟨#[c]⟩ = true
      · rw [dif_pos hs]
        refine ⟨.fr, ?_, rfl⟩
        show (match atI s.1.cps.toList i with
          | some c => if s.1.length ≤ sizeLine then Res.ok (Fl.fr, D.str ⟨#[c]⟩) else .bad
          | none => .bad) = _
        rw [e]
        dsimp only
        rw [if_pos z]
        rfl
      · rw [dif_neg hs]; trivial
    · rw [if_neg z]; trivial
/-- xs.index(a) -/
def indexT [DecidableEq α] (xs : List α) (a : α) : Res Int := match xs.findIdx? (fun z => decide (z = a)) with
  | some j => .ok (j : Nat)
  | none => .bad
theorem findIdx_emb [DecidableEq α] {i : Nat} (hq : Eqm m i) (a : α) (xs : List α) : (xs.map m.e).findIdx? (fun z => eqvD z (m.e a)) = xs.findIdx? fun z => decide (z = a) := by
  rw [List.findIdx?_map]
  congr 1
  funext z
  show eqvD (m.e z) (m.e a) = _
  unfold eqvD
  rw [hq.eqv]
theorem op_index [DecidableEq α] {i : Nat} (hq : Eqm m i) (hi : decide (i + 1 ≤ 64) = true := by rfl) : Op k1 k2 (emL m) m indexK .fr emI indexT := fun fl fl' xs a _ _ => by
  have hi := of_decide_eq_true hi
  have o1 := (eq_L hq).ok hi xs
  have o2 := hq.ok (by omega) a
  have fi := findIdx_emb hq a xs
  unfold indexT
  cases e : xs.findIdx? (fun z => decide (z = a)) with
  | none => trivial
  | some j =>
    refine ⟨.fr, ?_, rfl⟩
    unfold indexK
    unfold emL at o1 ⊢
    dsimp only at o1 ⊢
    rw [o1, o2, Bool.and_self, if_pos rfl, fi, e]
    rfl
/-- the signs of a text -/
def charsT (x : Nm) : List Nm := x.1.cps.toList.pmap (fun c h => ⟨⟨#[c]⟩, h⟩) fun c hc => by
  have h := x.2
  unfold PyData.strOk at h ⊢
  rw [← Array.all_toList, List.all_eq_true] at h ⊢
  intro c' m'
  have : c' = c := by simpa using m'
  rw [this]
  exact h c hc
theorem chars_emb (x : Nm) : charsD x.1 = (charsT x).map emS.e := by
  unfold charsD charsT
  rw [List.map_pmap]
  exact (List.pmap_eq_map (f := fun c => D.str ⟨#[c]⟩) (l := x.1.cps.toList) _).symm
theorem chars_len (x : Nm) : (charsT x).length = x.1.length := by
  unfold charsT
  rw [List.length_pmap]
  rfl
@[irreducible] noncomputable def walkST (x : Nm) : Res (List Nm) := @ite _ (x.1.length ≤ sizeLine) (Classical.propDecidable _) (.ok (charsT x)) .bad
theorem ti_walkS {r : Res Nm} (h : TM L f k emS r) : TI false L (walkI f) emS (r.bind walkST) := fun ρ le => by
  have h1 := h ρ le
  unfold walkI
  cases r with
  | bad => trivial
  | ex c => dsimp only at h1 ⊢; rw [h1]; rfl
  | ok x =>
    obtain ⟨fl, e, _⟩ := h1
    rw [e]
    simp only [Res.ok_bind]
    unfold walkST
    by_cases z : x.1.length ≤ sizeLine
    · rw [if_pos z]
      refine ⟨[(fl, emS.e x)], ?_, ?_, fun z => nomatch z⟩
      · unfold emS
        dsimp only
        rw [chars_emb]
        rfl
      · unfold szOk
        rw [Bool.or_eq_true, decide_eq_true_eq]
        left
        rw [List.length_map, chars_len]
        exact z
    · rw [if_neg z]; trivial
end
end DL
/-! DT7: the script; short rules for printed proofs. -/
namespace DL
open PySem L2
def emZ : Em (List Int) := ⟨fun xs => .fz (xs.map D.int), true, fun _ xs => by
  show immL (xs.map D.int) = true
  induction xs with
  | nil => rfl
  | cons x xs ih => exact ih⟩
section
variable {α β γ σ κ : Type} {L : Lit} {f g : Env → Res FD} {fi : Env → Res ID} {k k1 k2 : Fk} {m : Em α} {n : Em β} {q : Em γ} {y : Ky κ}
theorem bt_lenZ : TD1 lenF (consG emZ nilG) emI fun p => .ok (p.1.length : Nat) := fun p => by
  show lenF [.fz (p.1.map D.int)] = _
  unfold lenF
  dsimp only
  rw [List.length_map]
  rfl
theorem op_ixZ : Op k1 k2 emZ emI ixF .fr emI ixT := fun fl fl' xs i h1 _ => by
  unfold ixF ixT emZ emI
  dsimp only
  have e : atI (xs.map D.int) i = (atI xs i).map D.int := atI_map (m := emI) xs i
  rw [e]
  cases atI xs i with
  | none => trivial
  | some a => exact ⟨.fr, by dsimp only [Option.map_some, up]; rfl, rfl⟩
theorem tm_compP {tg : Tg} {tt : Env → Res Bool} {te : Env → Res FD} {own : List Nat} {xs : List α} {L1 : α → Lit} {t : α → Res Bool} {e : α → Res β} (hi : TI false L fi m (.ok xs)) (hg : ∀ a, TG tg (m.e a) (L.fz.wipe own) (L1 a)) (ht : ∀ a, TT (L1 a) tt (t a)) (he : ∀ a, TM (L1 a) te .fr n (e a)) :
    TM L (compF fi tg tt te own) .fr (emL n) (compT t e xs) := tm_comp hi hg ht he
theorem tm_compKP (i : Nat) {l : Lo} {kvs : List (κ × β)} {tt : Env → Res Bool} {te : Env → Res FD} {own : List Nat} {L1 : κ → Lit} {t : κ → Bool} {tg : Tg} {e : κ → γ} (hx : L.at i = some (l, (emK y n).e kvs)) (hg : ∀ a, TG tg (y.m.e a) ((L.put i (some (.any, (emK y n).e kvs))).fz.wipe own) (L1 a)) (ht : ∀ a, TT (L1 a) tt (.ok (t a))) (he : ∀ a, TM (L1 a) te .fr q (.ok (e a))) :
    TM L (lockF i (compF (keysI i) tg tt te own)) .fr (emL q) ((szT (keysT kvs)).bind fun xs => .ok ((xs.filter t).map e)) := by
  have h := tm_compK i hx hg ht he
  simp only [compT_p] at h
  exact h
/-- None as the end -/
theorem tb_retN : TB L xRetN (emO m) (.ok none) := fun ρ le => ⟨ρ, rfl⟩
theorem tb_retU : TB L xRetN emU (.ok ()) := fun ρ le => ⟨ρ, rfl⟩
theorem tb_nil : TB L xNext n .bad := fun ρ le => trivial
theorem tm_U : TM L (dC .non) .fr emU (.ok ()) := fun ρ le => ⟨.fr, rfl, rfl⟩
/-- several names at once -/
theorem tf_par2 {i j : Nat} {a : α} {b : β} (ha : TM L f .fr m (.ok a)) (hb : TM L g .fr n (.ok b)) (hi : decide (i < L.length) = true := by rfl) (hj : decide (j < L.length) = true := by rfl) :
    TF L (xPar [i, j] (consA f (consA g nilA))) (fun p : α × β => (L.put i (some (.own, m.e p.1))).put j (some (.own, n.e p.2))) (.ok (a, b)) := fun ρ le => by
  obtain ⟨_, e1, rfl⟩ := ha ρ le
  obtain ⟨_, e2, rfl⟩ := hb ρ le
  have hi := of_decide_eq_true hi
  have hj := of_decide_eq_true hj
  rw [le.len] at hi hj
  unfold xPar consA nilA
  rw [e1, e2]
  refine ⟨(ρ.set i (some (.loc, m.e a))).set j (some (.loc, n.e b)), ?_, (le.put (show Lo.of .own .loc from rfl) i).put (show Lo.of .own .loc from rfl) j⟩
  simp [asgL, asg, hi, hj]
theorem tf_par3 {h : Env → Res FD} {i j l : Nat} {a : α} {b : β} {c : γ} (ha : TM L f .fr m (.ok a)) (hb : TM L g .fr n (.ok b)) (hc : TM L h .fr q (.ok c)) (hi : decide (i < L.length) = true := by rfl) (hj : decide (j < L.length) = true := by rfl) (hl : decide (l < L.length) = true := by rfl) :
    TF L (xPar [i, j, l] (consA f (consA g (consA h nilA)))) (fun p : α × β × γ => ((L.put i (some (.own, m.e p.1))).put j (some (.own, n.e p.2.1))).put l (some (.own, q.e p.2.2))) (.ok (a, b, c)) := fun ρ le => by
  obtain ⟨_, e1, rfl⟩ := ha ρ le
  obtain ⟨_, e2, rfl⟩ := hb ρ le
  obtain ⟨_, e3, rfl⟩ := hc ρ le
  have hi := of_decide_eq_true hi
  have hj := of_decide_eq_true hj
  have hl := of_decide_eq_true hl
  rw [le.len] at hi hj hl
  unfold xPar consA nilA
  rw [e1, e2, e3]
  refine ⟨((ρ.set i (some (.loc, m.e a))).set j (some (.loc, n.e b))).set l (some (.loc, q.e c)), ?_, ((le.put (show Lo.of .own .loc from rfl) i).put (show Lo.of .own .loc from rfl) j).put (show Lo.of .own .loc from rfl) l⟩
  simp [asgL, asg, hi, hj, hl]
theorem ti_wL {r : Res (List α)} (h : TM L f k (emL m) r) : TI false L (walkI f) m r := by
  have q := ti_walk sq_L h
  cases r <;> exact q
theorem ti_wT {r : Res (List α)} (h : TM L f k (emT m) r) : TI false L (walkI f) m r := by
  have q := ti_walk sq_T h
  cases r <;> exact q
theorem ti_wLL {r : Res (List α)} (h : TM L f .sf (emL m) r) : TI true L (walkI f) m r := by
  have q := ti_walkL sq_L h
  cases r <;> exact q
theorem ti_wTL {r : Res (List α)} (h : TM L f .sf (emT m) r) : TI true L (walkI f) m r := by
  have q := ti_walkL sq_T h
  cases r <;> exact q
theorem tp_neg {i : Int} (h : TM L f k emI (.ok i)) : TM L (bind1 f negD) .fr emI (.ok (-i)) := tm_neg h
theorem tp_new : TM L newK .fr (emK y n) (.ok []) := fun ρ le => ⟨.fr, rfl, rfl⟩
theorem bt_sortR (o : Ordm m) (h : ∀ a, rowM m a = true) : TD1 sortF (consG (emL m) nilG) (emL m) fun p => .ok (srtM m p.1) := fun p => by
  have q := bt_sort o p
  dsimp only at q
  rw [srt_row h] at q
  exact q
/-! targets of whatever is new or shared -/
def TH (t : Tg) (d : D) (L L' : Lit) : Prop := ∀ o ρ, Le L ρ → ∃ ρ1, asg o t d ρ = some ρ1 ∧ Le L' ρ1
def THs (ts : List Tg) (ds : List D) (L L' : Lit) : Prop := ∀ o ρ, Le L ρ → ∃ ρ1, asgL o ts ds ρ = some ρ1 ∧ Le L' ρ1
theorem th_nm {i : Nat} {d : D} (h : decide (i < L.length) = true := by rfl) : TH (.nm i) d L (L.put i (some (.any, d))) := fun o ρ le => by
  have h := of_decide_eq_true h
  rw [le.len] at h
  exact ⟨_, by unfold asg; rw [if_pos h], le.put (show Lo.of .any o from trivial) i⟩
theorem ths_nil : THs [] [] L L := fun o ρ le => ⟨ρ, rfl, le⟩
theorem ths_cons {t : Tg} {ts : List Tg} {d : D} {ds : List D} {L1 L2 : Lit} (h1 : TH t d L L1) (h2 : THs ts ds L1 L2) : THs (t :: ts) (d :: ds) L L2 := fun o ρ le => by
  obtain ⟨ρ1, e1, l1⟩ := h1 o ρ le
  obtain ⟨ρ2, e2, l2⟩ := h2 o ρ1 l1
  exact ⟨ρ2, by unfold asgL; rw [e1]; exact e2, l2⟩
theorem th_tp {ts : List Tg} {ds : List D} {L' : Lit} (h : THs ts ds L L') : TH (.tp ts) (.tup ds) L L' := fun o ρ le => by
  obtain ⟨ρ1, e1, l1⟩ := h o ρ le
  exact ⟨ρ1, by unfold asg; exact e1, l1⟩
theorem tf_tgtH {t : Tg} {L' : α → Lit} {r : Res α} (h : TM L f .sf m r) (hg : ∀ a, TH t (m.e a) L (L' a)) : TF L (xTgt t f) L' r := tf_tgt h fun a o _ => hg a o
/-- slices of texts -/
@[irreducible] noncomputable def sliceST (x : Nm) (lo hi : Option Int) : Res Nm := @ite _ (x.1.length ≤ sizeLine) (Classical.propDecidable _) (mkT (Txt.slice x.1 lo hi)) .bad
theorem tm_sliceS {x : Nm} {l u : Env → Res (Option Int)} {lo hi : Option Int} (h : TM L f k emS (.ok x)) (hl : TO L l (.ok lo)) (hu : TO L u (.ok hi)) : TM L (slF f l u) .fr emS (sliceST x lo hi) := fun ρ le => by
  obtain ⟨_, e1, _⟩ := h ρ le
  have e2 := hl ρ le
  have e3 := hu ρ le
  dsimp only at e2 e3
  unfold sliceST
  by_cases z : x.1.length ≤ sizeLine
  · rw [if_pos z]
    unfold mkT
    by_cases hs : PyData.strOk (Txt.slice x.1 lo hi) = true
    · rw [dif_pos hs]
      unfold slF
      rw [e1, e2, e3]
      refine ⟨.fr, ?_, rfl⟩
      show (if x.1.length ≤ sizeLine then Res.ok (Fl.fr, D.str (Txt.slice x.1 lo hi)) else .bad) = _
      rw [if_pos z]
      rfl
    · rw [dif_neg hs]; trivial
  · rw [if_neg z]; trivial
end
end DL
/-! DT8: typed: is True, pop, get with a default, zip, {k: v}. -/
namespace DL
open PySem L2
section
variable {α β γ σ κ : Type} {L : Lit} {f g h : Env → Res FD} {fi : Env → Res ID} {k k1 k2 k3 : Fk} {m : Em α} {n : Em β} {q : Em γ} {y : Ky κ}
theorem op_isB : Op k1 k2 emB emB (isBD false) .fr emB fun a b => .ok (decide (a = b)) := fun fl fl' a b _ _ => ⟨.fr, rfl, rfl⟩
theorem op_isNB : Op k1 k2 emB emB (isBD true) .fr emB fun a b => .ok (!decide (a = b)) := fun fl fl' a b _ _ => ⟨.fr, rfl, rfl⟩
theorem op_gtEI : Op k1 k2 emI emI gtE .fr emB fun a b => .ok (decide (b < a)) := fun fl fl' a b _ _ => ⟨.fr, rfl, rfl⟩
theorem op_ltEI : Op k1 k2 emI emI ltE .fr emB fun a b => .ok (decide (a < b)) := fun fl fl' a b _ _ => ⟨.fr, rfl, rfl⟩
theorem op_gtES : Op k1 k2 emS emS gtE .fr emB fun a b => .ok (strLt b.1 a.1) := fun fl fl' a b _ _ => ⟨.fr, rfl, rfl⟩
theorem op_ltES : Op k1 k2 emS emS ltE .fr emB fun a b => .ok (strLt a.1 b.1) := fun fl fl' a b _ _ => ⟨.fr, rfl, rfl⟩
/-! pop -/
@[irreducible] def popT {α : Type} (xs : List α) : Res (List α × α) := match xs.getLast? with
  | some a => .ok (xs.dropLast, a)
  | none => .bad
theorem popT_snoc {α : Type} (xs : List α) (a : α) : popT (xs ++ [a]) = .ok (xs, a) := by
  unfold popT
  rw [List.getLast?_append]
  simp
theorem tf_pop (j i : Nat) {l : Lo} {xs : List α} (hx : L.at j = some (l, (emL m).e xs)) (hm : m.im = true := by rfl) (hl : l.mut = true := by rfl) (hi : decide (i < L.length) = true := by rfl) (hij : decide (i ≠ j) = true := by rfl) :
    TF L (xPop j i) (fun p : List α × α => (L.put j (some (l, (emL m).e p.1))).put i (some (.own, m.e p.2))) (popT xs) := fun ρ le => by
  obtain ⟨o, ho, e0⟩ := le.get hx
  have hi := of_decide_eq_true hi
  have hij := of_decide_eq_true hij
  rw [le.len] at hi
  unfold popT xPop
  rw [e0]
  dsimp only [emL]
  rw [if_pos ⟨Lo.mut_of hl ho, hi, hij⟩]
  unfold popK
  rw [List.getLast?_map]
  cases e : xs.getLast? with
  | none => trivial
  | some a =>
    dsimp only [Option.map_some]
    rw [if_pos (m.him hm a)]
    dsimp only
    refine ⟨_, rfl, ?_⟩
    rw [← List.map_dropLast]
    exact (le.put ho j).put (show Lo.of .own .loc from rfl) i
/-! d.get(k, x) -/
theorem tm_get2 [DecidableEq κ] {rd : Res (List (κ × α))} {rk : Res κ} {rx : Res α} (h1 : TM L f k1 (emK y m) rd) (h2 : TM L g k2 y.m rk) (h3 : TM L h k3 m rx) (hm : m.im = true := by rfl) : TM L (get2F f g h) .fr m (rd.bind fun d => rk.bind fun k => rx.bind fun x => .ok ((dget d k).getD x)) := fun ρ le => by
  have h1 := h1 ρ le
  have h2 := h2 ρ le
  have h3 := h3 ρ le
  unfold get2F
  cases rd with
  | bad => trivial
  | ex c => dsimp only at h1 ⊢; rw [h1]; rfl
  | ok d =>
    obtain ⟨_, e1, _⟩ := h1
    rw [e1]
    simp only [Res.ok_bind]
    rw [if_pos (show isDictD ((emK y m).e d) = true from rfl)]
    cases rk with
    | bad => trivial
    | ex c => dsimp only at h2 ⊢; rw [h2]; rfl
    | ok kk =>
      obtain ⟨_, e2, _⟩ := h2
      rw [e2]
      simp only [Res.ok_bind]
      cases rx with
      | bad => trivial
      | ex c => dsimp only at h3 ⊢; rw [h3]; rfl
      | ok x =>
        obtain ⟨_, e3, _⟩ := h3
        rw [e3]
        have hd := dGet_emb (y := y) (n := m) d kk
        simp only [Res.ok_bind]
        unfold getK2
        dsimp only
        rw [hd]
        cases dget d kk with
        | none => exact ⟨.fr, by dsimp only [Option.map_none]; rw [if_pos (m.him hm x)]; rfl, rfl⟩
        | some a => exact ⟨.fr, by dsimp only [Option.map_some]; rw [up_im hm]; rfl, rfl⟩
theorem tp_get2 [DecidableEq κ] {d : List (κ × α)} {kk : κ} {x : α} (h1 : TM L f k1 (emK y m) (.ok d)) (h2 : TM L g k2 y.m (.ok kk)) (h3 : TM L h k3 m (.ok x)) (hm : m.im = true := by rfl) : TM L (get2F f g h) .fr m (.ok ((dget d kk).getD x)) := tm_get2 h1 h2 h3 hm
/-- d.get(k, None) -/
theorem tm_getN [DecidableEq κ] {rd : Res (List (κ × α))} {rk : Res κ} (h1 : TM L f k1 (emK y m) rd) (h2 : TM L g k2 y.m rk) (hm : m.im = true := by rfl) : TM L (get2F f g (dC .non)) .fr (emO m) (rd.bind fun d => rk.bind fun k => .ok (dget d k)) := fun ρ le => by
  have h1 := h1 ρ le
  have h2 := h2 ρ le
  unfold get2F
  cases rd with
  | bad => trivial
  | ex c => dsimp only at h1 ⊢; rw [h1]; rfl
  | ok d =>
    obtain ⟨_, e1, _⟩ := h1
    rw [e1]
    simp only [Res.ok_bind]
    rw [if_pos (show isDictD ((emK y m).e d) = true from rfl)]
    cases rk with
    | bad => trivial
    | ex c => dsimp only at h2 ⊢; rw [h2]; rfl
    | ok kk =>
      obtain ⟨_, e2, _⟩ := h2
      rw [e2]
      have hd := dGet_emb (y := y) (n := m) d kk
      simp only [Res.ok_bind, dC]
      unfold getK2
      dsimp only
      rw [hd]
      cases dget d kk with
      | none => exact ⟨.fr, rfl, rfl⟩
      | some a => exact ⟨.fr, by dsimp only [Option.map_some]; rw [up_im hm]; rfl, rfl⟩
theorem tp_getN [DecidableEq κ] {d : List (κ × α)} {kk : κ} (h1 : TM L f k1 (emK y m) (.ok d)) (h2 : TM L g k2 y.m (.ok kk)) (hm : m.im = true := by rfl) : TM L (get2F f g (dC .non)) .fr (emO m) (.ok (dget d kk)) := tm_getN h1 h2 hm
/-! zip -/
theorem zip_emb (xs : List α) (ys : List β) : zipD (xs.map m.e) (ys.map n.e) = (xs.zip ys).map (emP2 m n).e := by
  unfold zipD
  rw [List.zip_map, List.map_map]
  rfl
theorem zip_szOk {fl fl' : Fl} (xs : List α) (ys : List β) : szOk ([(fl, (emL m).e xs), (fl', (emL n).e ys)], (xs.zip ys).map (emP2 m n).e) = true ∧ szOk ([(fl, (emT m).e xs), (fl', (emT n).e ys)], (xs.zip ys).map (emP2 m n).e) = true := by
  have : (xs.zip ys).length ≤ xs.length := by rw [List.length_zip]; exact Nat.min_le_left _ _
  unfold szOk
  constructor <;> (rw [Bool.or_eq_true]; right; simp [seqLen, emL, emT, Nat.min_le_left])
theorem tj_zipT0 {lp : Bool} {xs : List α} {ys : List β} (hf : ∀ fl, k1.ok fl → lp = true → fl = .fr ∨ fl = .sf) (hg : ∀ fl, k2.ok fl → lp = true → fl = .fr ∨ fl = .sf) (h1 : TM L f k1 (emT m) (.ok xs)) (h2 : TM L g k2 (emT n) (.ok ys)) : TI lp L (zipI f g) (emP2 m n) (.ok (xs.zip ys)) := fun ρ le => by
  obtain ⟨fl, e1, x1⟩ := h1 ρ le
  obtain ⟨fl', e2, x2⟩ := h2 ρ le
  refine ⟨[(fl, (emT m).e xs), (fl', (emT n).e ys)], ?_, (zip_szOk xs ys).2, fun hl => ?_⟩
  · unfold zipI
    rw [e1, e2]
    show Res.ok (_, zipD (xs.map m.e) (ys.map n.e)) = _
    rw [zip_emb]
  · rcases hf fl x1 hl with rfl | rfl <;> rcases hg fl' x2 hl with rfl | rfl <;> rfl
theorem tj_zipL0 {lp : Bool} {xs : List α} {ys : List β} (hf : ∀ fl, k1.ok fl → lp = true → fl = .fr ∨ fl = .sf) (hg : ∀ fl, k2.ok fl → lp = true → fl = .fr ∨ fl = .sf) (h1 : TM L f k1 (emL m) (.ok xs)) (h2 : TM L g k2 (emL n) (.ok ys)) : TI lp L (zipI f g) (emP2 m n) (.ok (xs.zip ys)) := fun ρ le => by
  obtain ⟨fl, e1, x1⟩ := h1 ρ le
  obtain ⟨fl', e2, x2⟩ := h2 ρ le
  refine ⟨[(fl, (emL m).e xs), (fl', (emL n).e ys)], ?_, (zip_szOk xs ys).1, fun hl => ?_⟩
  · unfold zipI
    rw [e1, e2]
    show Res.ok (_, zipD (xs.map m.e) (ys.map n.e)) = _
    rw [zip_emb]
  · rcases hf fl x1 hl with rfl | rfl <;> rcases hg fl' x2 hl with rfl | rfl <;> rfl
theorem tj_zT {xs : List α} {ys : List β} (h1 : TM L f k1 (emT m) (.ok xs)) (h2 : TM L g k2 (emT n) (.ok ys)) : TI false L (zipI f g) (emP2 m n) (.ok (xs.zip ys)) := tj_zipT0 (lp := false) (fun _ _ z => nomatch z) (fun _ _ z => nomatch z) h1 h2
theorem tj_zL {xs : List α} {ys : List β} (h1 : TM L f k1 (emL m) (.ok xs)) (h2 : TM L g k2 (emL n) (.ok ys)) : TI false L (zipI f g) (emP2 m n) (.ok (xs.zip ys)) := tj_zipL0 (lp := false) (fun _ _ z => nomatch z) (fun _ _ z => nomatch z) h1 h2
theorem tj_zTL {xs : List α} {ys : List β} (h1 : TM L f .sf (emT m) (.ok xs)) (h2 : TM L g .sf (emT n) (.ok ys)) : TI true L (zipI f g) (emP2 m n) (.ok (xs.zip ys)) := tj_zipT0 (k1 := .sf) (k2 := .sf) (fun _ z _ => z) (fun _ z _ => z) h1 h2
theorem tj_zLL {xs : List α} {ys : List β} (h1 : TM L f .sf (emL m) (.ok xs)) (h2 : TM L g .sf (emL n) (.ok ys)) : TI true L (zipI f g) (emP2 m n) (.ok (xs.zip ys)) := tj_zipL0 (k1 := .sf) (k2 := .sf) (fun _ z _ => z) (fun _ z _ => z) h1 h2
/-! {k: v, ..} -/
def TPs (L : Lit) (g : Env → Res (List (Key × D))) (y : Ky κ) (m : Em α) (r : Res (List (κ × α))) : Prop := ∀ ρ, Le L ρ → match r with
  | .ok ps => g ρ = .ok (ps.map fun p => (y.k p.1, m.e p.2))
  | .ex c => g ρ = .ex c
  | .bad => True
theorem tps_nil : TPs L nilP y m (.ok []) := fun ρ le => rfl
theorem tps_cons {kk : κ} {a : α} {ps : List (κ × α)} {g' : Env → Res (List (Key × D))} (h1 : TM L f k1 y.m (.ok kk)) (h2 : TM L g k2 m (.ok a)) (h3 : TPs L g' y m (.ok ps)) (hm : m.im = true := by rfl) : TPs L (consP f g g') y m (.ok ((kk, a) :: ps)) := fun ρ le => by
  obtain ⟨_, e1, _⟩ := h1 ρ le
  obtain ⟨_, e2, _⟩ := h2 ρ le
  have e3 := h3 ρ le
  dsimp only at e3 ⊢
  unfold consP
  rw [e1, e2, e3]
  simp only [Res.ok_bind]
  rw [show keyOf (y.m.e kk) = some (y.k kk) by rw [y.ek]; cases y.k kk <;> rfl]
  dsimp only
  rw [if_pos (m.him hm a)]
  rfl
theorem tp_disp [DecidableEq κ] {ps : List (κ × α)} {g : Env → Res (List (Key × D))} (h : TPs L g y m (.ok ps)) (hz : decide (ps.length ≤ 15) = true := by rfl) : TM L (dispF g) .fr (emK y m) (.ok (dictT ps)) := fun ρ le => by
  have e := h ρ le
  dsimp only at e
  unfold dispF
  rw [e]
  refine ⟨.fr, ?_, rfl⟩
  simp only [Res.ok_bind]
  rw [if_pos (by rw [List.length_map]; exact of_decide_eq_true hz)]
  unfold dictOf dictT
  have h := dict_emb (y := y) (n := m) ps []
  simp only [List.map_nil] at h
  rw [h]
  rfl
/-! several at once, not all pure -/
theorem tf_par2M {i j : Nat} {ra : Res α} {rb : Res β} (ha : TM L f .fr m ra) (hb : TM L g .fr n rb) (hi : decide (i < L.length) = true := by rfl) (hj : decide (j < L.length) = true := by rfl) :
    TF L (xPar [i, j] (consA f (consA g nilA))) (fun p : α × β => (L.put i (some (.own, m.e p.1))).put j (some (.own, n.e p.2))) (ra.bind fun a => rb.bind fun b => .ok (a, b)) := fun ρ le => by
  have ha := ha ρ le
  have hb := hb ρ le
  have hi := of_decide_eq_true hi
  have hj := of_decide_eq_true hj
  rw [le.len] at hi hj
  unfold xPar consA nilA
  cases ra with
  | bad => trivial
  | ex c => dsimp only at ha ⊢; rw [ha]; exact ⟨_, rfl⟩
  | ok a =>
    obtain ⟨_, e1, rfl⟩ := ha
    rw [e1]
    cases rb with
    | bad => trivial
    | ex c => dsimp only at hb ⊢; simp only [Res.ok_bind]; rw [hb]; exact ⟨_, rfl⟩
    | ok b =>
      obtain ⟨_, e2, rfl⟩ := hb
      rw [e2]
      refine ⟨(ρ.set i (some (.loc, m.e a))).set j (some (.loc, n.e b)), ?_, (le.put (show Lo.of .own .loc from rfl) i).put (show Lo.of .own .loc from rfl) j⟩
      simp [asgL, asg, hi, hj]
end
end DL
/-! DT9: typed: x[k].append(e), dict(pairs of lists), d[k] = moved list, update, sorted(set(pairs)), dicts with tuple keys. -/
namespace DL
open PySem L2
def noEx {α : Type} (r : Res α) : Res α := match r with
  | .ok a => .ok a
  | _ => .bad
@[simp] theorem noEx_ok {α : Type} (a : α) : noEx (.ok a) = .ok a := rfl
section
variable {α β γ σ κ : Type} {L : Lit} {f g h : Env → Res FD} {fi : Env → Res ID} {k k1 k2 k3 : Fk} {m : Em α} {n : Em β} {q : Em γ} {y : Ky κ}
/-! x[k].append(e) -/
noncomputable def dapp {κ α : Type} [DecidableEq κ] (k : κ) (a : α) : List (κ × List α) → Option (List (κ × List α))
  | p :: d => if p.1 = k then @ite _ (p.2.length < sizeLine) (Classical.propDecidable _) (some ((p.1, p.2 ++ [a]) :: d)) none else (dapp k a d).map (p :: ·)
  | [] => none
@[irreducible] noncomputable def dappT {κ α : Type} [DecidableEq κ] (d : List (κ × List α)) (k : κ) (a : α) : Res (List (κ × List α)) := match dapp k a d with
  | some d' => .ok d'
  | none => .bad
theorem kapp_emb [DecidableEq κ] (k : κ) (a : α) : ∀ d : List (κ × List α), kapp (y.k k) (m.e a) (d.map fun p => y.k p.1) (d.map fun p => (emL m).e p.2) = (dapp k a d).map fun d' => d'.map fun p => (emL m).e p.2
  | [] => rfl
  | p :: d => by
    rw [List.map_cons, List.map_cons]
    unfold kapp dapp
    by_cases e : p.1 = k
    · rw [if_pos (by rw [e]), if_pos e]
      dsimp only [emL]
      by_cases c : p.2.length < sizeLine
      · rw [if_pos (by rw [List.length_map]; exact c), if_pos c]
        simp [emL]
      · rw [if_neg (by rw [List.length_map]; exact c), if_neg c]; rfl
    · rw [if_neg fun z => e (y.inj _ _ z), if_neg e, kapp_emb k a d]
      cases dapp k a d <;> rfl
theorem dapp_keys [DecidableEq κ] (k : κ) (a : α) : ∀ (d d' : List (κ × List α)), dapp k a d = some d' → d'.map (·.1) = d.map (·.1)
  | [], d', e => by cases e
  | p :: d, d', e => by
    unfold dapp at e
    by_cases c : p.1 = k
    · rw [if_pos c] at e
      by_cases c2 : p.2.length < sizeLine
      · rw [if_pos c2] at e; cases e; rfl
      · rw [if_neg c2] at e; cases e
    · rw [if_neg c] at e
      obtain ⟨d2, e2, rfl⟩ := Option.map_eq_some_iff.mp e
      rw [List.map_cons, List.map_cons, dapp_keys k a d d2 e2]
theorem tf_appK [DecidableEq κ] (i : Nat) {l : Lo} {d : List (κ × List α)} {rk : Res κ} {r : Res α} (hx : L.at i = some (l, (emK y (emL m)).e d)) (hk : TM L f k1 y.m rk) (h : TM L g k2 m r) (hm : m.im = true := by rfl) (hl : l.mut = true := by rfl) :
    TF L (xAppK i f g) (fun d' => L.put i (some (l, (emK y (emL m)).e d'))) ((noEx rk).bind fun k => (noEx r).bind fun a => dappT d k a) := fun ρ le => by
  have h0 := hk ρ le
  have h1 := h ρ le
  obtain ⟨o, ho, e0⟩ := le.get hx
  cases rk with
  | bad => trivial
  | ex c => trivial
  | ok k =>
    cases r with
    | bad => trivial
    | ex c => trivial
    | ok a =>
      obtain ⟨fl, e1, _⟩ := h0
      obtain ⟨fl', e2, _⟩ := h1
      simp only [noEx_ok, Res.ok_bind]
      unfold dappT xAppK appKE
      cases ed : dapp k a d with
      | none => trivial
      | some d' =>
        rw [e0, e1, e2]
        dsimp only
        rw [if_pos (Lo.mut_of hl ho)]
        unfold kappF emK
        dsimp only
        rw [keyOf_emb]
        dsimp only
        rw [if_pos (m.him hm a), kapp_emb, ed]
        have hkeys := dapp_keys k a d d' ed
        have e5 : (d.map fun p => y.k p.1) = d'.map fun p => y.k p.1 := by
          have := congrArg (List.map y.k) hkeys
          rw [List.map_map, List.map_map] at this
          exact this.symm
        rw [e5]
        exact ⟨_, rfl, le.put ho i⟩
/-! dict(pairs), keys unlike -/
@[irreducible] noncomputable def nodT {κ α : Type} (ps : List (κ × α)) : Res (List (κ × α)) := @ite _ ((ps.map (·.1)).Nodup) (Classical.propDecidable _) (.ok ps) .bad
theorem pairsN_emb : ∀ ps : List (κ × β), pairsN (ps.map (emP2 y.m n).e) = some (ps.map fun p => (y.k p.1, n.e p.2))
  | [] => rfl
  | p :: ps => by
    rw [List.map_cons, List.map_cons]
    show (match keyOf (y.m.e p.1), pairsN (ps.map (emP2 y.m n).e) with
      | some q, some r => some ((q, n.e p.2) :: r)
      | _, _ => none) = _
    have : keyOf (y.m.e p.1) = some (y.k p.1) := by
      rw [y.ek]
      cases y.k p.1 <;> rfl
    rw [this, pairsN_emb ps]
theorem tm_dictN {r : Res (List (κ × β))} (h : TM L f .fr (emL (emP2 y.m n)) r) : TM L (dictNF f) .fr (emK y n) (r.bind nodT) := fun ρ le => by
  have h1 := h ρ le
  unfold dictNF
  cases r with
  | bad => trivial
  | ex c => dsimp only at h1 ⊢; rw [h1]; rfl
  | ok ps =>
    obtain ⟨fl, e, rfl⟩ := h1
    rw [e]
    simp only [Res.ok_bind]
    unfold nodT dictND
    by_cases c : (ps.map (·.1)).Nodup
    · rw [if_pos c]
      dsimp only [emL]
      rw [pairsN_emb]
      dsimp only
      have c2 : ((ps.map fun p => (y.k p.1, n.e p.2)).map (·.1)).Nodup := by
        rw [List.map_map]
        have : (ps.map ((fun x => x.1) ∘ fun p => (y.k p.1, n.e p.2))) = (ps.map (·.1)).map y.k := by rw [List.map_map]; rfl
        rw [this]
        exact List.pairwise_map.mpr (c.imp fun ne e => ne (y.inj _ _ e))
      rw [if_pos ⟨rfl, c2⟩]
      refine ⟨.fr, ?_, rfl⟩
      rw [List.map_map, List.map_map]
      rfl
    · rw [if_neg c]; trivial
/-! d[k] = y, y moved -/
theorem tf_putM [DecidableEq κ] (i j : Nat) {l : Lo} {d : List (κ × β)} {b : β} {rk : Res κ} (hx : L.at i = some (l, (emK y n).e d)) (hj : L.at j = some (.own, n.e b)) (hk : TM L f k1 y.m rk) (hl : l.mut = true := by rfl) (hij : decide (i = j) = false := by rfl) :
    TF L (xPutM i j f) (fun d' => (L.put j none).put i (some (l, (emK y n).e d'))) ((noEx rk).bind fun k => dnewT d k b) := fun ρ le => by
  have h0 := hk ρ le
  obtain ⟨o, ho, e0⟩ := le.get hx
  obtain ⟨oj, hoj, ej⟩ := le.get hj
  obtain rfl : oj = .loc := hoj
  cases rk with
  | bad => trivial
  | ex c => trivial
  | ok k =>
    obtain ⟨fl, e1, _⟩ := h0
    simp only [noEx_ok, Res.ok_bind]
    unfold dnewT
    by_cases hh : dhas d k = true
    · rw [if_pos hh]; trivial
    · rw [if_neg hh]
      unfold dputT
      by_cases hz : d.length < sizeLine
      · rw [if_pos hz]
        unfold xPutM putME
        rw [e0, ej, e1]
        unfold emK
        dsimp only
        rw [keyOf_emb]
        dsimp only
        have hn : notIn (y.k k) (d.map fun p => y.k p.1) = true := by rw [notIn_emb]; simp [hh]
        rw [if_pos ⟨Lo.mut_of hl ho, hij, hn, by rw [List.length_map]; exact hz⟩]
        refine ⟨_, rfl, ?_⟩
        have e6 : dput d k b = d ++ [(k, b)] := by unfold dput; rw [if_neg hh]
        rw [e6, List.map_append, List.map_append]
        exact (le.off j).put ho i
      · rw [if_neg hz]; trivial
/-! d.update(d2) -/
@[irreducible] noncomputable def updT {κ α : Type} [DecidableEq κ] (d d2 : List (κ × α)) : Res (List (κ × α)) := @ite _ (d.length + d2.length ≤ sizeLine) (Classical.propDecidable _) (.ok (d2.foldl (fun d p => dput d p.1 p.2) d)) .bad
theorem zip_mp {α β γ : Type} (f : α → β) (g : α → γ) : ∀ d : List α, (d.map f).zip (d.map g) = d.map fun p => (f p, g p)
  | [] => rfl
  | p :: d => by rw [List.map_cons, List.map_cons, List.zip_cons_cons, zip_mp f g d, List.map_cons]
theorem immL_map (hn : n.im = true) : ∀ d : List (κ × β), immL (d.map fun p => n.e p.2) = true
  | [] => rfl
  | p :: d => by
    rw [List.map_cons]
    unfold immL
    rw [n.him hn, immL_map hn d]; rfl
theorem tf_upd [DecidableEq κ] (i : Nat) {l : Lo} {d : List (κ × β)} {r : Res (List (κ × β))} (hx : L.at i = some (l, (emK y n).e d)) (h : TM L f .fr (emK y n) r) (hn : n.im = true := by rfl) (hl : l.mut = true := by rfl) :
    TF L (xUpd i f) (fun d' => L.put i (some (l, (emK y n).e d'))) ((noEx r).bind fun d2 => updT d d2) := fun ρ le => by
  have h1 := h ρ le
  obtain ⟨o, ho, e0⟩ := le.get hx
  cases r with
  | bad => trivial
  | ex c => trivial
  | ok d2 =>
    obtain ⟨fl, e, rfl⟩ := h1
    simp only [noEx_ok, Res.ok_bind]
    unfold updT
    by_cases c : d.length + d2.length ≤ sizeLine
    · rw [if_pos c]
      unfold xUpd updKE
      rw [e0, e]
      unfold emK
      dsimp only
      rw [if_pos ⟨Lo.mut_of hl ho, immL_map hn d, immL_map hn d2, by rw [List.length_map, List.length_map]; exact c⟩, zip_mp, dict_emb]
      exact ⟨_, rfl, le.put ho i⟩
    · rw [if_neg c]; trivial
/-! sorted(set(pairs)) -/
theorem dedP_eq : ∀ xs : List (Int × Int), dedP xs = dedupT xs
  | [] => rfl
  | x :: xs => by
    unfold dedP dedupT
    rw [dedP_eq xs]
    by_cases h : x ∈ xs
    · rw [if_pos h, if_pos h]
    · rw [if_neg h, if_neg h]
@[irreducible] noncomputable def srtPT (xs : List (Int × Int)) : Res (List (Int × Int)) := @ite _ (xs.length < 64 ∧ ∀ p ∈ xs, 0 ≤ p.1 ∧ p.1 < 64 ∧ 0 ≤ p.2 ∧ p.2 < 64) (Classical.propDecidable _) (.ok (srtM (emP2 emI emI) (dedupT xs))) .bad
theorem pairsOf_emb : ∀ xs : List (Int × Int), (∀ p ∈ xs, 0 ≤ p.1 ∧ p.1 < 64 ∧ 0 ≤ p.2 ∧ p.2 < 64) → pairsOf (xs.map (emP2 emI emI).e) = some xs
  | [], _ => rfl
  | x :: xs, h => by
    rw [List.map_cons]
    unfold pairsOf
    rw [pairsOf_emb xs fun p m => h p (List.mem_cons_of_mem _ m)]
    have : pairOf ((emP2 emI emI).e x) = some x := by
      show (if 0 ≤ x.1 ∧ x.1 < 64 ∧ 0 ≤ x.2 ∧ x.2 < 64 then some (x.1, x.2) else none) = _
      rw [if_pos (h x List.mem_cons_self)]
    rw [this]
theorem tm_sortPair {r : Res (List (Int × Int))} (h : TM L f k (emL (emP2 emI emI)) r) : TM L (sortPairF f) .fr (emL (emP2 emI emI)) (r.bind srtPT) := fun ρ le => by
  have h1 := h ρ le
  unfold sortPairF
  cases r with
  | bad => trivial
  | ex c => dsimp only at h1 ⊢; rw [h1]; rfl
  | ok xs =>
    obtain ⟨fl, e, _⟩ := h1
    rw [e]
    simp only [Res.ok_bind]
    unfold srtPT setPairD
    by_cases c : xs.length < 64 ∧ ∀ p ∈ xs, 0 ≤ p.1 ∧ p.1 < 64 ∧ 0 ≤ p.2 ∧ p.2 < 64
    · rw [if_pos c]
      dsimp only [emL]
      rw [pairsOf_emb xs c.2]
      dsimp only
      rw [if_pos c.1, dedP_eq]
      refine ⟨.fr, ?_, rfl⟩
      have := srt_emb (m := emP2 emI emI) (dedupT xs)
      rw [← this]
      rfl
    · rw [if_neg c]; trivial
end
end DL
/-! DT10: typed: dicts whose keys are tuples. -/
namespace DL
open PySem L2
def emKT {κ α : Type} (y : Ky κ) (n : Em α) : Em (List (List κ × α)) := ⟨fun d => .dT (d.map fun p => p.1.map y.k) (d.map fun p => n.e p.2), false, fun z => nomatch z⟩
section
variable {α β γ σ κ : Type} {L : Lit} {f g h : Env → Res FD} {fi : Env → Res ID} {k k1 k2 k3 : Fk} {m : Em α} {n : Em β} {q : Em γ} {y : Ky κ}
theorem km_inj (y : Ky κ) : ∀ {a b : List κ}, a.map y.k = b.map y.k → a = b
  | [], [], _ => rfl
  | [], _ :: _, e => by cases e
  | _ :: _, [], e => by cases e
  | a :: as, b :: bs, e => by
    simp only [List.map_cons, List.cons.injEq] at e
    rw [y.inj _ _ e.1, km_inj y e.2]
variable [DecidableEq κ]
theorem mem_embT (d : List (List κ × β)) (k : List κ) : k.map y.k ∈ (d.map fun p => p.1.map y.k) ↔ dhas d k = true := by
  induction d with
  | nil => simp [dhas, dget]
  | cons p d ih =>
    rw [List.map_cons, List.mem_cons, ih]
    have e0 : dhas (p :: d) k = if p.1 = k then true else dhas d k := by
      show (if p.1 = k then some p.2 else dget d k).isSome = if p.1 = k then true else (dget d k).isSome
      by_cases e : p.1 = k
      · rw [if_pos e, if_pos e]; rfl
      · rw [if_neg e, if_neg e]
    rw [e0]
    by_cases e : p.1 = k
    · rw [if_pos e]
      exact ⟨fun _ => rfl, fun _ => .inl (by rw [e])⟩
    · rw [if_neg e]
      exact ⟨fun z => z.elim (fun z => absurd (km_inj y z).symm e) id, .inr⟩
theorem repl_embT (k : List κ) (a : β) : ∀ d : List (List κ × β), replL (k.map y.k) (n.e a) (d.map fun p => p.1.map y.k) (d.map fun p => n.e p.2) = (d.map fun p => if p.1 = k then (p.1, a) else p).map fun p => n.e p.2
  | [] => rfl
  | p :: d => by
    rw [List.map_cons, List.map_cons, List.map_cons, List.map_cons]
    unfold replL
    rw [repl_embT k a d]
    congr 1
    by_cases e : p.1 = k
    · rw [if_pos e, if_pos (by rw [e])]
    · rw [if_neg e, if_neg fun z => e (km_inj y z)]
theorem put_embT (d : List (List κ × β)) (k : List κ) (a : β) : putD (d.map fun p => p.1.map y.k) (d.map fun p => n.e p.2) (k.map y.k) (n.e a) = ((dput d k a).map (fun p => p.1.map y.k), (dput d k a).map fun p => n.e p.2) := by
  unfold putD dput
  by_cases e : dhas d k = true
  · rw [if_pos ((mem_embT d k).mpr e), if_pos e, repl_embT]
    congr 1
    rw [List.map_map]
    refine List.map_congr_left fun p _ => ?_
    show p.1.map y.k = (if p.1 = k then (p.1, a) else p).1.map y.k
    split <;> rfl
  · rw [if_neg fun z => e ((mem_embT d k).mp z), if_neg e]
    simp
/-- slot[k] = v, k a tuple, v of a type that is never changed -/
theorem tf_putT (i : Nat) {l : Lo} {d : List (List κ × β)} {rk : Res (List κ)} {r : Res β} {kk kf : Fk} (hx : L.at i = some (l, (emKT y n).e d)) (hk : TM L f kk (emT y.m) rk) (h : TM L g kf n r) (hn : n.im = true := by rfl) (hl : l.mut = true := by rfl) :
    TF L (xPut i f g) (fun d' => L.put i (some (l, (emKT y n).e d'))) (r.bind fun a => rk.bind fun k => dputT d k a) := fun ρ le => by
  have h0 := hk ρ le
  have h1 := h ρ le
  obtain ⟨o, ho, e0⟩ := le.get hx
  unfold xPut
  cases r with
  | bad => trivial
  | ex c => dsimp only at h1 ⊢; rw [h1]; exact ⟨_, rfl⟩
  | ok a =>
    obtain ⟨fl, e, _⟩ := h1
    rw [e]
    dsimp only
    rw [e0]
    dsimp only
    rw [if_pos (Lo.mut_of hl ho)]
    cases rk with
    | bad => trivial
    | ex c => dsimp only at h0 ⊢; rw [h0]; exact ⟨_, rfl⟩
    | ok k =>
      obtain ⟨fl', e', _⟩ := h0
      rw [e']
      simp only [Res.ok_bind]
      unfold dputT putF
      by_cases hz : d.length < sizeLine
      · rw [if_pos hz]
        unfold emKT
        dsimp only [emT]
        rw [keysOf_emb]
        dsimp only
        rw [if_pos ⟨.inr (n.him hn a), by rw [List.length_map]; exact hz⟩, put_embT]
        exact ⟨_, rfl, le.put ho i⟩
      · rw [if_neg hz]; trivial
omit [DecidableEq κ] in
theorem tp_newT : TM L newT .fr (emKT y n) (.ok []) := fun ρ le => ⟨.fr, rfl, rfl⟩
/-- sorted(d) -/
@[irreducible] noncomputable def srtKTT {κ α : Type} (m : Em κ) (d : List (List κ × α)) : Res (List (List κ)) := @ite _ (((keysT d).all (rowM (emT m)) || (keysT d).all (plainM (emT m))) = true ∧ ∀ k ∈ keysT d, k.length ≤ sizeLine) (Classical.propDecidable _) (.ok (srtM (emT m) (keysT d))) .bad
omit [DecidableEq κ] in
theorem tks_emb (d : List (List κ × β)) : (d.map fun p => p.1.map y.k).map tkD = (keysT d).map (emT y.m).e := by
  unfold keysT
  rw [List.map_map, List.map_map]
  refine List.map_congr_left fun p _ => ?_
  show D.tup ((p.1.map y.k).map kD) = D.tup (p.1.map y.m.e)
  rw [List.map_map]
  congr 1
  exact List.map_congr_left fun a _ => (y.ek a).symm
omit [DecidableEq κ] in
theorem tm_sortDT {r : Res (List (List κ × β))} (o : Ordm (emT y.m)) (h : TM L f k (emKT y n) r) : TM L (sortDTF f) .fr (emL (emT y.m)) (r.bind (srtKTT y.m)) := fun ρ le => by
  have h1 := h ρ le
  unfold sortDTF
  cases r with
  | bad => trivial
  | ex c => dsimp only at h1 ⊢; rw [h1]; rfl
  | ok d =>
    obtain ⟨fl, e, _⟩ := h1
    rw [e]
    simp only [Res.ok_bind]
    unfold srtKTT sortDTD
    by_cases c : ((keysT d).all (rowM (emT y.m)) || (keysT d).all (plainM (emT y.m))) = true ∧ ∀ k ∈ keysT d, k.length ≤ sizeLine
    · rw [if_pos c]
      dsimp only [emKT]
      rw [tks_emb]
      have c2 : ((d.map fun p => p.1.map y.k).all fun k => decide (k.length ≤ sizeLine)) = true := by
        rw [List.all_map, List.all_eq_true]
        intro p mp
        show decide ((p.1.map y.k).length ≤ sizeLine) = true
        rw [List.length_map, decide_eq_true_eq]
        exact c.2 p.1 (List.mem_map_of_mem mp)
      rw [if_pos ⟨(sortOk_emb o _).trans c.1, c2⟩, srt_emb]
      exact ⟨.fr, rfl, rfl⟩
    · rw [if_neg c]; trivial
end
end DL
/-! DT11: typed: enumerate(tuple), pairs of new things. -/
namespace DL
open PySem L2
section
variable {α β γ σ κ : Type} {L : Lit} {f g h : Env → Res FD} {fi : Env → Res ID} {k k1 k2 k3 : Fk} {m : Em α} {n : Em β} {q : Em γ} {y : Ky κ}
theorem up_fr (d : D) : up .fr d = (.fr, d) := by
  unfold up
  by_cases c : imm d = true
  · rw [if_pos c]
  · rw [if_neg c]
theorem tp_p2N {a : α} {b : β} (h1 : TM L f .fr m (.ok a)) (h2 : TM L g .fr n (.ok b)) : TM L (tupF (consA f (consA g nilA))) .fr (emP2 m n) (.ok (a, b)) := fun ρ le => by
  obtain ⟨_, e1, rfl⟩ := h1 ρ le
  obtain ⟨_, e2, rfl⟩ := h2 ρ le
  unfold tupF consA nilA
  rw [e1, e2]
  exact ⟨.fr, congrArg Res.ok (up_fr _), rfl⟩
theorem tm_p2N {r : Res α} {s : Res β} (h1 : TM L f .fr m r) (h2 : TM L g .fr n s) : TM L (tupF (consA f (consA g nilA))) .fr (emP2 m n) (r.bind fun a => s.bind fun b => .ok (a, b)) := fun ρ le => by
  have h1 := h1 ρ le
  have h2 := h2 ρ le
  unfold tupF consA nilA
  cases r with
  | bad => trivial
  | ex c => dsimp only at h1 ⊢; rw [h1]; rfl
  | ok a =>
    obtain ⟨_, e1, rfl⟩ := h1
    rw [e1]
    cases s with
    | bad => trivial
    | ex c => dsimp only at h2 ⊢; simp only [Res.ok_bind]; rw [h2]; rfl
    | ok b =>
      obtain ⟨_, e2, rfl⟩ := h2
      simp only [Res.ok_bind]
      rw [e2]
      exact ⟨.fr, congrArg Res.ok (up_fr _), rfl⟩
theorem ti_enumT {lp : Bool} {r : Res (List α)} {k : Fk} (hf : ∀ fl, k.ok fl → lp = true → fl = .fr ∨ fl = .sf) (h : TM L f k (emT m) r) : TI lp L (enumTI f) (emP2 emI m) (r.bind fun xs => .ok (enumT xs)) := fun ρ le => by
  have h1 := h ρ le
  unfold enumTI
  cases r with
  | bad => trivial
  | ex c => dsimp only at h1 ⊢; rw [h1]; rfl
  | ok xs =>
    obtain ⟨fl, e, x⟩ := h1
    rw [e]
    simp only [Res.ok_bind]
    refine ⟨[(fl, (emT m).e xs)], ?_, ?_, fun hl => ?_⟩
    · unfold emT
      dsimp only
      rw [enum_emb]
    · unfold szOk
      rw [Bool.or_eq_true]
      right
      unfold emT
      simp [seqLen, enum_len]
    · rcases hf fl x hl with rfl | rfl <;> rfl
theorem tj_enumTL {xs : List α} (h : TM L f .sf (emT m) (.ok xs)) : TI true L (enumTI f) (emP2 emI m) (.ok (enumT xs)) := ti_enumT (k := .sf) (fun _ z _ => z) h
theorem tj_enumT {xs : List α} (h : TM L f k (emT m) (.ok xs)) : TI false L (enumTI f) (emP2 emI m) (.ok (enumT xs)) := ti_enumT (lp := false) (fun _ _ z => nomatch z) h
theorem tf_tgt2N {r : Res (α × β)} (i j : Nat) (h : TM L f .fr (emP2 m n) r) (hi : decide (i < L.length) = true := by rfl) (hj : decide (j < L.length) = true := by rfl) :
    TF L (xTgt (.tp [.nm i, .nm j]) f) (fun p => (L.put i (some (.own, m.e p.1))).put j (some (.own, n.e p.2))) r := fun ρ le => by
  have h1 := h ρ le
  have hi := of_decide_eq_true hi
  have hj := of_decide_eq_true hj
  rw [le.len] at hi hj
  unfold xTgt xVal
  cases r with
  | bad => trivial
  | ex c => dsimp only at h1 ⊢; rw [h1]; exact ⟨_, rfl⟩
  | ok a =>
    obtain ⟨fl, e, rfl⟩ := h1
    dsimp only
    rw [e]
    dsimp only
    have : asg .loc (.tp [.nm i, .nm j]) ((emP2 m n).e a) ρ = some ((ρ.set i (some (.loc, m.e a.1))).set j (some (.loc, n.e a.2))) := by
      show asg .loc (.tp [.nm i, .nm j]) (.tup [m.e a.1, n.e a.2]) ρ = _
      simp only [asg, asgL, Option.bind]
      rw [if_pos hi]
      simp only
      rw [if_pos (by rw [List.length_set]; exact hj)]
    rw [this]
    exact ⟨_, rfl, (le.put (show Lo.of .own .loc from rfl) i).put (show Lo.of .own .loc from rfl) j⟩
end
end DL
/-! DT12: typed: moved lists, loops within loops that return, loops over unlike pairs, an if that may return. -/
namespace DL
open PySem L2
theorem Le.drop {L : Lit} {ρ : Env} (h : Le L ρ) : ∀ i : Nat, Le (L.put i none) ρ := by
  induction h with
  | nil => exact fun _ => .nil
  | no h ih =>
    intro i
    cases i with
    | zero => exact .no h
    | succ i => exact .no (ih i)
  | yes q h ih =>
    intro i
    cases i with
    | zero => exact .no h
    | succ i => exact .yes q (ih i)
section
variable {α β γ σ τ : Type} {L : Lit} {f g : Env → Res FD} {ft : Env → Res Bool} {fi : Env → Res ID} {k : Fk} {m : Em α} {n : Em β} {x z : XS} {E : σ → Lit} {E' : τ → Lit} {rb : Res Bool}
/-! moved -/
theorem mv_go {i j : Nat} {a : α} {ρ : Env} (le : Le L ρ) (hj : L.at j = some (.own, m.e a)) (hi : decide (i < L.length) = true) : ∃ d, ρ[j]? = some (some (.loc, d)) ∧ d = m.e a ∧ mVar j ρ = .ok j ∧ i < ρ.length ∧ Le ((L.put j none).put i (some (.own, m.e a))) ((ρ.set j none).set i (some (.loc, d))) := by
  obtain ⟨o, ho, e⟩ := le.get hj
  obtain rfl : o = .loc := ho
  have hi := of_decide_eq_true hi
  rw [le.len] at hi
  refine ⟨_, e, rfl, by unfold mVar; rw [e], hi, (le.off j).put (show Lo.of .own .loc from rfl) i⟩
theorem tf_mv (i j : Nat) {a : α} (hj : L.at j = some (.own, m.e a)) (hi : decide (i < L.length) = true := by rfl) : TF L (xMv i (mVar j)) (fun a' : α => (L.put j none).put i (some (.own, m.e a'))) (.ok a) := fun ρ le => by
  obtain ⟨d, e, rfl, em, hl, l⟩ := mv_go le hj hi
  unfold xMv
  rw [em]
  dsimp only
  rw [e]
  dsimp only
  rw [if_pos hl]
  exact ⟨_, rfl, l⟩
/-- x = y if t else x -/
theorem tf_mvIf (i j : Nat) {a b : α} (hj : L.at j = some (.own, m.e a)) (hx : L.at i = some (.own, m.e b)) (hc : TT L ft rb) (hi : decide (i < L.length) = true := by rfl) (hij : decide (i = j) = false := by rfl) : TF L (xMv i (mIf ft (mVar j) (mVar i))) (fun a' : α => (L.put j none).put i (some (.own, m.e a'))) (rb.bind fun c => .ok (if c = true then a else b)) := fun ρ le => by
  have h0 := hc ρ le
  have ne : i ≠ j := of_decide_eq_false hij
  obtain ⟨d, e, rfl, em, hl, l⟩ := mv_go le hj hi
  obtain ⟨d2, e2, rfl, em2, _, l2⟩ := mv_go (L := L.put j none) (i := i) (j := i) (m := m) (a := b) (le.drop j) (by
    have : ∀ (L : Lit) (i j : Nat) (x : Option (Lo × D)), i ≠ j → (L.put j x).at i = L.at i := by
      intro L
      induction L with
      | nil => exact fun _ _ _ _ => rfl
      | cons s L ih =>
        intro i j x ne
        cases i with
        | zero => cases j with
          | zero => exact absurd rfl ne
          | succ j => rfl
        | succ i => cases j with
          | zero => rfl
          | succ j => exact ih i j x fun z => ne (by rw [z])
    rw [this L i j none ne]; exact hx) (by rw [Lit.put_len]; exact hi)
  unfold xMv mIf
  cases rb with
  | bad => trivial
  | ex c => dsimp only at h0 ⊢; rw [h0]; exact ⟨_, rfl⟩
  | ok c =>
    dsimp only at h0
    rw [h0]
    simp only [Res.ok_bind]
    cases c with
    | true =>
      simp only [if_true]
      rw [em]
      dsimp only
      rw [e]
      dsimp only
      rw [if_pos hl]
      exact ⟨_, rfl, l⟩
    | false =>
      simp only [Bool.false_eq_true, if_false]
      rw [em2]
      dsimp only
      rw [e2]
      dsimp only
      rw [if_pos hl]
      refine ⟨_, rfl, ?_⟩
      have pp : ∀ (L : Lit) (i : Nat) (x y : Option (Lo × D)), (L.put i x).put i y = L.put i y := by
        intro L
        induction L with
        | nil => exact fun _ _ _ => rfl
        | cons s L ih =>
          intro i x y
          cases i with
          | zero => rfl
          | succ i => show s :: _ = s :: _; exact congrArg (s :: ·) (ih i x y)
      rw [pp] at l2
      exact l2
/-! what may return, then more that may -/
def seqXT {σ τ β : Type} (j : σ → Res (Stp τ β)) : Stp σ β → Res (Stp τ β)
  | .nx s => j s
  | .rt b => .ok (.rt b)
  | _ => .bad
theorem tx_seqX {r : Res (Stp σ β)} {j : σ → Res (Stp τ β)} (h1 : TX L x E n r) (h2 : ∀ s, TX (E s) z E' n (j s)) : TX L (xSeq x z) E' n (r.bind (seqXT j)) := fun ρ le => by
  have h1 := h1 ρ le
  unfold xSeq
  cases r with
  | bad => trivial
  | ex c => obtain ⟨ρ', e⟩ := h1; dsimp only [Res.ex_bind]; rw [e]; exact ⟨_, rfl⟩
  | ok s =>
    cases s with
    | nx s =>
      obtain ⟨ρ', e, l⟩ := h1
      dsimp only [Res.ok_bind, seqXT]
      rw [e]
      exact h2 s ρ' l
    | rt b => obtain ⟨ρ', e⟩ := h1; dsimp only [Res.ok_bind, seqXT]; rw [e]; exact ⟨_, rfl⟩
    | bk s => exact trivial
    | ct s => exact trivial
def lastXT {σ τ β : Type} (j : σ → τ) : Stp σ β → Res (Stp τ β)
  | .nx s => .ok (.nx (j s))
  | .rt b => .ok (.rt b)
  | _ => .bad
theorem tx_outX {r : Res (Stp σ β)} {j : σ → τ} (h1 : TX L x E n r) (l : ∀ s, Lt (E' (j s)) (E s)) : TX L x E' n (r.bind (lastXT j)) := fun ρ le => by
  have h1 := h1 ρ le
  cases r with
  | bad => trivial
  | ex c => exact h1
  | ok s =>
    cases s with
    | nx s =>
      obtain ⟨ρ', e, l1⟩ := h1
      exact ⟨ρ', e, (l s).to l1⟩
    | rt b => exact h1
    | bk s => exact trivial
    | ct s => exact trivial
/-! a loop over two unlike things -/
def thenT {σ β : Type} (r : Res (Stp σ β)) (j : σ → Res (Stp σ β)) : Res (Stp σ β) := r.bind fun s => match s with
  | .nx s' => j s'
  | .ct s' => j s'
  | .bk s' => .ok (.nx s')
  | .rt v => .ok (.rt v)
def two2 {σ α γ β : Type} (b1 : α → Res (Stp σ β)) (b2 : σ → γ → Res (Stp σ β)) (p : α × γ) : Res (Stp σ β) := thenT (b1 p.1) fun s => thenT (b2 s p.2) fun s => .ok (.nx s)
theorem tx_for2 {tg : Tg} {q : Em γ} {r : Res (α × γ)} {b1 : α → Res (Stp σ β)} {b2 : σ → γ → Res (Stp σ β)} {L1 : α → Lit} {L2 : σ → γ → Lit} (h : TM L f .fr (emP2 m q) r) (hg1 : ∀ a, TG tg (m.e a) L (L1 a)) (hb1 : ∀ a, TX (L1 a) x E n (b1 a)) (hg2 : ∀ s a, TG tg (q.e a) (E s) (L2 s a)) (hb2 : ∀ s a, TX (L2 s a) x E n (b2 s a)) :
    TX L (xFor (walkI f) tg x) E n (r.bind (two2 b1 b2)) := fun ρ le => by
  show match r.bind (fun p => thenT (b1 p.1) fun s => thenT (b2 s p.2) fun s => .ok (.nx s)) with
    | .ok (.nx s) => ∃ ρ', _ ∧ Le (E s) ρ'
    | .ok (.bk s) => ∃ ρ', _ ∧ Le (E s) ρ'
    | .ok (.ct s) => ∃ ρ', _ ∧ Le (E s) ρ'
    | .ok (.rt b) => ∃ ρ', _
    | .ex c => ∃ ρ', _
    | .bad => True
  have h1 := h ρ le
  unfold xFor xForW walkI
  cases r with
  | bad => trivial
  | ex c => dsimp only at h1 ⊢; rw [h1]; exact ⟨_, rfl⟩
  | ok p =>
    obtain ⟨fl, e, rfl⟩ := h1
    rw [e]
    obtain ⟨a, c⟩ := p
    dsimp only [Res.ok_bind, emP2]
    rw [if_pos (by rfl)]
    obtain ⟨ρ1, e1, l1⟩ := hg1 a ρ le
    have t1 := hb1 a ρ1 l1
    have two : ∀ (s : σ) (ρ' : Env), Le (E s) ρ' → match thenT (b2 s c) fun s => .ok (.nx s) with
      | .ok (.nx s) => ∃ ρ'', xLoop tg x [q.e c] ρ' = .nx ρ'' ∧ Le (E s) ρ''
      | .ok (.bk s) => ∃ ρ'', xLoop tg x [q.e c] ρ' = .bk ρ'' ∧ Le (E s) ρ''
      | .ok (.ct s) => ∃ ρ'', xLoop tg x [q.e c] ρ' = .ct ρ'' ∧ Le (E s) ρ''
      | .ok (.rt b) => ∃ ρ'', xLoop tg x [q.e c] ρ' = .rt (n.e b) ρ''
      | .ex c2 => ∃ ρ'', xLoop tg x [q.e c] ρ' = .ex c2 ρ''
      | .bad => True := fun s ρ' l' => by
      obtain ⟨ρ2, e2, l2⟩ := hg2 s c ρ' l'
      have t2 := hb2 s c ρ2 l2
      unfold thenT xLoop
      rw [e2]
      dsimp only
      cases eb : b2 s c with
      | bad => trivial
      | ex c2 => rw [eb] at t2; obtain ⟨ρ', e⟩ := t2; dsimp only [Res.ex_bind]; rw [e]; exact ⟨_, rfl⟩
      | ok w =>
        rw [eb] at t2
        cases w with
        | nx s' => obtain ⟨ρ', e, l⟩ := t2; dsimp only [Res.ok_bind]; rw [e]; exact ⟨_, rfl, l⟩
        | ct s' => obtain ⟨ρ', e, l⟩ := t2; dsimp only [Res.ok_bind]; rw [e]; exact ⟨_, rfl, l⟩
        | bk s' => obtain ⟨ρ', e, l⟩ := t2; dsimp only [Res.ok_bind]; rw [e]; exact ⟨_, rfl, l⟩
        | rt v => obtain ⟨ρ', e⟩ := t2; dsimp only [Res.ok_bind]; rw [e]; exact ⟨_, rfl⟩
    unfold thenT xLoop
    dsimp only [id]
    rw [e1]
    dsimp only
    cases eb : b1 a with
    | bad => trivial
    | ex c2 => rw [eb] at t1; obtain ⟨ρ', e⟩ := t1; dsimp only [Res.ex_bind]; rw [e]; exact ⟨_, rfl⟩
    | ok w =>
      rw [eb] at t1
      cases w with
      | nx s' => obtain ⟨ρ', e, l⟩ := t1; dsimp only [Res.ok_bind]; rw [e]; exact two s' ρ' l
      | ct s' => obtain ⟨ρ', e, l⟩ := t1; dsimp only [Res.ok_bind]; rw [e]; exact two s' ρ' l
      | bk s' => obtain ⟨ρ', e, l⟩ := t1; dsimp only [Res.ok_bind]; rw [e]; exact ⟨_, rfl, l⟩
      | rt v => obtain ⟨ρ', e⟩ := t1; dsimp only [Res.ok_bind]; rw [e]; exact ⟨_, rfl⟩
end
/-! list(dict) -/
section
variable {α β κ : Type} {n : Em β} {y : Ky κ}
theorem bt_listK : TD1 listF (consG (emK y n) nilG) (emL y.m) fun p => .ok (keysT p.1) := fun p => by
  have hk := keys_emb (y := y) (n := n) p.1
  have e : keysDk ((emK y n).e p.1) = some ((p.1.map fun q => y.k q.1).map kD) := rfl
  rw [e] at hk
  show Res.ok (D.lst ((p.1.map fun q => y.k q.1).map kD)) = .ok (.lst ((keysT p.1).map y.m.e))
  rw [Option.some.inj hk]
end
end DL
/-! DT13: typed: some items of a dict are kept. -/
namespace DL
open PySem L2
section
variable {α β γ κ : Type} {L : Lit} {tt : Env → Res Bool} {m : Em α} {n : Em β} {y : Ky κ}
@[irreducible] noncomputable def restrT {κ β : Type} (d : List (κ × β)) (t : κ → Bool) : Res (List (κ × β)) := @ite _ ((keysT d).Nodup) (Classical.propDecidable _) (.ok (d.filter fun p => t p.1)) .bad
theorem msk_flt {α β : Type} (t : α → Bool) (f : α → β) : ∀ d : List α, msk (d.map t) (d.map f) = (d.filter t).map f
  | [] => rfl
  | p :: d => by
    rw [List.map_cons, List.map_cons]
    cases h : t p with
    | true => rw [msk_t, msk_flt t f d, List.filter_cons_of_pos h, List.map_cons]
    | false => rw [msk_f, msk_flt t f d, List.filter_cons_of_neg (by rw [h]; decide)]
theorem maskL_emb {L0 : Lit} {j : Nat} {t : κ → Bool} {ρ : Env} (le : Le L0 ρ) (hj : decide (j < L0.length) = true) (ht : ∀ a : κ, TT (L0.put j (some (.sh, y.m.e a))) tt (.ok (t a))) : ∀ ks : List κ, maskL (.nm j) tt ρ (ks.map fun a => kD (y.k a)) = some (ks.map t)
  | [] => rfl
  | k :: ks => by
    have ih := maskL_emb (ρ := ρ) le hj ht ks
    have hl := of_decide_eq_true hj
    rw [le.len] at hl
    rw [List.map_cons, List.map_cons]
    unfold maskL asg
    rw [if_pos hl]
    dsimp only
    have h := ht k _ (by
      have := le.put (l := .sh) (o := .sh) (d := y.m.e k) (show Lo.of .sh .sh from rfl) j
      exact this)
    dsimp only at h
    rw [y.ek] at h
    rw [h]
    dsimp only
    rw [ih]
    rfl
theorem tf_restr (i j : Nat) {l : Lo} {d : List (κ × β)} {t : κ → Bool} (hx : L.at i = some (l, (emK y n).e d)) (ht : ∀ a, TT (((L.put i (some (.any, (emK y n).e d))).fz.wipe [j]).put j (some (.sh, y.m.e a))) tt (.ok (t a))) (hl : (l = .own ∨ l = .sh) := by first | exact .inl rfl | exact .inr rfl) (hij : decide (i = j) = false := by rfl)
    (hj : decide (j < ((L.put i (some (.any, (emK y n).e d))).fz.wipe [j]).length) = true := by rfl) : TF L (xRestr i (lockP i (compP i j tt [j]))) (fun d' => L.put i (some (l, (emK y n).e d'))) (restrT d t) := fun ρ le => by
  obtain ⟨o, ho, e0⟩ := le.get hx
  have hol : o.ls = true := by
    rcases hl with rfl | rfl
    · obtain rfl : o = .loc := ho; rfl
    · obtain rfl : o = .sh := ho; rfl
  have hil : i < ρ.length := (List.getElem?_eq_some_iff.mp e0).1
  have hl2 : i < (unlkE ρ).length := by unfold unlkE; rw [List.length_map]; exact hil
  have el : ((unlkE ρ).set i (some (Ow.lk, (emK y n).e d)))[i]? = some (some (Ow.lk, (emK y n).e d)) := by rw [List.getElem?_set_self hl2]
  have l0 := (le.lock i (d := (emK y n).e d)).fz.wipe [j]
  have mk := maskL_emb (y := y) l0 hj ht (keysT d)
  unfold restrT
  by_cases hn : (keysT d).Nodup
  · rw [if_pos hn]
    have kn : (d.map fun p => y.k p.1).Nodup := by
      have : (d.map fun p => y.k p.1) = (keysT d).map y.k := by unfold keysT; rw [List.map_map]; rfl
      rw [this]
      exact List.pairwise_map.mpr (hn.imp fun ne e => ne (y.inj _ _ e))
    have e1 : (d.map fun p => y.k p.1).map kD = (keysT d).map fun a => kD (y.k a) := by unfold keysT; rw [List.map_map, List.map_map]; rfl
    have ef : lockP i (compP i j tt [j]) ρ = some ((keysT d).map t) := by
      unfold lockP
      rw [e0]
      unfold emK at el mk ⊢
      dsimp only at el mk ⊢
      unfold compP
      rw [el]
      dsimp only
      rw [if_pos ⟨by simp; exact of_decide_eq_false hij, by simp, kn⟩, e1]
      exact mk
    unfold xRestr
    rw [e0]
    unfold emK at ef ⊢
    dsimp only at ef ⊢
    rw [ef]
    dsimp only
    rw [if_pos ⟨kn, hol⟩]
    refine ⟨_, rfl, ?_⟩
    have e2 : (keysT d).map t = d.map fun p => t p.1 := by unfold keysT; rw [List.map_map]; rfl
    rw [e2, msk_flt, msk_flt]
    exact le.put ho i
  · rw [if_neg hn]; trivial
/-! an if that leaves the loop, then more -/
def stopT {σ β : Type} : Stp σ β → Res (Stp σ β)
  | .nx _ => .bad
  | s => .ok s
theorem tx_ifE {σ : Type} {x z : XS} {ft : Env → Res Bool} {E : σ → Lit} {rb : Res Bool} {r r' : Res (Stp σ β)} (hc : TT L ft rb) (h1 : TX L x E n r) (h2 : TX L z E n r') : TX L (xSeq (xIf ft x xNext) z) E n (rb.bind fun b => if b = true then r.bind stopT else r') := fun ρ le => by
  have h0 := hc ρ le
  have h1 := h1 ρ le
  have h2 := h2 ρ le
  unfold xSeq xIf
  cases rb with
  | bad => trivial
  | ex c => dsimp only at h0 ⊢; rw [h0]; exact ⟨_, rfl⟩
  | ok b =>
    dsimp only at h0
    rw [h0]
    cases b with
    | true =>
      simp only [Res.ok_bind, if_true]
      cases r with
      | bad => trivial
      | ex c => obtain ⟨ρ', e⟩ := h1; dsimp only [Res.ex_bind]; rw [e]; exact ⟨_, rfl⟩
      | ok s =>
        cases s with
        | nx s => trivial
        | rt b => obtain ⟨ρ', e⟩ := h1; dsimp only [Res.ok_bind, stopT]; rw [e]; exact ⟨_, rfl⟩
        | bk s => obtain ⟨ρ', e, l⟩ := h1; dsimp only [Res.ok_bind, stopT]; rw [e]; exact ⟨_, rfl, l⟩
        | ct s => obtain ⟨ρ', e, l⟩ := h1; dsimp only [Res.ok_bind, stopT]; rw [e]; exact ⟨_, rfl, l⟩
    | false =>
      simp only [Res.ok_bind, Bool.false_eq_true, if_false]
      exact h2
end
end DL
/-! DT14: typed: data of any kind; defs read as they are. -/
namespace DL
open PySem L2
section
variable {α β γ : Type} {L : Lit} {f g : Env → Res FD} {fa : Env → Res AD} {k : Fk} {m : Em α} {n : Em β}
theorem tm_D {r : Res α} (h : TM L f k m r) : TM L f k emD (r.bind fun a => .ok (m.e a)) := fun ρ le => by
  have h1 := h ρ le
  cases r <;> exact h1
theorem tp_D {a : α} (h : TM L f k m (.ok a)) : TM L f k emD (.ok (m.e a)) := h
/-- items of any kind; b: all new -/
def TE (L : Lit) (fa : Env → Res AD) (b : Bool) (r : Res (List D)) : Prop := ∀ ρ, Le L ρ → match r with
  | .ok ds => ∃ b', fa ρ = .ok (b', ds) ∧ (b = true → b' = true)
  | .ex c => fa ρ = .ex c
  | .bad => True
theorem te_nil : TE L nilA true (.ok []) := fun ρ le => ⟨true, rfl, fun _ => rfl⟩
theorem te_cons {r : Res D} {s : Res (List D)} {b : Bool} (h1 : TM L f .fr emD r) (h2 : TE L fa b s) : TE L (consA f fa) b (r.bind fun a => s.bind fun ds => .ok (a :: ds)) := fun ρ le => by
  have h1 := h1 ρ le
  have h2 := h2 ρ le
  unfold consA
  cases r with
  | bad => trivial
  | ex c => dsimp only at h1 ⊢; rw [h1]; rfl
  | ok a =>
    obtain ⟨fl, e, rfl⟩ := h1
    rw [e]
    cases s with
    | bad => trivial
    | ex c => dsimp only at h2 ⊢; simp only [Res.ok_bind]; rw [h2]; rfl
    | ok ds =>
      obtain ⟨z, e', hz⟩ := h2
      simp only [Res.ok_bind]
      rw [e']
      exact ⟨_, rfl, fun hb => by rw [hz hb]; rfl⟩
theorem te_consA {r : Res D} {s : Res (List D)} {b : Bool} (h1 : TM L f k emD r) (h2 : TE L fa b s) : TE L (consA f fa) false (r.bind fun a => s.bind fun ds => .ok (a :: ds)) := fun ρ le => by
  have h1 := h1 ρ le
  have h2 := h2 ρ le
  unfold consA
  cases r with
  | bad => trivial
  | ex c => dsimp only at h1 ⊢; rw [h1]; rfl
  | ok a =>
    obtain ⟨fl, e, _⟩ := h1
    rw [e]
    cases s with
    | bad => trivial
    | ex c => dsimp only at h2 ⊢; simp only [Res.ok_bind]; rw [h2]; rfl
    | ok ds =>
      obtain ⟨z, e', hz⟩ := h2
      simp only [Res.ok_bind]
      rw [e']
      exact ⟨_, rfl, fun hb => by cases hb⟩
theorem emD_list (ds : List D) : (emL emD).e ds = .lst ds := by
  show D.lst (ds.map id) = _
  rw [List.map_id]
theorem tm_lstF {r : Res (List D)} (h : TE L fa true r) : TM L (lstF fa) .fr (emL emD) (r.bind szT) := fun ρ le => by
  have h1 := h ρ le
  unfold lstF
  cases r with
  | bad => trivial
  | ex c => dsimp only at h1 ⊢; rw [h1]; rfl
  | ok ds =>
    obtain ⟨b', e, hb⟩ := h1
    rw [e]
    simp only [Res.ok_bind]
    unfold szT
    by_cases hz : ds.length ≤ sizeLine
    · rw [if_pos hz, if_pos hz, hb rfl]
      exact ⟨.fr, by rw [emD_list]; rfl, rfl⟩
    · rw [if_neg hz]; trivial
theorem tm_lstA {r : Res (List D)} {b : Bool} (h : TE L fa b r) : TM L (lstF fa) .any (emL emD) (r.bind szT) := fun ρ le => by
  have h1 := h ρ le
  unfold lstF
  cases r with
  | bad => trivial
  | ex c => dsimp only at h1 ⊢; rw [h1]; rfl
  | ok ds =>
    obtain ⟨b', e, hb⟩ := h1
    rw [e]
    simp only [Res.ok_bind]
    unfold szT
    by_cases hz : ds.length ≤ sizeLine
    · rw [if_pos hz, if_pos hz]
      exact ⟨_, by rw [emD_list], trivial⟩
    · rw [if_neg hz]; trivial
end
/-- a def that answers with a text, whatever it is handed -/
def rawS (r : Res D) : Res Nm := match r with
  | .ok (.str x) => if h : PyData.strOk x = true then .ok ⟨x, h⟩ else .bad
  | .ex c => .ex c
  | _ => .bad
theorem rawS_ok (r : Res D) : match rawS r with
    | .ok c => r = .ok (emS.e c)
    | .ex c => r = .ex c
    | .bad => True := by
  unfold rawS
  cases r with
  | bad => trivial
  | ex c => rfl
  | ok d =>
    cases d <;> first | trivial | skip
    rename_i x
    dsimp only
    by_cases h : PyData.strOk x = true
    · rw [dif_pos h]; rfl
    · rw [dif_neg h]; trivial
theorem rawS_at {r : Res D} {x : Nm} (h : r = .ok (.str x.1)) : rawS r = .ok x := by
  rw [h]
  unfold rawS
  dsimp only
  rw [dif_pos x.2]
/-- .. with True or False -/
def rawB (r : Res D) : Res Bool := match r with
  | .ok (.bl x) => .ok x
  | .ex c => .ex c
  | _ => .bad
theorem rawB_ok (r : Res D) : match rawB r with
    | .ok c => r = .ok (emB.e c)
    | .ex c => r = .ex c
    | .bad => True := by
  unfold rawB
  cases r with
  | bad => trivial
  | ex c => rfl
  | ok d => cases d <;> first | trivial | rfl
theorem td_rawS {α : Type} {F : List D → Res D} {G : α → List D} : TD1 F G emS fun a => rawS (F (G a)) := fun a => by
  have h := rawS_ok (F (G a))
  dsimp only
  cases e : rawS (F (G a)) with
  | bad => trivial
  | ex c => rw [e] at h; exact h
  | ok c => rw [e] at h; exact h
theorem td_rawB {α : Type} {F : List D → Res D} {G : α → List D} : TD1 F G emB fun a => rawB (F (G a)) := fun a => by
  have h := rawB_ok (F (G a))
  dsimp only
  cases e : rawB (F (G a)) with
  | bad => trivial
  | ex c => rw [e] at h; exact h
  | ok c => rw [e] at h; exact h
end DL
/-! DT15: typed: x or y. -/
namespace DL
open PySem L2
section
variable {α β γ : Type} {L : Lit} {f g : Env → Res FD} {fa : Env → Res AD} {k : Fk} {m : Em α} {n : Em β}
theorem tm_orW {t : α → Bool} {r s : Res α} (ht : Tru1 m t) (h1 : TM L f k m r) (h2 : TM L g k m s) : TM L (orV f g) k m (r.bind fun a => if t a = true then .ok a else s) := fun ρ le => by
  have h1 := h1 ρ le
  have h2 := h2 ρ le
  unfold orV
  cases r with
  | bad => trivial
  | ex c => dsimp only at h1 ⊢; rw [h1]; rfl
  | ok a =>
    obtain ⟨fl, e, x⟩ := h1
    rw [e]
    simp only [Res.ok_bind, ht a]
    cases t a with
    | true => exact ⟨fl, rfl, x⟩
    | false => simp only [Bool.false_eq_true, if_false]; exact h2
end
end DL
namespace DL
open PySem L2
def excTab : Tab := [("NoBook", "NoBook", true), ("NoBook", "NoName", false), ("NoBook", "NoFile", false), ("NoBook", "NoOrder", false), ("NoName", "NoBook", false), ("NoName", "NoName", true), ("NoName", "NoFile", false), ("NoName", "NoOrder", false)]
def x_is_within : XS := (xRet (andV (callF isiF (consA (dVar 0) (consA (dC (.ty "int")) nilA))) (andV (notV (callF isiF (consA (dVar 0) (consA (dC (.ty "bool")) nilA)))) (boolF (chainF (dVar 1) (dVar 0) (dVar 2) leI leI)))))
def F_is_within : List D → Res D := defF 3 3 x_is_within
def x_is_name : XS := (xRet (andV (callF isiF (consA (dVar 0) (consA (dC (.ty "str")) nilA))) (andV (boolF (chainF (dC (.int 1)) (callF lenF (consA (dVar 0) nilA)) (dC (.int 6)) leI leI)) (notV (compF (walkI (dVar 0)) (.nm 1) (blOf (bind2 (dVar 1) (dC (.str "abcdefghijklmnopqrstuvwxyz")) (inF true))) (dVar 1) [1])))))
def F_is_name : List D → Res D := defF 1 2 x_is_name
def x_is_row : XS := (xSeq (xIf (orT (notT (tru1 (callF isiF (consA (dVar 0) (consA (dC (.ty "tuple")) nilA))))) (orT (blOf (bind2 (callF lenF (consA (dVar 0) nilA)) (dC (.int 3)) (eqD true))) (orT (notT (tru1 (callF F_is_name (consA (bind2 (dVar 0) (dC (.int 0)) ixF) nilA)))) (notT (tru1 (callF F_is_within (consA (bind2 (dVar 0) (dC (.int 1)) ixF) (consA (bind1 (dC (.int 99)) negD) (consA (dC (.int 99)) nilA)))))))))
    (xRet (dC (.bl false)))
    xNext)
    (xRet (andV (callF isiF (consA (bind2 (dVar 0) (dC (.int 2)) ixF) (consA (dC (.ty "tuple")) nilA))) (andV (bind2 (callF lenF (consA (bind2 (dVar 0) (dC (.int 2)) ixF) nilA)) (dC (.int 4)) (ordD leI)) (notV (compF (walkI (bind2 (dVar 0) (dC (.int 2)) ixF)) (.nm 1) (notT (tru1 (callF F_is_name (consA (dVar 1) nilA)))) (dVar 1) [1]))))))
def F_is_row : List D → Res D := defF 1 2 x_is_row
def x_are_rows : XS := (xSeq (xIf (orT (notT (tru1 (callF isiF (consA (dVar 0) (consA (dC (.ty "tuple")) nilA))))) (orT (notT (chainF (dC (.int 1)) (callF lenF (consA (dVar 0) nilA)) (dC (.int 8)) leI leI)) (tru1 (compF (walkI (dVar 0)) (.nm 5) (notT (tru1 (callF F_is_row (consA (dVar 5) nilA)))) (dVar 5) [5]))))
    (xRet (dC (.bl false)))
    xNext)
    (xSeq (xSet 1 (compF (walkI (dVar 0)) (.nm 5) noIf (bind2 (dVar 5) (dC (.int 0)) ixF) [5]))
    (xSeq (xSh 0 (xFor (walkI (dVar 0)) (.tp [(.nm 2), (.nm 3), (.nm 4)])
    (xIf (orT (blOf (bind2 (dVar 2) (dVar 4) (inF false))) (orT (blOf (bind2 (lenSetF (dVar 4)) (callF lenF (consA (dVar 4) nilA)) (eqD true))) (tru1 (compF (walkI (dVar 4)) (.nm 6) (blOf (bind2 (dVar 6) (dVar 1) (inF true))) (dVar 6) [6]))))
    (xRet (dC (.bl false)))
    xNext)))
    (xRet (bind2 (lenSetF (dVar 1)) (callF lenF (consA (dVar 1) nilA)) (eqD false))))))
def F_are_rows : List D → Res D := defF 1 7 x_are_rows
def x_are_places : XS := (xSeq (xIf (orT (notT (tru1 (callF isiF (consA (dVar 1) (consA (dC (.ty "tuple")) nilA))))) (blOf (bind2 (callF lenF (consA (dVar 1) nilA)) (callF lenF (consA (dVar 0) nilA)) (eqD true))))
    (xRet (dC (.bl false)))
    xNext)
    (xRet (notV (compF (walkI (dVar 1)) (.nm 2) (notT (tru1 (callF F_is_within (consA (dVar 2) (consA (dC (.int 0)) (consA (dC (.int 3)) nilA)))))) (dVar 2) [2]))))
def F_are_places : List D → Res D := defF 2 3 x_are_places
def x_are_late : XS := (xSeq (xIf (orT (notT (tru1 (callF isiF (consA (dVar 1) (consA (dC (.ty "tuple")) nilA))))) (tru1 (compF (walkI (dVar 1)) (.nm 4) (notT (tru1 (callF F_is_name (consA (dVar 4) nilA)))) (dVar 4) [4])))
    (xRet (dC (.bl false)))
    xNext)
    (xSeq (xSet 2 (compF (walkI (dVar 0)) (.nm 3) noIf (bind2 (dVar 3) (dC (.int 0)) ixF) [3]))
    (xRet (andV (bind2 (callF listF (consA (dVar 1) nilA)) (sortSetF (dVar 1)) (eqD false)) (notV (compF (walkI (dVar 1)) (.nm 4) (blOf (bind2 (dVar 4) (dVar 2) (inF true))) (dVar 4) [4]))))))
def F_are_late : List D → Res D := defF 2 5 x_are_late
def x_is_book : XS := (xSeq (xIf (orT (notT (tru1 (callF isiF (consA (dVar 0) (consA (dC (.ty "tuple")) nilA))))) (orT (blOf (bind2 (callF lenF (consA (dVar 0) nilA)) (dC (.int 3)) (eqD true))) (notT (tru1 (callF F_are_rows (consA (bind2 (dVar 0) (dC (.int 0)) ixF) nilA))))))
    (xRet (dC (.bl false)))
    xNext)
    (xRet (andV (callF F_are_places (consA (bind2 (dVar 0) (dC (.int 0)) ixF) (consA (bind2 (dVar 0) (dC (.int 1)) ixF) nilA))) (callF F_are_late (consA (bind2 (dVar 0) (dC (.int 0)) ixF) (consA (bind2 (dVar 0) (dC (.int 2)) ixF) nilA))))))
def F_is_book : List D → Res D := defF 1 1 x_is_book
def x_look : XS := (xIf (notT (tru1 (callF F_is_book (consA (dVar 0) nilA))))
    (xRaise "NoBook")
    xNext)
def F_look : List D → Res D := defF 1 1 x_look
def x_uses_of : XS := (xRet (callF dictF (consA (compF (walkI (bind2 (dVar 0) (dC (.int 0)) ixF)) (.tp [(.nm 1), (.nm 2), (.nm 3)]) noIf (tupF (consA (dVar 1) (consA (dVar 3) nilA))) [1, 2, 3]) nilA)))
def F_uses_of : List D → Res D := defF 1 4 x_uses_of
def x_look_name : XS := (xSeq (xExpr (callF F_look (consA (dVar 0) nilA)))
    (xIf (orT (notT (tru1 (callF isiF (consA (dVar 1) (consA (dC (.ty "str")) nilA))))) (blOf (bind2 (dVar 1) (callF F_uses_of (consA (dVar 0) nilA)) (inF true))))
    (xRaise "NoName")
    xNext))
def F_look_name : List D → Res D := defF 2 2 x_look_name
def x_needed_by : XS := (xSeq (xSet 2 (callF F_uses_of (consA (dVar 0) nilA)))
    (xSeq (xSet 3 (callF listF (consA (dVar 1) nilA)))
    (xSeq (xSet 4 (dC (.int 0)))
    (xSeq (xWhile (blOf (bind2 (dVar 4) (callF lenF (consA (dVar 3) nilA)) (ordD ltI)))
    (xSeq (xExt 3 (compF (walkI (bind2 (dVar 2) (bind2 (dVar 3) (dVar 4) ixF) ixF)) (.nm 5) (blOf (bind2 (dVar 5) (dVar 3) (inF true))) (dVar 5) [5]))
    (xAug 4 (dC (.int 1)) fun m n => m + n)) 1000)
    (xRet (callF sortF (consA (dVar 3) nilA)))))))
def F_needed_by : List D → Res D := defF 2 6 x_needed_by
def x_needs : XS := (xSeq (xExpr (callF F_look_name (consA (dVar 0) (consA (dVar 1) nilA))))
    (xRet (callF F_needed_by (consA (dVar 0) (consA (bind2 (callF F_uses_of (consA (dVar 0) nilA)) (dVar 1) ixF) nilA)))))
def F_needs : List D → Res D := defF 2 2 x_needs
def x_users : XS := (xSeq (xExpr (callF F_look_name (consA (dVar 0) (consA (dVar 1) nilA))))
    (xRet (callF sortF (consA (compF (walkI (bind2 (dVar 0) (dC (.int 0)) ixF)) (.nm 2) (blOf (bind2 (dVar 1) (callF F_needed_by (consA (dVar 0) (consA (bind2 (dVar 2) (dC (.int 2)) ixF) nilA))) (inF false))) (bind2 (dVar 2) (dC (.int 0)) ixF) [2]) nilA))))
def F_users : List D → Res D := defF 2 3 x_users
def x_only : XS := (xSeq (xExpr (callF F_look (consA (dVar 0) nilA)))
    (xSeq (xSet 2 (callF F_uses_of (consA (dVar 0) nilA)))
    (xSeq (xIf (orT (notT (tru1 (callF isiF (consA (dVar 1) (consA (dC (.ty "tuple")) nilA))))) (orT (notT (tru1 (dVar 1))) (tru1 (compF (walkI (dVar 1)) (.nm 8) (notT (tru1 (callF isiF (consA (dVar 8) (consA (dC (.ty "str")) nilA))))) (dVar 8) [8]))))
    (xRaise "NoName")
    xNext)
    (xSeq (xIf (orT (tru1 (compF (walkI (dVar 1)) (.nm 8) (blOf (bind2 (dVar 8) (dVar 2) (inF true))) (dVar 8) [8])) (blOf (bind2 (callF listF (consA (dVar 1) nilA)) (sortSetF (dVar 1)) (eqD true))))
    (xRaise "NoName")
    xNext)
    (xSeq (xSet 3 (callF F_needed_by (consA (dVar 0) (consA (dVar 1) nilA))))
    (xSeq (xSet 4 (compF (zipI (bind2 (dVar 0) (dC (.int 0)) ixF) (bind2 (dVar 0) (dC (.int 1)) ixF)) (.tp [(.nm 6), (.nm 7)]) (blOf (bind2 (bind2 (dVar 6) (dC (.int 0)) ixF) (dVar 3) (inF false))) (dVar 7) [6, 7]))
    (xSeq (xSet 5 (compF (walkI (bind2 (dVar 0) (dC (.int 0)) ixF)) (.nm 6) (blOf (bind2 (bind2 (dVar 6) (dC (.int 0)) ixF) (dVar 3) (inF false))) (dVar 6) [6]))
    (xRet (tupF (consA (callF tupB (consA (dVar 5) nilA)) (consA (callF tupB (consA (dVar 4) nilA)) (consA (callF tupB (consA (compF (walkI (bind2 (dVar 0) (dC (.int 2)) ixF)) (.nm 8) (blOf (bind2 (dVar 8) (dVar 3) (inF false))) (dVar 8) [8]) nilA)) nilA))))))))))))
def F_only : List D → Res D := defF 2 9 x_only
def x__law_cell : XS := (xSeq (xIf (blOf (bind2 (dVar 1) (callF lenF (consA (dVar 0) nilA)) (ordD ltI)))
    (xRet (bind2 (dVar 0) (dVar 1) ixF))
    xNext)
    (xRet (dC (.int 0))))
def F__law_cell : List D → Res D := defF 2 2 x__law_cell
def x__law_seed : XS := (xRet (bind2 (bind2 (bind2 (bind2 (bind2 (bind2 (dVar 0) (dC (.int 1103515245)) mulD) (bind2 (dC (.int 7919)) (dVar 1) mulD) addD) (dC (.int 12345)) addD) (dC (.int 2147483647)) modK) (dC (.int 5)) powK) (dC (.int 2147483647)) modK))
def F__law_seed : List D → Res D := defF 2 2 x__law_seed
def x__law_pick : XS := (xRet (bind2 (bind2 (dVar 0) (dC (.int 97)) fdivK) (dVar 1) modK))
def F__law_pick : List D → Res D := defF 2 2 x__law_pick
def x__law_book : XS := (xSeq (xSet 2 (lstF nilA))
    (xSeq (xFor (rng1I (bind2 (dC (.int 1)) (callF F__law_pick (consA (callF F__law_seed (consA (dVar 0) (consA (dC (.int 1)) nilA))) (consA (dVar 1) nilA))) addD)) (.nm 3)
    (xSeq (xSet 4 (bind2p (dC (.str "")) (compF (rng1I (bind2 (dC (.int 1)) (bind2 (bind2 (dVar 0) (dC (.int 7)) fdivK) (dC (.int 2)) modK) addD)) (.nm 10) noIf (bind2 (dC (.str "abcdez")) (callF F__law_pick (consA (callF F__law_seed (consA (dVar 0) (consA (bind2 (bind2 (dC (.int 40)) (bind2 (dC (.int 3)) (dVar 3) mulD) addD) (dVar 10) addD) nilA))) (consA (dC (.int 6)) nilA))) ixF) [10]) isStrD joinK))
    (xIf (blOf (bind2 (dVar 4) (dVar 2) (inF true)))
    (xApp 2 (dVar 4))
    xNext)))
    (xSeq (xPar [5, 6, 7] (consA (lstF nilA) (consA (lstF nilA) (consA (lstF nilA) nilA))))
    (xSeq (xSet 8 (bind2 (dC (.int 1)) (callF F__law_pick (consA (callF F__law_seed (consA (dVar 0) (consA (dC (.int 2)) nilA))) (consA (dC (.int 4)) nilA))) addD))
    (xSeq (xSh 2 (xFor (enumI (dVar 2)) (.tp [(.nm 3), (.nm 4)])
    (xSeq (xSet 9 (lstF nilA))
    (xSeq (xFor (rng1I (callF F__law_pick (consA (callF F__law_seed (consA (dVar 0) (consA (bind2 (dC (.int 80)) (dVar 3) addD) nilA))) (consA (bind2 (dVar 8) (dC (.int 1)) addD) nilA)))) (.nm 10)
    (xSeq (xSet 11 (bind2 (dVar 2) (callF F__law_pick (consA (callF F__law_seed (consA (dVar 0) (consA (bind2 (bind2 (dC (.int 100)) (bind2 (dC (.int 5)) (dVar 3) mulD) addD) (dVar 10) addD) nilA))) (consA (callF lenF (consA (dVar 2) nilA)) nilA))) ixF))
    (xIf (andT (blOf (bind2 (dVar 11) (dVar 4) (eqD true))) (andT (blOf (bind2 (dVar 11) (dVar 9) (inF true))) (orT (blOf (bind2 (bind2 (bind2 (dVar 0) (dC (.int 11)) fdivK) (dC (.int 3)) modK) (dC (.int 0)) (ordD gtI))) (blOf (bind2 (bind2p (dVar 2) (dVar 11) isLstD indexK) (dVar 3) (ordD ltI))))))
    (xApp 9 (dVar 11))
    xNext)))
    (xSeq (xApp 5 (tupF (consA (dVar 4) (consA (bind2 (callF F__law_pick (consA (callF F__law_seed (consA (dVar 0) (consA (bind2 (dC (.int 160)) (dVar 3) addD) nilA))) (consA (dC (.int 199)) nilA))) (dC (.int 99)) subK) (consA (callF tupB (consA (dVar 9) nilA)) nilA)))))
    (xSeq (xApp 6 (callF F__law_pick (consA (callF F__law_seed (consA (dVar 0) (consA (bind2 (dC (.int 180)) (dVar 3) addD) nilA))) (consA (bind2 (dC (.int 1)) (bind2 (bind2 (dVar 0) (dC (.int 13)) fdivK) (dC (.int 4)) modK) addD) nilA))))
    (xSet 7 (bind2 (dVar 7) (bind2 (lstF (consA (dVar 4) nilA)) (callF intF (consA (bind2 (callF F__law_pick (consA (callF F__law_seed (consA (dVar 0) (consA (bind2 (dC (.int 200)) (dVar 3) addD) nilA))) (consA (bind2 (lstF (consA (dC (.int 2)) (consA (dC (.int 4)) (consA (dC (.int 99)) nilA)))) (bind2 (bind2 (dVar 0) (dC (.int 17)) fdivK) (dC (.int 3)) modK) ixF) nilA))) (dC (.int 0)) (eqD false)) nilA)) mulD) addD))))))))
    (xRet (tupF (consA (callF tupB (consA (dVar 5) nilA)) (consA (callF tupB (consA (dVar 6) nilA)) (consA (callF tupB (consA (callF sortF (consA (dVar 7) nilA)) nilA)) nilA))))))))))
def F__law_book : List D → Res D := defF 2 12 x__law_book
def x__law_uses : XS := (xRet (callF dictF (consA (compF (walkI (bind2 (dVar 0) (dC (.int 0)) ixF)) (.nm 1) noIf (tupF (consA (bind2 (dVar 1) (dC (.int 0)) ixF) (consA (bind2 (dVar 1) (dC (.int 2)) ixF) nilA))) [1]) nilA)))
def F__law_uses : List D → Res D := defF 1 2 x__law_uses
def x__law_needed : XS := (xSeq (xSet 2 (callF F__law_uses (consA (dVar 0) nilA)))
    (xSeq (xSet 3 (lockF 2 (compF (keysI 2) (.nm 5) (blOf (bind2 (dVar 5) (dVar 1) (inF false))) (dVar 5) [5])))
    (xSeq (xFor (rng1I (callF lenF (consA (dVar 2) nilA))) (.nm 4)
    (xFor (walkI (callF listF (consA (dVar 3) nilA))) (.nm 5)
    (xSet 3 (bind2 (dVar 3) (compF (walkI (bind2 (dVar 2) (dVar 5) ixF)) (.nm 6) (blOf (bind2 (dVar 6) (dVar 3) (inF true))) (dVar 6) [6]) addD))))
    (xRet (callF sortF (consA (dVar 3) nilA))))))
def F__law_needed : List D → Res D := defF 2 7 x__law_needed
def x__law_only : XS := (xSeq (xSet 2 (callF F__law_needed (consA (dVar 0) (consA (dVar 1) nilA))))
    (xSeq (xSet 3 (compF (zipI (bind2 (dVar 0) (dC (.int 0)) ixF) (bind2 (dVar 0) (dC (.int 1)) ixF)) (.tp [(.nm 5), (.nm 6)]) (blOf (bind2 (bind2 (dVar 5) (dC (.int 0)) ixF) (dVar 2) (inF false))) (tupF (consA (dVar 5) (consA (dVar 6) nilA))) [5, 6]))
    (xSeq (xSet 4 (callF tupB (consA (compF (walkI (bind2 (dVar 0) (dC (.int 2)) ixF)) (.nm 7) (blOf (bind2 (dVar 7) (dVar 2) (inF false))) (dVar 7) [7]) nilA)))
    (xRet (tupF (consA (callF tupB (consA (compF (walkI (dVar 3)) (.tp [(.nm 5), (.nm 6)]) noIf (dVar 5) [5, 6]) nilA)) (consA (callF tupB (consA (compF (walkI (dVar 3)) (.tp [(.nm 5), (.nm 6)]) noIf (dVar 6) [5, 6]) nilA)) (consA (dVar 4) nilA))))))))
def F__law_only : List D → Res D := defF 2 8 x__law_only
def x__law_some_book : XS := (xRet (callF F__law_book (consA (callF F__law_seed (consA (callF F__law_cell (consA (dVar 0) (consA (dVar 1) nilA))) (consA (bind2 (callF F__law_cell (consA (dVar 0) (consA (bind2 (dVar 1) (dC (.int 1)) addD) nilA))) (dC (.int 5)) modK) nilA))) (consA (dC (.int 8)) nilA))))
def F__law_some_book : List D → Res D := defF 2 2 x__law_some_book
def x__law_called : XS := (xSeq (xIf (blOf (bind2 (dVar 0) (dC (.int 5)) (ordD ltI)))
    (xSeq (xIf (blOf (bind2 (dVar 0) (dC (.int 3)) (ordD ltI)))
    (xRet (ifV (blOf (bind2 (dVar 0) (dC (.int 0)) (eqD false))) (callF F_needs (consA (bind2 (dVar 1) (dC (.int 0)) ixF) (consA (bind2 (dVar 1) (dC (.int 1)) ixF) nilA))) (ifV (blOf (bind2 (dVar 0) (dC (.int 1)) (eqD false))) (callF F_users (consA (bind2 (dVar 1) (dC (.int 0)) ixF) (consA (bind2 (dVar 1) (dC (.int 1)) ixF) nilA))) (callF F_only (consA (bind2 (dVar 1) (dC (.int 0)) ixF) (consA (bind2 (dVar 1) (dC (.int 1)) ixF) nilA))))))
    xNext)
    xBad)
    xNext)
    (xSeq (xIf (blOf (bind2 (dVar 0) (dC (.int 7)) (ordD ltI)))
    xBad
    xNext)
    xBad))
def F__law_called : List D → Res D := defF 2 2 x__law_called
def x__law_caught : XS := (xSeq (xSet 2 (dC (.str "")))
    (xSeq (xTry excTab (xIf (blOf (bind2 (dVar 0) (dC (.int 9)) (ordD ltI)))
    (xExpr (callF F__law_called (consA (dVar 0) (consA (dVar 1) nilA))))
    xBad) (("NoBook", xSet 2 (dC (.str "book"))) :: ("NoName", xSet 2 (dC (.str "name"))) :: ("NoFile", xSet 2 (dC (.str "file"))) :: ("NoOrder", xSet 2 (dC (.str "order"))) :: []))
    (xRet (dVar 2))))
def F__law_caught : List D → Res D := defF 2 3 x__law_caught
def x_law : XS := (xSeq (xSet 1 (callF F__law_some_book (consA (dVar 0) (consA (dC (.int 0)) nilA))))
    (xSeq (xSet 2 (callF sortF (consA (compF (walkI (bind2 (dVar 1) (dC (.int 0)) ixF)) (.nm 7) noIf (bind2 (dVar 7) (dC (.int 0)) ixF) [7]) nilA)))
    (xSeq (xSet 3 (bind2 (dVar 2) (bind2 (callF F__law_cell (consA (dVar 0) (consA (dC (.int 2)) nilA))) (callF lenF (consA (dVar 2) nilA)) modK) ixF))
    (xSeq (xSet 4 (callF F__law_uses (consA (dVar 1) nilA)))
    (xSeq (xIf (blOf (bind2 (callF F_needs (consA (dVar 1) (consA (dVar 3) nilA))) (callF F__law_needed (consA (dVar 1) (consA (bind2 (dVar 4) (dVar 3) ixF) nilA))) (eqD true)))
    (xRet (dC (.bl false)))
    xNext)
    (xSeq (xIf (blOf (bind2 (callF F_users (consA (dVar 1) (consA (dVar 3) nilA))) (compF (walkI (dVar 2)) (.nm 8) (blOf (bind2 (dVar 3) (callF F__law_needed (consA (dVar 1) (consA (bind2 (dVar 4) (dVar 8) ixF) nilA))) (inF false))) (dVar 8) [8]) (eqD true)))
    (xRet (dC (.bl false)))
    xNext)
    (xSeq (xSet 5 (callF tupB (consA (compF (enumI (dVar 2)) (.tp [(.nm 9), (.nm 8)]) (blOf (bind2 (callF F__law_pick (consA (callF F__law_seed (consA (callF F__law_cell (consA (dVar 0) (consA (dC (.int 3)) nilA))) (consA (dVar 9) nilA))) (consA (dC (.int 3)) nilA))) (dC (.int 0)) (eqD false))) (dVar 8) [9, 8]) nilA)))
    (xSeq (xSet 5 (orV (dVar 5) (tupF (consA (dVar 3) nilA))))
    (xSeq (xIf (blOf (bind2 (callF F_only (consA (dVar 1) (consA (dVar 5) nilA))) (callF F__law_only (consA (dVar 1) (consA (dVar 5) nilA))) (eqD true)))
    (xRet (dC (.bl false)))
    xNext)
    (xSeq (xSet 6 (bind2 (lstF (consA (tupF nilA) (consA (tupF (consA (dC (.str "zzz")) nilA)) (consA (tupF (consA (dVar 3) (consA (dVar 3) nilA))) (consA (lstF (consA (dVar 3) nilA)) (consA (dC .non) (consA (dVar 3) (consA (tupF (consA (dVar 3) (consA (dC (.int 7)) nilA))) nilA)))))))) (bind2 (callF F__law_cell (consA (dVar 0) (consA (dC (.int 4)) nilA))) (dC (.int 7)) modK) ixF))
    (xSeq (xIf (blOf (bind2 (callF F__law_caught (consA (dC (.int 2)) (consA (lstF (consA (dVar 1) (consA (dVar 6) nilA))) nilA))) (dC (.str "name")) (eqD true)))
    (xRet (dC (.bl false)))
    xNext)
    (xSeq (xSet 6 (bind2 (lstF (consA (dC (.str "zzz")) (consA (dC .non) (consA (dC (.str "")) (consA (dC (.int 7)) (consA (tupF (consA (dVar 3) nilA)) nilA)))))) (bind2 (callF F__law_cell (consA (dVar 0) (consA (dC (.int 5)) nilA))) (dC (.int 5)) modK) ixF))
    (xRet (bind2 (compF (walkI (tupF (consA (dC (.int 0)) (consA (dC (.int 1)) nilA)))) (.nm 10) noIf (callF F__law_caught (consA (dVar 10) (consA (lstF (consA (dVar 1) (consA (dVar 6) nilA))) nilA))) [10]) (bind2 (lstF (consA (dC (.str "name")) nilA)) (dC (.int 2)) mulD) (eqD false)))))))))))))))
def F_law : List D → Res D := defF 1 11 x_law
end DL
namespace DL
open PySem L2
def str_abcdefghijklmnopqrstuvwxyz : Nm := ⟨"abcdefghijklmnopqrstuvwxyz", by decide +kernel⟩
def str_ : Nm := ⟨"", by decide +kernel⟩
def str_abcdez : Nm := ⟨"abcdez", by decide +kernel⟩
def str_zzz : Nm := ⟨"zzz", by decide +kernel⟩
def str_name : Nm := ⟨"name", by decide +kernel⟩
noncomputable section
def T_is_within (thing : Int) (low : Int) (high : Int) : Bool := (true && ((!false) && (decide (low ≤ thing) && decide (thing ≤ high))))
theorem t_is_within : TD1 F_is_within (consG emI (consG emI (consG emI nilG))) emB (fun p => .ok (T_is_within p.1 p.2.1 p.2.2.1)) := by
  refine td_def (fun _ => rfl) fun p => ?_
  obtain ⟨thing, low, high, _⟩ := p
  show TB [some (.sh, emI.e thing), some (.sh, emI.e low), some (.sh, emI.e high)] _ _ (.ok (T_is_within thing low high))
  unfold x_is_within T_is_within
  exact (tb_retF (tp_andV (tp_isi (b := true) (tm_im (m := emI) (a := thing) 0 rfl) ty_I (by decide +kernel)) (tp_andV (tp_notV (a := false) tr1_B (tp_isi (b := false) (tm_im (m := emI) (a := thing) 0 rfl) ty_I (by decide +kernel))) (tm_boolF (tq_lele (tm_im (m := emI) (a := low) 1 rfl) (tm_im (m := emI) (a := thing) 0 rfl) (tm_im (m := emI) (a := high) 2 rfl))))))
def T_is_name (thing : Nm) : Res (Bool) := (Res.bind (.ok true) fun c8 => if c8 = true then (Res.bind (Res.bind (.ok (1 : Int)) fun a1 => Res.bind (lenST thing) fun a2 => if a1 ≤ a2 then Res.bind (.ok (6 : Int)) fun a3 => .ok (decide (a2 ≤ a3)) else .ok false) fun c7 => if c7 = true then (Res.bind (Res.bind (Res.bind (.ok thing) walkST) fun xs5 => compT (fun (sign4 : Nm) => (.ok (!within sign4.1 str_abcdefghijklmnopqrstuvwxyz.1))) (fun (sign4 : Nm) => (.ok sign4)) xs5) fun a6 => .ok (!(!List.isEmpty a6))) else .ok false) else .ok false)
theorem t_is_name : TD1 F_is_name (consG emS nilG) emB (fun p => T_is_name p.1) := by
  refine td_def (fun _ => rfl) fun p => ?_
  obtain ⟨thing, _⟩ := p
  show TB [some (.sh, emS.e thing), none] _ _ (T_is_name thing)
  unfold x_is_name T_is_name
  exact (tb_retF (tm_andV (tp_isi (b := true) (tm_im (m := emS) (a := thing) 0 rfl) ty_S (by decide +kernel)) (tm_andV (tm_boolF (tt_lele (tm_c (m := emI) (a := 1)) (tp_call (a := (thing, ())) bt_lenS (ta_p (tm_im (m := emS) (a := thing) 0 rfl) ta_nil)) (tm_c (m := emI) (a := 6)))) (tm_notV tr1_L (tm_comp (ti_walkS (tm_im (m := emS) (a := thing) 0 rfl)) (fun sign4 => tg_nm) (fun sign4 => (tt_bl (tp_bind2 (a := sign4) (b := str_abcdefghijklmnopqrstuvwxyz) (op_niS) (tm_im (m := emS) (a := sign4) 1 rfl) (tm_c (m := emS) (a := str_abcdefghijklmnopqrstuvwxyz))))) (fun sign4 => (tm_im (m := emS) (a := sign4) 1 rfl)))))))
def T_is_row (thing : (Nm) × (Int) × (List (Nm))) : Res (Bool) := (Res.bind (Res.bind (.ok (!true)) fun c5 => if c5 = true then .ok true else (Res.bind (.ok (!decide ((3 : Int) = (3 : Int)))) fun c4 => if c4 = true then .ok true else (Res.bind (Res.bind (Res.bind (T_is_name (thing.1)) fun a1 => .ok a1) fun c2 => .ok (!c2)) fun c3 => if c3 = true then .ok true else (.ok (!(T_is_within (thing.2.1) (-(99 : Int)) (99 : Int))))))) fun c12 => if c12 = true then (.ok false) else (Res.bind (.ok true) fun c11 => if c11 = true then (Res.bind (.ok (decide (((List.length (thing.2.2) : Nat) : Int) ≤ (4 : Int)))) fun c10 => if c10 = true then (Res.bind (compT (fun (one6 : Nm) => (Res.bind (Res.bind (T_is_name one6) fun a7 => .ok a7) fun c8 => .ok (!c8))) (fun (one6 : Nm) => (.ok one6)) (thing.2.2)) fun a9 => .ok (!(!List.isEmpty a9))) else .ok false) else .ok false))
theorem t_is_row : TD1 F_is_row (consG (emP3 emS emI (emT emS)) nilG) emB (fun p => T_is_row p.1) := by
  refine td_def (fun _ => rfl) fun p => ?_
  obtain ⟨thing, _⟩ := p
  show TB [some (.sh, (emP3 emS emI (emT emS)).e thing), none] _ _ (T_is_row thing)
  unfold x_is_row T_is_row
  exact (tb_ifR (tt_or (tq_not (tq_tru (a := true) tr_B (tp_isi (b := true) (tm_im (m := (emP3 emS emI (emT emS))) (a := thing) 0 rfl) ty_P3 (by decide +kernel)))) (tt_or (tt_bl (tp_bind2 (a := (3 : Int)) (b := (3 : Int)) (op_ne eq_I) (tp_call (a := (thing, ())) bt_len3 (ta_p (tm_im (m := (emP3 emS emI (emT emS))) (a := thing) 0 rfl) ta_nil)) (tm_c (m := emI) (a := 3)))) (tt_or (tt_not (tt_tru tr_B (tp_call (a := ((thing.1), ())) t_is_name (ta_p (tp_projI (i := 0) (m := (emP3 emS emI (emT emS))) (n := emS) (o := (fun p : (Nm) × (Int) × (List (Nm)) => p.1)) (tm_im (m := (emP3 emS emI (emT emS))) (a := thing) 0 rfl)) ta_nil)))) (tq_not (tq_tru (a := (T_is_within (thing.2.1) (-(99 : Int)) (99 : Int))) tr_B (tp_call (a := ((thing.2.1), ((-(99 : Int)), ((99 : Int), ())))) t_is_within (ta_p (tp_projI (i := 1) (m := (emP3 emS emI (emT emS))) (n := emI) (o := (fun p : (Nm) × (Int) × (List (Nm)) => p.2.1)) (tm_im (m := (emP3 emS emI (emT emS))) (a := thing) 0 rfl)) (ta_p (tp_neg (tm_c (m := emI) (a := 99))) (ta_p (tm_c (m := emI) (a := 99)) ta_nil))))))))) (tb_retF (tm_c (m := emB) (a := false))) (tb_retF (tm_andV (tp_isi (b := true) (tp_projI (i := 2) (m := (emP3 emS emI (emT emS))) (n := (emT emS)) (o := (fun p : (Nm) × (Int) × (List (Nm)) => p.2.2)) (tm_im (m := (emP3 emS emI (emT emS))) (a := thing) 0 rfl)) ty_T (by decide +kernel)) (tm_andV (tp_bind2 (a := ((List.length (thing.2.2) : Nat) : Int)) (b := (4 : Int)) (op_le) (tp_call (a := ((thing.2.2), ())) bt_lenT (ta_p (tp_projI (i := 2) (m := (emP3 emS emI (emT emS))) (n := (emT emS)) (o := (fun p : (Nm) × (Int) × (List (Nm)) => p.2.2)) (tm_im (m := (emP3 emS emI (emT emS))) (a := thing) 0 rfl)) ta_nil)) (tm_c (m := emI) (a := 4))) (tm_notV tr1_L (tm_compP (ti_wT (tp_projI (i := 2) (m := (emP3 emS emI (emT emS))) (n := (emT emS)) (o := (fun p : (Nm) × (Int) × (List (Nm)) => p.2.2)) (tm_im (m := (emP3 emS emI (emT emS))) (a := thing) 0 rfl))) (fun one6 => tg_nm) (fun one6 => (tt_not (tt_tru tr_B (tp_call (a := (one6, ())) t_is_name (ta_p (tm_im (m := emS) (a := one6) 1 rfl) ta_nil))))) (fun one6 => (tm_im (m := emS) (a := one6) 1 rfl))))))))
def T_are_rows (thing : List ((Nm) × (Int) × (List (Nm)))) : Res (Bool) := (Res.bind (Res.bind (.ok (!true)) fun c6 => if c6 = true then .ok true else (Res.bind (.ok (!(decide ((1 : Int) ≤ ((List.length thing : Nat) : Int)) && decide (((List.length thing : Nat) : Int) ≤ (8 : Int))))) fun c5 => if c5 = true then .ok true else (Res.bind (compT (fun (row1 : (Nm) × (Int) × (List (Nm))) => (Res.bind (Res.bind (T_is_row row1) fun a2 => .ok a2) fun c3 => .ok (!c3))) (fun (row1 : (Nm) × (Int) × (List (Nm))) => (.ok row1)) thing) fun a4 => .ok (!List.isEmpty a4)))) fun c22 => if c22 = true then (.ok false) else (Res.bind (.ok (List.map (fun (row7 : (Nm) × (Int) × (List (Nm))) => (row7.1)) thing)) fun names8 => (Res.bind (foldX (fun (s9 : Unit) (row10 : (Nm) × (Int) × (List (Nm))) => (Res.bind (Res.bind (.ok (memB row10.1 row10.2.2)) fun c15 => if c15 = true then .ok true else (Res.bind (Res.bind (Res.bind (.ok row10.2.2) lenSetT) fun a11 => Res.bind (.ok ((List.length row10.2.2 : Nat) : Int)) fun b12 => .ok (!decide (a11 = b12))) fun c14 => if c14 = true then .ok true else (.ok (!List.isEmpty (List.filter (fun (use13 : Nm) => (!memB use13 names8)) row10.2.2))))) fun c17 => if c17 = true then (Res.bind (.ok false) fun r16 => .ok (.rt r16)) else (.ok (.nx ())))) thing ()) (seqT (fun s9 => (Res.bind (Res.bind (.ok names8) lenSetT) fun a18 => Res.bind (.ok ((List.length names8 : Nat) : Int)) fun b19 => .ok (decide (a18 = b19))))))))
theorem t_are_rows : TD1 F_are_rows (consG (emT (emP3 emS emI (emT emS))) nilG) emB (fun p => T_are_rows p.1) := by
  refine td_def (fun _ => rfl) fun p => ?_
  obtain ⟨thing, _⟩ := p
  show TB [some (.sh, (emT (emP3 emS emI (emT emS))).e thing), none, none, none, none, none, none] _ _ (T_are_rows thing)
  unfold x_are_rows T_are_rows
  exact (tb_ifR (tt_or (tq_not (tq_tru (a := true) tr_B (tp_isi (b := true) (tm_im (m := (emT (emP3 emS emI (emT emS)))) (a := thing) 0 rfl) ty_T (by decide +kernel)))) (tt_or (tq_not (tq_lele (tm_c (m := emI) (a := 1)) (tp_call (a := (thing, ())) bt_lenT (ta_p (tm_im (m := (emT (emP3 emS emI (emT emS)))) (a := thing) 0 rfl) ta_nil)) (tm_c (m := emI) (a := 8)))) (tt_tru tr_L (tm_compP (ti_wT (tm_im (m := (emT (emP3 emS emI (emT emS)))) (a := thing) 0 rfl)) (fun row1 => tg_nm) (fun row1 => (tt_not (tt_tru tr_B (tp_call (a := (row1, ())) t_is_row (ta_p (tm_im (m := (emP3 emS emI (emT emS))) (a := row1) 5 rfl) ta_nil))))) (fun row1 => (tm_im (m := (emP3 emS emI (emT emS))) (a := row1) 5 rfl)))))) (tb_retF (tm_c (m := emB) (a := false))) (tb_seq (tf_set (tp_compM (ti_wT (tm_im (m := (emT (emP3 emS emI (emT emS)))) (a := thing) 0 rfl)) (fun row7 => tg_nm) (fun row7 => (tp_projI (i := 0) (m := (emP3 emS emI (emT emS))) (n := emS) (o := (fun p : (Nm) × (Int) × (List (Nm)) => p.1)) (tm_im (m := (emP3 emS emI (emT emS))) (a := row7) 5 rfl))))) (fun names8 => (tb_seqX (tx_sh 0 rfl (ux_for (E := (fun s9 => [some (.sh, (emT (emP3 emS emI (emT emS))).e thing), some (.own, (emL emS).e names8), none, none, none, none, none])) (ti_wTL (TM.weak (tm_im (m := (emT (emP3 emS emI (emT emS)))) (a := thing) 0 rfl))) (fun s9 row10 => (tg_tp (tgs_cons tg_nm (tgs_cons tg_nm (tgs_cons tg_nm tgs_nil))))) (fun s9 row10 => (tx_if (tt_or (tt_bl (tp_bind2 (a := row10.1) (b := row10.2.2) (op_inT eq_S) (tm_im (m := emS) (a := row10.1) 2 rfl) (tm_im (m := (emT emS)) (a := row10.2.2) 4 rfl))) (tt_or (tt_bl (tm_bind2 (op_ne eq_I) (tm_lenSet (y := kyS) it_T (tm_im (m := (emT emS)) (a := row10.2.2) 4 rfl)) (tp_call (a := (row10.2.2, ())) bt_lenT (ta_p (tm_im (m := (emT emS)) (a := row10.2.2) 4 rfl) ta_nil)))) (tq_tru (a := (List.filter (fun (use13 : Nm) => (!memB use13 names8)) row10.2.2)) tr_L (tp_compF (ti_wT (tm_im (m := (emT emS)) (a := row10.2.2) 4 rfl)) (fun use13 => tg_nm) (fun use13 => (tt_bl (tp_bind2 (a := use13) (b := names8) (op_niL eq_S) (tm_im (m := emS) (a := use13) 6 rfl) (tm_sh (m := (emL emS)) (a := names8) 1 rfl)))) (fun use13 => (tm_im (m := emS) (a := use13) 6 rfl)))))) (tx_ret (tb_retF (tm_c (m := emB) (a := false)))) (tx_end (.yes rfl (.yes rfl (.no (.no (.no (.no (.no .nil)))))))))) (.yes rfl (.yes rfl (.no (.no (.no (.no (.no .nil))))))))) (fun s9 => (tb_retF (tm_bind2 (op_eq eq_I) (tm_lenSet (y := kyS) it_L (tm_own (m := (emL emS)) (a := names8) 1 rfl)) (tp_call (a := (names8, ())) bt_lenL (ta_p (tm_own (m := (emL emS)) (a := names8) 1 rfl) ta_nil)))))))))
def T_are_places (rows : List ((Nm) × (Int) × (List (Nm)))) (thing : List (Int)) : Res (Bool) := (if ((!true) || (!decide (((List.length thing : Nat) : Int) = ((List.length rows : Nat) : Int)))) = true then (.ok false) else (.ok (!(!List.isEmpty (List.filter (fun (file1 : Int) => (!(T_is_within file1 (0 : Int) (3 : Int)))) thing)))))
theorem t_are_places : TD1 F_are_places (consG (emT (emP3 emS emI (emT emS))) (consG (emT emI) nilG)) emB (fun p => T_are_places p.1 p.2.1) := by
  refine td_def (fun _ => rfl) fun p => ?_
  obtain ⟨rows, thing, _⟩ := p
  show TB [some (.sh, (emT (emP3 emS emI (emT emS))).e rows), some (.sh, (emT emI).e thing), none] _ _ (T_are_places rows thing)
  unfold x_are_places T_are_places
  exact (ub_ifR (tq_or (tq_not (tq_tru (a := true) tr_B (tp_isi (b := true) (tm_im (m := (emT emI)) (a := thing) 1 rfl) ty_T (by decide +kernel)))) (tt_bl (tp_bind2 (a := ((List.length thing : Nat) : Int)) (b := ((List.length rows : Nat) : Int)) (op_ne eq_I) (tp_call (a := (thing, ())) bt_lenT (ta_p (tm_im (m := (emT emI)) (a := thing) 1 rfl) ta_nil)) (tp_call (a := (rows, ())) bt_lenT (ta_p (tm_im (m := (emT (emP3 emS emI (emT emS)))) (a := rows) 0 rfl) ta_nil))))) (tb_retF (tm_c (m := emB) (a := false))) (tb_retF (tp_notV (a := (List.filter (fun (file1 : Int) => (!(T_is_within file1 (0 : Int) (3 : Int)))) thing)) tr1_L (tp_compF (ti_wT (tm_im (m := (emT emI)) (a := thing) 1 rfl)) (fun file1 => tg_nm) (fun file1 => (tq_not (tq_tru (a := (T_is_within file1 (0 : Int) (3 : Int))) tr_B (tp_call (a := (file1, ((0 : Int), ((3 : Int), ())))) t_is_within (ta_p (tm_im (m := emI) (a := file1) 2 rfl) (ta_p (tm_c (m := emI) (a := 0)) (ta_p (tm_c (m := emI) (a := 3)) ta_nil))))))) (fun file1 => (tm_im (m := emI) (a := file1) 2 rfl))))))
def T_are_late (rows : List ((Nm) × (Int) × (List (Nm)))) (thing : List (Nm)) : Res (Bool) := (Res.bind (Res.bind (.ok (!true)) fun c5 => if c5 = true then .ok true else (Res.bind (compT (fun (name1 : Nm) => (Res.bind (Res.bind (T_is_name name1) fun a2 => .ok a2) fun c3 => .ok (!c3))) (fun (name1 : Nm) => (.ok name1)) thing) fun a4 => .ok (!List.isEmpty a4))) fun c12 => if c12 = true then (.ok false) else (Res.bind (.ok (List.map (fun (row6 : (Nm) × (Int) × (List (Nm))) => (row6.1)) rows)) fun names7 => (Res.bind (Res.bind (.ok thing) fun a8 => Res.bind (Res.bind (.ok thing) (srtSetT emS)) fun b9 => .ok (decide (a8 = b9))) fun c11 => if c11 = true then (.ok (!(!List.isEmpty (List.filter (fun (name10 : Nm) => (!memB name10 names7)) thing)))) else .ok false)))
theorem t_are_late : TD1 F_are_late (consG (emT (emP3 emS emI (emT emS))) (consG (emT emS) nilG)) emB (fun p => T_are_late p.1 p.2.1) := by
  refine td_def (fun _ => rfl) fun p => ?_
  obtain ⟨rows, thing, _⟩ := p
  show TB [some (.sh, (emT (emP3 emS emI (emT emS))).e rows), some (.sh, (emT emS).e thing), none, none, none] _ _ (T_are_late rows thing)
  unfold x_are_late T_are_late
  exact (tb_ifR (tt_or (tq_not (tq_tru (a := true) tr_B (tp_isi (b := true) (tm_im (m := (emT emS)) (a := thing) 1 rfl) ty_T (by decide +kernel)))) (tt_tru tr_L (tm_compP (ti_wT (tm_im (m := (emT emS)) (a := thing) 1 rfl)) (fun name1 => tg_nm) (fun name1 => (tt_not (tt_tru tr_B (tp_call (a := (name1, ())) t_is_name (ta_p (tm_im (m := emS) (a := name1) 4 rfl) ta_nil))))) (fun name1 => (tm_im (m := emS) (a := name1) 4 rfl))))) (tb_retF (tm_c (m := emB) (a := false))) (tb_seq (tf_set (tp_compM (ti_wT (tm_im (m := (emT (emP3 emS emI (emT emS)))) (a := rows) 0 rfl)) (fun row6 => tg_nm) (fun row6 => (tp_projI (i := 0) (m := (emP3 emS emI (emT emS))) (n := emS) (o := (fun p : (Nm) × (Int) × (List (Nm)) => p.1)) (tm_im (m := (emP3 emS emI (emT emS))) (a := row6) 3 rfl))))) (fun names7 => (tb_retF (tm_andV (tm_bind2 (op_eq (eq_L eq_S)) (tp_call (a := (thing, ())) bt_listT (ta_p (tm_im (m := (emT emS)) (a := thing) 1 rfl) ta_nil)) (tm_srtSet (y := kyS) one_S it_T (tm_im (m := (emT emS)) (a := thing) 1 rfl))) (tp_notV (a := (List.filter (fun (name10 : Nm) => (!memB name10 names7)) thing)) tr1_L (tp_compF (ti_wT (tm_im (m := (emT emS)) (a := thing) 1 rfl)) (fun name10 => tg_nm) (fun name10 => (tt_bl (tp_bind2 (a := name10) (b := names7) (op_niL eq_S) (tm_im (m := emS) (a := name10) 4 rfl) (tm_sh (m := (emL emS)) (a := names7) 2 rfl)))) (fun name10 => (tm_im (m := emS) (a := name10) 4 rfl)))))))))
def T_is_book (thing : (List ((Nm) × (Int) × (List (Nm)))) × (List (Int)) × (List (Nm))) : Res (Bool) := (Res.bind (Res.bind (.ok (!true)) fun c4 => if c4 = true then .ok true else (Res.bind (.ok (!decide ((3 : Int) = (3 : Int)))) fun c3 => if c3 = true then .ok true else (Res.bind (Res.bind (T_are_rows (thing.1)) fun a1 => .ok a1) fun c2 => .ok (!c2)))) fun c6 => if c6 = true then (.ok false) else (Res.bind (T_are_places (thing.1) (thing.2.1)) fun c5 => if c5 = true then (T_are_late (thing.1) (thing.2.2)) else .ok false))
theorem t_is_book : TD1 F_is_book (consG (emP3 (emT (emP3 emS emI (emT emS))) (emT emI) (emT emS)) nilG) emB (fun p => T_is_book p.1) := by
  refine td_def (fun _ => rfl) fun p => ?_
  obtain ⟨thing, _⟩ := p
  show TB [some (.sh, (emP3 (emT (emP3 emS emI (emT emS))) (emT emI) (emT emS)).e thing)] _ _ (T_is_book thing)
  unfold x_is_book T_is_book
  exact (tb_ifR (tt_or (tq_not (tq_tru (a := true) tr_B (tp_isi (b := true) (tm_im (m := (emP3 (emT (emP3 emS emI (emT emS))) (emT emI) (emT emS))) (a := thing) 0 rfl) ty_P3 (by decide +kernel)))) (tt_or (tt_bl (tp_bind2 (a := (3 : Int)) (b := (3 : Int)) (op_ne eq_I) (tp_call (a := (thing, ())) bt_len3 (ta_p (tm_im (m := (emP3 (emT (emP3 emS emI (emT emS))) (emT emI) (emT emS))) (a := thing) 0 rfl) ta_nil)) (tm_c (m := emI) (a := 3)))) (tt_not (tt_tru tr_B (tp_call (a := ((thing.1), ())) t_are_rows (ta_p (tp_projI (i := 0) (m := (emP3 (emT (emP3 emS emI (emT emS))) (emT emI) (emT emS))) (n := (emT (emP3 emS emI (emT emS)))) (o := (fun p : (List ((Nm) × (Int) × (List (Nm)))) × (List (Int)) × (List (Nm)) => p.1)) (tm_im (m := (emP3 (emT (emP3 emS emI (emT emS))) (emT emI) (emT emS))) (a := thing) 0 rfl)) ta_nil)))))) (tb_retF (tm_c (m := emB) (a := false))) (tb_retF (tm_andV (tp_call (a := ((thing.1), ((thing.2.1), ()))) t_are_places (ta_p (tp_projI (i := 0) (m := (emP3 (emT (emP3 emS emI (emT emS))) (emT emI) (emT emS))) (n := (emT (emP3 emS emI (emT emS)))) (o := (fun p : (List ((Nm) × (Int) × (List (Nm)))) × (List (Int)) × (List (Nm)) => p.1)) (tm_im (m := (emP3 (emT (emP3 emS emI (emT emS))) (emT emI) (emT emS))) (a := thing) 0 rfl)) (ta_p (tp_projI (i := 1) (m := (emP3 (emT (emP3 emS emI (emT emS))) (emT emI) (emT emS))) (n := (emT emI)) (o := (fun p : (List ((Nm) × (Int) × (List (Nm)))) × (List (Int)) × (List (Nm)) => p.2.1)) (tm_im (m := (emP3 (emT (emP3 emS emI (emT emS))) (emT emI) (emT emS))) (a := thing) 0 rfl)) ta_nil))) (tp_call (a := ((thing.1), ((thing.2.2), ()))) t_are_late (ta_p (tp_projI (i := 0) (m := (emP3 (emT (emP3 emS emI (emT emS))) (emT emI) (emT emS))) (n := (emT (emP3 emS emI (emT emS)))) (o := (fun p : (List ((Nm) × (Int) × (List (Nm)))) × (List (Int)) × (List (Nm)) => p.1)) (tm_im (m := (emP3 (emT (emP3 emS emI (emT emS))) (emT emI) (emT emS))) (a := thing) 0 rfl)) (ta_p (tp_projI (i := 2) (m := (emP3 (emT (emP3 emS emI (emT emS))) (emT emI) (emT emS))) (n := (emT emS)) (o := (fun p : (List ((Nm) × (Int) × (List (Nm)))) × (List (Int)) × (List (Nm)) => p.2.2)) (tm_im (m := (emP3 (emT (emP3 emS emI (emT emS))) (emT emI) (emT emS))) (a := thing) 0 rfl)) ta_nil))))))
def T_look (book : (List ((Nm) × (Int) × (List (Nm)))) × (List (Int)) × (List (Nm))) : Res (Unit) := (Res.bind (Res.bind (Res.bind (T_is_book book) fun a1 => .ok a1) fun c2 => .ok (!c2)) fun c3 => if c3 = true then (.ex "NoBook") else (.ok ()))
theorem t_look : TD1 F_look (consG (emP3 (emT (emP3 emS emI (emT emS))) (emT emI) (emT emS)) nilG) emU (fun p => T_look p.1) := by
  refine td_none (E := fun _ _ => [none]) (fun _ => rfl) fun p => ?_
  obtain ⟨book, _⟩ := p
  show TF [some (.sh, (emP3 (emT (emP3 emS emI (emT emS))) (emT emI) (emT emS)).e book)] _ _ (T_look book)
  unfold x_look T_look
  exact (tf_if (tt_not (tt_tru tr_B (tp_call (a := (book, ())) t_is_book (ta_p (tm_im (m := (emP3 (emT (emP3 emS emI (emT emS))) (emT emI) (emT emS))) (a := book) 0 rfl) ta_nil)))) tf_raise (tf_end (.no .nil)))
def T_uses_of (book : (List ((Nm) × (Int) × (List (Nm)))) × (List (Int)) × (List (Nm))) : List ((Nm) × (List (Nm))) := (dictT (List.map (fun (row1 : (Nm) × (Int) × (List (Nm))) => (row1.1, row1.2.2)) (book.1)))
theorem t_uses_of : TD1 F_uses_of (consG (emP3 (emT (emP3 emS emI (emT emS))) (emT emI) (emT emS)) nilG) (emK kyS (emT emS)) (fun p => .ok (T_uses_of p.1)) := by
  refine td_def (fun _ => rfl) fun p => ?_
  obtain ⟨book, _⟩ := p
  show TB [some (.sh, (emP3 (emT (emP3 emS emI (emT emS))) (emT emI) (emT emS)).e book), none, none, none] _ _ (.ok (T_uses_of book))
  unfold x_uses_of T_uses_of
  exact (tb_retF (tp_call (a := ((List.map (fun (row1 : (Nm) × (Int) × (List (Nm))) => (row1.1, row1.2.2)) (book.1)), ())) (bt_dict (y := kyS)) (ta_p (tp_compM (ti_wT (tp_projI (i := 0) (m := (emP3 (emT (emP3 emS emI (emT emS))) (emT emI) (emT emS))) (n := (emT (emP3 emS emI (emT emS)))) (o := (fun p : (List ((Nm) × (Int) × (List (Nm)))) × (List (Int)) × (List (Nm)) => p.1)) (tm_im (m := (emP3 (emT (emP3 emS emI (emT emS))) (emT emI) (emT emS))) (a := book) 0 rfl))) (fun row1 => (tg_tp (tgs_cons tg_nm (tgs_cons tg_nm (tgs_cons tg_nm tgs_nil))))) (fun row1 => (tp_p2 (tm_im (m := emS) (a := row1.1) 1 rfl) (tm_im (m := (emT emS)) (a := row1.2.2) 3 rfl)))) ta_nil)))
def T_look_name (book : (List ((Nm) × (Int) × (List (Nm)))) × (List (Int)) × (List (Nm))) (name : Nm) : Res (Unit) := (Res.bind (Res.bind (T_look book) fun _ => .ok ()) fun _ => (if ((!true) || (!dhas (T_uses_of book) name)) = true then (.ex "NoName") else (.ok ())))
theorem t_look_name : TD1 F_look_name (consG (emP3 (emT (emP3 emS emI (emT emS))) (emT emI) (emT emS)) (consG emS nilG)) emU (fun p => T_look_name p.1 p.2.1) := by
  refine td_none (E := fun _ _ => [none, none]) (fun _ => rfl) fun p => ?_
  obtain ⟨book, name, _⟩ := p
  show TF [some (.sh, (emP3 (emT (emP3 emS emI (emT emS))) (emT emI) (emT emS)).e book), some (.sh, emS.e name)] _ _ (T_look_name book name)
  unfold x_look_name T_look_name
  exact (tf_seq (tf_expr (tp_call (a := (book, ())) t_look (ta_p (tm_im (m := (emP3 (emT (emP3 emS emI (emT emS))) (emT emI) (emT emS))) (a := book) 0 rfl) ta_nil))) (fun _ => (uf_if (tq_or (tq_not (tq_tru (a := true) tr_B (tp_isi (b := true) (tm_im (m := emS) (a := name) 1 rfl) ty_S (by decide +kernel)))) (tt_bl (tp_bind2 (a := name) (b := (T_uses_of book)) (op_niK (y := kyS)) (tm_im (m := emS) (a := name) 1 rfl) (tp_call (a := (book, ())) t_uses_of (ta_p (tm_im (m := (emP3 (emT (emP3 emS emI (emT emS))) (emT emI) (emT emS))) (a := book) 0 rfl) ta_nil))))) tf_raise (tf_end (.no (.no .nil))))))
def T_needed_by (book : (List ((Nm) × (Int) × (List (Nm)))) × (List (Int)) × (List (Nm))) (some_ : List (Nm)) : Res (List (Nm)) := (Res.bind (.ok (T_uses_of book)) fun uses1 => (Res.bind (.ok some_) fun found2 => (Res.bind (.ok (0 : Int)) fun at3 => (Res.bind (whileT (fun (s4 : (List (Nm)) × (Int)) => (.ok (decide (s4.2 < ((List.length s4.1 : Nat) : Int))))) (fun (s4 : (List (Nm)) × (Int)) => (Res.bind (Res.bind (Res.bind (Res.bind (.ok uses1) fun a8 => Res.bind (ixT s4.1 s4.2) fun b9 => (dgetT a8 b9)) fun xs11 => compT (fun (use10 : Nm) => (.ok (!memB use10 s4.1))) (fun (use10 : Nm) => (.ok use10)) xs11) fun a7 => catT s4.1 a7) fun found6 => (Res.bind (Res.bind (.ok (1 : Int)) fun a13 => .ok (s4.2 + a13)) fun at12 => .ok (found6, at12)))) 1000 (found2, at3)) fun s4 => (.ok (srtM emS s4.1))))))
theorem t_needed_by : TD1 F_needed_by (consG (emP3 (emT (emP3 emS emI (emT emS))) (emT emI) (emT emS)) (consG (emT emS) nilG)) (emL emS) (fun p => T_needed_by p.1 p.2.1) := by
  refine td_def (fun _ => rfl) fun p => ?_
  obtain ⟨book, some_, _⟩ := p
  show TB [some (.sh, (emP3 (emT (emP3 emS emI (emT emS))) (emT emI) (emT emS)).e book), some (.sh, (emT emS).e some_), none, none, none, none] _ _ (T_needed_by book some_)
  unfold x_needed_by T_needed_by
  exact (tb_seq (tf_set (tp_call (a := (book, ())) t_uses_of (ta_p (tm_im (m := (emP3 (emT (emP3 emS emI (emT emS))) (emT emI) (emT emS))) (a := book) 0 rfl) ta_nil))) (fun uses1 => (tb_seq (tf_set (tp_call (a := (some_, ())) bt_listT (ta_p (tm_im (m := (emT emS)) (a := some_) 1 rfl) ta_nil))) (fun found2 => (tb_seq (tf_set (tm_c (m := emI) (a := 0))) (fun at3 => (tb_seq (tf_while (E := (fun s4 => [some (.sh, (emP3 (emT (emP3 emS emI (emT emS))) (emT emI) (emT emS)).e book), some (.sh, (emT emS).e some_), some (.own, (emK kyS (emT emS)).e uses1), some (.own, (emL emS).e s4.1), some (.own, emI.e s4.2), none])) (fun s4 => (tt_bl (tp_bind2 (a := s4.2) (b := ((List.length s4.1 : Nat) : Int)) (op_lt) (tm_im (m := emI) (a := s4.2) 4 rfl) (tp_call (a := (s4.1, ())) bt_lenL (ta_p (tm_own (m := (emL emS)) (a := s4.1) 3 rfl) ta_nil))))) (fun s4 => (tf_seq (tf_ext 3 rfl (tm_comp (ti_wT (tm_bind2 (op_ixKi (y := kyS)) (tm_own (m := (emK kyS (emT emS))) (a := uses1) 2 rfl) (tp_bind2 (a := s4.1) (b := s4.2) (op_ixLi) (tm_own (m := (emL emS)) (a := s4.1) 3 rfl) (tm_im (m := emI) (a := s4.2) 4 rfl)))) (fun use10 => tg_nm) (fun use10 => (tt_bl (tp_bind2 (a := use10) (b := s4.1) (op_niL eq_S) (tm_im (m := emS) (a := use10) 5 rfl) (tm_sh (m := (emL emS)) (a := s4.1) 3 rfl)))) (fun use10 => (tm_im (m := emS) (a := use10) 5 rfl)))) (fun found6 => (tf_out (tf_aug 4 rfl (tm_c (m := emI) (a := 1))) (fun _ => (.yes rfl (.yes rfl (.yes rfl (.yes rfl (.yes rfl (.no .nil))))))))))) (.yes rfl (.yes rfl (.yes rfl (.yes rfl (.yes rfl (.no .nil))))))) (fun s4 => (tb_retF (tp_call (a := (s4.1, ())) bt_sortS (ta_p (tm_own (m := (emL emS)) (a := s4.1) 3 rfl) ta_nil)))))))))))
def T_needs (book : (List ((Nm) × (Int) × (List (Nm)))) × (List (Int)) × (List (Nm))) (name : Nm) : Res (List (Nm)) := (Res.bind (Res.bind (T_look_name book name) fun _ => .ok ()) fun _ => (Res.bind (Res.bind (.ok book) fun a3 => Res.bind (Res.bind (dgetT (T_uses_of book) name) fun a1 => Res.bind (.ok ()) fun b2 => .ok (a1, b2)) fun b4 => .ok (a3, b4)) fun p5 => (T_needed_by p5.1 p5.2.1)))
theorem t_needs : TD1 F_needs (consG (emP3 (emT (emP3 emS emI (emT emS))) (emT emI) (emT emS)) (consG emS nilG)) (emL emS) (fun p => T_needs p.1 p.2.1) := by
  refine td_def (fun _ => rfl) fun p => ?_
  obtain ⟨book, name, _⟩ := p
  show TB [some (.sh, (emP3 (emT (emP3 emS emI (emT emS))) (emT emI) (emT emS)).e book), some (.sh, emS.e name)] _ _ (T_needs book name)
  unfold x_needs T_needs
  exact (tb_seq (tf_expr (tp_call (a := (book, (name, ()))) t_look_name (ta_p (tm_im (m := (emP3 (emT (emP3 emS emI (emT emS))) (emT emI) (emT emS))) (a := book) 0 rfl) (ta_p (tm_im (m := emS) (a := name) 1 rfl) ta_nil)))) (fun _ => (tb_retF (tm_call t_needed_by (ta_cons (tm_im (m := (emP3 (emT (emP3 emS emI (emT emS))) (emT emI) (emT emS))) (a := book) 0 rfl) (ta_cons (tp_bind2 (a := (T_uses_of book)) (b := name) (op_ixKi (y := kyS)) (tp_call (a := (book, ())) t_uses_of (ta_p (tm_im (m := (emP3 (emT (emP3 emS emI (emT emS))) (emT emI) (emT emS))) (a := book) 0 rfl) ta_nil)) (tm_im (m := emS) (a := name) 1 rfl)) ta_nil))))))
def T_users (book : (List ((Nm) × (Int) × (List (Nm)))) × (List (Int)) × (List (Nm))) (name : Nm) : Res (List (Nm)) := (Res.bind (Res.bind (T_look_name book name) fun _ => .ok ()) fun _ => (Res.bind (Res.bind (compT (fun (row1 : (Nm) × (Int) × (List (Nm))) => (Res.bind (.ok name) fun a2 => Res.bind (T_needed_by book (row1.2.2)) fun b3 => .ok (memB a2 b3))) (fun (row1 : (Nm) × (Int) × (List (Nm))) => (.ok (row1.1))) (book.1)) fun a4 => Res.bind (.ok ()) fun b5 => .ok (a4, b5)) fun p6 => .ok (srtM emS p6.1)))
theorem t_users : TD1 F_users (consG (emP3 (emT (emP3 emS emI (emT emS))) (emT emI) (emT emS)) (consG emS nilG)) (emL emS) (fun p => T_users p.1 p.2.1) := by
  refine td_def (fun _ => rfl) fun p => ?_
  obtain ⟨book, name, _⟩ := p
  show TB [some (.sh, (emP3 (emT (emP3 emS emI (emT emS))) (emT emI) (emT emS)).e book), some (.sh, emS.e name), none] _ _ (T_users book name)
  unfold x_users T_users
  exact (tb_seq (tf_expr (tp_call (a := (book, (name, ()))) t_look_name (ta_p (tm_im (m := (emP3 (emT (emP3 emS emI (emT emS))) (emT emI) (emT emS))) (a := book) 0 rfl) (ta_p (tm_im (m := emS) (a := name) 1 rfl) ta_nil)))) (fun _ => (tb_retF (tm_call bt_sortS (ta_cons (tm_compP (ti_wT (tp_projI (i := 0) (m := (emP3 (emT (emP3 emS emI (emT emS))) (emT emI) (emT emS))) (n := (emT (emP3 emS emI (emT emS)))) (o := (fun p : (List ((Nm) × (Int) × (List (Nm)))) × (List (Int)) × (List (Nm)) => p.1)) (tm_im (m := (emP3 (emT (emP3 emS emI (emT emS))) (emT emI) (emT emS))) (a := book) 0 rfl))) (fun row1 => tg_nm) (fun row1 => (tt_bl (tm_bind2 (op_inL eq_S) (tm_im (m := emS) (a := name) 1 rfl) (tp_call (a := (book, ((row1.2.2), ()))) t_needed_by (ta_p (tm_im (m := (emP3 (emT (emP3 emS emI (emT emS))) (emT emI) (emT emS))) (a := book) 0 rfl) (ta_p (tp_projI (i := 2) (m := (emP3 emS emI (emT emS))) (n := (emT emS)) (o := (fun p : (Nm) × (Int) × (List (Nm)) => p.2.2)) (tm_im (m := (emP3 emS emI (emT emS))) (a := row1) 2 rfl)) ta_nil)))))) (fun row1 => (tp_projI (i := 0) (m := (emP3 emS emI (emT emS))) (n := emS) (o := (fun p : (Nm) × (Int) × (List (Nm)) => p.1)) (tm_im (m := (emP3 emS emI (emT emS))) (a := row1) 2 rfl)))) ta_nil)))))
def T_only (book : (List ((Nm) × (Int) × (List (Nm)))) × (List (Int)) × (List (Nm))) (some_ : List (Nm)) : Res ((List ((Nm) × (Int) × (List (Nm)))) × (List (Int)) × (List (Nm))) := (Res.bind (Res.bind (T_look book) fun _ => .ok ()) fun _ => (Res.bind (.ok (T_uses_of book)) fun names1 => (if ((!true) || ((!(!List.isEmpty some_)) || (!List.isEmpty (List.filter (fun (name2 : Nm) => (!true)) some_)))) = true then (.ex "NoName") else (Res.bind (Res.bind (.ok (!List.isEmpty (List.filter (fun (name3 : Nm) => (!dhas names1 name3)) some_))) fun c6 => if c6 = true then .ok true else (Res.bind (.ok some_) fun a4 => Res.bind (Res.bind (.ok some_) (srtSetT emS)) fun b5 => .ok (!decide (a4 = b5)))) fun c13 => if c13 = true then (.ex "NoName") else (Res.bind (T_needed_by book some_) fun kept7 => (Res.bind (.ok (List.map (fun (row8 : ((Nm) × (Int) × (List (Nm))) × (Int)) => row8.2) (List.filter (fun (row8 : ((Nm) × (Int) × (List (Nm))) × (Int)) => (memB (row8.1.1) kept7)) (List.zip (book.1) (book.2.1))))) fun places9 => (Res.bind (.ok (List.filter (fun (row10 : (Nm) × (Int) × (List (Nm))) => (memB (row10.1) kept7)) (book.1))) fun rows11 => (.ok (rows11, places9, (List.filter (fun (name12 : Nm) => (memB name12 kept7)) (book.2.2)))))))))))
theorem t_only : TD1 F_only (consG (emP3 (emT (emP3 emS emI (emT emS))) (emT emI) (emT emS)) (consG (emT emS) nilG)) (emP3 (emT (emP3 emS emI (emT emS))) (emT emI) (emT emS)) (fun p => T_only p.1 p.2.1) := by
  refine td_def (fun _ => rfl) fun p => ?_
  obtain ⟨book, some_, _⟩ := p
  show TB [some (.sh, (emP3 (emT (emP3 emS emI (emT emS))) (emT emI) (emT emS)).e book), some (.sh, (emT emS).e some_), none, none, none, none, none, none, none] _ _ (T_only book some_)
  unfold x_only T_only
  exact (tb_seq (tf_expr (tp_call (a := (book, ())) t_look (ta_p (tm_im (m := (emP3 (emT (emP3 emS emI (emT emS))) (emT emI) (emT emS))) (a := book) 0 rfl) ta_nil))) (fun _ => (tb_seq (tf_set (tp_call (a := (book, ())) t_uses_of (ta_p (tm_im (m := (emP3 (emT (emP3 emS emI (emT emS))) (emT emI) (emT emS))) (a := book) 0 rfl) ta_nil))) (fun names1 => (ub_ifR (tq_or (tq_not (tq_tru (a := true) tr_B (tp_isi (b := true) (tm_im (m := (emT emS)) (a := some_) 1 rfl) ty_T (by decide +kernel)))) (tq_or (tq_not (tq_tru (a := some_) tr_T (tm_im (m := (emT emS)) (a := some_) 1 rfl))) (tq_tru (a := (List.filter (fun (name2 : Nm) => (!true)) some_)) tr_L (tp_compF (ti_wT (tm_im (m := (emT emS)) (a := some_) 1 rfl)) (fun name2 => tg_nm) (fun name2 => (tq_not (tq_tru (a := true) tr_B (tp_isi (b := true) (tm_im (m := emS) (a := name2) 8 rfl) ty_S (by decide +kernel))))) (fun name2 => (tm_im (m := emS) (a := name2) 8 rfl)))))) tb_raise (tb_ifR (tt_or (tq_tru (a := (List.filter (fun (name3 : Nm) => (!dhas names1 name3)) some_)) tr_L (tp_compF (ti_wT (tm_im (m := (emT emS)) (a := some_) 1 rfl)) (fun name3 => tg_nm) (fun name3 => (tt_bl (tp_bind2 (a := name3) (b := names1) (op_niK (y := kyS)) (tm_im (m := emS) (a := name3) 8 rfl) (tm_sh (m := (emK kyS (emT emS))) (a := names1) 2 rfl)))) (fun name3 => (tm_im (m := emS) (a := name3) 8 rfl)))) (tt_bl (tm_bind2 (op_ne (eq_L eq_S)) (tp_call (a := (some_, ())) bt_listT (ta_p (tm_im (m := (emT emS)) (a := some_) 1 rfl) ta_nil)) (tm_srtSet (y := kyS) one_S it_T (tm_im (m := (emT emS)) (a := some_) 1 rfl))))) tb_raise (tb_seq (tf_set (tp_call (a := (book, (some_, ()))) t_needed_by (ta_p (tm_im (m := (emP3 (emT (emP3 emS emI (emT emS))) (emT emI) (emT emS))) (a := book) 0 rfl) (ta_p (tm_im (m := (emT emS)) (a := some_) 1 rfl) ta_nil)))) (fun kept7 => (tb_seq (tf_set (tp_comp (tj_zT (tp_projI (i := 0) (m := (emP3 (emT (emP3 emS emI (emT emS))) (emT emI) (emT emS))) (n := (emT (emP3 emS emI (emT emS)))) (o := (fun p : (List ((Nm) × (Int) × (List (Nm)))) × (List (Int)) × (List (Nm)) => p.1)) (tm_im (m := (emP3 (emT (emP3 emS emI (emT emS))) (emT emI) (emT emS))) (a := book) 0 rfl)) (tp_projI (i := 1) (m := (emP3 (emT (emP3 emS emI (emT emS))) (emT emI) (emT emS))) (n := (emT emI)) (o := (fun p : (List ((Nm) × (Int) × (List (Nm)))) × (List (Int)) × (List (Nm)) => p.2.1)) (tm_im (m := (emP3 (emT (emP3 emS emI (emT emS))) (emT emI) (emT emS))) (a := book) 0 rfl))) (fun row8 => (tg_tp (tgs_cons tg_nm (tgs_cons tg_nm tgs_nil)))) (fun row8 => (tt_bl (tp_bind2 (a := (row8.1.1)) (b := kept7) (op_inL eq_S) (tp_projI (i := 0) (m := (emP3 emS emI (emT emS))) (n := emS) (o := (fun p : (Nm) × (Int) × (List (Nm)) => p.1)) (tm_im (m := (emP3 emS emI (emT emS))) (a := row8.1) 6 rfl)) (tm_sh (m := (emL emS)) (a := kept7) 3 rfl)))) (fun row8 => (tm_im (m := emI) (a := row8.2) 7 rfl)))) (fun places9 => (tb_seq (tf_set (tp_compF (ti_wT (tp_projI (i := 0) (m := (emP3 (emT (emP3 emS emI (emT emS))) (emT emI) (emT emS))) (n := (emT (emP3 emS emI (emT emS)))) (o := (fun p : (List ((Nm) × (Int) × (List (Nm)))) × (List (Int)) × (List (Nm)) => p.1)) (tm_im (m := (emP3 (emT (emP3 emS emI (emT emS))) (emT emI) (emT emS))) (a := book) 0 rfl))) (fun row10 => tg_nm) (fun row10 => (tt_bl (tp_bind2 (a := (row10.1)) (b := kept7) (op_inL eq_S) (tp_projI (i := 0) (m := (emP3 emS emI (emT emS))) (n := emS) (o := (fun p : (Nm) × (Int) × (List (Nm)) => p.1)) (tm_im (m := (emP3 emS emI (emT emS))) (a := row10) 6 rfl)) (tm_sh (m := (emL emS)) (a := kept7) 3 rfl)))) (fun row10 => (tm_im (m := (emP3 emS emI (emT emS))) (a := row10) 6 rfl)))) (fun rows11 => (tb_retF (tp_p3 (tp_call (a := (rows11, ())) bt_tupL (ta_p (tm_own (m := (emL (emP3 emS emI (emT emS)))) (a := rows11) 5 rfl) ta_nil)) (tp_call (a := (places9, ())) bt_tupL (ta_p (tm_own (m := (emL emI)) (a := places9) 4 rfl) ta_nil)) (tp_call (a := ((List.filter (fun (name12 : Nm) => (memB name12 kept7)) (book.2.2)), ())) bt_tupL (ta_p (tp_compF (ti_wT (tp_projI (i := 2) (m := (emP3 (emT (emP3 emS emI (emT emS))) (emT emI) (emT emS))) (n := (emT emS)) (o := (fun p : (List ((Nm) × (Int) × (List (Nm)))) × (List (Int)) × (List (Nm)) => p.2.2)) (tm_im (m := (emP3 (emT (emP3 emS emI (emT emS))) (emT emI) (emT emS))) (a := book) 0 rfl))) (fun name12 => tg_nm) (fun name12 => (tt_bl (tp_bind2 (a := name12) (b := kept7) (op_inL eq_S) (tm_im (m := emS) (a := name12) 8 rfl) (tm_sh (m := (emL emS)) (a := kept7) 3 rfl)))) (fun name12 => (tm_im (m := emS) (a := name12) 8 rfl))) ta_nil))))))))))))))))
def T__law_cell (script : List Int) (k : Int) : Res (Int) := (if (decide (k < ((List.length script : Nat) : Int))) = true then (ixT script k) else (.ok (0 : Int)))
theorem t__law_cell : TD1 F__law_cell (consG emZ (consG emI nilG)) emI (fun p => T__law_cell p.1 p.2.1) := by
  refine td_def (fun _ => rfl) fun p => ?_
  obtain ⟨script, k, _⟩ := p
  show TB [some (.sh, emZ.e script), some (.sh, emI.e k)] _ _ (T__law_cell script k)
  unfold x__law_cell T__law_cell
  exact (ub_ifR (tt_bl (tp_bind2 (a := k) (b := ((List.length script : Nat) : Int)) (op_lt) (tm_im (m := emI) (a := k) 1 rfl) (tp_call (a := (script, ())) bt_lenZ (ta_p (tm_im (m := emZ) (a := script) 0 rfl) ta_nil)))) (tb_retF (tp_bind2 (a := script) (b := k) (op_ixZ) (tm_im (m := emZ) (a := script) 0 rfl) (tm_im (m := emI) (a := k) 1 rfl))) (tb_retF (tm_c (m := emI) (a := 0))))
def T__law_seed (seed_here : Int) (k : Int) : Res (Int) := (Res.bind (Res.bind (Res.bind (Res.bind (Res.bind (mulT seed_here (1103515245 : Int)) fun a1 => Res.bind (mulT (7919 : Int) k) fun b2 => .ok (a1 + b2)) fun a3 => Res.bind (.ok (12345 : Int)) fun b4 => .ok (a3 + b4)) fun a5 => Res.bind (.ok (2147483647 : Int)) fun b6 => (modT a5 b6)) fun a7 => Res.bind (.ok (5 : Int)) fun b8 => (powT a7 b8)) fun a9 => Res.bind (.ok (2147483647 : Int)) fun b10 => (modT a9 b10))
theorem t__law_seed : TD1 F__law_seed (consG emI (consG emI nilG)) emI (fun p => T__law_seed p.1 p.2.1) := by
  refine td_def (fun _ => rfl) fun p => ?_
  obtain ⟨seed_here, k, _⟩ := p
  show TB [some (.sh, emI.e seed_here), some (.sh, emI.e k)] _ _ (T__law_seed seed_here k)
  unfold x__law_seed T__law_seed
  exact (tb_retF (tm_bind2 (op_mod) (tm_bind2 (op_pow) (tm_bind2 (op_mod) (tm_bind2 (op_add) (tm_bind2 (op_add) (tp_bind2 (a := seed_here) (b := (1103515245 : Int)) (op_mul) (tm_im (m := emI) (a := seed_here) 0 rfl) (tm_c (m := emI) (a := 1103515245))) (tp_bind2 (a := (7919 : Int)) (b := k) (op_mul) (tm_c (m := emI) (a := 7919)) (tm_im (m := emI) (a := k) 1 rfl))) (tm_c (m := emI) (a := 12345))) (tm_c (m := emI) (a := 2147483647))) (tm_c (m := emI) (a := 5))) (tm_c (m := emI) (a := 2147483647))))
def T__law_pick (seed_here : Int) (many : Int) : Res (Int) := (Res.bind (fdivT seed_here (97 : Int)) fun a1 => Res.bind (.ok many) fun b2 => (modT a1 b2))
theorem t__law_pick : TD1 F__law_pick (consG emI (consG emI nilG)) emI (fun p => T__law_pick p.1 p.2.1) := by
  refine td_def (fun _ => rfl) fun p => ?_
  obtain ⟨seed_here, many, _⟩ := p
  show TB [some (.sh, emI.e seed_here), some (.sh, emI.e many)] _ _ (T__law_pick seed_here many)
  unfold x__law_pick T__law_pick
  exact (tb_retF (tm_bind2 (op_mod) (tp_bind2 (a := seed_here) (b := (97 : Int)) (op_fdiv) (tm_im (m := emI) (a := seed_here) 0 rfl) (tm_c (m := emI) (a := 97))) (tm_im (m := emI) (a := many) 1 rfl)))
def T__law_book (seed_here : Int) (most : Int) : Res ((List ((Nm) × (Int) × (List (Nm)))) × (List (Int)) × (List (Nm))) := (Res.bind (.ok []) fun names1 => (Res.bind (Res.bind (Res.bind (Res.bind (.ok (1 : Int)) fun a9 => Res.bind (Res.bind (Res.bind (T__law_seed seed_here (1 : Int)) fun a6 => Res.bind (Res.bind (.ok most) fun a4 => Res.bind (.ok ()) fun b5 => .ok (a4, b5)) fun b7 => .ok (a6, b7)) fun p8 => (T__law_pick p8.1 p8.2.1)) fun b10 => .ok (a9 + b10)) rngR) fun xs38 => foldT (fun (s2 : List (Nm)) (k3 : Int) => (Res.bind (Res.bind (.ok str_) fun a33 => Res.bind (Res.bind (Res.bind (Res.bind (.ok (1 : Int)) fun a13 => Res.bind (Res.bind (fdivT seed_here (7 : Int)) fun a11 => Res.bind (.ok (2 : Int)) fun b12 => (modT a11 b12)) fun b14 => .ok (a13 + b14)) rngR) fun xs32 => compT (fun (j15 : Int) => (.ok true)) (fun (j15 : Int) => (Res.bind (.ok str_abcdez) fun a30 => Res.bind (Res.bind (Res.bind (Res.bind (Res.bind (.ok seed_here) fun a22 => Res.bind (Res.bind (Res.bind (Res.bind (.ok (40 : Int)) fun a16 => Res.bind (mulT (3 : Int) k3) fun b17 => .ok (a16 + b17)) fun a18 => Res.bind (.ok j15) fun b19 => .ok (a18 + b19)) fun a20 => Res.bind (.ok ()) fun b21 => .ok (a20, b21)) fun b23 => .ok (a22, b23)) fun p24 => (T__law_seed p24.1 p24.2.1)) fun a27 => Res.bind (Res.bind (.ok (6 : Int)) fun a25 => Res.bind (.ok ()) fun b26 => .ok (a25, b26)) fun b28 => .ok (a27, b28)) fun p29 => (T__law_pick p29.1 p29.2.1)) fun b31 => (ixST a30 b31))) xs32) fun b34 => (joinT a33 b34)) fun name35 => (if (!memB name35 s2) = true then (Res.bind (Res.bind (.ok name35) fun a37 => appT s2 a37) fun names36 => .ok names36) else (.ok s2)))) xs38 names1) fun s2 => (Res.bind (.ok ([], [], [])) fun p39 => (Res.bind (Res.bind (.ok (1 : Int)) fun a45 => Res.bind (Res.bind (Res.bind (T__law_seed seed_here (2 : Int)) fun a42 => Res.bind (Res.bind (.ok (4 : Int)) fun a40 => Res.bind (.ok ()) fun b41 => .ok (a40, b41)) fun b43 => .ok (a42, b43)) fun p44 => (T__law_pick p44.1 p44.2.1)) fun b46 => .ok (a45 + b46)) fun thick47 => (Res.bind (foldT (fun (s48 : (List ((Nm) × (Int) × (List (Nm)))) × (List (Int)) × (List (Nm))) (row49 : (Int) × (Nm)) => (Res.bind (.ok []) fun uses_here50 => (Res.bind (Res.bind (Res.bind (Res.bind (Res.bind (T__law_seed seed_here ((80 : Int) + row49.1)) fun a55 => Res.bind (Res.bind (.ok (thick47 + (1 : Int))) fun a53 => Res.bind (.ok ()) fun b54 => .ok (a53, b54)) fun b56 => .ok (a55, b56)) fun p57 => (T__law_pick p57.1 p57.2.1)) rngR) fun xs87 => foldT (fun (s51 : List (Nm)) (j52 : Int) => (Res.bind (Res.bind (.ok s2) fun a72 => Res.bind (Res.bind (Res.bind (Res.bind (Res.bind (.ok seed_here) fun a64 => Res.bind (Res.bind (Res.bind (Res.bind (.ok (100 : Int)) fun a58 => Res.bind (mulT (5 : Int) row49.1) fun b59 => .ok (a58 + b59)) fun a60 => Res.bind (.ok j52) fun b61 => .ok (a60 + b61)) fun a62 => Res.bind (.ok ()) fun b63 => .ok (a62, b63)) fun b65 => .ok (a64, b65)) fun p66 => (T__law_seed p66.1 p66.2.1)) fun a69 => Res.bind (Res.bind (.ok ((List.length s2 : Nat) : Int)) fun a67 => Res.bind (.ok ()) fun b68 => .ok (a67, b68)) fun b70 => .ok (a69, b70)) fun p71 => (T__law_pick p71.1 p71.2.1)) fun b73 => (ixT a72 b73)) fun other74 => (Res.bind (Res.bind (.ok (!decide (other74 = row49.2))) fun c83 => if c83 = true then (Res.bind (.ok (!memB other74 s51)) fun c82 => if c82 = true then (Res.bind (Res.bind (Res.bind (fdivT seed_here (11 : Int)) fun a75 => Res.bind (.ok (3 : Int)) fun b76 => (modT a75 b76)) fun a77 => Res.bind (.ok (0 : Int)) fun b78 => .ok (decide (b78 < a77))) fun c81 => if c81 = true then .ok true else (Res.bind (indexT s2 other74) fun a79 => Res.bind (.ok row49.1) fun b80 => .ok (decide (a79 < b80)))) else .ok false) else .ok false) fun c86 => if c86 = true then (Res.bind (Res.bind (.ok other74) fun a85 => appT s51 a85) fun uses_here84 => .ok uses_here84) else (.ok s51)))) xs87 uses_here50) fun s51 => (Res.bind (Res.bind (Res.bind (.ok row49.2) fun a97 => Res.bind (Res.bind (Res.bind (Res.bind (T__law_seed seed_here ((160 : Int) + row49.1)) fun a92 => Res.bind (Res.bind (.ok (199 : Int)) fun a90 => Res.bind (.ok ()) fun b91 => .ok (a90, b91)) fun b93 => .ok (a92, b93)) fun p94 => (T__law_pick p94.1 p94.2.1)) fun a95 => Res.bind (.ok (99 : Int)) fun b96 => .ok (a95 - b96)) fun a98 => Res.bind (.ok s51) fun a99 => .ok (a97, a98, a99)) fun a89 => appT s48.1 a89) fun rows88 => (Res.bind (Res.bind (Res.bind (Res.bind (T__law_seed seed_here ((180 : Int) + row49.1)) fun a108 => Res.bind (Res.bind (Res.bind (.ok (1 : Int)) fun a104 => Res.bind (Res.bind (fdivT seed_here (13 : Int)) fun a102 => Res.bind (.ok (4 : Int)) fun b103 => (modT a102 b103)) fun b105 => .ok (a104 + b105)) fun a106 => Res.bind (.ok ()) fun b107 => .ok (a106, b107)) fun b109 => .ok (a108, b109)) fun p110 => (T__law_pick p110.1 p110.2.1)) fun a101 => appT s48.2.1 a101) fun places100 => (Res.bind (Res.bind (.ok s48.2.2) fun a127 => Res.bind (Res.bind (.ok [row49.2]) fun a125 => Res.bind (Res.bind (Res.bind (Res.bind (Res.bind (Res.bind (T__law_seed seed_here ((200 : Int) + row49.1)) fun a117 => Res.bind (Res.bind (Res.bind (.ok [(2 : Int), (4 : Int), (99 : Int)]) fun a113 => Res.bind (Res.bind (fdivT seed_here (17 : Int)) fun a111 => Res.bind (.ok (3 : Int)) fun b112 => (modT a111 b112)) fun b114 => (ixT a113 b114)) fun a115 => Res.bind (.ok ()) fun b116 => .ok (a115, b116)) fun b118 => .ok (a117, b118)) fun p119 => (T__law_pick p119.1 p119.2.1)) fun a120 => Res.bind (.ok (0 : Int)) fun b121 => .ok (decide (a120 = b121))) fun a122 => Res.bind (.ok ()) fun b123 => .ok (a122, b123)) fun p124 => .ok (if p124.1 = true then 1 else 0)) fun b126 => (repT a125 b126)) fun b128 => (catT a127 b128)) fun late129 => .ok (rows88, places100, late129))))))) (enumT s2) (p39.1, p39.2.1, p39.2.2)) fun s48 => (.ok (s48.1, s48.2.1, (srtM emS s48.2.2))))))))
theorem t__law_book : TD1 F__law_book (consG emI (consG emI nilG)) (emP3 (emT (emP3 emS emI (emT emS))) (emT emI) (emT emS)) (fun p => T__law_book p.1 p.2.1) := by
  refine td_def (fun _ => rfl) fun p => ?_
  obtain ⟨seed_here, most, _⟩ := p
  show TB [some (.sh, emI.e seed_here), some (.sh, emI.e most), none, none, none, none, none, none, none, none, none, none] _ _ (T__law_book seed_here most)
  unfold x__law_book T__law_book
  exact (tb_seq (tf_set tp_lst0) (fun names1 => (tb_seq (tf_for (E := (fun s2 => [some (.sh, emI.e seed_here), some (.sh, emI.e most), some (.own, (emL emS).e s2), none, none, none, none, none, none, none, none, none])) (ti_rng (tm_bind2 (op_add) (tm_c (m := emI) (a := 1)) (tm_call t__law_pick (ta_cons (tp_call (a := (seed_here, ((1 : Int), ()))) t__law_seed (ta_p (tm_im (m := emI) (a := seed_here) 0 rfl) (ta_p (tm_c (m := emI) (a := 1)) ta_nil))) (ta_cons (tm_im (m := emI) (a := most) 1 rfl) ta_nil))))) (fun s2 k3 => tg_nm) (fun s2 k3 => (tf_seq (tf_set (tm_bind2p (op_joinL) pre_str (tm_c (m := emS) (a := str_)) (tm_comp (ti_rng (tm_bind2 (op_add) (tm_c (m := emI) (a := 1)) (tm_bind2 (op_mod) (tp_bind2 (a := seed_here) (b := (7 : Int)) (op_fdiv) (tm_im (m := emI) (a := seed_here) 0 rfl) (tm_c (m := emI) (a := 7))) (tm_c (m := emI) (a := 2))))) (fun j15 => tg_nm) (fun j15 => tt_no) (fun j15 => (tm_bind2 (op_ixS) (tm_c (m := emS) (a := str_abcdez)) (tm_call t__law_pick (ta_cons (tm_call t__law_seed (ta_cons (tm_im (m := emI) (a := seed_here) 0 rfl) (ta_cons (tm_bind2 (op_add) (tm_bind2 (op_add) (tm_c (m := emI) (a := 40)) (tp_bind2 (a := (3 : Int)) (b := k3) (op_mul) (tm_c (m := emI) (a := 3)) (tm_im (m := emI) (a := k3) 3 rfl))) (tm_im (m := emI) (a := j15) 10 rfl)) ta_nil))) (ta_cons (tm_c (m := emI) (a := 6)) ta_nil)))))))) (fun name35 => (uf_if (tt_bl (tp_bind2 (a := name35) (b := s2) (op_niL eq_S) (tm_im (m := emS) (a := name35) 4 rfl) (tm_own (m := (emL emS)) (a := s2) 2 rfl))) (tf_out (tf_app 2 rfl (tm_im (m := emS) (a := name35) 4 rfl)) (fun _ => (.yes rfl (.yes rfl (.yes rfl (.no (.no (.no (.no (.no (.no (.no (.no (.no .nil)))))))))))))) (tf_end (.yes rfl (.yes rfl (.yes rfl (.no (.no (.no (.no (.no (.no (.no (.no (.no .nil))))))))))))))))) (.yes rfl (.yes rfl (.yes rfl (.no (.no (.no (.no (.no (.no (.no (.no (.no .nil))))))))))))) (fun s2 => (tb_seq (tf_par3 tp_lst0 tp_lst0 tp_lst0) (fun p39 => (tb_seq (tf_set (tm_bind2 (op_add) (tm_c (m := emI) (a := 1)) (tm_call t__law_pick (ta_cons (tp_call (a := (seed_here, ((2 : Int), ()))) t__law_seed (ta_p (tm_im (m := emI) (a := seed_here) 0 rfl) (ta_p (tm_c (m := emI) (a := 2)) ta_nil))) (ta_cons (tm_c (m := emI) (a := 4)) ta_nil))))) (fun thick47 => (tb_seq (tf_sh 2 rfl (uf_for (E := (fun s48 => [some (.sh, emI.e seed_here), some (.sh, emI.e most), some (.sh, (emL emS).e s2), none, none, some (.own, (emL (emP3 emS emI (emT emS))).e s48.1), some (.own, (emL emI).e s48.2.1), some (.own, (emL emS).e s48.2.2), some (.own, emI.e thick47), none, none, none])) (tj_enumL (tm_sh (m := (emL emS)) (a := s2) 2 rfl)) (fun s48 row49 => (tg_tp (tgs_cons tg_nm (tgs_cons tg_nm tgs_nil)))) (fun s48 row49 => (tf_seq (tf_set tp_lst0) (fun uses_here50 => (tf_seq (tf_for (E := (fun s51 => [some (.sh, emI.e seed_here), some (.sh, emI.e most), some (.sh, (emL emS).e s2), some (.sh, emI.e row49.1), some (.sh, emS.e row49.2), some (.own, (emL (emP3 emS emI (emT emS))).e s48.1), some (.own, (emL emI).e s48.2.1), some (.own, (emL emS).e s48.2.2), some (.own, emI.e thick47), some (.own, (emL emS).e s51), none, none])) (ti_rng (tm_call t__law_pick (ta_cons (tp_call (a := (seed_here, (((80 : Int) + row49.1), ()))) t__law_seed (ta_p (tm_im (m := emI) (a := seed_here) 0 rfl) (ta_p (tp_bind2 (a := (80 : Int)) (b := row49.1) (op_add) (tm_c (m := emI) (a := 80)) (tm_im (m := emI) (a := row49.1) 3 rfl)) ta_nil))) (ta_cons (tp_bind2 (a := thick47) (b := (1 : Int)) (op_add) (tm_im (m := emI) (a := thick47) 8 rfl) (tm_c (m := emI) (a := 1))) ta_nil)))) (fun s51 j52 => tg_nm) (fun s51 j52 => (tf_seq (tf_set (tm_bind2 (op_ixLi) (tm_sh (m := (emL emS)) (a := s2) 2 rfl) (tm_call t__law_pick (ta_cons (tm_call t__law_seed (ta_cons (tm_im (m := emI) (a := seed_here) 0 rfl) (ta_cons (tm_bind2 (op_add) (tm_bind2 (op_add) (tm_c (m := emI) (a := 100)) (tp_bind2 (a := (5 : Int)) (b := row49.1) (op_mul) (tm_c (m := emI) (a := 5)) (tm_im (m := emI) (a := row49.1) 3 rfl))) (tm_im (m := emI) (a := j52) 10 rfl)) ta_nil))) (ta_cons (tp_call (a := (s2, ())) bt_lenL (ta_p (tm_sh (m := (emL emS)) (a := s2) 2 rfl) ta_nil)) ta_nil))))) (fun other74 => (tf_if (tt_and (tt_bl (tp_bind2 (a := other74) (b := row49.2) (op_ne eq_S) (tm_im (m := emS) (a := other74) 11 rfl) (tm_im (m := emS) (a := row49.2) 4 rfl))) (tt_and (tt_bl (tp_bind2 (a := other74) (b := s51) (op_niL eq_S) (tm_im (m := emS) (a := other74) 11 rfl) (tm_own (m := (emL emS)) (a := s51) 9 rfl))) (tt_or (tt_bl (tm_bind2 (op_gt) (tm_bind2 (op_mod) (tp_bind2 (a := seed_here) (b := (11 : Int)) (op_fdiv) (tm_im (m := emI) (a := seed_here) 0 rfl) (tm_c (m := emI) (a := 11))) (tm_c (m := emI) (a := 3))) (tm_c (m := emI) (a := 0)))) (tt_bl (tm_bind2 (op_lt) (tp_bind2p (a := s2) (b := other74) (op_index eq_S) pre_lst (tm_sh (m := (emL emS)) (a := s2) 2 rfl) (tm_im (m := emS) (a := other74) 11 rfl)) (tm_im (m := emI) (a := row49.1) 3 rfl)))))) (tf_out (tf_app 9 rfl (tm_im (m := emS) (a := other74) 11 rfl)) (fun _ => (.yes rfl (.yes rfl (.yes rfl (.yes rfl (.yes rfl (.yes rfl (.yes rfl (.yes rfl (.yes rfl (.yes rfl (.no (.no .nil)))))))))))))) (tf_end (.yes rfl (.yes rfl (.yes rfl (.yes rfl (.yes rfl (.yes rfl (.yes rfl (.yes rfl (.yes rfl (.yes rfl (.no (.no .nil))))))))))))))))) (.yes rfl (.yes rfl (.yes rfl (.yes rfl (.yes rfl (.yes rfl (.yes rfl (.yes rfl (.yes rfl (.yes rfl (.no (.no .nil))))))))))))) (fun s51 => (tf_seq (tf_app 5 rfl (tm_p3 (tm_im (m := emS) (a := row49.2) 4 rfl) (tm_bind2 (op_sub) (tm_call t__law_pick (ta_cons (tp_call (a := (seed_here, (((160 : Int) + row49.1), ()))) t__law_seed (ta_p (tm_im (m := emI) (a := seed_here) 0 rfl) (ta_p (tp_bind2 (a := (160 : Int)) (b := row49.1) (op_add) (tm_c (m := emI) (a := 160)) (tm_im (m := emI) (a := row49.1) 3 rfl)) ta_nil))) (ta_cons (tm_c (m := emI) (a := 199)) ta_nil))) (tm_c (m := emI) (a := 99))) (tp_call (a := (s51, ())) bt_tupL (ta_p (tm_own (m := (emL emS)) (a := s51) 9 rfl) ta_nil)))) (fun rows88 => (tf_seq (tf_app 6 rfl (tm_call t__law_pick (ta_cons (tp_call (a := (seed_here, (((180 : Int) + row49.1), ()))) t__law_seed (ta_p (tm_im (m := emI) (a := seed_here) 0 rfl) (ta_p (tp_bind2 (a := (180 : Int)) (b := row49.1) (op_add) (tm_c (m := emI) (a := 180)) (tm_im (m := emI) (a := row49.1) 3 rfl)) ta_nil))) (ta_cons (tm_bind2 (op_add) (tm_c (m := emI) (a := 1)) (tm_bind2 (op_mod) (tp_bind2 (a := seed_here) (b := (13 : Int)) (op_fdiv) (tm_im (m := emI) (a := seed_here) 0 rfl) (tm_c (m := emI) (a := 13))) (tm_c (m := emI) (a := 4)))) ta_nil)))) (fun places100 => (tf_out (tf_set (tm_bind2 (op_catL) (tm_own (m := (emL emS)) (a := s48.2.2) 7 rfl) (tm_bind2 (op_rep) (tp_lst (tj_cons (tm_im (m := emS) (a := row49.2) 4 rfl) ti_nil)) (tm_call bt_intB (ta_cons (tm_bind2 (op_eq eq_I) (tm_call t__law_pick (ta_cons (tp_call (a := (seed_here, (((200 : Int) + row49.1), ()))) t__law_seed (ta_p (tm_im (m := emI) (a := seed_here) 0 rfl) (ta_p (tp_bind2 (a := (200 : Int)) (b := row49.1) (op_add) (tm_c (m := emI) (a := 200)) (tm_im (m := emI) (a := row49.1) 3 rfl)) ta_nil))) (ta_cons (tm_bind2 (op_ixLi) (tp_lst (tj_cons (tm_c (m := emI) (a := 2)) (tj_cons (tm_c (m := emI) (a := 4)) (tj_cons (tm_c (m := emI) (a := 99)) ti_nil)))) (tm_bind2 (op_mod) (tp_bind2 (a := seed_here) (b := (17 : Int)) (op_fdiv) (tm_im (m := emI) (a := seed_here) 0 rfl) (tm_c (m := emI) (a := 17))) (tm_c (m := emI) (a := 3)))) ta_nil))) (tm_c (m := emI) (a := 0))) ta_nil))))) (fun _ => (.yes rfl (.yes rfl (.yes rfl (.no (.no (.yes rfl (.yes rfl (.yes rfl (.yes rfl (.no (.no (.no .nil))))))))))))))))))))))) (.yes rfl (.yes rfl (.yes rfl (.no (.no (.yes rfl (.yes rfl (.yes rfl (.yes rfl (.no (.no (.no .nil)))))))))))))) (fun s48 => (tb_retF (tp_p3 (tp_call (a := (s48.1, ())) bt_tupL (ta_p (tm_own (m := (emL (emP3 emS emI (emT emS)))) (a := s48.1) 5 rfl) ta_nil)) (tp_call (a := (s48.2.1, ())) bt_tupL (ta_p (tm_own (m := (emL emI)) (a := s48.2.1) 6 rfl) ta_nil)) (tp_call (a := ((srtM emS s48.2.2), ())) bt_tupL (ta_p (tp_call (a := (s48.2.2, ())) bt_sortS (ta_p (tm_own (m := (emL emS)) (a := s48.2.2) 7 rfl) ta_nil)) ta_nil))))))))))))))
def T__law_uses (book_here : (List ((Nm) × (Int) × (List (Nm)))) × (List (Int)) × (List (Nm))) : List ((Nm) × (List (Nm))) := (dictT (List.map (fun (row1 : (Nm) × (Int) × (List (Nm))) => ((row1.1), (row1.2.2))) (book_here.1)))
theorem t__law_uses : TD1 F__law_uses (consG (emP3 (emT (emP3 emS emI (emT emS))) (emT emI) (emT emS)) nilG) (emK kyS (emT emS)) (fun p => .ok (T__law_uses p.1)) := by
  refine td_def (fun _ => rfl) fun p => ?_
  obtain ⟨book_here, _⟩ := p
  show TB [some (.sh, (emP3 (emT (emP3 emS emI (emT emS))) (emT emI) (emT emS)).e book_here), none] _ _ (.ok (T__law_uses book_here))
  unfold x__law_uses T__law_uses
  exact (tb_retF (tp_call (a := ((List.map (fun (row1 : (Nm) × (Int) × (List (Nm))) => ((row1.1), (row1.2.2))) (book_here.1)), ())) (bt_dict (y := kyS)) (ta_p (tp_compM (ti_wT (tp_projI (i := 0) (m := (emP3 (emT (emP3 emS emI (emT emS))) (emT emI) (emT emS))) (n := (emT (emP3 emS emI (emT emS)))) (o := (fun p : (List ((Nm) × (Int) × (List (Nm)))) × (List (Int)) × (List (Nm)) => p.1)) (tm_im (m := (emP3 (emT (emP3 emS emI (emT emS))) (emT emI) (emT emS))) (a := book_here) 0 rfl))) (fun row1 => tg_nm) (fun row1 => (tp_p2 (tp_projI (i := 0) (m := (emP3 emS emI (emT emS))) (n := emS) (o := (fun p : (Nm) × (Int) × (List (Nm)) => p.1)) (tm_im (m := (emP3 emS emI (emT emS))) (a := row1) 1 rfl)) (tp_projI (i := 2) (m := (emP3 emS emI (emT emS))) (n := (emT emS)) (o := (fun p : (Nm) × (Int) × (List (Nm)) => p.2.2)) (tm_im (m := (emP3 emS emI (emT emS))) (a := row1) 1 rfl))))) ta_nil)))
def T__law_needed (book_here : (List ((Nm) × (Int) × (List (Nm)))) × (List (Int)) × (List (Nm))) (some_ : List (Nm)) : Res (List (Nm)) := (Res.bind (.ok (T__law_uses book_here)) fun uses_here1 => (Res.bind (Res.bind (szT (keysT uses_here1)) fun xs3 => .ok (List.map (fun (name2 : Nm) => name2) (List.filter (fun (name2 : Nm) => (memB name2 some_)) xs3))) fun found4 => (Res.bind (Res.bind (Res.bind (.ok ((List.length uses_here1 : Nat) : Int)) rngR) fun xs14 => foldT (fun (s5 : List (Nm)) (time6 : Int) => (Res.bind (foldT (fun (s7 : List (Nm)) (name8 : Nm) => (Res.bind (Res.bind (.ok s7) fun a11 => Res.bind (Res.bind (dgetT uses_here1 name8) fun xs10 => compT (fun (use9 : Nm) => (.ok (!memB use9 s7))) (fun (use9 : Nm) => (.ok use9)) xs10) fun b12 => (catT a11 b12)) fun found13 => .ok found13)) s5 s5) fun s7 => .ok s7)) xs14 found4) fun s5 => (.ok (srtM emS s5)))))
theorem t__law_needed : TD1 F__law_needed (consG (emP3 (emT (emP3 emS emI (emT emS))) (emT emI) (emT emS)) (consG (emT emS) nilG)) (emL emS) (fun p => T__law_needed p.1 p.2.1) := by
  refine td_def (fun _ => rfl) fun p => ?_
  obtain ⟨book_here, some_, _⟩ := p
  show TB [some (.sh, (emP3 (emT (emP3 emS emI (emT emS))) (emT emI) (emT emS)).e book_here), some (.sh, (emT emS).e some_), none, none, none, none, none] _ _ (T__law_needed book_here some_)
  unfold x__law_needed T__law_needed
  exact (tb_seq (tf_set (tp_call (a := (book_here, ())) t__law_uses (ta_p (tm_im (m := (emP3 (emT (emP3 emS emI (emT emS))) (emT emI) (emT emS))) (a := book_here) 0 rfl) ta_nil))) (fun uses_here1 => (tb_seq (tf_set (tm_compKP (y := kyS) 2 rfl (fun name2 => tg_nm) (fun name2 => (tt_bl (tp_bind2 (a := name2) (b := some_) (op_inT eq_S) (tm_im (m := emS) (a := name2) 5 rfl) (tm_im (m := (emT emS)) (a := some_) 1 rfl)))) (fun name2 => (tm_im (m := emS) (a := name2) 5 rfl)))) (fun found4 => (tb_seq (tf_for (E := (fun s5 => [some (.sh, (emP3 (emT (emP3 emS emI (emT emS))) (emT emI) (emT emS)).e book_here), some (.sh, (emT emS).e some_), some (.own, (emK kyS (emT emS)).e uses_here1), some (.own, (emL emS).e s5), none, none, none])) (ti_rng (tp_call (a := (uses_here1, ())) (bt_lenK (y := kyS)) (ta_p (tm_own (m := (emK kyS (emT emS))) (a := uses_here1) 2 rfl) ta_nil))) (fun s5 time6 => tg_nm) (fun s5 time6 => (tf_out (uf_for (E := (fun s7 => [some (.sh, (emP3 (emT (emP3 emS emI (emT emS))) (emT emI) (emT emS)).e book_here), some (.sh, (emT emS).e some_), some (.own, (emK kyS (emT emS)).e uses_here1), some (.own, (emL emS).e s7), some (.sh, emI.e time6), none, none])) (ti_wLL (TM.weak (tp_call (a := (s5, ())) bt_listL (ta_p (tm_own (m := (emL emS)) (a := s5) 3 rfl) ta_nil)))) (fun s7 name8 => tg_nm) (fun s7 name8 => (tf_out (tf_set (tm_bind2 (op_catL) (tm_own (m := (emL emS)) (a := s7) 3 rfl) (tm_comp (ti_wT (tp_bind2 (a := uses_here1) (b := name8) (op_ixKi (y := kyS)) (tm_own (m := (emK kyS (emT emS))) (a := uses_here1) 2 rfl) (tm_im (m := emS) (a := name8) 5 rfl))) (fun use9 => tg_nm) (fun use9 => (tt_bl (tp_bind2 (a := use9) (b := s7) (op_niL eq_S) (tm_im (m := emS) (a := use9) 6 rfl) (tm_sh (m := (emL emS)) (a := s7) 3 rfl)))) (fun use9 => (tm_im (m := emS) (a := use9) 6 rfl))))) (fun _ => (.yes rfl (.yes rfl (.yes rfl (.yes rfl (.yes rfl (.no (.no .nil)))))))))) (.yes rfl (.yes rfl (.yes rfl (.yes rfl (.yes rfl (.no (.no .nil)))))))) (fun _ => (.yes rfl (.yes rfl (.yes rfl (.yes rfl (.no (.no (.no .nil)))))))))) (.yes rfl (.yes rfl (.yes rfl (.yes rfl (.no (.no (.no .nil)))))))) (fun s5 => (tb_retF (tp_call (a := (s5, ())) bt_sortS (ta_p (tm_own (m := (emL emS)) (a := s5) 3 rfl) ta_nil)))))))))
def T__law_only (book_here : (List ((Nm) × (Int) × (List (Nm)))) × (List (Int)) × (List (Nm))) (some_ : List (Nm)) : Res ((List ((Nm) × (Int) × (List (Nm)))) × (List (Int)) × (List (Nm))) := (Res.bind (T__law_needed book_here some_) fun kept1 => (Res.bind (.ok (List.map (fun (row2 : ((Nm) × (Int) × (List (Nm))) × (Int)) => (row2.1, row2.2)) (List.filter (fun (row2 : ((Nm) × (Int) × (List (Nm))) × (Int)) => (memB (row2.1.1) kept1)) (List.zip (book_here.1) (book_here.2.1))))) fun rows3 => (Res.bind (.ok (List.filter (fun (name4 : Nm) => (memB name4 kept1)) (book_here.2.2))) fun late5 => (.ok ((List.map (fun (row6 : ((Nm) × (Int) × (List (Nm))) × (Int)) => row6.1) rows3), (List.map (fun (row7 : ((Nm) × (Int) × (List (Nm))) × (Int)) => row7.2) rows3), late5)))))
theorem t__law_only : TD1 F__law_only (consG (emP3 (emT (emP3 emS emI (emT emS))) (emT emI) (emT emS)) (consG (emT emS) nilG)) (emP3 (emT (emP3 emS emI (emT emS))) (emT emI) (emT emS)) (fun p => T__law_only p.1 p.2.1) := by
  refine td_def (fun _ => rfl) fun p => ?_
  obtain ⟨book_here, some_, _⟩ := p
  show TB [some (.sh, (emP3 (emT (emP3 emS emI (emT emS))) (emT emI) (emT emS)).e book_here), some (.sh, (emT emS).e some_), none, none, none, none, none, none] _ _ (T__law_only book_here some_)
  unfold x__law_only T__law_only
  exact (tb_seq (tf_set (tp_call (a := (book_here, (some_, ()))) t__law_needed (ta_p (tm_im (m := (emP3 (emT (emP3 emS emI (emT emS))) (emT emI) (emT emS))) (a := book_here) 0 rfl) (ta_p (tm_im (m := (emT emS)) (a := some_) 1 rfl) ta_nil)))) (fun kept1 => (tb_seq (tf_set (tp_comp (tj_zT (tp_projI (i := 0) (m := (emP3 (emT (emP3 emS emI (emT emS))) (emT emI) (emT emS))) (n := (emT (emP3 emS emI (emT emS)))) (o := (fun p : (List ((Nm) × (Int) × (List (Nm)))) × (List (Int)) × (List (Nm)) => p.1)) (tm_im (m := (emP3 (emT (emP3 emS emI (emT emS))) (emT emI) (emT emS))) (a := book_here) 0 rfl)) (tp_projI (i := 1) (m := (emP3 (emT (emP3 emS emI (emT emS))) (emT emI) (emT emS))) (n := (emT emI)) (o := (fun p : (List ((Nm) × (Int) × (List (Nm)))) × (List (Int)) × (List (Nm)) => p.2.1)) (tm_im (m := (emP3 (emT (emP3 emS emI (emT emS))) (emT emI) (emT emS))) (a := book_here) 0 rfl))) (fun row2 => (tg_tp (tgs_cons tg_nm (tgs_cons tg_nm tgs_nil)))) (fun row2 => (tt_bl (tp_bind2 (a := (row2.1.1)) (b := kept1) (op_inL eq_S) (tp_projI (i := 0) (m := (emP3 emS emI (emT emS))) (n := emS) (o := (fun p : (Nm) × (Int) × (List (Nm)) => p.1)) (tm_im (m := (emP3 emS emI (emT emS))) (a := row2.1) 5 rfl)) (tm_sh (m := (emL emS)) (a := kept1) 2 rfl)))) (fun row2 => (tp_p2 (tm_im (m := (emP3 emS emI (emT emS))) (a := row2.1) 5 rfl) (tm_im (m := emI) (a := row2.2) 6 rfl))))) (fun rows3 => (tb_seq (tf_set (tp_call (a := ((List.filter (fun (name4 : Nm) => (memB name4 kept1)) (book_here.2.2)), ())) bt_tupL (ta_p (tp_compF (ti_wT (tp_projI (i := 2) (m := (emP3 (emT (emP3 emS emI (emT emS))) (emT emI) (emT emS))) (n := (emT emS)) (o := (fun p : (List ((Nm) × (Int) × (List (Nm)))) × (List (Int)) × (List (Nm)) => p.2.2)) (tm_im (m := (emP3 (emT (emP3 emS emI (emT emS))) (emT emI) (emT emS))) (a := book_here) 0 rfl))) (fun name4 => tg_nm) (fun name4 => (tt_bl (tp_bind2 (a := name4) (b := kept1) (op_inL eq_S) (tm_im (m := emS) (a := name4) 7 rfl) (tm_sh (m := (emL emS)) (a := kept1) 2 rfl)))) (fun name4 => (tm_im (m := emS) (a := name4) 7 rfl))) ta_nil))) (fun late5 => (tb_retF (tp_p3 (tp_call (a := ((List.map (fun (row6 : ((Nm) × (Int) × (List (Nm))) × (Int)) => row6.1) rows3), ())) bt_tupL (ta_p (tp_compM (ti_wL (tm_own (m := (emL (emP2 (emP3 emS emI (emT emS)) emI))) (a := rows3) 3 rfl)) (fun row6 => (tg_tp (tgs_cons tg_nm (tgs_cons tg_nm tgs_nil)))) (fun row6 => (tm_im (m := (emP3 emS emI (emT emS))) (a := row6.1) 5 rfl))) ta_nil)) (tp_call (a := ((List.map (fun (row7 : ((Nm) × (Int) × (List (Nm))) × (Int)) => row7.2) rows3), ())) bt_tupL (ta_p (tp_compM (ti_wL (tm_own (m := (emL (emP2 (emP3 emS emI (emT emS)) emI))) (a := rows3) 3 rfl)) (fun row7 => (tg_tp (tgs_cons tg_nm (tgs_cons tg_nm tgs_nil)))) (fun row7 => (tm_im (m := emI) (a := row7.2) 6 rfl))) ta_nil)) (tm_im (m := (emT emS)) (a := late5) 4 rfl)))))))))
def T__law_some_book (script : List Int) (at_ : Int) : Res ((List ((Nm) × (Int) × (List (Nm)))) × (List (Int)) × (List (Nm))) := (Res.bind (Res.bind (Res.bind (Res.bind (T__law_cell script at_) fun a5 => Res.bind (Res.bind (Res.bind (T__law_cell script (at_ + (1 : Int))) fun a1 => Res.bind (.ok (5 : Int)) fun b2 => (modT a1 b2)) fun a3 => Res.bind (.ok ()) fun b4 => .ok (a3, b4)) fun b6 => .ok (a5, b6)) fun p7 => (T__law_seed p7.1 p7.2.1)) fun a10 => Res.bind (Res.bind (.ok (8 : Int)) fun a8 => Res.bind (.ok ()) fun b9 => .ok (a8, b9)) fun b11 => .ok (a10, b11)) fun p12 => (T__law_book p12.1 p12.2.1))
theorem t__law_some_book : TD1 F__law_some_book (consG emZ (consG emI nilG)) (emP3 (emT (emP3 emS emI (emT emS))) (emT emI) (emT emS)) (fun p => T__law_some_book p.1 p.2.1) := by
  refine td_def (fun _ => rfl) fun p => ?_
  obtain ⟨script, at_, _⟩ := p
  show TB [some (.sh, emZ.e script), some (.sh, emI.e at_)] _ _ (T__law_some_book script at_)
  unfold x__law_some_book T__law_some_book
  exact (tb_retF (tm_call t__law_book (ta_cons (tm_call t__law_seed (ta_cons (tp_call (a := (script, (at_, ()))) t__law_cell (ta_p (tm_im (m := emZ) (a := script) 0 rfl) (ta_p (tm_im (m := emI) (a := at_) 1 rfl) ta_nil))) (ta_cons (tm_bind2 (op_mod) (tp_call (a := (script, ((at_ + (1 : Int)), ()))) t__law_cell (ta_p (tm_im (m := emZ) (a := script) 0 rfl) (ta_p (tp_bind2 (a := at_) (b := (1 : Int)) (op_add) (tm_im (m := emI) (a := at_) 1 rfl) (tm_c (m := emI) (a := 1))) ta_nil))) (tm_c (m := emI) (a := 5))) ta_nil))) (ta_cons (tm_c (m := emI) (a := 8)) ta_nil))))
def T__law_caught (a0 : Int) (a1 : D) : Res (Nm) := rawS (F__law_caught [emI.e a0, emD.e a1])
theorem t__law_caught : TD1 F__law_caught (consG emI (consG emD nilG)) emS (fun p => T__law_caught p.1 p.2.1) := td_rawS (F := F__law_caught) (G := (consG emI (consG emD nilG)))
def T_law (script : List Int) : Res (Bool) := (Res.bind (T__law_some_book script (0 : Int)) fun book_here1 => (Res.bind (.ok (srtM emS (List.map (fun (row2 : (Nm) × (Int) × (List (Nm))) => (row2.1)) (book_here1.1)))) fun names3 => (Res.bind (Res.bind (.ok names3) fun a6 => Res.bind (Res.bind (T__law_cell script (2 : Int)) fun a4 => Res.bind (.ok ((List.length names3 : Nat) : Int)) fun b5 => (modT a4 b5)) fun b7 => (ixT a6 b7)) fun name8 => (Res.bind (.ok (T__law_uses book_here1)) fun uses_here9 => (Res.bind (Res.bind (T_needs book_here1 name8) fun a15 => Res.bind (Res.bind (Res.bind (.ok book_here1) fun a12 => Res.bind (Res.bind (dgetT uses_here9 name8) fun a10 => Res.bind (.ok ()) fun b11 => .ok (a10, b11)) fun b13 => .ok (a12, b13)) fun p14 => (T__law_needed p14.1 p14.2.1)) fun b16 => .ok (!decide (a15 = b16))) fun c113 => if c113 = true then (.ok false) else (Res.bind (Res.bind (T_users book_here1 name8) fun a25 => Res.bind (compT (fun (one17 : Nm) => (Res.bind (.ok name8) fun a23 => Res.bind (Res.bind (Res.bind (.ok book_here1) fun a20 => Res.bind (Res.bind (dgetT uses_here9 one17) fun a18 => Res.bind (.ok ()) fun b19 => .ok (a18, b19)) fun b21 => .ok (a20, b21)) fun p22 => (T__law_needed p22.1 p22.2.1)) fun b24 => .ok (memB a23 b24))) (fun (one17 : Nm) => (.ok one17)) names3) fun b26 => .ok (!decide (a25 = b26))) fun c112 => if c112 = true then (.ok false) else (Res.bind (Res.bind (Res.bind (compT (fun (row27 : (Int) × (Nm)) => (Res.bind (Res.bind (Res.bind (Res.bind (Res.bind (T__law_cell script (3 : Int)) fun a30 => Res.bind (Res.bind (.ok row27.1) fun a28 => Res.bind (.ok ()) fun b29 => .ok (a28, b29)) fun b31 => .ok (a30, b31)) fun p32 => (T__law_seed p32.1 p32.2.1)) fun a35 => Res.bind (Res.bind (.ok (3 : Int)) fun a33 => Res.bind (.ok ()) fun b34 => .ok (a33, b34)) fun b36 => .ok (a35, b36)) fun p37 => (T__law_pick p37.1 p37.2.1)) fun a38 => Res.bind (.ok (0 : Int)) fun b39 => .ok (decide (a38 = b39)))) (fun (row27 : (Int) × (Nm)) => (.ok row27.2)) (enumT names3)) fun a40 => Res.bind (.ok ()) fun b41 => .ok (a40, b41)) fun p42 => .ok p42.1) fun some43 => (Res.bind (Res.bind (.ok some43) fun a44 => if (!List.isEmpty a44) = true then .ok a44 else (.ok [name8])) fun some45 => (Res.bind (Res.bind (T_only book_here1 some45) fun a46 => Res.bind (T__law_only book_here1 some45) fun b47 => .ok (!decide (a46 = b47))) fun c111 => if c111 = true then (.ok false) else (Res.bind (Res.bind (Res.bind (Res.bind (.ok ((emT emI).e [])) fun a63 => Res.bind (Res.bind (.ok ((emT emS).e [str_zzz])) fun a61 => Res.bind (Res.bind (.ok ((emP2 emS emS).e (name8, name8))) fun a59 => Res.bind (Res.bind (Res.bind (Res.bind (Res.bind (.ok (emS.e name8)) fun a48 => Res.bind (.ok []) fun b49 => .ok (a48 :: b49)) szT) fun a50 => .ok ((emL emD).e a50)) fun a57 => Res.bind (Res.bind (.ok (emU.e ())) fun a55 => Res.bind (Res.bind (.ok (emS.e name8)) fun a53 => Res.bind (Res.bind (.ok ((emP2 emS emI).e (name8, (7 : Int)))) fun a51 => Res.bind (.ok []) fun b52 => .ok (a51 :: b52)) fun b54 => .ok (a53 :: b54)) fun b56 => .ok (a55 :: b56)) fun b58 => .ok (a57 :: b58)) fun b60 => .ok (a59 :: b60)) fun b62 => .ok (a61 :: b62)) fun b64 => .ok (a63 :: b64)) szT) fun a67 => Res.bind (Res.bind (T__law_cell script (4 : Int)) fun a65 => Res.bind (.ok (7 : Int)) fun b66 => (modT a65 b66)) fun b68 => (ixT a67 b68)) fun odd69 => (Res.bind (Res.bind (Res.bind (Res.bind (.ok (2 : Int)) fun a77 => Res.bind (Res.bind (Res.bind (Res.bind (Res.bind (.ok ((emP3 (emT (emP3 emS emI (emT emS))) (emT emI) (emT emS)).e book_here1)) fun a72 => Res.bind (Res.bind (.ok odd69) fun a70 => Res.bind (.ok []) fun b71 => .ok (a70 :: b71)) fun b73 => .ok (a72 :: b73)) szT) fun a74 => .ok ((emL emD).e a74)) fun a75 => Res.bind (.ok ()) fun b76 => .ok (a75, b76)) fun b78 => .ok (a77, b78)) fun p79 => (T__law_caught p79.1 p79.2.1)) fun a80 => Res.bind (.ok str_name) fun b81 => .ok (!decide (a80 = b81))) fun c110 => if c110 = true then (.ok false) else (Res.bind (Res.bind (Res.bind (Res.bind (.ok (emS.e str_zzz)) fun a90 => Res.bind (Res.bind (.ok (emU.e ())) fun a88 => Res.bind (Res.bind (.ok (emS.e str_)) fun a86 => Res.bind (Res.bind (.ok (emI.e (7 : Int))) fun a84 => Res.bind (Res.bind (.ok ((emT emS).e [name8])) fun a82 => Res.bind (.ok []) fun b83 => .ok (a82 :: b83)) fun b85 => .ok (a84 :: b85)) fun b87 => .ok (a86 :: b87)) fun b89 => .ok (a88 :: b89)) fun b91 => .ok (a90 :: b91)) szT) fun a94 => Res.bind (Res.bind (T__law_cell script (5 : Int)) fun a92 => Res.bind (.ok (5 : Int)) fun b93 => (modT a92 b93)) fun b95 => (ixT a94 b95)) fun odd96 => (Res.bind (compT (fun (which97 : Int) => (.ok true)) (fun (which97 : Int) => (Res.bind (Res.bind (.ok which97) fun a105 => Res.bind (Res.bind (Res.bind (Res.bind (Res.bind (.ok ((emP3 (emT (emP3 emS emI (emT emS))) (emT emI) (emT emS)).e book_here1)) fun a100 => Res.bind (Res.bind (.ok odd96) fun a98 => Res.bind (.ok []) fun b99 => .ok (a98 :: b99)) fun b101 => .ok (a100 :: b101)) szT) fun a102 => .ok ((emL emD).e a102)) fun a103 => Res.bind (.ok ()) fun b104 => .ok (a103, b104)) fun b106 => .ok (a105, b106)) fun p107 => (T__law_caught p107.1 p107.2.1))) [((0 : Int), (1 : Int)).1, ((0 : Int), (1 : Int)).2]) fun a108 => Res.bind (repT [str_name] (2 : Int)) fun b109 => .ok (decide (a108 = b109)))))))))))))))
theorem t_law : TD1 F_law (consG emZ nilG) emB (fun p => T_law p.1) := by
  refine td_def (fun _ => rfl) fun p => ?_
  obtain ⟨script, _⟩ := p
  show TB [some (.sh, emZ.e script), none, none, none, none, none, none, none, none, none, none] _ _ (T_law script)
  unfold x_law T_law
  exact (tb_seq (tf_set (tp_call (a := (script, ((0 : Int), ()))) t__law_some_book (ta_p (tm_im (m := emZ) (a := script) 0 rfl) (ta_p (tm_c (m := emI) (a := 0)) ta_nil)))) (fun book_here1 => (tb_seq (tf_set (tp_call (a := ((List.map (fun (row2 : (Nm) × (Int) × (List (Nm))) => (row2.1)) (book_here1.1)), ())) bt_sortS (ta_p (tp_compM (ti_wT (tp_projI (i := 0) (m := (emP3 (emT (emP3 emS emI (emT emS))) (emT emI) (emT emS))) (n := (emT (emP3 emS emI (emT emS)))) (o := (fun p : (List ((Nm) × (Int) × (List (Nm)))) × (List (Int)) × (List (Nm)) => p.1)) (tm_im (m := (emP3 (emT (emP3 emS emI (emT emS))) (emT emI) (emT emS))) (a := book_here1) 1 rfl))) (fun row2 => tg_nm) (fun row2 => (tp_projI (i := 0) (m := (emP3 emS emI (emT emS))) (n := emS) (o := (fun p : (Nm) × (Int) × (List (Nm)) => p.1)) (tm_im (m := (emP3 emS emI (emT emS))) (a := row2) 7 rfl)))) ta_nil))) (fun names3 => (tb_seq (tf_set (tm_bind2 (op_ixLi) (tm_own (m := (emL emS)) (a := names3) 2 rfl) (tm_bind2 (op_mod) (tp_call (a := (script, ((2 : Int), ()))) t__law_cell (ta_p (tm_im (m := emZ) (a := script) 0 rfl) (ta_p (tm_c (m := emI) (a := 2)) ta_nil))) (tp_call (a := (names3, ())) bt_lenL (ta_p (tm_own (m := (emL emS)) (a := names3) 2 rfl) ta_nil))))) (fun name8 => (tb_seq (tf_set (tp_call (a := (book_here1, ())) t__law_uses (ta_p (tm_im (m := (emP3 (emT (emP3 emS emI (emT emS))) (emT emI) (emT emS))) (a := book_here1) 1 rfl) ta_nil))) (fun uses_here9 => (tb_ifR (tt_bl (tm_bind2 (op_ne (eq_L eq_S)) (tp_call (a := (book_here1, (name8, ()))) t_needs (ta_p (tm_im (m := (emP3 (emT (emP3 emS emI (emT emS))) (emT emI) (emT emS))) (a := book_here1) 1 rfl) (ta_p (tm_im (m := emS) (a := name8) 3 rfl) ta_nil))) (tm_call t__law_needed (ta_cons (tm_im (m := (emP3 (emT (emP3 emS emI (emT emS))) (emT emI) (emT emS))) (a := book_here1) 1 rfl) (ta_cons (tp_bind2 (a := uses_here9) (b := name8) (op_ixKi (y := kyS)) (tm_own (m := (emK kyS (emT emS))) (a := uses_here9) 4 rfl) (tm_im (m := emS) (a := name8) 3 rfl)) ta_nil))))) (tb_retF (tm_c (m := emB) (a := false))) (tb_ifR (tt_bl (tm_bind2 (op_ne (eq_L eq_S)) (tp_call (a := (book_here1, (name8, ()))) t_users (ta_p (tm_im (m := (emP3 (emT (emP3 emS emI (emT emS))) (emT emI) (emT emS))) (a := book_here1) 1 rfl) (ta_p (tm_im (m := emS) (a := name8) 3 rfl) ta_nil))) (tm_compP (ti_wL (tm_own (m := (emL emS)) (a := names3) 2 rfl)) (fun one17 => tg_nm) (fun one17 => (tt_bl (tm_bind2 (op_inL eq_S) (tm_im (m := emS) (a := name8) 3 rfl) (tm_call t__law_needed (ta_cons (tm_im (m := (emP3 (emT (emP3 emS emI (emT emS))) (emT emI) (emT emS))) (a := book_here1) 1 rfl) (ta_cons (tp_bind2 (a := uses_here9) (b := one17) (op_ixKi (y := kyS)) (tm_sh (m := (emK kyS (emT emS))) (a := uses_here9) 4 rfl) (tm_im (m := emS) (a := one17) 8 rfl)) ta_nil)))))) (fun one17 => (tm_im (m := emS) (a := one17) 8 rfl))))) (tb_retF (tm_c (m := emB) (a := false))) (tb_seq (tf_set (tm_call bt_tupL (ta_cons (tm_compP (tj_enum (tm_own (m := (emL emS)) (a := names3) 2 rfl)) (fun row27 => (tg_tp (tgs_cons tg_nm (tgs_cons tg_nm tgs_nil)))) (fun row27 => (tt_bl (tm_bind2 (op_eq eq_I) (tm_call t__law_pick (ta_cons (tm_call t__law_seed (ta_cons (tp_call (a := (script, ((3 : Int), ()))) t__law_cell (ta_p (tm_im (m := emZ) (a := script) 0 rfl) (ta_p (tm_c (m := emI) (a := 3)) ta_nil))) (ta_cons (tm_im (m := emI) (a := row27.1) 9 rfl) ta_nil))) (ta_cons (tm_c (m := emI) (a := 3)) ta_nil))) (tm_c (m := emI) (a := 0))))) (fun row27 => (tm_im (m := emS) (a := row27.2) 8 rfl))) ta_nil))) (fun some43 => (tb_seq (tf_set (tm_orW tr1_T (tm_im (m := (emT emS)) (a := some43) 5 rfl) (tp_tup (tj_cons (tm_im (m := emS) (a := name8) 3 rfl) ti_nil)))) (fun some45 => (tb_ifR (tt_bl (tm_bind2 (op_ne (eq_P3 (eq_T (eq_P3 eq_S eq_I (eq_T eq_S))) (eq_T eq_I) (eq_T eq_S))) (tp_call (a := (book_here1, (some45, ()))) t_only (ta_p (tm_im (m := (emP3 (emT (emP3 emS emI (emT emS))) (emT emI) (emT emS))) (a := book_here1) 1 rfl) (ta_p (tm_im (m := (emT emS)) (a := some45) 5 rfl) ta_nil))) (tp_call (a := (book_here1, (some45, ()))) t__law_only (ta_p (tm_im (m := (emP3 (emT (emP3 emS emI (emT emS))) (emT emI) (emT emS))) (a := book_here1) 1 rfl) (ta_p (tm_im (m := (emT emS)) (a := some45) 5 rfl) ta_nil))))) (tb_retF (tm_c (m := emB) (a := false))) (tb_seq (tf_set (tm_bind2 (op_ixL) (tm_lstF (te_cons (tp_D (tp_tup ti_nil)) (te_cons (tp_D (tp_tup (tj_cons (tm_c (m := emS) (a := str_zzz)) ti_nil))) (te_cons (tp_D (tp_p2 (tm_im (m := emS) (a := name8) 3 rfl) (tm_im (m := emS) (a := name8) 3 rfl))) (te_cons (tm_D (tm_lstF (te_cons (tp_D (tm_im (m := emS) (a := name8) 3 rfl)) te_nil))) (te_cons (tp_D tm_U) (te_cons (tp_D (tm_im (m := emS) (a := name8) 3 rfl)) (te_cons (tp_D (tp_p2 (tm_im (m := emS) (a := name8) 3 rfl) (tm_c (m := emI) (a := 7)))) te_nil)))))))) (tm_bind2 (op_mod) (tp_call (a := (script, ((4 : Int), ()))) t__law_cell (ta_p (tm_im (m := emZ) (a := script) 0 rfl) (ta_p (tm_c (m := emI) (a := 4)) ta_nil))) (tm_c (m := emI) (a := 7))))) (fun odd69 => (tb_ifR (tt_bl (tm_bind2 (op_ne eq_S) (tm_call t__law_caught (ta_cons (tm_c (m := emI) (a := 2)) (ta_cons (tm_D (tm_lstA (te_cons (tp_D (tm_im (m := (emP3 (emT (emP3 emS emI (emT emS))) (emT emI) (emT emS))) (a := book_here1) 1 rfl)) (te_consA (tm_own (m := emD) (a := odd69) 6 rfl) te_nil)))) ta_nil))) (tm_c (m := emS) (a := str_name)))) (tb_retF (tm_c (m := emB) (a := false))) (tb_seq (tf_set (tm_bind2 (op_ixL) (tm_lstF (te_cons (tp_D (tm_c (m := emS) (a := str_zzz))) (te_cons (tp_D tm_U) (te_cons (tp_D (tm_c (m := emS) (a := str_))) (te_cons (tp_D (tm_c (m := emI) (a := 7))) (te_cons (tp_D (tp_tup (tj_cons (tm_im (m := emS) (a := name8) 3 rfl) ti_nil))) te_nil)))))) (tm_bind2 (op_mod) (tp_call (a := (script, ((5 : Int), ()))) t__law_cell (ta_p (tm_im (m := emZ) (a := script) 0 rfl) (ta_p (tm_c (m := emI) (a := 5)) ta_nil))) (tm_c (m := emI) (a := 5))))) (fun odd96 => (tb_retF (tm_bind2 (op_eq (eq_L eq_S)) (tm_compP (tj_walk (a := ((0 : Int), (1 : Int))) sq_P2 (tp_p2 (tm_c (m := emI) (a := 0)) (tm_c (m := emI) (a := 1)))) (fun which97 => tg_nm) (fun which97 => tt_no) (fun which97 => (tm_call t__law_caught (ta_cons (tm_im (m := emI) (a := which97) 10 rfl) (ta_cons (tm_D (tm_lstA (te_cons (tp_D (tm_im (m := (emP3 (emT (emP3 emS emI (emT emS))) (emT emI) (emT emS))) (a := book_here1) 1 rfl)) (te_consA (tm_sh (m := emD) (a := odd96) 6 rfl) te_nil)))) ta_nil))))) (tp_bind2 (a := [str_name]) (b := (2 : Int)) (op_rep) (tp_lst (tj_cons (tm_c (m := emS) (a := str_name)) ti_nil)) (tm_c (m := emI) (a := 2)))))))))))))))))))))))))
end
end DL
/-! MT1: the asserts of typed readings; books. -/
namespace DL
open PySem L2
theorem le_line {n : Nat} (h : n ≤ 16777216) : n ≤ sizeLine := by rw [sizeLine_eq]; exact h
theorem lt_line {n : Nat} (h : n < 16777216) : n < sizeLine := by rw [sizeLine_eq]; exact h
theorem appT_ok {α : Type} {xs : List α} {a : α} (h : xs.length < 16777216) : appT xs a = .ok (xs ++ [a]) := by unfold appT; rw [if_pos (lt_line h)]
theorem catT_ok {α : Type} {xs ys : List α} (h : xs.length + ys.length ≤ 16777216) : catT xs ys = .ok (xs ++ ys) := by unfold catT; rw [if_pos (le_line h)]
theorem szT_ok {α : Type} {xs : List α} (h : xs.length ≤ 16777216) : szT xs = .ok xs := by unfold szT; rw [if_pos (le_line h)]
theorem dputT_ok {κ α : Type} [DecidableEq κ] {d : List (κ × α)} {k : κ} {a : α} (h : d.length < 16777216) : dputT d k a = .ok (dput d k a) := by unfold dputT; rw [if_pos (lt_line h)]
theorem lenST_ok {x : Nm} (h : x.1.length ≤ 16777216) : lenST x = .ok (x.1.length : Nat) := by unfold lenST; rw [if_pos (le_line h)]
theorem walkST_ok {x : Nm} (h : x.1.length ≤ 16777216) : walkST x = .ok (charsT x) := by unfold walkST; rw [if_pos (le_line h)]
theorem lenSetT_ok {κ : Type} [DecidableEq κ] {xs : List κ} (h : xs.length < 4000) : lenSetT xs = .ok ((dedupT xs).length : Nat) := by unfold lenSetT; rw [if_pos (by omega)]
theorem srtSetT_ok {κ : Type} [DecidableEq κ] {m : Em κ} {xs : List κ} (h : xs.length < 4000) : srtSetT m xs = .ok (srtM m (dedupT xs)) := by unfold srtSetT; rw [if_pos (by omega)]
theorem srtKT_ok {κ α : Type} {m : Em κ} {d : List (κ × α)} (h : d.length < 64) : srtKT m d = .ok (srtM m (keysT d)) := by unfold srtKT; rw [if_pos h]
theorem rngR_ok {j : Int} (h0 : 0 ≤ j) (h : j ≤ 16777216) : rngR j = .ok (rngT j) := by
  unfold rngR
  have l : (rngT j).length = j.toNat := by unfold rngT; simp
  rw [if_pos ⟨by omega, by omega, by rw [l]; exact le_line (by omega)⟩]
theorem rngT_nat (n : Nat) : rngT (n : Int) = (List.range n).map fun (i : Nat) => (i : Int) := by
  unfold rngT
  simp
theorem maxT_ok {xs : List Int} (h : xs ≠ []) : maxT xs = .ok (maxI xs) := by unfold maxT; rw [if_neg h]
theorem mulT_ok {i j : Int} (h : -(2 ^ 64) < j ∧ j < 2 ^ 64) : mulT i j = .ok (i * j) := by
  unfold mulT
  rw [if_pos]
  simp only [Bool.or_eq_true, Bool.and_eq_true, decide_eq_true_eq]
  exact .inr h
theorem mulT_ok1 {i j : Int} (h : -(2 ^ 64) < i ∧ i < 2 ^ 64) : mulT i j = .ok (i * j) := by
  unfold mulT
  rw [if_pos]
  simp only [Bool.or_eq_true, Bool.and_eq_true, decide_eq_true_eq]
  exact .inl h
theorem fdivT_ok {i j : Int} (h0 : 0 < j) (h1 : j < 1073741824) : fdivT i j = .ok (i / j) := by
  unfold fdivT divP
  rw [if_pos (by simp; omega)]
theorem modT_ok {i j : Int} (h0 : 0 < j) : modT i j = .ok (i % j) := by
  unfold modT modP
  rw [if_pos (by simp; omega)]
theorem powT_ok {i j : Int} (h0 : 0 ≤ j) (h1 : j ≤ 1000000) (h2 : i.natAbs < 2 ^ 64) : powT i j = .ok (i ^ j.toNat) := by
  unfold powT powP
  rw [if_pos (by simp only [Bool.and_eq_true, decide_eq_true_eq]; exact ⟨⟨h0, h1⟩, h2⟩)]
/-- a comprehension whose parts go well -/
theorem compT_ok {α β : Type} {t : α → Res Bool} {e : α → Res β} {p : α → Bool} {g : α → β} : ∀ {xs : List α}, (∀ a ∈ xs, t a = .ok (p a)) → (∀ a ∈ xs, p a = true → e a = .ok (g a)) → compT t e xs = .ok ((xs.filter p).map g)
  | [], _, _ => rfl
  | x :: xs, h1, h2 => by
    have ih := compT_ok (xs := xs) (fun a m => h1 a (List.mem_cons_of_mem _ m)) fun a m => h2 a (List.mem_cons_of_mem _ m)
    unfold compT
    rw [h1 x List.mem_cons_self, ih]
    cases hp : p x with
    | true => rw [List.filter_cons_of_pos hp]; dsimp only; rw [h2 x List.mem_cons_self hp]; rfl
    | false => rw [List.filter_cons_of_neg (by rw [hp]; decide)]
theorem compT_all {α β : Type} {e : α → Res β} {g : α → β} {xs : List α} (h : ∀ a ∈ xs, e a = .ok (g a)) : compT (fun _ => .ok true) e xs = .ok (xs.map g) := by
  rw [compT_ok (p := fun _ => true) (g := g) (fun _ _ => rfl) fun a m _ => h a m, List.filter_eq_self.mpr fun _ _ => rfl]
theorem compT_flt {α : Type} {t : α → Res Bool} {p : α → Bool} {xs : List α} (h : ∀ a ∈ xs, t a = .ok (p a)) : compT t (fun a => .ok a) xs = .ok (xs.filter p) := by
  rw [compT_ok (p := p) (g := fun a => a) h fun _ _ _ => rfl, List.map_id']
/-- a loop that goes well: by an invariant over what is done -/
theorem foldT_inv {σ α : Type} {b : σ → α → Res σ} (I : List α → σ → Prop) : ∀ (todo done : List α) (s : σ), I done s → (∀ (d : List α) (a : α) (r : List α) (s : σ), done ++ todo = d ++ a :: r → I d s → ∃ s', b s a = .ok s' ∧ I (d ++ [a]) s') → ∃ s', foldT b todo s = .ok s' ∧ I (done ++ todo) s'
  | [], done, s, h, _ => ⟨s, rfl, by rw [List.append_nil]; exact h⟩
  | a :: todo, done, s, h, step => by
    obtain ⟨s1, e1, i1⟩ := step done a todo s rfl h
    obtain ⟨s2, e2, i2⟩ := foldT_inv I todo (done ++ [a]) s1 i1 fun d a' r s e i => step d a' r s (by rw [← e]; simp) i
    refine ⟨s2, ?_, by rw [show done ++ a :: todo = done ++ [a] ++ todo by simp]; exact i2⟩
    unfold foldT
    rw [e1]
    exact e2
/-- the same from the start -/
theorem foldT_all {σ α : Type} {b : σ → α → Res σ} {xs : List α} {s : σ} (I : List α → σ → Prop) (h0 : I [] s) (step : ∀ (d : List α) (a : α) (r : List α) (s : σ), xs = d ++ a :: r → I d s → ∃ s', b s a = .ok s' ∧ I (d ++ [a]) s') : ∃ s', foldT b xs s = .ok s' ∧ I xs s' := by
  have h := foldT_inv (b := b) I xs [] s h0 fun d a r s e i => step d a r s (by simpa using e) i
  simpa using h
/-- a plain fold -/
theorem foldT_fold {σ α : Type} {b : σ → α → Res σ} (g : σ → α → σ) (I : σ → Prop) : ∀ (xs : List α) (s : σ), I s → (∀ s, ∀ a ∈ xs, I s → b s a = .ok (g s a) ∧ I (g s a)) → foldT b xs s = .ok (xs.foldl g s) ∧ I (xs.foldl g s)
  | [], s, h, _ => ⟨rfl, h⟩
  | a :: xs, s, h, step => by
    obtain ⟨e, i⟩ := step s a List.mem_cons_self h
    obtain ⟨e2, i2⟩ := foldT_fold g I xs (g s a) i fun s b m => step s b (List.mem_cons_of_mem _ m)
    refine ⟨?_, i2⟩
    unfold foldT
    rw [e]
    exact e2
/-- a while by a measure -/
theorem whileT_inv {σ : Type} {c : σ → Res Bool} {b : σ → Res σ} (I Done : σ → Prop) (mu : σ → Nat) (h : ∀ s, I s → (c s = .ok false ∧ Done s) ∨ (c s = .ok true ∧ ∃ s', b s = .ok s' ∧ I s' ∧ mu s' < mu s)) : ∀ (n : Nat) (s : σ), I s → mu s < n → ∃ s', whileT c b n s = .ok s' ∧ Done s'
  | 0, _, _, hn => by omega
  | n + 1, s, i, hn => by
    unfold whileT
    rcases h s i with ⟨e, d⟩ | ⟨e, s1, e1, i1, lt⟩
    · rw [e]; exact ⟨s, rfl, d⟩
    · rw [e]
      simp only [Res.ok_bind, if_true]
      rw [e1]
      exact whileT_inv I Done mu h n s1 i1 (by omega)
theorem foldX_all {σ α β : Type} {b : σ → α → Res (Stp σ β)} (g : σ → α → σ) (I : σ → Prop) : ∀ (xs : List α) (s : σ), I s → (∀ s, ∀ a ∈ xs, I s → b s a = .ok (.nx (g s a)) ∧ I (g s a)) → foldX b xs s = .ok (.nx (xs.foldl g s)) ∧ I (xs.foldl g s)
  | [], s, h, _ => ⟨rfl, h⟩
  | a :: xs, s, h, step => by
    obtain ⟨e, i⟩ := step s a List.mem_cons_self h
    obtain ⟨e2, i2⟩ := foldX_all g I xs (g s a) i fun s b m => step s b (List.mem_cons_of_mem _ m)
    refine ⟨?_, i2⟩
    unfold foldX
    rw [e]
    exact e2
theorem foldX_unit {α β : Type} {b : Unit → α → Res (Stp Unit β)} {xs : List α} (step : ∀ a ∈ xs, b () a = .ok (.nx ())) : foldX b xs () = .ok (.nx ()) := (foldX_all (fun _ _ => ()) (fun _ => True) xs () trivial fun _ a m _ => ⟨step a m, trivial⟩).1
theorem keys_dictT_nodup {κ α : Type} [DecidableEq κ] {ps : List (κ × α)} (nd : (ps.map (·.1)).Nodup) : dictT ps = ps := by
  have gen : ∀ (ps acc : List (κ × α)), ((acc ++ ps).map (·.1)).Nodup → ps.foldl (fun d p => dput d p.1 p.2) acc = acc ++ ps := fun ps => by
    induction ps with
    | nil => intro acc _; simp
    | cons p ps ih =>
      intro acc nd
      rw [List.foldl_cons]
      have hn : ¬ dhas acc p.1 = true := by
        have : ∀ d : List (κ × α), p.1 ∉ d.map (·.1) → dhas d p.1 = false := fun d => by
          induction d with
          | nil => intro _; rfl
          | cons q d ih2 =>
            intro hq
            rw [List.map_cons, List.mem_cons, not_or] at hq
            unfold dhas dget
            rw [if_neg fun z => hq.1 z.symm]
            exact ih2 hq.2
        rw [this acc]
        · decide
        · intro m
          rw [List.map_append, List.nodup_append] at nd
          exact nd.2.2 _ m _ (by simp) rfl
      have e : dput acc p.1 p.2 = acc ++ [p] := by unfold dput; rw [if_neg hn]
      rw [e, ih (acc ++ [p]) (by simpa using nd)]
      simp
  have h := gen ps [] (by simpa using nd)
  simpa [dictT] using h
theorem dget_some {κ α : Type} [DecidableEq κ] : ∀ {d : List (κ × α)}, (d.map (·.1)).Nodup → ∀ {k : κ} {a : α}, (k, a) ∈ d → dget d k = some a
  | p :: d, nd, k, a, m => by
    rw [List.map_cons, List.nodup_cons] at nd
    unfold dget
    rcases List.mem_cons.mp m with e | m
    · subst e; rw [if_pos rfl]
    · rw [if_neg fun z => nd.1 (by rw [z]; exact List.mem_map_of_mem (f := (·.1)) m)]
      exact dget_some nd.2 m
theorem dget_none {κ α : Type} [DecidableEq κ] : ∀ {d : List (κ × α)} {k : κ}, k ∉ keysT d → dget d k = none
  | [], _, _ => rfl
  | p :: d, k, h => by
    unfold keysT at h
    rw [List.map_cons, List.mem_cons, not_or] at h
    unfold dget
    rw [if_neg fun z => h.1 z.symm]
    exact dget_none h.2
theorem dget_is {κ α : Type} [DecidableEq κ] : ∀ {d : List (κ × α)} {k : κ}, k ∈ keysT d → ∃ a, dget d k = some a ∧ (k, a) ∈ d
  | p :: d, k, h => by
    unfold dget
    by_cases e : p.1 = k
    · subst e; rw [if_pos rfl]; exact ⟨p.2, rfl, List.mem_cons_self⟩
    · rw [if_neg e]
      unfold keysT at h
      rw [List.map_cons] at h
      rcases List.mem_cons.mp h with q | q
      · exact absurd q.symm e
      · obtain ⟨a, h1, h2⟩ := dget_is (d := d) q
        exact ⟨a, h1, List.mem_cons_of_mem _ h2⟩
theorem dhas_iff {κ α : Type} [DecidableEq κ] {d : List (κ × α)} {k : κ} : dhas d k = true ↔ k ∈ keysT d := by
  unfold dhas
  constructor
  · intro h
    by_cases m : k ∈ keysT d
    · exact m
    · rw [dget_none m] at h; cases h
  · intro m
    obtain ⟨a, e, _⟩ := dget_is m
    rw [e]; rfl
theorem dedupT_nodup {κ : Type} [DecidableEq κ] : ∀ {xs : List κ}, xs.Nodup → dedupT xs = xs
  | [], _ => rfl
  | x :: xs, nd => by
    obtain ⟨h1, h2⟩ := List.nodup_cons.mp nd
    unfold dedupT
    rw [if_neg h1, dedupT_nodup h2]
theorem dedupT_mem {κ : Type} [DecidableEq κ] {x : κ} : ∀ {xs : List κ}, x ∈ dedupT xs ↔ x ∈ xs
  | [] => Iff.rfl
  | y :: xs => by
    unfold dedupT
    by_cases h : y ∈ xs
    · rw [if_pos h, dedupT_mem, List.mem_cons]
      exact ⟨.inr, fun q => q.elim (fun e => e ▸ h) id⟩
    · rw [if_neg h, List.mem_cons, List.mem_cons, dedupT_mem]
theorem dedupT_nd {κ : Type} [DecidableEq κ] : ∀ xs : List κ, (dedupT xs).Nodup
  | [] => List.nodup_nil
  | y :: xs => by
    unfold dedupT
    by_cases h : y ∈ xs
    · rw [if_pos h]; exact dedupT_nd xs
    · rw [if_neg h, List.nodup_cons]; exact ⟨fun m => h (dedupT_mem.mp m), dedupT_nd xs⟩
/-! ### orders -/
theorem leM_S (a b : Nm) : leM emS a b = decide (a.1.cps.toList ≤ b.1.cps.toList) := leD_str a.1 b.1
theorem leM_I (a b : Int) : leM emI a b = decide (a ≤ b) := leD_int a b
theorem leM_trans {α : Type} (m : Em α) (a b c : α) (h : leM m a b = true) (k : leM m b c = true) : leM m a c = true := leD_trans _ _ _ h k
theorem leM_total {α : Type} (m : Em α) (a b : α) : (leM m a b || leM m b a) = true := leD_total _ _
theorem srtM_perm {α : Type} (m : Em α) (xs : List α) : (srtM m xs).Perm xs := List.mergeSort_perm xs _
theorem srtM_pw {α : Type} (m : Em α) (xs : List α) : (srtM m xs).Pairwise fun a b => leM m a b = true := List.pairwise_mergeSort (leM_trans m) (leM_total m) xs
/-- the order tells unlike things apart -/
def Anti {α : Type} (m : Em α) : Prop := ∀ a b, leM m a b = true → leM m b a = true → a = b
theorem anti_S : Anti emS := fun a b h k => Nm.ext' (str_anti h k)
theorem anti_I : Anti emI := fun a b h k => int_anti h k
theorem srtM_uniq {α : Type} {m : Em α} (an : Anti m) {xs ys : List α} (p : xs.Perm ys) (h : xs.Pairwise fun a b => leM m a b = true) : xs = srtM m ys :=
  List.Perm.eq_of_pairwise (le := fun a b => leM m a b = true) (fun a b _ _ h k => an a b h k) h (srtM_pw m ys) (p.trans (srtM_perm m ys).symm)
theorem srtM_congr {α : Type} {m : Em α} (an : Anti m) {xs ys : List α} (p : xs.Perm ys) : srtM m xs = srtM m ys := srtM_uniq an ((srtM_perm m xs).trans p) (srtM_pw m xs)
theorem srtM_idem {α : Type} {m : Em α} (an : Anti m) (xs : List α) : srtM m (srtM m xs) = srtM m xs := (srtM_uniq an (List.Perm.refl _) (srtM_pw m xs)).symm
theorem srtM_mem {α : Type} {m : Em α} {xs : List α} {a : α} : a ∈ srtM m xs ↔ a ∈ xs := (srtM_perm m xs).mem_iff
theorem srtM_len {α : Type} {m : Em α} {xs : List α} : (srtM m xs).length = xs.length := (srtM_perm m xs).length_eq
theorem srtM_nd {α : Type} {m : Em α} {xs : List α} : (srtM m xs).Nodup ↔ xs.Nodup := (srtM_perm m xs).nodup_iff
theorem srtM_filter {α : Type} {m : Em α} (an : Anti m) (p : α → Bool) (xs : List α) : srtM m (xs.filter p) = (srtM m xs).filter p :=
  (srtM_uniq an ((srtM_perm m xs).filter p) ((srtM_pw m xs).sublist List.filter_sublist)).symm
theorem nodup_le {α : Type} [DecidableEq α] : ∀ {l m : List α}, l.Nodup → (∀ x ∈ l, x ∈ m) → l.length ≤ m.length
  | [], m, _, _ => Nat.zero_le _
  | x :: l, m, nd, h => by
    obtain ⟨n1, n2⟩ := List.nodup_cons.mp nd
    have mx := h x List.mem_cons_self
    have ih := nodup_le (l := l) (m := m.erase x) n2 fun y my => (List.mem_erase_of_ne (fun e => n1 (by rw [← e]; exact my))).mpr (h y (List.mem_cons_of_mem _ my))
    rw [List.length_erase_of_mem mx] at ih
    have : 0 < m.length := List.length_pos_of_mem mx
    simp only [List.length_cons]
    omega
theorem perm_of_mem {α : Type} [DecidableEq α] {l m : List α} (h1 : l.Nodup) (h2 : m.Nodup) (h : ∀ x, x ∈ l ↔ x ∈ m) : l.Perm m := (List.perm_ext_iff_of_nodup h1 h2).mpr h
theorem srtM_eq {α : Type} [DecidableEq α] {m : Em α} (an : Anti m) {l k : List α} (h1 : l.Nodup) (h2 : k.Nodup) (h : ∀ x, x ∈ l ↔ x ∈ k) : srtM m l = srtM m k := srtM_congr an (perm_of_mem h1 h2 h)
end DL
/-! MT2: books. -/
namespace DL
open PySem L2
abbrev Rw := Nm × Int × List Nm
abbrev Bk := List Rw × List Int × List Nm
def lets : List Nat := (List.range 26).map (97 + ·)
theorem in_lets : ∀ c ∈ lets, within ⟨#[c]⟩ "abcdefghijklmnopqrstuvwxyz" = true := by decide +kernel
structure NmOk (x : Nm) : Prop where
  lo : 1 ≤ x.1.length
  hi : x.1.length ≤ 6
  abc : ∀ c ∈ x.1.cps.toList, c ∈ lets
def namesB (rs : List Rw) : List Nm := rs.map (·.1)
structure RowOk (names : List Nm) (r : Rw) : Prop where
  name : NmOk r.1
  lo : -99 ≤ r.2.1
  hi : r.2.1 ≤ 99
  few : r.2.2.length ≤ 4
  uses : ∀ u ∈ r.2.2, u ∈ names
  apart : r.1 ∉ r.2.2
  once : r.2.2.Nodup
structure BkOk (b : Bk) : Prop where
  one : 1 ≤ b.1.length
  few : b.1.length ≤ 8
  nd : (namesB b.1).Nodup
  row : ∀ r ∈ b.1, RowOk (namesB b.1) r
  places : b.2.1.length = b.1.length
  place : ∀ p ∈ b.2.1, 0 ≤ p ∧ p ≤ 3
  late : ∀ x ∈ b.2.2, x ∈ namesB b.1
  lateNd : b.2.2.Nodup
  lateUp : srtM emS b.2.2 = b.2.2
theorem BkOk.nm {b : Bk} (h : BkOk b) : ∀ x ∈ namesB b.1, NmOk x := fun x m => by
  obtain ⟨r, mr, rfl⟩ := List.mem_map.mp m
  exact (h.row r mr).name
theorem chars_abc {x : Nm} (h : NmOk x) : ∀ c ∈ charsT x, within c.1 "abcdefghijklmnopqrstuvwxyz" = true := fun c m => by
  unfold charsT at m
  rw [List.mem_pmap] at m
  obtain ⟨a, ha, rfl⟩ := m
  exact in_lets a (h.abc a ha)
theorem tb_within (i lo hi : Int) : T_is_within i lo hi = (decide (lo ≤ i) && decide (i ≤ hi)) := by simp [T_is_within]
theorem tb_name {x : Nm} (h : NmOk x) : T_is_name x = .ok true := by
  have l1 := h.lo
  have l2 := h.hi
  have ls := lenST_ok (x := x) (by omega)
  have ws := walkST_ok (x := x) (by omega)
  have cf : (charsT x).filter (fun c => !within c.1 str_abcdefghijklmnopqrstuvwxyz.1) = [] := List.filter_eq_nil_iff.mpr fun c m => by
    have := chars_abc h c m
    simpa [str_abcdefghijklmnopqrstuvwxyz] using this
  have e1 : (1 : Int) ≤ (x.1.length : Nat) := by omega
  have e2 : ((x.1.length : Nat) : Int) ≤ 6 := by omega
  unfold T_is_name
  simp only [Res.ok_bind, ls, ws, if_true, e1, e2, decide_true, compT_f, cf]
  rfl
theorem tb_row {names : List Nm} (hn : ∀ x ∈ names, NmOk x) {r : Rw} (h : RowOk names r) : T_is_row r = .ok true := by
  have n1 := tb_name h.name
  have w := tb_within r.2.1 (-99) 99
  have c : compT (fun (one6 : Nm) => Res.bind (Res.bind (T_is_name one6) fun a7 => Res.ok a7) fun c8 => Res.ok (!c8)) (fun one6 => Res.ok one6) r.2.2 = .ok [] := by
    rw [compT_flt (p := fun _ => false) fun a m => by rw [tb_name (hn a (h.uses a m))]; rfl]
    simp
  have f : ((r.2.2.length : Nat) : Int) ≤ 4 := by have := h.few; omega
  unfold T_is_row
  simp [n1, w, c, f, h.lo, h.hi]
theorem tb_rows {b : Bk} (h : BkOk b) : T_are_rows b.1 = .ok true := by
  have l1 := h.one
  have l2 := h.few
  have c : compT (fun (row1 : Rw) => Res.bind (Res.bind (T_is_row row1) fun a2 => Res.ok a2) fun c3 => Res.ok (!c3)) (fun row1 => Res.ok row1) b.1 = .ok [] := by
    rw [compT_flt (p := fun _ => false) fun a m => by rw [tb_row h.nm (h.row a m)]; rfl]
    simp
  have nl : (namesB b.1).length = b.1.length := by unfold namesB; rw [List.length_map]
  have ls := lenSetT_ok (xs := namesB b.1) (by omega)
  rw [dedupT_nodup h.nd] at ls
  have lp : foldX (fun (s9 : Unit) (row10 : Rw) => (Res.bind (Res.bind (.ok (memB row10.1 row10.2.2)) fun c15 => if c15 = true then .ok true else (Res.bind (Res.bind (Res.bind (.ok row10.2.2) lenSetT) fun a11 => Res.bind (.ok ((List.length row10.2.2 : Nat) : Int)) fun b12 => .ok (!decide (a11 = b12))) fun c14 => if c14 = true then .ok true else (.ok (!List.isEmpty (List.filter (fun (use13 : Nm) => (!memB use13 (namesB b.1))) row10.2.2))))) fun c17 => if c17 = true then (Res.bind (.ok false) fun r16 => .ok (.rt r16)) else (.ok (.nx ())))) b.1 () = Res.ok (.nx ()) := by
    refine foldX_unit fun r m => ?_
    have ro := h.row r m
    have m1 : memB r.1 r.2.2 = false := by
      cases e : memB r.1 r.2.2 with
      | false => rfl
      | true => exact absurd (memB_iff.mp e) ro.apart
    have ls2 := lenSetT_ok (xs := r.2.2) (by have := ro.few; omega)
    rw [dedupT_nodup ro.once] at ls2
    have f0 : r.2.2.filter (fun u => !memB u (namesB b.1)) = [] := List.filter_eq_nil_iff.mpr fun u mu => by
      have := memB_iff.mpr (ro.uses u mu)
      simp [this]
    simp [m1, ls2, f0]
  have e1 : (1 : Int) ≤ (b.1.length : Nat) := by omega
  have e2 : ((b.1.length : Nat) : Int) ≤ 8 := by omega
  unfold T_are_rows
  unfold namesB at lp ls nl
  simp only [Res.ok_bind] at lp
  simp only [Res.ok_bind, c, lp, ls, e1, e2, decide_true, Bool.and_self, Bool.not_true, List.isEmpty_nil, if_false, Bool.false_eq_true, seqT]
theorem tb_places {b : Bk} (h : BkOk b) : T_are_places b.1 b.2.1 = .ok true := by
  have f0 : b.2.1.filter (fun (p : Int) => !T_is_within p 0 3) = [] := List.filter_eq_nil_iff.mpr fun p m => by
    have := h.place p m
    simp [tb_within, this.1, this.2]
  unfold T_are_places
  simp [h.places, f0]
theorem late_few {b : Bk} (h : BkOk b) : b.2.2.length ≤ 8 := by
  have := nodup_le h.lateNd h.late
  have nl : (namesB b.1).length = b.1.length := by unfold namesB; rw [List.length_map]
  have := h.few
  omega
theorem tb_late {b : Bk} (h : BkOk b) : T_are_late b.1 b.2.2 = .ok true := by
  have c : compT (fun (name1 : Nm) => Res.bind (Res.bind (T_is_name name1) fun a2 => Res.ok a2) fun c3 => Res.ok (!c3)) (fun name1 => Res.ok name1) b.2.2 = .ok [] := by
    rw [compT_flt (p := fun _ => false) fun a m => by rw [tb_name (h.nm a (h.late a m))]; rfl]
    simp
  have f0 : b.2.2.filter (fun x => !memB x (List.map (fun (row6 : Rw) => row6.1) b.1)) = [] := List.filter_eq_nil_iff.mpr fun u mu => by
    have := memB_iff.mpr (h.late u mu)
    unfold namesB at this
    simp [this]
  have s := srtSetT_ok (m := emS) (xs := b.2.2) (by have := late_few h; omega)
  rw [dedupT_nodup h.lateNd, h.lateUp] at s
  unfold T_are_late
  simp [c, s, f0]
theorem tb_book {b : Bk} (h : BkOk b) : T_is_book b = .ok true := by
  unfold T_is_book
  simp [tb_rows h, tb_places h, tb_late h]
theorem tb_look {b : Bk} (h : BkOk b) : T_look b = .ok () := by
  unfold T_look
  simp [tb_book h]
/-! what each name uses -/
def usesB (rs : List Rw) : List (Nm × List Nm) := rs.map fun r => (r.1, r.2.2)
theorem keys_usesB (rs : List Rw) : keysT (usesB rs) = namesB rs := by
  unfold keysT usesB namesB
  rw [List.map_map]
  rfl
theorem tb_uses {b : Bk} (h : BkOk b) : T_uses_of b = usesB b.1 := by
  unfold T_uses_of
  rw [keys_dictT_nodup]
  · rfl
  · have := h.nd
    unfold namesB at this
    rw [List.map_map]
    exact this
/-- what a name uses -/
def usB (rs : List Rw) (x : Nm) : List Nm := ((dget (usesB rs) x).getD [])
theorem dget_uses {rs : List Rw} {x : Nm} (m : x ∈ namesB rs) : dget (usesB rs) x = some (usB rs x) := by
  obtain ⟨a, e, _⟩ := dget_is (d := usesB rs) (k := x) (by rw [keys_usesB]; exact m)
  unfold usB
  rw [e]; rfl
theorem dgetT_uses {rs : List Rw} {x : Nm} (m : x ∈ namesB rs) : dgetT (usesB rs) x = .ok (usB rs x) := by
  unfold dgetT
  rw [dget_uses m]
theorem usB_row {rs : List Rw} (nd : (namesB rs).Nodup) {r : Rw} (m : r ∈ rs) : usB rs r.1 = r.2.2 := by
  have : dget (usesB rs) r.1 = some r.2.2 := by
    refine dget_some (by have := keys_usesB rs; unfold keysT at this; rw [this]; exact nd) ?_
    unfold usesB
    exact List.mem_map.mpr ⟨r, m, rfl⟩
  unfold usB
  rw [this]; rfl
theorem usB_out {rs : List Rw} {x : Nm} (m : x ∉ namesB rs) : usB rs x = [] := by
  unfold usB
  rw [dget_none (by rw [keys_usesB]; exact m)]
  rfl
theorem usB_is {b : Bk} (h : BkOk b) {x : Nm} (m : x ∈ namesB b.1) : ∃ r ∈ b.1, r.1 = x ∧ usB b.1 x = r.2.2 := by
  obtain ⟨r, mr, e⟩ := List.mem_map.mp m
  subst e
  exact ⟨r, mr, rfl, usB_row h.nd mr⟩
theorem usB_sub {b : Bk} (h : BkOk b) {x u : Nm} (mu : u ∈ usB b.1 x) : u ∈ namesB b.1 := by
  by_cases m : x ∈ namesB b.1
  · obtain ⟨r, mr, _, e⟩ := usB_is h m
    rw [e] at mu
    exact (h.row r mr).uses u mu
  · rw [usB_out m] at mu; cases mu
theorem usB_nd {b : Bk} (h : BkOk b) (x : Nm) : (usB b.1 x).Nodup := by
  by_cases m : x ∈ namesB b.1
  · obtain ⟨r, mr, _, e⟩ := usB_is h m
    rw [e]
    exact (h.row r mr).once
  · rw [usB_out m]; exact List.nodup_nil
theorem usB_few {b : Bk} (h : BkOk b) (x : Nm) : (usB b.1 x).length ≤ 4 := by
  by_cases m : x ∈ namesB b.1
  · obtain ⟨r, mr, _, e⟩ := usB_is h m
    rw [e]
    exact (h.row r mr).few
  · rw [usB_out m]; exact Nat.zero_le _
theorem names_few {b : Bk} (h : BkOk b) : (namesB b.1).length ≤ 8 := by
  unfold namesB
  rw [List.length_map]
  exact h.few
end DL
/-! MT3: the law's own book is a book. -/
namespace DL
open PySem L2
theorem bind_ex {α β : Type} {r : Res α} {k : α → Res β} (P : α → Prop) {Q : β → Prop} (h : ∃ a, r = .ok a ∧ P a) (hk : ∀ a, P a → ∃ b, k a = .ok b ∧ Q b) : ∃ b, r.bind k = .ok b ∧ Q b := by
  obtain ⟨a, e, p⟩ := h
  obtain ⟨b, e2, q⟩ := hk a p
  exact ⟨b, by rw [e]; exact e2, q⟩
theorem ok_ex {α : Type} {a : α} {P : α → Prop} (h : P a) : ∃ b, (Res.ok a : Res α) = .ok b ∧ P b := ⟨a, rfl, h⟩
theorem of_eq_ex {α : Type} {r : Res α} {a : α} {P : α → Prop} (e : r = .ok a) (h : P a) : ∃ b, r = .ok b ∧ P b := ⟨a, e, h⟩
def seedI (s k : Int) : Int := ((s * 1103515245 + 7919 * k + 12345) % 2147483647) ^ 5 % 2147483647
def pickI (s m : Int) : Int := s / 97 % m
theorem pick_lo (s : Int) {m : Int} (h : 0 < m) : 0 ≤ pickI s m := Int.emod_nonneg _ (by omega)
theorem pick_hi (s : Int) {m : Int} (h : 0 < m) : pickI s m < m := Int.emod_lt_of_pos _ h
theorem tb_seed (s k : Int) : T__law_seed s k = .ok (seedI s k) := by
  have h1 := Int.emod_nonneg (s * 1103515245 + 7919 * k + 12345) (b := 2147483647) (by decide)
  have h2 := Int.emod_lt_of_pos (s * 1103515245 + 7919 * k + 12345) (b := 2147483647) (by decide)
  unfold T__law_seed
  rw [mulT_ok (by decide), mulT_ok1 (by decide)]
  simp only [Res.ok_bind]
  rw [modT_ok (by decide)]
  simp only [Res.ok_bind]
  rw [powT_ok (by decide) (by decide) (by omega)]
  simp only [Res.ok_bind]
  rw [modT_ok (by decide)]
  rfl
theorem tb_pick (s : Int) {m : Int} (h : 0 < m) : T__law_pick s m = .ok (pickI s m) := by
  unfold T__law_pick
  rw [fdivT_ok (by decide) (by decide)]
  simp only [Res.ok_bind]
  rw [modT_ok h]
  rfl
theorem tb_cell (ns : List Int) (k : Int) (h0 : 0 ≤ k) : ∃ j, T__law_cell ns k = .ok j := by
  unfold T__law_cell
  by_cases h : k < (ns.length : Nat)
  · rw [if_pos (decide_eq_true h)]
    obtain ⟨n, rfl⟩ := Int.eq_ofNat_of_zero_le h0
    have hn : n < ns.length := by omega
    refine ⟨ns[n], ?_⟩
    unfold ixT atI ixN
    simp [hn]
  · rw [if_neg (by simpa using h)]
    exact ⟨0, rfl⟩
/-! names of one or two letters -/
def ch (p : Int) : Nat := ("abcdez" : Str).cps.toList.getD p.toNat 97
def let6 : List Nat := [97, 98, 99, 100, 101, 122]
theorem let6_lets : ∀ c ∈ let6, c ∈ lets := by decide +kernel
/-- a name of the law's own -/
structure Nm6 (x : Nm) : Prop where
  ok : NmOk x
  two : x.1.length ≤ 2
  six : ∀ c ∈ x.1.cps.toList, c ∈ let6
theorem ch_ok : ∀ n < 6, ch (n : Nat) ∈ let6 ∧ atI ("abcdez" : Str).cps.toList ((n : Nat) : Int) = some (ch (n : Nat)) := by decide +kernel
theorem ch_at {p : Int} (h0 : 0 ≤ p) (h1 : p < 6) : ch p ∈ let6 ∧ atI ("abcdez" : Str).cps.toList p = some (ch p) := by
  obtain ⟨n, rfl⟩ := Int.eq_ofNat_of_zero_le h0
  exact ch_ok n (by omega)
def one (c : Nat) : Str := ⟨#[c]⟩
theorem let_small : ∀ c ∈ lets, c < 0x110000 := by decide +kernel
theorem strOk_of {x : Str} (h : ∀ c ∈ x.cps.toList, c ∈ lets) : PyData.strOk x = true := by
  unfold PyData.strOk
  rw [← Array.all_toList, List.all_eq_true]
  exact fun c m => decide_eq_true (let_small c (h c m))
theorem mkT_ok {s : Str} (h : PyData.strOk s = true) : mkT s = .ok ⟨s, h⟩ := by unfold mkT; rw [dif_pos h]
def word (cs : List Nat) : Str := Txt.join "" (cs.map one)
theorem word_cps : ∀ cs : List Nat, (word cs).cps.toList = cs := fun cs => by
  unfold word
  show (Builtin.Str.glued "" (cs.map one)).cps.toList = cs
  rw [StrLaws.glued_eq_join]
  induction cs with
  | nil => rfl
  | cons c cs ih =>
    cases cs with
    | nil => rfl
    | cons d cs =>
      show (one c ++ "" ++ Str.join "" ((d :: cs).map one)).cps.toList = _
      have e : ∀ a b : Str, (a ++ b).cps.toList = a.cps.toList ++ b.cps.toList := fun a b => by show (a.cps ++ b.cps).toList = _; rw [Array.toList_append]
      rw [e, e, ih]
      rfl
theorem tb_letter {p : Int} (h0 : 0 ≤ p) (h1 : p < 6) : ∃ x, ixST str_abcdez p = .ok x ∧ ∃ c ∈ let6, x.1 = one c := by
  obtain ⟨m, e⟩ := ch_at h0 h1
  have so : PyData.strOk (one (ch p)) = true := strOk_of fun c mc => by
    have : c = ch p := by simpa [one] using mc
    rw [this]; exact let6_lets _ m
  refine ⟨⟨one (ch p), so⟩, ?_, ch p, m, rfl⟩
  have z : ("abcdez" : Str).length ≤ sizeLine := le_line (by decide)
  unfold ixST str_abcdez
  dsimp only
  rw [e]
  dsimp only
  rw [if_pos z]
  exact mkT_ok so
theorem tb_join {xs : List Nm} (h1 : 1 ≤ xs.length) (h2 : xs.length ≤ 2) (h : ∀ x ∈ xs, ∃ c ∈ let6, x.1 = one c) : ∃ w, joinT str_ xs = .ok w ∧ Nm6 w := by
  have ex : ∃ cs : List Nat, xs.map (·.1) = cs.map one ∧ (∀ c ∈ cs, c ∈ let6) ∧ cs.length = xs.length := by
    clear h1 h2
    induction xs with
    | nil => exact ⟨[], rfl, by simp, rfl⟩
    | cons x xs ih =>
      obtain ⟨cs, e, m, l⟩ := ih fun y my => h y (List.mem_cons_of_mem _ my)
      obtain ⟨c, mc, ec⟩ := h x List.mem_cons_self
      exact ⟨c :: cs, by simp [e, ec], by simpa [mc] using m, by simp [l]⟩
  obtain ⟨cs, e, mc, l⟩ := ex
  have wc := word_cps cs
  have so : PyData.strOk (word cs) = true := strOk_of fun c m => let6_lets c (mc c (by rw [wc] at m; exact m))
  refine ⟨⟨word cs, so⟩, ?_, ⟨?_, ?_, ?_⟩, ?_, ?_⟩
  · unfold joinT
    have sm : (xs.map (·.1.length)).sum = xs.length := by
      have : xs.map (·.1.length) = (xs.map (·.1)).map (·.length) := by rw [List.map_map]; rfl
      rw [this, e, ← l]
      clear e mc l wc so
      induction cs with
      | nil => rfl
      | cons c cs ih => rw [List.map_cons, List.map_cons, List.sum_cons, ih, List.length_cons]; show 1 + _ = _; omega
    have z0 : str_.1.length = 0 := by decide
    rw [sm, z0, if_pos (by omega), e]
    exact mkT_ok so
  · show 1 ≤ (word cs).cps.toList.length; rw [wc]; omega
  · show (word cs).cps.toList.length ≤ 6; rw [wc]; omega
  · show ∀ c ∈ (word cs).cps.toList, c ∈ lets; rw [wc]; exact fun c m => let6_lets c (mc c m)
  · show (word cs).cps.toList.length ≤ 2; rw [wc]; omega
  · show ∀ c ∈ (word cs).cps.toList, c ∈ let6; rw [wc]; exact mc
theorem compT_ex {α β : Type} {e : α → Res β} (P : β → Prop) : ∀ {xs : List α}, (∀ a ∈ xs, ∃ y, e a = .ok y ∧ P y) → ∃ ys, compT (fun _ => .ok true) e xs = .ok ys ∧ ys.length = xs.length ∧ ∀ y ∈ ys, P y
  | [], _ => ⟨[], rfl, rfl, by simp⟩
  | x :: xs, h => by
    obtain ⟨y, ey, py⟩ := h x List.mem_cons_self
    obtain ⟨ys, es, l, ps⟩ := compT_ex P (xs := xs) fun a m => h a (List.mem_cons_of_mem _ m)
    refine ⟨y :: ys, ?_, by simp [l], by simpa [py] using ps⟩
    unfold compT
    dsimp only
    rw [ey, es]
    rfl
theorem rngT_len (j : Int) : (rngT j).length = j.toNat := by unfold rngT; simp
theorem rngT_mem {j k : Int} (h : k ∈ rngT j) : 0 ≤ k ∧ k < j := by
  unfold rngT at h
  obtain ⟨i, mi, rfl⟩ := List.mem_map.mp h
  rw [List.mem_range] at mi
  omega
theorem enumT_split {α : Type} {xs : List α} {d r : List (Int × α)} {a : Int × α} (e : enumT xs = d ++ a :: r) : a.1 = (d.length : Nat) ∧ xs[d.length]? = some a.2 := by
  have h : (enumT xs)[d.length]? = some a := by rw [e]; simp
  unfold enumT at h
  rw [List.getElem?_map] at h
  obtain ⟨q, eq, rfl⟩ := Option.map_eq_some_iff.mp h
  obtain ⟨h1, h2⟩ := List.getElem?_zip_eq_some.mp eq
  obtain ⟨hl, e2⟩ := List.getElem?_eq_some_iff.mp h1
  rw [List.getElem_range] at e2
  exact ⟨by dsimp only; rw [← e2], h2⟩
theorem ixT_ok {α : Type} {xs : List α} {i : Int} (h0 : 0 ≤ i) (h1 : i < (xs.length : Nat)) : ∃ x, ixT xs i = .ok x ∧ x ∈ xs := by
  obtain ⟨n, rfl⟩ := Int.eq_ofNat_of_zero_le h0
  have hn : n < xs.length := by omega
  refine ⟨xs[n], ?_, List.getElem_mem hn⟩
  unfold ixT atI ixN
  simp [hn]
theorem indexT_ok {α : Type} [DecidableEq α] {xs : List α} {a : α} (h : a ∈ xs) : ∃ j, indexT xs a = .ok j := by
  unfold indexT
  cases e : xs.findIdx? (fun z => decide (z = a)) with
  | some j => exact ⟨_, rfl⟩
  | none =>
    rw [List.findIdx?_eq_none_iff] at e
    have := e a h
    simp at this
end DL
/-! MT4: the law's own book, whole. -/
namespace DL
open PySem L2
structure HalfOk (names : List Nm) (n : Nat) (s : List Rw × List Int × List Nm) : Prop where
  nm : namesB s.1 = names.take n
  row : ∀ r ∈ s.1, RowOk names r
  len : s.1.length = n
  places : s.2.1.length = n
  place : ∀ p ∈ s.2.1, 0 ≤ p ∧ p ≤ 3
  late : ∀ x ∈ s.2.2, x ∈ names.take n
  lateNd : s.2.2.Nodup
theorem tb_law_book (s : Int) {m : Int} (h0 : 0 < m) (h8 : m ≤ 8) : ∃ b, T__law_book s m = .ok b ∧ BkOk b ∧ (b.1.length : Int) ≤ m ∧ ∀ x ∈ namesB b.1, Nm6 x := by
  have p0 := pick_lo (seedI s 1) h0
  have p1 := pick_hi (seedI s 1) h0
  have l1 := Int.emod_nonneg (s / 7) (b := 2) (by decide)
  have l2 := Int.emod_lt_of_pos (s / 7) (b := 2) (by decide)
  unfold T__law_book
  simp only [Res.ok_bind, tb_seed, tb_pick _ h0, fdivT_ok (i := s) (j := 7) (by decide) (by decide), modT_ok (i := s / 7) (j := 2) (by decide), rngR_ok (j := 1 + pickI (seedI s 1) m) (by omega) (by omega), rngR_ok (j := 1 + s / 7 % 2) (by omega) (by omega)]
  -- the names
  refine bind_ex _ (foldT_all (fun (d : List Int) (s : List Nm) => s.Nodup ∧ (∀ x ∈ s, Nm6 x) ∧ s.length ≤ d.length ∧ (d ≠ [] → 1 ≤ s.length)) ⟨List.nodup_nil, by simp, by simp, fun z => absurd rfl z⟩ fun d a r s1 e i => ?_) fun names hi => ?_
  · obtain ⟨nd, ok, le, gt⟩ := i
    refine bind_ex (fun x => Nm6 x) ?_ fun x hx => ?_
    · have ll := rngT_len (1 + s / 7 % 2)
      refine bind_ex _ (compT_ex (fun x => ∃ c ∈ let6, x.1 = one c) fun j mj => ?_) fun xs hx => tb_join (by have := hx.1; omega) (by have := hx.1; omega) hx.2
      rw [mulT_ok1 (by decide)]
      simp only [Res.ok_bind, tb_pick _ (m := 6) (by decide)]
      exact tb_letter (pick_lo _ (by decide)) (pick_hi _ (by decide))
    · by_cases c : x ∈ s1
      · rw [if_neg (by rw [memB_iff.mpr c]; decide)]
        exact ok_ex ⟨nd, ok, by simp; omega, fun _ => List.length_pos_of_mem c⟩
      · have cf : memB x s1 = false := by
          cases q : memB x s1 with
          | false => rfl
          | true => exact absurd (memB_iff.mp q) c
        have ld : d.length ≤ 100 := by
          have := congrArg List.length e
          rw [rngT_len, List.length_append] at this
          omega
        rw [if_pos (by rw [cf]; rfl), appT_ok (by omega)]
        simp only [Res.ok_bind]
        refine ok_ex ⟨?_, ?_, by simp; omega, fun _ => by simp⟩
        · rw [List.nodup_append]
          exact ⟨nd, by simp, fun a ha b hb z => c (by rw [List.mem_singleton] at hb; rw [← hb, ← z]; exact ha)⟩
        · intro y my
          rcases List.mem_append.mp my with q | q
          · exact ok y q
          · rw [List.mem_singleton] at q; rw [q]; exact hx
  · obtain ⟨nd, ok, le, gt⟩ := hi
    have rl := rngT_len (1 + pickI (seedI s 1) m)
    have gt := gt (fun z => by rw [z] at rl; simp at rl; omega)
    have le2 : (names.length : Int) ≤ m := by omega
    clear rl le
    have k2 := pick_lo (seedI s 2) (m := 4) (by decide)
    have k3 := pick_hi (seedI s 2) (m := 4) (by decide)
    simp only [tb_pick _ (m := 4) (by decide), Res.ok_bind]
    refine bind_ex _ (foldT_all (fun (d : List (Int × Nm)) (s : List Rw × List Int × List Nm) => HalfOk names d.length s) ⟨rfl, by simp, rfl, rfl, by simp, by simp, List.nodup_nil⟩ fun d a r s1 e hi => ?_) fun s1 hi => ?_
    · obtain ⟨ea, en⟩ := enumT_split e
      obtain ⟨hl, en2⟩ := List.getElem?_eq_some_iff.mp en
      have mx : a.2 ∈ names := by rw [← en2]; exact List.getElem_mem hl
      have tk : names.take (d.length + 1) = names.take d.length ++ [a.2] := by rw [List.take_succ, en]; rfl
      have nx : a.2 ∉ names.take d.length := fun q => by
        have := (List.nodup_append.mp (by rw [← tk]; exact nd.sublist (List.take_sublist _ _))).2.2 _ q _ (by simp : a.2 ∈ [a.2])
        exact this rfl
      have q0 := pick_lo (seedI s (80 + a.1)) (m := 1 + pickI (seedI s 2) 4 + 1) (by omega)
      have q1 := pick_hi (seedI s (80 + a.1)) (m := 1 + pickI (seedI s 2) 4 + 1) (by omega)
      simp only [tb_pick _ (m := 1 + pickI (seedI s 2) 4 + 1) (by omega), Res.ok_bind, rngR_ok q0 (by omega)]
      refine bind_ex _ (foldT_all (fun (d : List Int) (us : List Nm) => us.Nodup ∧ a.2 ∉ us ∧ (∀ u ∈ us, u ∈ names) ∧ us.length ≤ d.length) ⟨List.nodup_nil, by simp, by simp, by simp⟩ fun d2 j r2 us e2 hu => ?_) fun us hu => ?_
      · obtain ⟨ud, ua, un, ul⟩ := hu
        rw [mulT_ok1 (by decide)]
        simp only [Res.ok_bind, tb_pick _ (m := ((names.length : Nat) : Int)) (by omega)]
        refine bind_ex (fun o => o ∈ names) (ixT_ok (pick_lo _ (by omega)) (pick_hi _ (by omega))) fun o mo => ?_
        refine bind_ex (fun t => t = true → o ≠ a.2 ∧ o ∉ us) ?_ fun t ht => ?_
        · by_cases c1 : o = a.2
          · exact ⟨false, by simp [c1], fun z => by cases z⟩
          · by_cases c2 : o ∈ us
            · exact ⟨false, by simp [c1, memB_iff.mpr c2], fun z => by cases z⟩
            · have cf : memB o us = false := by
                cases q : memB o us with
                | false => rfl
                | true => exact absurd (memB_iff.mp q) c2
              obtain ⟨jj, ej⟩ := indexT_ok mo
              rw [fdivT_ok (by decide) (by decide)]
              simp only [Res.ok_bind, modT_ok (i := s / 11) (j := 3) (by decide), ej, c1, cf, decide_false, Bool.not_false, if_true]
              by_cases c3 : 0 < s / 11 % 3
              · exact ⟨true, by simp [c3], fun _ => ⟨c1, c2⟩⟩
              · exact ⟨_, by simp [c3]; rfl, fun _ => ⟨c1, c2⟩⟩
        · cases t with
          | false => exact ok_ex ⟨ud, ua, un, by simp; omega⟩
          | true =>
            obtain ⟨n1, n2⟩ := ht rfl
            have ld : d2.length ≤ 100 := by
              have := congrArg List.length e2
              rw [rngT_len, List.length_append] at this
              omega
            rw [if_pos rfl, appT_ok (by omega)]
            simp only [Res.ok_bind]
            refine ok_ex ⟨?_, ?_, ?_, by simp; omega⟩
            · rw [List.nodup_append]
              exact ⟨ud, by simp, fun a ha b hb z => n2 (by rw [List.mem_singleton] at hb; rw [← hb, ← z]; exact ha)⟩
            · intro q
              rcases List.mem_append.mp q with q | q
              · exact ua q
              · rw [List.mem_singleton] at q; exact n1 q.symm
            · intro u mu
              rcases List.mem_append.mp mu with q | q
              · exact un u q
              · rw [List.mem_singleton] at q; rw [q]; exact mo
      · obtain ⟨ud, ua, un, ul⟩ := hu
        rw [rngT_len] at ul
        have lr := hi.len
        have lp := hi.places
        have ll : s1.2.2.length ≤ d.length := by
          have := nodup_le hi.lateNd hi.late
          rw [List.length_take] at this
          omega
        have n199 := pick_lo (seedI s (160 + a.1)) (m := 199) (by decide)
        have n199' := pick_hi (seedI s (160 + a.1)) (m := 199) (by decide)
        have f0 := Int.emod_nonneg (s / 13) (b := 4) (by decide)
        have f1 := Int.emod_lt_of_pos (s / 13) (b := 4) (by decide)
        have g0 := pick_lo (seedI s (180 + a.1)) (m := 1 + s / 13 % 4) (by omega)
        have g1 := pick_hi (seedI s (180 + a.1)) (m := 1 + s / 13 % 4) (by omega)
        have w0 := Int.emod_nonneg (s / 17) (b := 3) (by decide)
        have w1 := Int.emod_lt_of_pos (s / 17) (b := 3) (by decide)
        have dl : d.length ≤ 8 := by omega
        simp only [tb_pick _ (m := 199) (by decide), Res.ok_bind, fdivT_ok (i := s) (j := 13) (by decide) (by decide), modT_ok (i := s / 13) (j := 4) (by decide), tb_pick _ (m := 1 + s / 13 % 4) (by omega), fdivT_ok (i := s) (j := 17) (by decide) (by decide), modT_ok (i := s / 17) (j := 3) (by decide)]
        rw [appT_ok (by omega)]
        simp only [Res.ok_bind]
        rw [appT_ok (by omega)]
        simp only [Res.ok_bind]
        refine bind_ex (fun late => late = s1.2.2 ∨ late = s1.2.2 ++ [a.2]) ?_ fun late hlate => ?_
        · have ix : ∃ z, ixT [(2 : Int), 4, 99] (s / 17 % 3) = .ok z ∧ z ∈ [(2 : Int), 4, 99] := ixT_ok w0 (by simpa using w1)
          obtain ⟨z, ez, mz⟩ := ix
          have zp : 0 < z := by
            simp at mz
            omega
          simp only [ez, Res.ok_bind, tb_pick _ zp]
          by_cases c : pickI (seedI s (200 + a.1)) z = 0
          · have r1 : repT [a.2] 1 = .ok [a.2] := by unfold repT; rw [if_pos ⟨by decide, by decide, le_line (by simp)⟩]; rfl
            simp only [c, decide_true, if_true, r1, Res.ok_bind]
            exact of_eq_ex (catT_ok (by simp; omega)) (.inr rfl)
          · have r0 : repT [a.2] 0 = .ok [] := by unfold repT; rw [if_pos ⟨by decide, by decide, le_line (by simp)⟩]; rfl
            simp only [c, decide_false, Bool.false_eq_true, if_false, r0, Res.ok_bind]
            exact of_eq_ex (catT_ok (by simp; omega)) (.inl (by simp))
        · refine ok_ex ⟨?_, ?_, ?_, ?_, ?_, ?_, ?_⟩
          · show namesB (s1.1 ++ _) = _
            unfold namesB
            rw [List.map_append, List.length_append, List.length_singleton, tk]
            have := hi.nm
            unfold namesB at this
            rw [this]
            rfl
          · intro rr mr
            rcases List.mem_append.mp mr with q | q
            · exact hi.row rr q
            · rw [List.mem_singleton] at q
              subst q
              exact ⟨(ok _ mx).ok, by dsimp only; omega, by dsimp only; omega, by dsimp only; omega, un, ua, ud⟩
          · simp [lr]
          · simp [lp]
          · intro p mp
            rcases List.mem_append.mp mp with q | q
            · exact hi.place p q
            · rw [List.mem_singleton] at q
              subst q
              omega
          · intro x mx2
            rw [List.length_append, List.length_singleton, tk]
            rcases hlate with rfl | rfl
            · exact List.mem_append_left _ (hi.late x mx2)
            · rcases List.mem_append.mp mx2 with q | q
              · exact List.mem_append_left _ (hi.late x q)
              · exact List.mem_append_right _ q
          · rcases hlate with rfl | rfl
            · exact hi.lateNd
            · rw [List.nodup_append]
              exact ⟨hi.lateNd, by simp, fun a ha b hb z => nx (by rw [List.mem_singleton] at hb; rw [← hb, ← z]; exact hi.late _ ha)⟩
    · have ln : (enumT names).length = names.length := enum_len names
      rw [ln] at hi
      have tkn : names.take names.length = names := List.take_length
      have nm := hi.nm
      rw [tkn] at nm
      have ro := hi.row
      rw [← nm] at ro
      have hll := hi.len
      refine ok_ex ⟨⟨by dsimp only; omega, by dsimp only; omega, by dsimp only; rw [nm]; exact nd, ro, by dsimp only; rw [hi.places, hll], hi.place, fun x mx => ?_, srtM_nd.mpr hi.lateNd, srtM_idem anti_S _⟩, by dsimp only; omega, by dsimp only; rw [nm]; exact ok⟩
      dsimp only at mx ⊢
      rw [nm]
      have := hi.late x (srtM_mem.mp mx)
      rw [tkn] at this
      exact this
end DL
/-! MN0: what is reached by uses. -/
namespace DL
open PySem L2
/-- reached from some by uses -/
inductive Need {α : Type} (U : α → List α) (xs : List α) : α → Prop
  | base {x : α} : x ∈ xs → Need U xs x
  | step {x u : α} : Need U xs x → u ∈ U x → Need U xs u
theorem Need.mono {α : Type} {U : α → List α} {xs ys : List α} (h : ∀ x ∈ xs, Need U ys x) {y : α} (n : Need U xs y) : Need U ys y := by
  induction n with
  | base m => exact h _ m
  | step _ m ih => exact .step ih m
theorem Need.sub {α : Type} {U : α → List α} {P : α → Prop} {xs : List α} (h : ∀ x ∈ xs, P x) (c : ∀ x, P x → ∀ u ∈ U x, P u) {y : α} (n : Need U xs y) : P y := by
  induction n with
  | base m => exact h _ m
  | step _ m ih => exact c _ ih _ m
/-- x needs y -/
def Dep {α : Type} (U : α → List α) (x y : α) : Prop := Need U (U x) y
theorem Dep.trans {α : Type} {U : α → List α} {x y z : α} (h : Dep U x y) (k : Dep U y z) : Dep U x z := Need.mono (fun u m => Need.step h m) k
theorem need_one {α : Type} {U : α → List α} {x y : α} : Need U [x] y ↔ y = x ∨ Dep U x y := by
  constructor
  · intro h
    induction h with
    | base m => exact .inl (List.mem_singleton.mp m)
    | step _ m ih =>
      right
      rcases ih with rfl | ih
      · exact .base m
      · exact .step ih m
  · rintro (rfl | h)
    · exact .base (by simp)
    · exact Need.mono (fun u m => .step (.base (by simp)) m) h
theorem ixT_nat {α : Type} {xs : List α} {n : Nat} (h : n < xs.length) : ixT xs (n : Int) = .ok xs[n] := by
  unfold ixT atI ixN
  simp [h]
theorem row_T {β : Type} {m : Em β} {xs : List β} (h : xs ≠ []) : rowM (emT m) xs = true := by
  cases xs with
  | nil => exact absurd rfl h
  | cons x xs => simp [rowM, emT, toP, toPL]
theorem srtT_rows {β : Type} {m : Em β} {xs : List (List β)} (h : ∀ x ∈ xs, x ≠ []) : srtT (emT m) xs = .ok (srtM (emT m) xs) := by
  unfold srtT
  rw [if_pos]
  rw [Bool.or_eq_true]
  left
  rw [List.all_eq_true]
  exact fun x m => row_T (h x m)
theorem keys_dput {κ α : Type} [DecidableEq κ] {d : List (κ × α)} (nd : (keysT d).Nodup) (k : κ) (a : α) : (keysT (dput d k a)).Nodup ∧ (∀ x, x ∈ keysT (dput d k a) ↔ x ∈ keysT d ∨ x = k) ∧ (dput d k a).length ≤ d.length + 1 := by
  unfold dput
  by_cases c : dhas d k = true
  · rw [if_pos c]
    have e : keysT (d.map fun q => if q.1 = k then (q.1, a) else q) = keysT d := by
      unfold keysT
      rw [List.map_map]
      refine List.map_congr_left fun q _ => ?_
      show (if q.1 = k then (q.1, a) else q).1 = q.1
      split <;> rfl
    rw [e]
    exact ⟨nd, fun x => ⟨.inl, fun h => h.elim id fun z => by rw [z]; exact dhas_iff.mp c⟩, by rw [List.length_map]; omega⟩
  · rw [if_neg c]
    have e : keysT (d ++ [(k, a)]) = keysT d ++ [k] := by unfold keysT; rw [List.map_append]; rfl
    rw [e]
    refine ⟨?_, fun x => by simp, by simp⟩
    rw [List.nodup_append]
    exact ⟨nd, by simp, fun a ha b hb z => c (dhas_iff.mpr (by rw [List.mem_singleton] at hb; rw [← hb, ← z]; exact ha))⟩
end DL
/-! MN1: what names need. -/
namespace DL
open PySem L2
/-- the search behind needed_by -/
structure Srch (U : Nm → List Nm) (xs : List Nm) (s : List Nm × Int) : Prop where
  nd : s.1.Nodup
  all : ∀ y ∈ s.1, Need U xs y
  has : ∀ x ∈ xs, x ∈ s.1
  lo : 0 ≤ s.2
  hi : s.2 ≤ (s.1.length : Nat)
  done : ∀ i : Nat, (i : Int) < s.2 → ∀ y, s.1[i]? = some y → ∀ u ∈ U y, u ∈ s.1
theorem need_names {b : Bk} (h : BkOk b) {xs : List Nm} (hx : ∀ x ∈ xs, x ∈ namesB b.1) {y : Nm} (n : Need (usB b.1) xs y) : y ∈ namesB b.1 := n.sub hx fun _ _ _ mu => usB_sub h mu
theorem tb_needed {b : Bk} (h : BkOk b) {xs : List Nm} (nd : xs.Nodup) (hx : ∀ x ∈ xs, x ∈ namesB b.1) : ∃ l, T_needed_by b xs = .ok l ∧ l.Nodup ∧ srtM emS l = l ∧ ∀ y, y ∈ l ↔ Need (usB b.1) xs y := by
  have nf := names_few h
  unfold T_needed_by
  rw [tb_uses h]
  simp only [Res.ok_bind]
  refine bind_ex (fun s => s.1.Nodup ∧ ∀ y, y ∈ s.1 ↔ Need (usB b.1) xs y) (whileT_inv (Srch (usB b.1) xs) _ (fun s => 9 - s.2.toNat) ?_ 1000 _ ⟨nd, fun y m => .base m, fun _ m => m, by simp, by simp, fun i hi => by simp at hi; omega⟩ (by simp)) ?_
  · rintro ⟨found, at_⟩ ⟨sd, all, has, lo, hi, done⟩
    dsimp only at sd all has lo hi done ⊢
    have fl : found.length ≤ 8 := Nat.le_trans (nodup_le sd fun y my => need_names h hx (all y my)) nf
    by_cases c : at_ < (found.length : Nat)
    · right
      obtain ⟨n, rfl⟩ := Int.eq_ofNat_of_zero_le lo
      have hn : n < found.length := by omega
      have my : found[n] ∈ namesB b.1 := need_names h hx (all _ (List.getElem_mem hn))
      refine ⟨by simp [hn], ?_⟩
      simp only [ixT_nat hn, Res.ok_bind, dgetT_uses my, compT_f]
      have gl : ((usB b.1 found[n]).filter fun u => !memB u found).length ≤ 4 := Nat.le_trans (List.length_filter_le _ _) (usB_few h _)
      rw [catT_ok (by omega)]
      simp only [Res.ok_bind]
      refine ⟨_, rfl, ⟨?_, ?_, ?_, by dsimp only; omega, ?_, ?_⟩, by dsimp only; omega⟩
      · dsimp only
        rw [List.nodup_append]
        refine ⟨sd, (usB_nd h _).filter _, fun a ma b mb z => ?_⟩
        subst z
        have := (List.mem_filter.mp mb).2
        rw [memB_iff.mpr ma] at this
        cases this
      · intro y my2
        rcases List.mem_append.mp my2 with q | q
        · exact all y q
        · exact .step (all _ (List.getElem_mem hn)) (List.mem_filter.mp q).1
      · exact fun x mx => List.mem_append_left _ (has x mx)
      · dsimp only
        rw [List.length_append]
        omega
      · intro i hi2 y ey u mu
        dsimp only at hi2 ey ⊢
        by_cases ci : i = n
        · subst ci
          rw [List.getElem?_append_left hn, List.getElem?_eq_getElem hn] at ey
          cases ey
          by_cases cu : u ∈ found
          · exact List.mem_append_left _ cu
          · refine List.mem_append_right _ (List.mem_filter.mpr ⟨mu, ?_⟩)
            cases q : memB u found with
            | false => rfl
            | true => exact absurd (memB_iff.mp q) cu
        · rw [List.getElem?_append_left (by omega)] at ey
          exact List.mem_append_left _ (done i (by omega) y ey u mu)
    · left
      refine ⟨by simp; omega, sd, fun y => ⟨all y, fun n => ?_⟩⟩
      refine n.sub has fun x px u mu => ?_
      obtain ⟨i, hil, ei⟩ := List.getElem_of_mem px
      exact done i (by omega) x (by rw [List.getElem?_eq_getElem hil, ei]) u mu
  · rintro s ⟨sd, iff⟩
    exact ok_ex ⟨srtM_nd.mpr sd, srtM_idem anti_S _, fun y => by rw [srtM_mem]; exact iff y⟩
theorem tb_look_name {b : Bk} (h : BkOk b) {x : Nm} (m : x ∈ namesB b.1) : T_look_name b x = .ok () := by
  have dh : dhas (usesB b.1) x = true := dhas_iff.mpr (by rw [keys_usesB]; exact m)
  unfold T_look_name
  simp [tb_look h, tb_uses h, dh]
/-- needs(b, x) -/
theorem tb_needs {b : Bk} (h : BkOk b) {x : Nm} (m : x ∈ namesB b.1) : ∃ l, T_needs b x = .ok l ∧ l.Nodup ∧ srtM emS l = l ∧ ∀ y, y ∈ l ↔ Dep (usB b.1) x y := by
  obtain ⟨l, e, p⟩ := tb_needed h (usB_nd h x) fun u mu => usB_sub h mu
  refine ⟨l, ?_, p⟩
  unfold T_needs
  simp [tb_look_name h m, tb_uses h, dgetT_uses m, e]
/-- told in order: by what is in it -/
theorem sorted_eq {l k : List Nm} (nl : l.Nodup) (sl : srtM emS l = l) (nk : k.Nodup) (sk : srtM emS k = k) (h : ∀ y, y ∈ l ↔ y ∈ k) : l = k := by
  rw [← sl, ← sk]
  exact srtM_eq anti_S nl nk h
end DL
/-! MN2: who needs a name; the book of what some need. -/
namespace DL
open PySem L2
def okB (r : Res Bool) : Bool := match r with
  | .ok q => q
  | _ => false
theorem tb_users {b : Bk} (h : BkOk b) {x : Nm} (m : x ∈ namesB b.1) : ∃ l, T_users b x = .ok l ∧ l.Nodup ∧ srtM emS l = l ∧ ∀ y, y ∈ l ↔ y ∈ namesB b.1 ∧ Dep (usB b.1) y x := by
  have hp : ∀ r ∈ b.1, ∃ p : Bool, (Res.bind (T_needed_by b r.2.2) fun b3 => Res.ok (memB x b3)) = .ok p ∧ (p = true ↔ Dep (usB b.1) r.1 x) := fun r mr => by
    have ro := h.row r mr
    obtain ⟨l, e, _, _, il⟩ := tb_needed h ro.once ro.uses
    refine ⟨memB x l, by rw [e]; rfl, ?_⟩
    rw [memB_iff, il x]
    unfold Dep
    rw [usB_row h.nd mr]
  let p : Rw → Bool := fun r => okB (Res.bind (T_needed_by b r.2.2) fun b3 => Res.ok (memB x b3))
  have pp : ∀ r ∈ b.1, (Res.bind (T_needed_by b r.2.2) fun b3 => Res.ok (memB x b3)) = .ok (p r) ∧ (p r = true ↔ Dep (usB b.1) r.1 x) := fun r mr => by
    obtain ⟨q, e, i⟩ := hp r mr
    have : p r = q := by show okB _ = q; rw [e]; rfl
    rw [this]
    exact ⟨e, i⟩
  have c := compT_ok (t := fun (row1 : Rw) => Res.bind (T_needed_by b row1.2.2) fun b3 => Res.ok (memB x b3)) (e := fun (row1 : Rw) => Res.ok row1.1) (p := p) (g := fun r => r.1) (xs := b.1) (fun r mr => (pp r mr).1) fun r _ _ => rfl
  refine ⟨srtM emS ((b.1.filter p).map (·.1)), ?_, ?_, srtM_idem anti_S _, fun y => ?_⟩
  · unfold T_users
    simp [tb_look_name h m, c]
  · rw [srtM_nd]
    have := h.nd
    unfold namesB at this
    exact this.sublist (List.filter_sublist.map _)
  · rw [srtM_mem, List.mem_map]
    constructor
    · rintro ⟨r, mr, rfl⟩
      obtain ⟨mr, pr⟩ := List.mem_filter.mp mr
      exact ⟨List.mem_map.mpr ⟨r, mr, rfl⟩, (pp r mr).2.mp pr⟩
    · rintro ⟨my, dy⟩
      obtain ⟨r, mr, rfl⟩ := List.mem_map.mp my
      exact ⟨r, List.mem_filter.mpr ⟨mr, (pp r mr).2.mpr dy⟩, rfl⟩
/-- the rows, places, late names of some -/
def restr (b : Bk) (K : Nm → Bool) : Bk := (b.1.filter fun r => K r.1, ((b.1.zip b.2.1).filter fun q => K q.1.1).map (·.2), b.2.2.filter K)
theorem restr_names (b : Bk) (K : Nm → Bool) : namesB (restr b K).1 = (namesB b.1).filter K := by
  show (b.1.filter fun r => K r.1).map (·.1) = (b.1.map (·.1)).filter K
  rw [List.filter_map]
  rfl
theorem zip_len (K : Rw → Bool) : ∀ (rs : List Rw) (ps : List Int), ps.length = rs.length → (((rs.zip ps).filter fun q => K q.1).map (·.2)).length = (rs.filter K).length
  | [], ps, _ => by simp
  | r :: rs, [], h => by simp at h
  | r :: rs, p :: ps, h => by
    have ih := zip_len K rs ps (by simpa using h)
    rw [List.zip_cons_cons]
    cases e : K r with
    | true => rw [List.filter_cons_of_pos (by exact e), List.filter_cons_of_pos e]; simpa using ih
    | false => rw [List.filter_cons_of_neg (by rw [e]; decide), List.filter_cons_of_neg (by rw [e]; decide)]; exact ih
theorem restr_ok {b : Bk} (h : BkOk b) {K : Nm → Bool} (cl : ∀ x ∈ namesB b.1, K x = true → ∀ u ∈ usB b.1 x, K u = true) (ne : ∃ x ∈ namesB b.1, K x = true) : BkOk (restr b K) := by
  have nm := restr_names b K
  refine ⟨?_, Nat.le_trans (List.length_filter_le _ _) h.few, ?_, fun r mr => ?_, zip_len (fun r => K r.1) b.1 b.2.1 h.places, fun p mp => ?_, fun x mx => ?_, h.lateNd.filter _, ?_⟩
  · obtain ⟨x, mx, kx⟩ := ne
    obtain ⟨r, mr, rfl⟩ := List.mem_map.mp mx
    exact List.length_pos_of_mem (List.mem_filter.mpr ⟨mr, kx⟩)
  · rw [nm]; exact h.nd.filter _
  · obtain ⟨mr, kr⟩ := List.mem_filter.mp mr
    have ro := h.row r mr
    refine ⟨ro.name, ro.lo, ro.hi, ro.few, fun u mu => ?_, ro.apart, ro.once⟩
    rw [nm]
    exact List.mem_filter.mpr ⟨ro.uses u mu, cl r.1 (List.mem_map_of_mem mr) kr u (by rw [usB_row h.nd mr]; exact mu)⟩
  · obtain ⟨q, mq, rfl⟩ := List.mem_map.mp mp
    exact h.place q.2 (List.of_mem_zip (List.mem_filter.mp mq).1).2
  · obtain ⟨mx, kx⟩ := List.mem_filter.mp mx
    rw [nm]
    exact List.mem_filter.mpr ⟨h.late x mx, kx⟩
  · show srtM emS (b.2.2.filter K) = b.2.2.filter K
    rw [srtM_filter anti_S, h.lateUp]
theorem usB_restr {b : Bk} (h : BkOk b) {K : Nm → Bool} {x : Nm} (kx : K x = true) : usB (restr b K).1 x = usB b.1 x := by
  have nd' : (namesB (restr b K).1).Nodup := by rw [restr_names]; exact h.nd.filter _
  by_cases mx : x ∈ namesB b.1
  · obtain ⟨r, mr, rfl⟩ := List.mem_map.mp mx
    rw [usB_row h.nd mr, usB_row nd' (List.mem_filter.mpr ⟨mr, kx⟩)]
  · rw [usB_out mx, usB_out]
    rw [restr_names]
    exact fun m => mx (List.mem_filter.mp m).1
theorem need_restr {b : Bk} (h : BkOk b) {K : Nm → Bool} (cl : ∀ x ∈ namesB b.1, K x = true → ∀ u ∈ usB b.1 x, K u = true) {xs : List Nm} (hx : ∀ x ∈ xs, x ∈ namesB b.1 ∧ K x = true) {y : Nm} : Need (usB (restr b K).1) xs y ↔ Need (usB b.1) xs y := by
  have step : ∀ x, (x ∈ namesB b.1 ∧ K x = true) → ∀ u ∈ usB b.1 x, u ∈ namesB b.1 ∧ K u = true := fun x px u mu => ⟨usB_sub h mu, cl x px.1 px.2 u mu⟩
  constructor
  · intro n
    have : Need (usB b.1) xs y ∧ y ∈ namesB b.1 ∧ K y = true := by
      induction n with
      | base m => exact ⟨.base m, hx _ m⟩
      | step _ mu ih =>
        rw [usB_restr h ih.2.2] at mu
        exact ⟨.step ih.1 mu, step _ ih.2 _ mu⟩
    exact this.1
  · intro n
    have : Need (usB (restr b K).1) xs y ∧ y ∈ namesB b.1 ∧ K y = true := by
      induction n with
      | base m => exact ⟨.base m, hx _ m⟩
      | step _ mu ih => exact ⟨.step ih.1 (by rw [usB_restr h ih.2.2]; exact mu), step _ ih.2 _ mu⟩
    exact this.1
theorem restr_restr (b : Bk) (K K' : Nm → Bool) : restr (restr b K) K' = restr b fun x => K x && K' x := by
  unfold restr
  have z2 : ∀ (rs : List Rw) (ps : List Int), (((rs.filter fun r => K r.1).zip (((rs.zip ps).filter fun q => K q.1.1).map (·.2))).filter fun q => K' q.1.1).map (·.2) = (((rs.zip ps).filter fun q => K q.1.1 && K' q.1.1).map (·.2)) := fun rs => by
    induction rs with
    | nil => intro ps; simp
    | cons r rs ih =>
      intro ps
      cases ps with
      | nil => simp
      | cons p ps =>
        rw [List.zip_cons_cons]
        cases e : K r.1 with
        | false => rw [List.filter_cons_of_neg (by rw [e]; decide), List.filter_cons_of_neg (by simp [e]), List.filter_cons_of_neg (by simp [e]), ih]
        | true =>
          rw [List.filter_cons_of_pos (p := fun (r : Rw) => K r.1) e, List.filter_cons_of_pos (by simp [e]), List.map_cons, List.zip_cons_cons]
          cases e2 : K' r.1 with
          | false => rw [List.filter_cons_of_neg (by simp [e2]), List.filter_cons_of_neg (by simp [e2]), ih]
          | true => rw [List.filter_cons_of_pos (by simp [e2]), List.filter_cons_of_pos (by simp [e, e2]), List.map_cons, List.map_cons, ih]
  dsimp only
  rw [z2, List.filter_filter, List.filter_filter]
  have c1 : ∀ r : Rw, (K' r.1 && K r.1) = (K r.1 && K' r.1) := fun r => Bool.and_comm _ _
  have c2 : ∀ r : Nm, (K' r && K r) = (K r && K' r) := fun r => Bool.and_comm _ _
  simp only [c1, c2]
theorem restr_congr {b : Bk} (h : BkOk b) {K K' : Nm → Bool} (e : ∀ x ∈ namesB b.1, K x = K' x) : restr b K = restr b K' := by
  unfold restr
  have e1 : ∀ r ∈ b.1, K r.1 = K' r.1 := fun r mr => e _ (List.mem_map_of_mem mr)
  rw [List.filter_congr e1, List.filter_congr (l := b.1.zip b.2.1) fun q mq => e1 q.1 (List.of_mem_zip mq).1, List.filter_congr fun x mx => e x (h.late x mx)]
theorem zip_snd : ∀ (rs : List Rw) (ps : List Int), ps.length = rs.length → (rs.zip ps).map (·.2) = ps
  | [], [], _ => rfl
  | [], _ :: _, h => by simp at h
  | r :: rs, [], h => by simp at h
  | r :: rs, p :: ps, h => by rw [List.zip_cons_cons, List.map_cons, zip_snd rs ps (by simpa using h)]
theorem restr_all {b : Bk} (h : BkOk b) {K : Nm → Bool} (e : ∀ x ∈ namesB b.1, K x = true) : restr b K = b := by
  rw [restr_congr h (K' := fun _ => true) e]
  unfold restr
  have f : ∀ {α : Type} (l : List α), l.filter (fun _ => true) = l := fun l => List.filter_eq_self.mpr fun _ _ => rfl
  rw [f, f, f, zip_snd b.1 b.2.1 h.places]
/-- only(b, xs) -/
theorem tb_only {b : Bk} (h : BkOk b) {xs : List Nm} (nd : xs.Nodup) (up : srtM emS xs = xs) (ne : xs ≠ []) (hx : ∀ x ∈ xs, x ∈ namesB b.1) : ∃ K : Nm → Bool, T_only b xs = .ok (restr b K) ∧ ∀ y, K y = true ↔ Need (usB b.1) xs y := by
  obtain ⟨l, e, _, _, il⟩ := tb_needed h nd hx
  refine ⟨fun y => memB y l, ?_, fun y => by rw [memB_iff]; exact il y⟩
  have lx : xs.length ≤ 8 := Nat.le_trans (nodup_le nd hx) (names_few h)
  have ss := srtSetT_ok (m := emS) (xs := xs) (by omega)
  rw [dedupT_nodup nd, up] at ss
  have f0 : xs.filter (fun y => !dhas (usesB b.1) y) = [] := List.filter_eq_nil_iff.mpr fun y my => by
    have : dhas (usesB b.1) y = true := dhas_iff.mpr (by rw [keys_usesB]; exact hx y my)
    simp [this]
  have f1 : xs.filter (fun (_ : Nm) => !true) = [] := List.filter_eq_nil_iff.mpr fun y my => by decide
  have f2 : xs.filter (fun (_ : Nm) => false) = [] := List.filter_eq_nil_iff.mpr fun y my => by decide
  have ne' : xs.isEmpty = false := by cases xs with
    | nil => exact absurd rfl ne
    | cons _ _ => rfl
  unfold T_only restr
  simp only [tb_look h, tb_uses h, Res.ok_bind, f0, f1, f2, ne', ss, e, List.isEmpty_nil, Bool.not_true, Bool.not_false, Bool.or_self, Bool.false_eq_true, if_false, decide_true]
/-- only of one in order -/
theorem only_closed {b : Bk} {xs : List Nm} {K : Nm → Bool} (k : ∀ y, K y = true ↔ Need (usB b.1) xs y) : ∀ x ∈ namesB b.1, K x = true → ∀ u ∈ usB b.1 x, K u = true := fun x _ kx u mu => (k u).mpr (.step ((k x).mp kx) mu)
end DL
/-! LN: what the law finds needed. -/
namespace DL
open PySem L2
theorem law_uses_same (b : Bk) : T__law_uses b = T_uses_of b := rfl
theorem tb_law_needed {b : Bk} (h : BkOk b) {xs : List Nm} (hx : ∀ x ∈ xs, x ∈ namesB b.1) : ∃ l, T__law_needed b xs = .ok l ∧ l.Nodup ∧ srtM emS l = l ∧ ∀ y, y ∈ l ↔ Need (usB b.1) xs y := by
  have ku := keys_usesB b.1
  have n8 := names_few h
  have ul : (usesB b.1).length = (namesB b.1).length := by unfold usesB namesB; rw [List.length_map, List.length_map]
  have sub : ∀ {y}, Need (usB b.1) xs y → y ∈ namesB b.1 := fun n => need_names h hx n
  unfold T__law_needed
  simp only [law_uses_same, tb_uses h, Res.ok_bind, ku, szT_ok (show (namesB b.1).length ≤ 16777216 by omega), ul, rngR_ok (show (0 : Int) ≤ (((namesB b.1).length : Nat) : Int) by omega) (by omega), List.map_id']
  refine bind_ex (fun s => s.Nodup ∧ (∀ y, y ∈ s ↔ Need (usB b.1) xs y)) ?_ fun s hs => ok_ex ⟨srtM_nd.mpr hs.1, srtM_idem anti_S s, fun y => by rw [srtM_mem]; exact hs.2 y⟩
  obtain ⟨s, es, i1, i2, i3, i4⟩ := foldT_all (b := fun (s5 : List (Nm)) (time6 : Int) => (Res.bind (foldT (fun (s7 : List (Nm)) (name8 : Nm) => (Res.bind (Res.bind (Res.bind (dgetT (usesB b.1) name8) fun xs10 => compT (fun (use9 : Nm) => (.ok (!memB use9 s7))) (fun (use9 : Nm) => (.ok use9)) xs10) fun b12 => (catT s7 b12)) fun found13 => .ok found13)) s5 s5) fun s7 => .ok s7)) (xs := rngT (((namesB b.1).length : Nat) : Int)) (s := (namesB b.1).filter fun x => memB x xs)
    (fun dn s => s.Nodup ∧ (∀ y ∈ s, Need (usB b.1) xs y) ∧ (∀ x ∈ xs, x ∈ s) ∧ ((∀ x ∈ s, ∀ u ∈ usB b.1 x, u ∈ s) ∨ dn.length ≤ s.length))
    ⟨h.nd.filter _, fun y my => .base (memB_iff.mp (List.mem_filter.mp my).2), fun x mx => List.mem_filter.mpr ⟨hx x mx, memB_iff.mpr mx⟩, .inr (by simp)⟩ fun dn t r s e i => by
      obtain ⟨i1, i2, i3, i4⟩ := i
      have sl : ∀ {s' : List Nm}, s'.Nodup → (∀ y ∈ s', Need (usB b.1) xs y) → s'.length ≤ 8 := fun {s'} n1 n2 => Nat.le_trans (nodup_le n1 fun y my => sub (n2 y my)) n8
      refine bind_ex (fun s' => s'.Nodup ∧ (∀ y ∈ s', Need (usB b.1) xs y) ∧ (∀ x ∈ s, x ∈ s') ∧ (∀ x ∈ s, ∀ u ∈ usB b.1 x, u ∈ s') ∧ ∀ y ∈ s', y ∈ s ∨ ∃ x ∈ s, y ∈ usB b.1 x) ?_ fun s' hs' => ok_ex ?_
      · obtain ⟨s', e', j1, j2, j3, j4, j5⟩ := foldT_all (b := fun (s7 : List (Nm)) (name8 : Nm) => (Res.bind (Res.bind (Res.bind (dgetT (usesB b.1) name8) fun xs10 => compT (fun (use9 : Nm) => (.ok (!memB use9 s7))) (fun (use9 : Nm) => (.ok use9)) xs10) fun b12 => (catT s7 b12)) fun found13 => .ok found13)) (xs := s) (s := s)
          (fun d s' => s'.Nodup ∧ (∀ y ∈ s', Need (usB b.1) xs y) ∧ (∀ x ∈ s, x ∈ s') ∧ (∀ x ∈ d, ∀ u ∈ usB b.1 x, u ∈ s') ∧ ∀ y ∈ s', y ∈ s ∨ ∃ x ∈ s, y ∈ usB b.1 x) ⟨i1, i2, fun x m => m, by simp, fun y m => .inl m⟩ fun d x r' s' e' j => by
            obtain ⟨j1, j2, j3, j4, j5⟩ := j
            have mx : x ∈ s := by rw [e']; simp
            have mn := sub (i2 x mx)
            have l8 := sl j1 j2
            simp only [dgetT_uses mn, Res.ok_bind, compT_f]
            have gl : ((usB b.1 x).filter fun u => !memB u s').length ≤ 4 := Nat.le_trans (List.length_filter_le _ _) (usB_few h x)
            rw [catT_ok (by omega)]
            refine ok_ex ⟨?_, fun y my => ?_, fun z mz => List.mem_append_left _ (j3 z mz), fun z mz u mu => ?_, fun y my => ?_⟩
            · rw [List.nodup_append]
              refine ⟨j1, (usB_nd h x).filter _, fun a ma c mc z => ?_⟩
              subst z
              have := (List.mem_filter.mp mc).2
              rw [memB_iff.mpr ma] at this
              cases this
            · rcases List.mem_append.mp my with q | q
              · exact j2 y q
              · exact .step (i2 x mx) (List.mem_filter.mp q).1
            · rcases List.mem_append.mp mz with q | q
              · exact List.mem_append_left _ (j4 z q u mu)
              · rw [List.mem_singleton] at q
                subst q
                by_cases cu : u ∈ s'
                · exact List.mem_append_left _ cu
                · refine List.mem_append_right _ (List.mem_filter.mpr ⟨mu, ?_⟩)
                  cases q2 : memB u s' with
                  | false => rfl
                  | true => exact absurd (memB_iff.mp q2) cu
            · rcases List.mem_append.mp my with q | q
              · exact j5 y q
              · exact .inr ⟨x, mx, (List.mem_filter.mp q).1⟩
        exact ⟨s', e', j1, j2, j3, j4, j5⟩
      · obtain ⟨j1, j2, j3, j4, j5⟩ := hs'
        refine ⟨j1, j2, fun x mx => j3 x (i3 x mx), ?_⟩
        by_cases cl : ∀ x ∈ s, ∀ u ∈ usB b.1 x, u ∈ s
        · left
          have back : ∀ y ∈ s', y ∈ s := fun y my => (j5 y my).elim id fun ⟨x, mx, mu⟩ => cl x mx y mu
          exact fun x mx u mu => j3 u (cl x (back x mx) u mu)
        · right
          rcases i4 with i4 | i4
          · exact absurd i4 cl
          · have : ∃ x ∈ s, ∃ u ∈ usB b.1 x, u ∉ s := by
              refine Classical.byContradiction fun z => cl fun x mx u mu => Classical.byContradiction fun nu => z ⟨x, mx, u, mu, nu⟩
            obtain ⟨x, mx, u, mu, nu⟩ := this
            have : (u :: s).length ≤ s'.length := nodup_le (List.nodup_cons.mpr ⟨nu, i1⟩) fun z mz => by
              rcases List.mem_cons.mp mz with rfl | mz
              · exact j4 x mx z mu
              · exact j3 z mz
            rw [List.length_cons] at this
            rw [List.length_append, List.length_singleton]
            omega
  refine ⟨s, es, i1, fun y => ⟨i2 y, fun n => ?_⟩⟩
  rcases i4 with cl | l
  · exact Need.sub (P := fun y => y ∈ s) i3 cl n
  · rw [rngT_nat, List.length_map, List.length_range] at l
    refine Classical.byContradiction fun ny => ?_
    have := nodup_le (l := y :: s) (m := namesB b.1) (List.nodup_cons.mpr ⟨ny, i1⟩) fun z mz => by
      rcases List.mem_cons.mp mz with rfl | mz
      · exact sub n
      · exact sub (i2 z mz)
    rw [List.length_cons] at this
    omega
theorem zipK_fst (K : Rw → Bool) : ∀ (rs : List Rw) (ps : List Int), ps.length = rs.length → ((rs.zip ps).filter fun q => K q.1).map (·.1) = rs.filter K
  | [], _, _ => by simp
  | r :: rs, [], e => by simp at e
  | r :: rs, p :: ps, e => by
    have ih := zipK_fst K rs ps (by simpa using e)
    rw [List.zip_cons_cons]
    cases hk : K r with
    | true => rw [List.filter_cons_of_pos (by simpa using hk), List.map_cons, ih, List.filter_cons_of_pos hk]
    | false => rw [List.filter_cons_of_neg (by simp [hk]), ih, List.filter_cons_of_neg (by rw [hk]; decide)]
/-- law_only(b, xs) -/
theorem tb_law_only {b : Bk} (h : BkOk b) {xs : List Nm} (hx : ∀ x ∈ xs, x ∈ namesB b.1) {K : Nm → Bool} (k : ∀ y, K y = true ↔ Need (usB b.1) xs y) : T__law_only b xs = .ok (restr b K) := by
  obtain ⟨l, e, _, _, il⟩ := tb_law_needed h hx
  have kl : ∀ y, memB y l = K y := fun y => by
    rw [Bool.eq_iff_iff, memB_iff, il y, k y]
  have id2 : ∀ q : List (Rw × Int), q.map (fun (row2 : Rw × Int) => (row2.1, row2.2)) = q := fun q => List.map_id' q
  unfold T__law_only restr
  simp only [e, Res.ok_bind, kl, id2]
  rw [zipK_fst (fun r => K r.1) b.1 b.2.1 h.places]
end DL
/-! SB: the law's book of up to eight names. -/
namespace DL
open PySem L2
theorem tb_some_book (ns : List Int) : ∃ b, T__law_some_book ns 0 = .ok b ∧ BkOk b ∧ ∀ x ∈ namesB b.1, Nm6 x := by
  obtain ⟨c1, e1⟩ := tb_cell ns 0 (by decide)
  obtain ⟨c2, e2⟩ := tb_cell ns (0 + 1) (by decide)
  obtain ⟨b, e, h, _, n6⟩ := tb_law_book (seedI c1 (c2 % 5)) (m := 8) (by decide) (by decide)
  refine ⟨b, ?_, h, n6⟩
  unfold T__law_some_book
  simp only [e1, e2, Res.ok_bind, modT_ok (i := c2) (j := 5) (by decide), tb_seed, e]
end DL
/-! CT13: what is refused. -/
namespace DL
open PySem L2
abbrev bkD (b : Bk) : D := (emP3 (emT (emP3 emS emI (emT emS))) (emT emI) (emT emS)).e b
theorem F_look_ok {b : Bk} (h : BkOk b) : F_look [bkD b] = .ok .non := by
  have := t_look (b, ())
  dsimp only at this
  rw [tb_look h] at this
  exact this
theorem F_uses_ok {b : Bk} (h : BkOk b) : F_uses_of [bkD b] = .ok ((emK kyS (emT emS)).e (usesB b.1)) := by
  have := t_uses_of (b, ())
  dsimp only at this
  rw [tb_uses h] at this
  exact this
/-- what is no name of the book -/
inductive NoNm (b : Bk) : D → Prop
  | other {d : D} : isiF [d, .ty "str"] = .ok (.bl false) → NoNm b d
  | gone {x : Nm} : x ∉ namesB b.1 → NoNm b (.str x.1)
theorem F_look_name_bad {b : Bk} (h : BkOk b) {d : D} (hd : NoNm b d) : F_look_name [bkD b, d] = .ex "NoName" := by
  unfold F_look_name defF x_look_name
  cases hd with
  | other e1 =>
    simp only [List.length_cons, List.length_nil, if_true, xSeq, xExpr, xVal, callF, consA, nilA, dVar, startD, List.map_cons, List.map_nil, List.cons_append, List.nil_append, List.getElem?_cons_zero, List.getElem?_cons_succ, up, Res.ok_bind, F_look_ok h, xIf, orT, notT, tru1, dC, e1, truD, Bool.not_false]
    rfl
  | @gone x hx =>
    have e1 : isiF [.str x.1, .ty "str"] = .ok (.bl true) := rfl
    have nh : dhas (usesB b.1) x = false := by
      cases q : dhas (usesB b.1) x with
      | false => rfl
      | true => exact absurd (by have := dhas_iff.mp q; rw [keys_usesB] at this; exact this) hx
    have e2 : ∀ fl, inF true (fl, .str x.1) (.fr, (emK kyS (emT emS)).e (usesB b.1)) = .ok (.fr, .bl true) := fun fl => by
      obtain ⟨fl2, q, r⟩ := op_niK (y := kyS) (n := emT emS) (k1 := .any) (k2 := .any) fl .fr x (usesB b.1) trivial trivial
      rw [nh] at q
      obtain rfl : fl2 = .fr := r
      exact q
    simp only [List.length_cons, List.length_nil, if_true, xSeq, xExpr, xVal, callF, consA, nilA, dVar, startD, List.map_cons, List.map_nil, List.cons_append, List.nil_append, List.getElem?_cons_zero, List.getElem?_cons_succ, up, Res.ok_bind, F_look_ok h, xIf, orT, notT, tru1, dC, e1, truD, Bool.not_true, Bool.false_eq_true, if_false, blOf, bind2, F_uses_ok h, e2]
    rfl
theorem F_needs_bad {b : Bk} (h : BkOk b) {d : D} (hd : NoNm b d) : F_needs [bkD b, d] = .ex "NoName" := by
  unfold F_needs defF x_needs
  simp only [List.length_cons, List.length_nil, if_true, xSeq, xExpr, xVal, callF, consA, nilA, dVar, startD, List.map_cons, List.map_nil, List.cons_append, List.nil_append, List.getElem?_cons_zero, List.getElem?_cons_succ, up, Res.ok_bind, F_look_name_bad h hd]
  rfl
theorem F_users_bad {b : Bk} (h : BkOk b) {d : D} (hd : NoNm b d) : F_users [bkD b, d] = .ex "NoName" := by
  unfold F_users defF x_users
  simp only [List.length_cons, List.length_nil, if_true, xSeq, xExpr, xVal, callF, consA, nilA, dVar, startD, List.map_cons, List.map_nil, List.cons_append, List.nil_append, List.getElem?_cons_zero, List.getElem?_cons_succ, up, Res.ok_bind, F_look_name_bad h hd]
  rfl
theorem up_int (fl : Fl) (i : Int) : up fl (.int i) = (.fr, .int i) := rfl
theorem up_lst (fl : Fl) (ds : List D) : up fl (.lst ds) = (fl, .lst ds) := rfl
theorem up_bk (fl : Fl) (b : Bk) : up fl (bkD b) = (.fr, bkD b) := up_im (n := emP3 (emT (emP3 emS emI (emT emS))) (emT emI) (emT emS)) rfl b
theorem ord_int (i j : Int) : ordD ltI (.fr, .int i) (.fr, .int j) = .ok (.fr, .bl (decide (i < j))) := rfl
theorem eq_int (i j : Int) : eqD false (.fr, .int i) (.fr, .int j) = .ok (.fr, .bl (decide (i = j))) := by
  obtain ⟨fl, q, r⟩ := op_eq (k1 := .any) (k2 := .any) eq_I rfl .fr .fr i j trivial trivial
  obtain rfl : fl = .fr := r
  exact q
theorem ix_0 (fl : Fl) (a c : D) : ixF (fl, .lst [a, c]) (.fr, .int 0) = .ok (up fl a) := rfl
theorem ix_1 (fl : Fl) (a c : D) : ixF (fl, .lst [a, c]) (.fr, .int 1) = .ok (up fl c) := rfl
theorem called_bad (w : Int) (hw : w = 0 ∨ w = 1) {b : Bk} (h : BkOk b) {d : D} (hd : NoNm b d) : F__law_called [.int w, .lst [bkD b, d]] = .ex "NoName" := by
  have l5 : ∀ w : Int, w = 0 ∨ w = 1 → decide (w < 5) = true ∧ decide (w < 3) = true := fun w h => by rcases h with rfl | rfl <;> decide
  have h5 := (l5 w hw).1
  have h3 := (l5 w hw).2
  unfold F__law_called defF x__law_called
  rcases hw with rfl | rfl
  · simp only [List.length_cons, List.length_nil, if_true, xSeq, xExpr, xVal, xRet, xIf, blOf, bind2, dC, callF, consA, nilA, dVar, startD, List.map_cons, List.map_nil, List.cons_append, List.nil_append, List.getElem?_cons_zero, List.getElem?_cons_succ, Res.ok_bind, Res.ex_bind, ifV, up_int, up_lst, up_bk, ord_int, eq_int, ix_0, ix_1, decide_true, decide_false, Bool.false_eq_true, if_false, h5, h3, F_needs_bad h hd]
    have := F_needs_bad h hd
    unfold up
    simp only [this]
    rfl
  · have n1 : decide ((1 : Int) = 0) = false := by decide
    simp only [List.length_cons, List.length_nil, if_true, xSeq, xExpr, xVal, xRet, xIf, blOf, bind2, dC, callF, consA, nilA, dVar, startD, List.map_cons, List.map_nil, List.cons_append, List.nil_append, List.getElem?_cons_zero, List.getElem?_cons_succ, Res.ok_bind, Res.ex_bind, ifV, up_int, up_lst, up_bk, ord_int, eq_int, ix_0, ix_1, decide_true, decide_false, Bool.false_eq_true, if_false, h5, h3, n1, F_users_bad h hd]
    have := F_users_bad h hd
    unfold up
    simp only [this]
    rfl
theorem caught_name (w : Int) (hw : w = 0 ∨ w = 1 ∨ w = 2) {l : D} (hc : F__law_called [.int w, l] = .ex "NoName") (hl : ∀ fl, ∃ fl', up fl l = (fl', l)) : F__law_caught [.int w, l] = .ok (.str "name") := by
  have h9 : decide (w < 9) = true := by rcases hw with rfl | rfl | rfl <;> decide
  have t1 : tabF excTab "NoName" "NoBook" = some false := by decide +kernel
  have t2 : tabF excTab "NoName" "NoName" = some true := by decide +kernel
  obtain ⟨fl', e⟩ := hl .sf
  have n2 : (2 < 0 + 1 + 1 + 1) = True := by simp
  show (x__law_caught [some (.sh, .int w), some (.sh, l), none]).res = _
  unfold x__law_caught
  simp only [List.length_cons, List.length_nil, if_true, xSeq, xExpr, xVal, xRet, xIf, blOf, bind2, dC, callF, consA, nilA, dVar, startD, List.map_cons, List.map_nil, List.cons_append, List.nil_append, List.getElem?_cons_zero, List.getElem?_cons_succ, Res.ok_bind, Res.ex_bind, ifV, up_int, up_lst, up_bk, ord_int, eq_int, ix_0, ix_1, decide_true, decide_false, Bool.false_eq_true, if_false, h9, xTry, e, hc, xHandle, t1, t2, xSet, List.set_cons_zero, List.set_cons_succ, n2, xExpr]
  rfl
theorem xSeq_nx {x y : XS} {ρ ρ' : Env} (h : x ρ = .nx ρ') : xSeq x y ρ = y ρ' := by unfold xSeq; rw [h]
theorem xSeq_ex {x y : XS} {ρ ρ' : Env} {c : Str} (h : x ρ = .ex c ρ') : xSeq x y ρ = .ex c ρ' := by unfold xSeq; rw [h]
theorem xIf_t {c : Env → Res Bool} {x y : XS} {ρ : Env} {o : Out} (h : c ρ = .ok true) (hx : x ρ = o) : xIf c x y ρ = o := by unfold xIf; rw [h]; exact hx
/-- only(b, d): d no tuple of texts, or none -/
theorem only_raw {b : Bk} (h : BkOk b) {d : D} (hd : orT (notT (tru1 (callF isiF (consA (dVar 1) (consA (dC (.ty "tuple")) nilA))))) (orT (notT (tru1 (dVar 1))) (tru1 (compF (walkI (dVar 1)) (.nm 8) (notT (tru1 (callF isiF (consA (dVar 8) (consA (dC (.ty "str")) nilA))))) (dVar 8) [8]))) [some (.sh, bkD b), some (.sh, d), some (.loc, (emK kyS (emT emS)).e (usesB b.1)), none, none, none, none, none, none] = .ok true) : F_only [bkD b, d] = .ex "NoName" := by
  have e1 : xExpr (callF F_look (consA (dVar 0) nilA)) [some (.sh, bkD b), some (.sh, d), none, none, none, none, none, none, none] = .nx [some (.sh, bkD b), some (.sh, d), none, none, none, none, none, none, none] := by
    simp only [xExpr, xVal, callF, consA, nilA, dVar, List.getElem?_cons_zero, up_bk, Res.ok_bind, F_look_ok h]
  have e2 : xSet 2 (callF F_uses_of (consA (dVar 0) nilA)) [some (.sh, bkD b), some (.sh, d), none, none, none, none, none, none, none] = .nx [some (.sh, bkD b), some (.sh, d), some (.loc, (emK kyS (emT emS)).e (usesB b.1)), none, none, none, none, none, none] := by
    simp only [xSet, xVal, callF, consA, nilA, dVar, List.getElem?_cons_zero, up_bk, Res.ok_bind, F_uses_ok h]
    rfl
  show (x_only [some (.sh, bkD b), some (.sh, d), none, none, none, none, none, none, none]).res = _
  unfold x_only
  rw [xSeq_nx e1, xSeq_nx e2, xSeq_ex (xIf_t (x := xRaise "NoName") (y := xNext) hd rfl)]
  rfl
inductive NoSome (b : Bk) : D → Prop
  | none : NoSome b .non
  | text (x : Str) : NoSome b (.str x)
  | list (ds : List D) : NoSome b (.lst ds)
  | nil : NoSome b (.tup [])
  | gone {x : Nm} : x ∉ namesB b.1 → NoSome b (.tup [.str x.1])
  | twice {x : Nm} : x ∈ namesB b.1 → NoSome b (.tup [.str x.1, .str x.1])
  | seven (x : Str) : NoSome b (.tup [.str x, .int 7])
theorem F_only_bad {b : Bk} (h : BkOk b) {d : D} (hd : NoSome b d) : F_only [bkD b, d] = .ex "NoName" := by
  cases hd with
  | none => exact only_raw h rfl
  | text x => exact only_raw h rfl
  | list ds => exact only_raw h rfl
  | nil => exact only_raw h rfl
  | seven x => exact only_raw h rfl
  | @gone x hx =>
    have q := t_only (b, ([x], ()))
    have nh : dhas (usesB b.1) x = false := by
      cases q : dhas (usesB b.1) x with
      | false => rfl
      | true => exact absurd (by have := dhas_iff.mp q; rw [keys_usesB] at this; exact this) hx
    have e : T_only b [x] = .ex "NoName" := by
      unfold T_only
      simp [tb_look h, tb_uses h, nh]
    dsimp only at q
    rw [e] at q
    exact q
  | @twice x hx =>
    have q := t_only (b, ([x, x], ()))
    have yh : dhas (usesB b.1) x = true := dhas_iff.mpr (by rw [keys_usesB]; exact hx)
    have ss : srtSetT emS [x, x] = .ok (srtM emS (dedupT [x, x])) := srtSetT_ok (by simp)
    have ne : ¬ [x, x] = srtM emS (dedupT [x, x]) := fun z => by
      have := congrArg List.length z
      rw [srtM_len] at this
      simp [dedupT] at this
    have e : T_only b [x, x] = .ex "NoName" := by
      unfold T_only
      simp only [tb_look h, tb_uses h, Res.ok_bind, ss, List.filter_cons, List.filter_nil, yh, Bool.not_true, List.isEmpty_nil, List.isEmpty_cons, Bool.false_or, Bool.or_false, Bool.not_false, Bool.false_eq_true, if_false, decide_eq_false ne, if_true]
    dsimp only at q
    rw [e] at q
    exact q
theorem called_only {b : Bk} (h : BkOk b) {d : D} (hd : NoSome b d) : F__law_called [.int 2, .lst [bkD b, d]] = .ex "NoName" := by
  have h5 : decide ((2 : Int) < 5) = true := by decide
  have h3 : decide ((2 : Int) < 3) = true := by decide
  have n0 : decide ((2 : Int) = 0) = false := by decide
  have n1 : decide ((2 : Int) = 1) = false := by decide
  unfold F__law_called defF x__law_called
  simp only [List.length_cons, List.length_nil, if_true, xSeq, xExpr, xVal, xRet, xIf, blOf, bind2, dC, callF, consA, nilA, dVar, startD, List.map_cons, List.map_nil, List.cons_append, List.nil_append, List.getElem?_cons_zero, List.getElem?_cons_succ, Res.ok_bind, Res.ex_bind, ifV, up_int, up_lst, up_bk, ord_int, eq_int, ix_0, ix_1, decide_true, decide_false, Bool.false_eq_true, if_false, h5, h3, n0, n1]
  have := F_only_bad h hd
  unfold up
  simp only [this]
  rfl
end DL
/-! MK13: the law. -/
namespace DL
open PySem L2
theorem enum_snd {α : Type} (xs : List α) : (enumT xs).map (·.2) = xs := by
  unfold enumT
  rw [List.map_map]
  have : ((fun q : Int × α => q.2) ∘ fun q : Nat × α => ((q.1 : Int), q.2)) = fun q : Nat × α => q.2 := rfl
  refine List.ext_getElem (by simp) fun i h1 h2 => ?_
  simp
theorem srt_sub {xs ys : List Nm} (h : srtM emS ys = ys) (s : xs.Sublist ys) : srtM emS xs = xs := by
  have pw := srtM_pw emS ys
  rw [h] at pw
  exact (srtM_uniq anti_S (List.Perm.refl xs) (pw.sublist s)).symm
theorem sum_lst {ds : List D} (fl : Fl) : ∃ fl', up fl (.lst ds) = (fl', .lst ds) := ⟨fl, rfl⟩
theorem caught_T {w : Int} (hw : w = 0 ∨ w = 1 ∨ w = 2) {ds : List D} (hc : F__law_called [.int w, .lst ds] = .ex "NoName") : T__law_caught w ((emL emD).e ds) = .ok str_name := by
  rw [emD_list]
  exact rawS_at (x := str_name) (caught_name w hw hc sum_lst)
theorem main13 (ns : List Int) : T_law ns = .ok true := by
  obtain ⟨b, eb, h, n6⟩ := tb_some_book ns
  have nm : List.map (fun (row2 : Rw) => row2.1) b.1 = namesB b.1 := rfl
  have nl : (srtM emS (namesB b.1)).length = (namesB b.1).length := srtM_len
  have n8 := names_few h
  have n1 : 1 ≤ (namesB b.1).length := by unfold namesB; rw [List.length_map]; exact h.one
  have nnd : (srtM emS (namesB b.1)).Nodup := srtM_nd.mpr h.nd
  have nsr : srtM emS (srtM emS (namesB b.1)) = srtM emS (namesB b.1) := srtM_idem anti_S _
  obtain ⟨c2, e2⟩ := tb_cell ns 2 (by decide)
  obtain ⟨c3, e3⟩ := tb_cell ns 3 (by decide)
  obtain ⟨c4, e4⟩ := tb_cell ns 4 (by decide)
  obtain ⟨c5, e5⟩ := tb_cell ns 5 (by decide)
  have lpos : (0 : Int) < (((srtM emS (namesB b.1)).length : Nat) : Int) := by rw [nl]; omega
  obtain ⟨nme, en, mn⟩ := ixT_ok (xs := srtM emS (namesB b.1)) (i := c2 % (((srtM emS (namesB b.1)).length : Nat) : Int)) (Int.emod_nonneg _ (by omega)) (Int.emod_lt_of_pos _ lpos)
  have mname : nme ∈ namesB b.1 := srtM_mem.mp mn
  have usub : ∀ {x}, x ∈ namesB b.1 → ∀ u ∈ usB b.1 x, u ∈ namesB b.1 := fun m u mu => usB_sub h mu
  -- needs
  obtain ⟨l1, el1, d1, s1, i1⟩ := tb_needs h mname
  obtain ⟨l2, el2, d2, s2, i2⟩ := tb_law_needed h (usub mname)
  have same1 : l1 = l2 := sorted_eq d1 s1 d2 s2 fun y => by rw [i1 y, i2 y]; rfl
  subst same1
  -- users
  obtain ⟨l3, el3, d3, s3, i3⟩ := tb_users h mname
  obtain ⟨L, hL⟩ : ∃ L : Nm → List Nm, ∀ x ∈ namesB b.1, T__law_needed b (usB b.1 x) = .ok (L x) ∧ ∀ y, y ∈ L x ↔ Dep (usB b.1) x y := by
    refine ⟨fun x => if hx : x ∈ namesB b.1 then (tb_law_needed h (usub hx)).choose else [], fun x hx => ?_⟩
    simp only [dif_pos hx]
    obtain ⟨q1, _, _, q2⟩ := (tb_law_needed h (usub hx)).choose_spec
    exact ⟨q1, q2⟩
  have cu : compT (fun (one17 : Nm) => (Res.bind (Res.bind (Res.bind (Res.bind (dgetT (usesB b.1) one17) fun a18 => .ok (a18, ())) fun b13 => .ok (b, b13)) fun p22 => (T__law_needed p22.1 p22.2.1)) fun b24 => .ok (memB nme b24))) (fun (one17 : Nm) => (.ok one17)) (srtM emS (namesB b.1)) = .ok ((srtM emS (namesB b.1)).filter fun x => memB nme (L x)) := by
    refine compT_flt fun x mx => ?_
    have mx := srtM_mem.mp mx
    rw [dgetT_uses mx]
    simp only [Res.ok_bind, (hL x mx).1]
  have same2 : l3 = (srtM emS (namesB b.1)).filter fun x => memB nme (L x) := by
    refine sorted_eq d3 s3 (nnd.filter _) (srt_sub nsr List.filter_sublist) fun y => ?_
    rw [i3 y, List.mem_filter, srtM_mem, memB_iff]
    constructor
    · rintro ⟨m, d⟩; exact ⟨m, ((hL y m).2 nme).mpr d⟩
    · rintro ⟨m, d⟩; exact ⟨m, ((hL y m).2 nme).mp d⟩
  -- some of them
  have cs : compT (fun (row27 : (Int) × (Nm)) => (Res.bind (Res.bind (Res.bind (Res.bind (Res.bind (T__law_cell ns (3 : Int)) fun a30 => .ok (a30, row27.1, ())) fun p32 => (T__law_seed p32.1 p32.2.1)) fun a35 => .ok (a35, (3 : Int), ())) fun p37 => (T__law_pick p37.1 p37.2.1)) fun a38 => .ok (decide (a38 = 0)))) (fun (row27 : (Int) × (Nm)) => (.ok row27.2)) (enumT (srtM emS (namesB b.1))) = .ok (((enumT (srtM emS (namesB b.1))).filter fun q => decide (pickI (seedI c3 q.1) 3 = 0)).map (·.2)) := by
    refine compT_ok (fun q _ => ?_) fun q _ _ => rfl
    simp only [e3, Res.ok_bind, tb_seed, tb_pick _ (m := 3) (by decide)]
  have sub0 : (((enumT (srtM emS (namesB b.1))).filter fun q => decide (pickI (seedI c3 q.1) 3 = 0)).map (·.2)).Sublist (srtM emS (namesB b.1)) := by
    have := (List.filter_sublist (p := fun q : Int × Nm => decide (pickI (seedI c3 q.1) 3 = 0)) (l := enumT (srtM emS (namesB b.1)))).map (fun q : Int × Nm => q.2)
    rw [enum_snd] at this
    exact this
  generalize hsm : ((enumT (srtM emS (namesB b.1))).filter fun q => decide (pickI (seedI c3 q.1) 3 = 0)).map (·.2) = sm at cs sub0
  obtain ⟨xs, ex, x1, x2, x3, x4⟩ : ∃ xs, (if (!List.isEmpty sm) = true then (Res.ok sm : Res (List Nm)) else .ok [nme]) = .ok xs ∧ xs.Nodup ∧ srtM emS xs = xs ∧ xs ≠ [] ∧ ∀ x ∈ xs, x ∈ namesB b.1 := by
    cases hs : sm with
    | nil => exact ⟨[nme], rfl, by simp, srt_sub nsr (List.singleton_sublist.mpr (srtM_mem.mpr mname)), by simp, by simpa using mname⟩
    | cons y t =>
      rw [hs] at sub0
      exact ⟨y :: t, rfl, nnd.sublist sub0, srt_sub nsr sub0, by simp, fun x mx => srtM_mem.mp (sub0.subset mx)⟩
  obtain ⟨K, eo, hk⟩ := tb_only h x1 x2 x3 x4
  have elo := tb_law_only h x4 hk
  -- what is refused
  have z3 : str_zzz ∉ namesB b.1 := fun m => by
    have := (n6 _ m).two
    have e : str_zzz.1.length = 3 := by decide +kernel
    omega
  have z0 : str_ ∉ namesB b.1 := fun m => by
    have := (n6 _ m).ok.lo
    have e : str_.1.length = 0 := by decide +kernel
    omega
  have szl : ∀ ds : List D, ds.length ≤ 1000 → szT ds = .ok ds := fun ds hl => szT_ok (by omega)
  obtain ⟨o1, eo1, mo1⟩ := ixT_ok (xs := [(emT emI).e [], (emT emS).e [str_zzz], (emP2 emS emS).e (nme, nme), (emL emD).e [emS.e nme], emU.e (), emS.e nme, (emP2 emS emI).e (nme, (7 : Int))]) (i := c4 % 7) (Int.emod_nonneg _ (by decide)) (Int.emod_lt_of_pos _ (by decide))
  have b1 : NoSome b o1 := by
    simp only [List.mem_cons, List.not_mem_nil, or_false] at mo1
    rcases mo1 with rfl | rfl | rfl | rfl | rfl | rfl | rfl
    · exact .nil
    · exact .gone z3
    · exact .twice mname
    · exact .list _
    · exact .none
    · exact .text _
    · exact .seven _
  obtain ⟨o2, eo2, mo2⟩ := ixT_ok (xs := [emS.e str_zzz, emU.e (), emS.e str_, emI.e (7 : Int), (emT emS).e [nme]]) (i := c5 % 5) (Int.emod_nonneg _ (by decide)) (Int.emod_lt_of_pos _ (by decide))
  have b2 : NoNm b o2 := by
    simp only [List.mem_cons, List.not_mem_nil, or_false] at mo2
    rcases mo2 with rfl | rfl | rfl | rfl | rfl
    · exact .gone z3
    · exact .other rfl
    · exact .gone z0
    · exact .other rfl
    · exact .other rfl
  have k1 := caught_T (w := 2) (.inr (.inr rfl)) (called_only h b1)
  have k2 : compT (fun (which97 : Int) => (.ok true)) (fun (which97 : Int) => (T__law_caught which97 ((emL emD).e [bkD b, o2]))) [(0 : Int), 1] = .ok ([(0 : Int), 1].map fun _ => str_name) := compT_all fun w mw => by
    have hw : w = 0 ∨ w = 1 := by simpa using mw
    exact caught_T (hw.elim .inl fun z => .inr (.inl z)) (called_bad w hw h b2)
  have rp : repT [str_name] 2 = .ok [str_name, str_name] := by unfold repT; rw [if_pos ⟨by decide, by decide, le_line (by simp)⟩]; rfl
  have du := dgetT_uses mname
  unfold T_law
  simp only [eb, Res.ok_bind, nm, e2, modT_ok (i := c2) lpos, en, law_uses_same, tb_uses h, el1, el2, du, decide_true, Bool.not_true, Bool.false_eq_true, if_false, el3]
  simp only [cu, ← same2, decide_true, Bool.not_true, Bool.false_eq_true, if_false, Res.ok_bind, cs, ex, eo, elo, e4, e5, modT_ok (i := c4) (j := 7) (by decide), modT_ok (i := c5) (j := 5) (by decide), szl _ (show [emS.e nme].length ≤ 1000 by simp)]
  simp only [szl _ (show [(emT emI).e [], (emT emS).e [str_zzz], (emP2 emS emS).e (nme, nme), (emL emD).e [emS.e nme], emU.e (), emS.e nme, (emP2 emS emI).e (nme, (7 : Int))].length ≤ 1000 by simp), szl _ (show [emS.e str_zzz, emU.e (), emS.e str_, emI.e (7 : Int), (emT emS).e [nme]].length ≤ 1000 by simp), Res.ok_bind, eo1, eo2, szl _ (show [bkD b, o1].length ≤ 1000 by simp), szl _ (show [bkD b, o2].length ≤ 1000 by simp), k1, k2, rp, decide_true, Bool.not_true, Bool.false_eq_true, if_false]
  rfl
theorem main_law (ns : List Int) (_ : ns.length ≤ 63) : F_law [.fz (ns.map D.int)] = .ok (.bl true) := by
  have h := t_law (ns, ())
  simp only [main13 ns] at h
  exact h
end DL
namespace DL
open PySem L2
abbrev top (i : Nat) : Stmt := PySem.Challenge.pw_latebring_k13_needed.main.body.getD i (.Pass ⟨0, 0, 0, 0⟩)
section
variable {P : Program} {w : World} {K : PySem.W.Frag} {mg : Str → Option Value} {base : Heap} {cls : Str → Addr}
theorem sc_is_within : FnScope ["thing", "low", "high"] ["thing", "low", "high"] (defScope (top 13)) := ⟨rfl, rfl, rfl, by decide +kernel, rfl, by decide +kernel, by decide +kernel⟩
theorem ok_is_within {f : Addr} {fd : FuncData} (Fu : FnP K "is_within" (top 13) f fd) (m_ : mg "is_within" = some (.ref f)) (m_int : mg "int" = none) (m_isinstance : mg "isinstance" = none) (m_bool : mg "bool" = none) : Fn P w K mg base cls "is_within" 1 F_is_within := by
  refine fn_make (k := 0) (t := tX x_is_within) Fu m_ sc_is_within (fun _ _ _ _ _ _ us hl => match us, hl with | [_, _, _], _ => rfl) (fun cdv A outer s H E C W ec F => ?_) (fun ds h => defF_len ds h) (fun ds h => defF_sem ds h)
  subst ec
  exact (xs_one (xs_ret (pd_and (pd_b (b_isi) isiF_nx rfl m_isinstance (by decide +kernel) (pl_cons (pd_var 0) (pl_cons (pd_ty (n := "int") rfl m_int (by decide +kernel)) pl_nil))) (pd_and (pd_not (pd_b (b_isi) isiF_nx rfl m_isinstance (by decide +kernel) (pl_cons (pd_var 0) (pl_cons (pd_ty (n := "bool") rfl m_bool (by decide +kernel)) pl_nil)))) (pd_one (pd_lele (pd_var 1) (pd_var 0) (pd_var 2)))))))
theorem sc_is_name : FnScope ["thing", "sign"] ["thing"] (defScope (top 14)) := ⟨rfl, rfl, rfl, by decide +kernel, rfl, by decide +kernel, by decide +kernel⟩
theorem ok_is_name {f : Addr} {fd : FuncData} (Fu : FnP K "is_name" (top 14) f fd) (m_ : mg "is_name" = some (.ref f)) (m_str : mg "str" = none) (m_isinstance : mg "isinstance" = none) (m_len : mg "len" = none) {k_LETTERS : Tok} (m_LETTERS : mg "LETTERS" = some (.str "abcdefghijklmnopqrstuvwxyz" k_LETTERS)) : Fn P w K mg base cls "is_name" 1 F_is_name := by
  refine fn_make (k := 0) (t := tX x_is_name) Fu m_ sc_is_name (fun _ _ _ _ _ _ us hl => match us, hl with | [_], _ => rfl) (fun cdv A outer s H E C W ec F => ?_) (fun ds h => defF_len ds h) (fun ds h => defF_sem ds h)
  subst ec
  exact (xs_one (xs_ret (pd_and (pd_b (b_isi) isiF_nx rfl m_isinstance (by decide +kernel) (pl_cons (pd_var 0) (pl_cons (pd_ty (n := "str") rfl m_str (by decide +kernel)) pl_nil))) (pd_and (pd_lele pd_int (pd_b (b_len F.hK) lenF_nx rfl m_len (by decide +kernel) (pl_cons (pd_var 0) pl_nil)) pd_int) (pd_one (pd_not (pd_lc [("sign", 1)] F (di_walk (pd_var 0)) (by kernel_rfl) (by rfl) (fun _ _ _ _ _ F1 => (dg_name (i := 1) F1 rfl (by first | exact .inl rfl | exact .inr rfl))) (fun _ _ _ _ _ F1 => (dts_one (td_notIn F1 (pd_var 1) (pd_gstr rfl m_LETTERS)))) (fun _ _ _ _ _ F1 => (pd_var 1)))))))))
theorem sc_is_row : FnScope ["thing", "one"] ["thing"] (defScope (top 15)) := ⟨rfl, rfl, rfl, by decide +kernel, rfl, by decide +kernel, by decide +kernel⟩
theorem ok_is_row {f : Addr} {fd : FuncData} (Fu : FnP K "is_row" (top 15) f fd) (m_ : mg "is_row" = some (.ref f)) (m_tuple : mg "tuple" = none) (m_isinstance : mg "isinstance" = none) (m_len : mg "len" = none) (G_is_name : Fn P w K mg base cls "is_name" 1 F_is_name) (G_is_within : Fn P w K mg base cls "is_within" 1 F_is_within) : Fn P w K mg base cls "is_row" 2 F_is_row := by
  refine fn_make (k := 1) (t := tX x_is_row) Fu m_ sc_is_row (fun _ _ _ _ _ _ us hl => match us, hl with | [_], _ => rfl) (fun cdv A outer s H E C W ec F => ?_) (fun ds h => defF_len ds h) (fun ds h => defF_sem ds h)
  subst ec
  exact (xs_cons (xs_if (td_orW (tw_or (td_not (pt_of (pd_b (b_isi) isiF_nx rfl m_isinstance (by decide +kernel) (pl_cons (pd_var 0) (pl_cons (pd_ty (n := "tuple") rfl m_tuple (by decide +kernel)) pl_nil))))) (tw_or (td_ne F (pd_b (b_len F.hK) lenF_nx rfl m_len (by decide +kernel) (pl_cons (pd_var 0) pl_nil)) pd_int) (tw_or (td_not (pt_of (pd_call F G_is_name (by decide) rfl (pl_cons (pd_ix F (pd_var 0) pd_int) pl_nil)))) (tw_or1 (td_not (pt_of (pd_call F G_is_within (by decide) rfl (pl_cons (pd_ix F (pd_var 0) pd_int) (pl_cons (pd_neg pd_int) (pl_cons pd_int pl_nil)))))))))))
    (xs_one (xs_ret pd_bl))
    xs_nil)
    (xs_one (xs_ret (pd_and (pd_b (b_isi) isiF_nx rfl m_isinstance (by decide +kernel) (pl_cons (pd_ix F (pd_var 0) pd_int) (pl_cons (pd_ty (n := "tuple") rfl m_tuple (by decide +kernel)) pl_nil))) (pd_and (pd_le (pd_b (b_len F.hK) lenF_nx rfl m_len (by decide +kernel) (pl_cons (pd_ix F (pd_var 0) pd_int) pl_nil)) pd_int) (pd_one (pd_not (pd_lc [("one", 1)] F (di_walk (pd_ix F (pd_var 0) pd_int)) (by kernel_rfl) (by rfl) (fun _ _ _ _ _ F1 => (dg_name (i := 1) F1 rfl (by first | exact .inl rfl | exact .inr rfl))) (fun _ _ _ _ _ F1 => (dts_one (td_not (pt_of (pd_call F1 G_is_name (by decide) rfl (pl_cons (pd_var 1) pl_nil)))))) (fun _ _ _ _ _ F1 => (pd_var 1))))))))))
theorem sc_are_rows : FnScope ["thing", "names", "name", "number", "uses", "row", "use"] ["thing"] (defScope (top 16)) := ⟨rfl, rfl, rfl, by decide +kernel, rfl, by decide +kernel, by decide +kernel⟩
theorem ok_are_rows {f : Addr} {fd : FuncData} (Fu : FnP K "are_rows" (top 16) f fd) (m_ : mg "are_rows" = some (.ref f)) (m_tuple : mg "tuple" = none) (m_isinstance : mg "isinstance" = none) (m_len : mg "len" = none) (m_set : mg "set" = none) {k_MOST_NAMES : Tok} (m_MOST_NAMES : mg "MOST_NAMES" = some (.int 8 k_MOST_NAMES)) (G_is_row : Fn P w K mg base cls "is_row" 2 F_is_row) : Fn P w K mg base cls "are_rows" 3 F_are_rows := by
  refine fn_make (k := 2) (t := tX x_are_rows) Fu m_ sc_are_rows (fun _ _ _ _ _ _ us hl => match us, hl with | [_], _ => rfl) (fun cdv A outer s H E C W ec F => ?_) (fun ds h => defF_len ds h) (fun ds h => defF_sem ds h)
  subst ec
  exact (xs_cons (xs_if (td_orW (tw_or (td_not (pt_of (pd_b (b_isi) isiF_nx rfl m_isinstance (by decide +kernel) (pl_cons (pd_var 0) (pl_cons (pd_ty (n := "tuple") rfl m_tuple (by decide +kernel)) pl_nil))))) (tw_or (td_not (td_lele pd_int (pd_b (b_len F.hK) lenF_nx rfl m_len (by decide +kernel) (pl_cons (pd_var 0) pl_nil)) (pd_gint rfl m_MOST_NAMES))) (tw_or1 (pt_of (pd_lc [("row", 5)] F (di_walk (pd_var 0)) (by kernel_rfl) (by rfl) (fun _ _ _ _ _ F1 => (dg_name (i := 5) F1 rfl (by first | exact .inl rfl | exact .inr rfl))) (fun _ _ _ _ _ F1 => (dts_one (td_not (pt_of (pd_call F1 G_is_row (by decide) rfl (pl_cons (pd_var 5) pl_nil)))))) (fun _ _ _ _ _ F1 => (pd_var 5))))))))
    (xs_one (xs_ret pd_bl))
    xs_nil)
    (xs_cons (xs_set (i := 1) F rfl (by first | exact .inl rfl | exact .inr rfl) (pd_lc [("row", 5)] F (di_walk (pd_var 0)) (by kernel_rfl) (by rfl) (fun _ _ _ _ _ F1 => (dg_name (i := 5) F1 rfl (by first | exact .inl rfl | exact .inr rfl))) (fun _ _ _ _ _ F1 => dts_nil) (fun _ _ _ _ _ F1 => (pd_ix F1 (pd_var 5) pd_int))))
    (xs_cons (xs_sh 0 (xs_for F (di_walk (pd_var 0)) (dg_tup F (dgs_cons (dg_name (i := 2) F rfl (by first | exact .inl rfl | exact .inr rfl)) (dgs_cons (dg_name (i := 3) F rfl (by first | exact .inl rfl | exact .inr rfl)) (dgs_cons (dg_name (i := 4) F rfl (by first | exact .inl rfl | exact .inr rfl)) dgs_nil))))
    (xs_one (xs_if (td_orW (tw_or (td_in F (pd_var 2) (pd_var 4)) (tw_or (td_ne F (pd_lenSet F rfl m_len rfl m_set (pd_var 4)) (pd_b (b_len F.hK) lenF_nx rfl m_len (by decide +kernel) (pl_cons (pd_var 4) pl_nil))) (tw_or1 (pt_of (pd_lc [("use", 6)] F (di_walk (pd_var 4)) (by kernel_rfl) (by rfl) (fun _ _ _ _ _ F1 => (dg_name (i := 6) F1 rfl (by first | exact .inl rfl | exact .inr rfl))) (fun _ _ _ _ _ F1 => (dts_one (td_notIn F1 (pd_var 6) (pd_var 1)))) (fun _ _ _ _ _ F1 => (pd_var 6))))))))
    (xs_one (xs_ret pd_bl))
    xs_nil))))
    (xs_one (xs_ret (pd_eq F (pd_lenSet F rfl m_len rfl m_set (pd_var 1)) (pd_b (b_len F.hK) lenF_nx rfl m_len (by decide +kernel) (pl_cons (pd_var 1) pl_nil))))))))
theorem sc_are_places : FnScope ["rows", "thing", "file"] ["rows", "thing"] (defScope (top 17)) := ⟨rfl, rfl, rfl, by decide +kernel, rfl, by decide +kernel, by decide +kernel⟩
theorem ok_are_places {f : Addr} {fd : FuncData} (Fu : FnP K "are_places" (top 17) f fd) (m_ : mg "are_places" = some (.ref f)) (m_tuple : mg "tuple" = none) (m_isinstance : mg "isinstance" = none) (m_len : mg "len" = none) {k_MOST_FILE : Tok} (m_MOST_FILE : mg "MOST_FILE" = some (.int 3 k_MOST_FILE)) (G_is_within : Fn P w K mg base cls "is_within" 1 F_is_within) : Fn P w K mg base cls "are_places" 2 F_are_places := by
  refine fn_make (k := 1) (t := tX x_are_places) Fu m_ sc_are_places (fun _ _ _ _ _ _ us hl => match us, hl with | [_, _], _ => rfl) (fun cdv A outer s H E C W ec F => ?_) (fun ds h => defF_len ds h) (fun ds h => defF_sem ds h)
  subst ec
  exact (xs_cons (xs_if (td_orW (tw_or (td_not (pt_of (pd_b (b_isi) isiF_nx rfl m_isinstance (by decide +kernel) (pl_cons (pd_var 1) (pl_cons (pd_ty (n := "tuple") rfl m_tuple (by decide +kernel)) pl_nil))))) (tw_or1 (td_ne F (pd_b (b_len F.hK) lenF_nx rfl m_len (by decide +kernel) (pl_cons (pd_var 1) pl_nil)) (pd_b (b_len F.hK) lenF_nx rfl m_len (by decide +kernel) (pl_cons (pd_var 0) pl_nil))))))
    (xs_one (xs_ret pd_bl))
    xs_nil)
    (xs_one (xs_ret (pd_not (pd_lc [("file", 2)] F (di_walk (pd_var 1)) (by kernel_rfl) (by rfl) (fun _ _ _ _ _ F1 => (dg_name (i := 2) F1 rfl (by first | exact .inl rfl | exact .inr rfl))) (fun _ _ _ _ _ F1 => (dts_one (td_not (pt_of (pd_call F1 G_is_within (by decide) rfl (pl_cons (pd_var 2) (pl_cons pd_int (pl_cons (pd_gint rfl m_MOST_FILE) pl_nil)))))))) (fun _ _ _ _ _ F1 => (pd_var 2)))))))
theorem sc_are_late : FnScope ["rows", "thing", "names", "row", "name"] ["rows", "thing"] (defScope (top 18)) := ⟨rfl, rfl, rfl, by decide +kernel, rfl, by decide +kernel, by decide +kernel⟩
theorem ok_are_late {f : Addr} {fd : FuncData} (Fu : FnP K "are_late" (top 18) f fd) (m_ : mg "are_late" = some (.ref f)) (m_tuple : mg "tuple" = none) (m_isinstance : mg "isinstance" = none) (m_list : mg "list" = none) (m_sorted : mg "sorted" = none) (m_set : mg "set" = none) (G_is_name : Fn P w K mg base cls "is_name" 1 F_is_name) : Fn P w K mg base cls "are_late" 2 F_are_late := by
  refine fn_make (k := 1) (t := tX x_are_late) Fu m_ sc_are_late (fun _ _ _ _ _ _ us hl => match us, hl with | [_, _], _ => rfl) (fun cdv A outer s H E C W ec F => ?_) (fun ds h => defF_len ds h) (fun ds h => defF_sem ds h)
  subst ec
  exact (xs_cons (xs_if (td_orW (tw_or (td_not (pt_of (pd_b (b_isi) isiF_nx rfl m_isinstance (by decide +kernel) (pl_cons (pd_var 1) (pl_cons (pd_ty (n := "tuple") rfl m_tuple (by decide +kernel)) pl_nil))))) (tw_or1 (pt_of (pd_lc [("name", 4)] F (di_walk (pd_var 1)) (by kernel_rfl) (by rfl) (fun _ _ _ _ _ F1 => (dg_name (i := 4) F1 rfl (by first | exact .inl rfl | exact .inr rfl))) (fun _ _ _ _ _ F1 => (dts_one (td_not (pt_of (pd_call F1 G_is_name (by decide) rfl (pl_cons (pd_var 4) pl_nil)))))) (fun _ _ _ _ _ F1 => (pd_var 4)))))))
    (xs_one (xs_ret pd_bl))
    xs_nil)
    (xs_cons (xs_set (i := 2) F rfl (by first | exact .inl rfl | exact .inr rfl) (pd_lc [("row", 3)] F (di_walk (pd_var 0)) (by kernel_rfl) (by rfl) (fun _ _ _ _ _ F1 => (dg_name (i := 3) F1 rfl (by first | exact .inl rfl | exact .inr rfl))) (fun _ _ _ _ _ F1 => dts_nil) (fun _ _ _ _ _ F1 => (pd_ix F1 (pd_var 3) pd_int))))
    (xs_one (xs_ret (pd_and (pd_eq F (pd_bT (b_list F) listF_nx rfl m_list (by decide +kernel) (pl_cons (pd_var 1) pl_nil)) (pd_sortSet F rfl m_sorted rfl m_set (pd_var 1))) (pd_one (pd_not (pd_lc [("name", 4)] F (di_walk (pd_var 1)) (by kernel_rfl) (by rfl) (fun _ _ _ _ _ F1 => (dg_name (i := 4) F1 rfl (by first | exact .inl rfl | exact .inr rfl))) (fun _ _ _ _ _ F1 => (dts_one (td_notIn F1 (pd_var 4) (pd_var 2)))) (fun _ _ _ _ _ F1 => (pd_var 4))))))))))
theorem sc_is_book : FnScope ["thing"] ["thing"] (defScope (top 19)) := ⟨rfl, rfl, rfl, by decide +kernel, rfl, by decide +kernel, by decide +kernel⟩
theorem ok_is_book {f : Addr} {fd : FuncData} (Fu : FnP K "is_book" (top 19) f fd) (m_ : mg "is_book" = some (.ref f)) (m_tuple : mg "tuple" = none) (m_isinstance : mg "isinstance" = none) (m_len : mg "len" = none) (G_are_rows : Fn P w K mg base cls "are_rows" 3 F_are_rows) (G_are_places : Fn P w K mg base cls "are_places" 2 F_are_places) (G_are_late : Fn P w K mg base cls "are_late" 2 F_are_late) : Fn P w K mg base cls "is_book" 4 F_is_book := by
  refine fn_make (k := 3) (t := tX x_is_book) Fu m_ sc_is_book (fun _ _ _ _ _ _ us hl => match us, hl with | [_], _ => rfl) (fun cdv A outer s H E C W ec F => ?_) (fun ds h => defF_len ds h) (fun ds h => defF_sem ds h)
  subst ec
  exact (xs_cons (xs_if (td_orW (tw_or (td_not (pt_of (pd_b (b_isi) isiF_nx rfl m_isinstance (by decide +kernel) (pl_cons (pd_var 0) (pl_cons (pd_ty (n := "tuple") rfl m_tuple (by decide +kernel)) pl_nil))))) (tw_or (td_ne F (pd_b (b_len F.hK) lenF_nx rfl m_len (by decide +kernel) (pl_cons (pd_var 0) pl_nil)) pd_int) (tw_or1 (td_not (pt_of (pd_call F G_are_rows (by decide) rfl (pl_cons (pd_ix F (pd_var 0) pd_int) pl_nil))))))))
    (xs_one (xs_ret pd_bl))
    xs_nil)
    (xs_one (xs_ret (pd_and (pd_call F G_are_places (by decide) rfl (pl_cons (pd_ix F (pd_var 0) pd_int) (pl_cons (pd_ix F (pd_var 0) pd_int) pl_nil))) (pd_one (pd_call F G_are_late (by decide) rfl (pl_cons (pd_ix F (pd_var 0) pd_int) (pl_cons (pd_ix F (pd_var 0) pd_int) pl_nil))))))))
theorem sc_look : FnScope ["book"] ["book"] (defScope (top 20)) := ⟨rfl, rfl, rfl, by decide +kernel, rfl, by decide +kernel, by decide +kernel⟩
theorem ok_look {f : Addr} {fd : FuncData} (Fu : FnP K "look" (top 20) f fd) (m_ : mg "look" = some (.ref f)) (G_is_book : Fn P w K mg base cls "is_book" 4 F_is_book) (X_NoBook : ExcT K mg cls "NoBook") : Fn P w K mg base cls "look" 5 F_look := by
  refine fn_make (k := 4) (t := tX x_look) Fu m_ sc_look (fun _ _ _ _ _ _ us hl => match us, hl with | [_], _ => rfl) (fun cdv A outer s H E C W ec F => ?_) (fun ds h => defF_len ds h) (fun ds h => defF_sem ds h)
  subst ec
  exact (xs_one (xs_if (td_not (pt_of (pd_call F G_is_book (by decide) rfl (pl_cons (pd_var 0) pl_nil))))
    (xs_one (xs_raise F X_NoBook rfl))
    xs_nil))
theorem sc_uses_of : FnScope ["book", "name", "number", "uses"] ["book"] (defScope (top 21)) := ⟨rfl, rfl, rfl, by decide +kernel, rfl, by decide +kernel, by decide +kernel⟩
theorem ok_uses_of {f : Addr} {fd : FuncData} (Fu : FnP K "uses_of" (top 21) f fd) (m_ : mg "uses_of" = some (.ref f)) (m_dict : mg "dict" = none) : Fn P w K mg base cls "uses_of" 1 F_uses_of := by
  refine fn_make (k := 0) (t := tX x_uses_of) Fu m_ sc_uses_of (fun _ _ _ _ _ _ us hl => match us, hl with | [_], _ => rfl) (fun cdv A outer s H E C W ec F => ?_) (fun ds h => defF_len ds h) (fun ds h => defF_sem ds h)
  subst ec
  exact (xs_one (xs_ret (pd_bT (b_dict F) dictF_nx rfl m_dict (by decide +kernel) (pl_cons (pd_lc [("name", 1), ("number", 2), ("uses", 3)] F (di_walk (pd_ix F (pd_var 0) pd_int)) (by kernel_rfl) (by rfl) (fun _ _ _ _ _ F1 => (dg_tup F1 (dgs_cons (dg_name (i := 1) F1 rfl (by first | exact .inl rfl | exact .inr rfl)) (dgs_cons (dg_name (i := 2) F1 rfl (by first | exact .inl rfl | exact .inr rfl)) (dgs_cons (dg_name (i := 3) F1 rfl (by first | exact .inl rfl | exact .inr rfl)) dgs_nil))))) (fun _ _ _ _ _ F1 => dts_nil) (fun _ _ _ _ _ F1 => (pd_tup (pl_cons (pd_var 1) (pl_cons (pd_var 3) pl_nil))))) pl_nil))))
theorem sc_look_name : FnScope ["book", "name"] ["book", "name"] (defScope (top 28)) := ⟨rfl, rfl, rfl, by decide +kernel, rfl, by decide +kernel, by decide +kernel⟩
theorem ok_look_name {f : Addr} {fd : FuncData} (Fu : FnP K "look_name" (top 28) f fd) (m_ : mg "look_name" = some (.ref f)) (m_str : mg "str" = none) (m_isinstance : mg "isinstance" = none) (G_look : Fn P w K mg base cls "look" 5 F_look) (G_uses_of : Fn P w K mg base cls "uses_of" 1 F_uses_of) (X_NoName : ExcT K mg cls "NoName") : Fn P w K mg base cls "look_name" 6 F_look_name := by
  refine fn_make (k := 5) (t := tX x_look_name) Fu m_ sc_look_name (fun _ _ _ _ _ _ us hl => match us, hl with | [_, _], _ => rfl) (fun cdv A outer s H E C W ec F => ?_) (fun ds h => defF_len ds h) (fun ds h => defF_sem ds h)
  subst ec
  exact (xs_cons (xs_expr (pd_call F G_look (by decide) rfl (pl_cons (pd_var 0) pl_nil)))
    (xs_one (xs_if (td_orW (tw_or (td_not (pt_of (pd_b (b_isi) isiF_nx rfl m_isinstance (by decide +kernel) (pl_cons (pd_var 1) (pl_cons (pd_ty (n := "str") rfl m_str (by decide +kernel)) pl_nil))))) (tw_or1 (td_notIn F (pd_var 1) (pd_call F G_uses_of (by decide) rfl (pl_cons (pd_var 0) pl_nil))))))
    (xs_one (xs_raise F X_NoName rfl))
    xs_nil)))
theorem sc_needed_by : FnScope ["book", "some", "uses", "found", "at", "use"] ["book", "some"] (defScope (top 29)) := ⟨rfl, rfl, rfl, by decide +kernel, rfl, by decide +kernel, by decide +kernel⟩
theorem ok_needed_by {f : Addr} {fd : FuncData} (Fu : FnP K "needed_by" (top 29) f fd) (m_ : mg "needed_by" = some (.ref f)) (m_list : mg "list" = none) (m_len : mg "len" = none) (m_sorted : mg "sorted" = none) (G_uses_of : Fn P w K mg base cls "uses_of" 1 F_uses_of) : Fn P w K mg base cls "needed_by" 2 F_needed_by := by
  refine fn_make (k := 1) (t := tX x_needed_by) Fu m_ sc_needed_by (fun _ _ _ _ _ _ us hl => match us, hl with | [_, _], _ => rfl) (fun cdv A outer s H E C W ec F => ?_) (fun ds h => defF_len ds h) (fun ds h => defF_sem ds h)
  subst ec
  exact (xs_cons (xs_set (i := 2) F rfl (by first | exact .inl rfl | exact .inr rfl) (pd_call F G_uses_of (by decide) rfl (pl_cons (pd_var 0) pl_nil)))
    (xs_cons (xs_set (i := 3) F rfl (by first | exact .inl rfl | exact .inr rfl) (pd_bT (b_list F) listF_nx rfl m_list (by decide +kernel) (pl_cons (pd_var 1) pl_nil)))
    (xs_cons (xs_set (i := 4) F rfl (by first | exact .inl rfl | exact .inr rfl) pd_int)
    (xs_cons (xs_while 1000 F (td_lt (pd_var 4) (pd_b (b_len F.hK) lenF_nx rfl m_len (by decide +kernel) (pl_cons (pd_var 3) pl_nil)))
    (xs_cons (xs_ext 3 F (pd_lc [("use", 5)] F (di_walk (pd_ix F (pd_var 2) (pd_ix F (pd_var 3) (pd_var 4)))) (by kernel_rfl) (by rfl) (fun _ _ _ _ _ F1 => (dg_name (i := 5) F1 rfl (by first | exact .inl rfl | exact .inr rfl))) (fun _ _ _ _ _ F1 => (dts_one (td_notIn F1 (pd_var 5) (pd_var 3)))) (fun _ _ _ _ _ F1 => (pd_var 5))))
    (xs_one (xs_iadd 4 F pd_int))))
    (xs_one (xs_ret (pd_b (b_sorted F) sortF_nx rfl m_sorted (by decide +kernel) (pl_cons (pd_var 3) pl_nil))))))))
theorem sc_needs : FnScope ["book", "name"] ["book", "name"] (defScope (top 30)) := ⟨rfl, rfl, rfl, by decide +kernel, rfl, by decide +kernel, by decide +kernel⟩
theorem ok_needs {f : Addr} {fd : FuncData} (Fu : FnP K "needs" (top 30) f fd) (m_ : mg "needs" = some (.ref f)) (G_look_name : Fn P w K mg base cls "look_name" 6 F_look_name) (G_uses_of : Fn P w K mg base cls "uses_of" 1 F_uses_of) (G_needed_by : Fn P w K mg base cls "needed_by" 2 F_needed_by) : Fn P w K mg base cls "needs" 7 F_needs := by
  refine fn_make (k := 6) (t := tX x_needs) Fu m_ sc_needs (fun _ _ _ _ _ _ us hl => match us, hl with | [_, _], _ => rfl) (fun cdv A outer s H E C W ec F => ?_) (fun ds h => defF_len ds h) (fun ds h => defF_sem ds h)
  subst ec
  exact (xs_cons (xs_expr (pd_call F G_look_name (by decide) rfl (pl_cons (pd_var 0) (pl_cons (pd_var 1) pl_nil))))
    (xs_one (xs_ret (pd_call F G_needed_by (by decide) rfl (pl_cons (pd_var 0) (pl_cons (pd_ix F (pd_call F G_uses_of (by decide) rfl (pl_cons (pd_var 0) pl_nil)) (pd_var 1)) pl_nil))))))
theorem sc_users : FnScope ["book", "name", "row"] ["book", "name"] (defScope (top 31)) := ⟨rfl, rfl, rfl, by decide +kernel, rfl, by decide +kernel, by decide +kernel⟩
theorem ok_users {f : Addr} {fd : FuncData} (Fu : FnP K "users" (top 31) f fd) (m_ : mg "users" = some (.ref f)) (m_sorted : mg "sorted" = none) (G_look_name : Fn P w K mg base cls "look_name" 6 F_look_name) (G_needed_by : Fn P w K mg base cls "needed_by" 2 F_needed_by) : Fn P w K mg base cls "users" 7 F_users := by
  refine fn_make (k := 6) (t := tX x_users) Fu m_ sc_users (fun _ _ _ _ _ _ us hl => match us, hl with | [_, _], _ => rfl) (fun cdv A outer s H E C W ec F => ?_) (fun ds h => defF_len ds h) (fun ds h => defF_sem ds h)
  subst ec
  exact (xs_cons (xs_expr (pd_call F G_look_name (by decide) rfl (pl_cons (pd_var 0) (pl_cons (pd_var 1) pl_nil))))
    (xs_one (xs_ret (pd_b (b_sorted F) sortF_nx rfl m_sorted (by decide +kernel) (pl_cons (pd_lc [("row", 2)] F (di_walk (pd_ix F (pd_var 0) pd_int)) (by kernel_rfl) (by rfl) (fun _ _ _ _ _ F1 => (dg_name (i := 2) F1 rfl (by first | exact .inl rfl | exact .inr rfl))) (fun _ _ _ _ _ F1 => (dts_one (td_in F1 (pd_var 1) (pd_call F1 G_needed_by (by decide) rfl (pl_cons (pd_var 0) (pl_cons (pd_ix F1 (pd_var 2) pd_int) pl_nil)))))) (fun _ _ _ _ _ F1 => (pd_ix F1 (pd_var 2) pd_int))) pl_nil)))))
theorem sc_only : FnScope ["book", "some", "names", "kept", "places", "rows", "row", "file", "name"] ["book", "some"] (defScope (top 32)) := ⟨rfl, rfl, rfl, by decide +kernel, rfl, by decide +kernel, by decide +kernel⟩
theorem ok_only {f : Addr} {fd : FuncData} (Fu : FnP K "only" (top 32) f fd) (m_ : mg "only" = some (.ref f)) (m_tuple : mg "tuple" = none) (m_isinstance : mg "isinstance" = none) (m_str : mg "str" = none) (m_list : mg "list" = none) (m_sorted : mg "sorted" = none) (m_set : mg "set" = none) (m_zip : mg "zip" = none) (G_look : Fn P w K mg base cls "look" 5 F_look) (G_uses_of : Fn P w K mg base cls "uses_of" 1 F_uses_of) (G_needed_by : Fn P w K mg base cls "needed_by" 2 F_needed_by) (X_NoName : ExcT K mg cls "NoName") : Fn P w K mg base cls "only" 6 F_only := by
  refine fn_make (k := 5) (t := tX x_only) Fu m_ sc_only (fun _ _ _ _ _ _ us hl => match us, hl with | [_, _], _ => rfl) (fun cdv A outer s H E C W ec F => ?_) (fun ds h => defF_len ds h) (fun ds h => defF_sem ds h)
  subst ec
  exact (xs_cons (xs_expr (pd_call F G_look (by decide) rfl (pl_cons (pd_var 0) pl_nil)))
    (xs_cons (xs_set (i := 2) F rfl (by first | exact .inl rfl | exact .inr rfl) (pd_call F G_uses_of (by decide) rfl (pl_cons (pd_var 0) pl_nil)))
    (xs_cons (xs_if (td_orW (tw_or (td_not (pt_of (pd_b (b_isi) isiF_nx rfl m_isinstance (by decide +kernel) (pl_cons (pd_var 1) (pl_cons (pd_ty (n := "tuple") rfl m_tuple (by decide +kernel)) pl_nil))))) (tw_or (td_not (pt_of (pd_var 1))) (tw_or1 (pt_of (pd_lc [("name", 8)] F (di_walk (pd_var 1)) (by kernel_rfl) (by rfl) (fun _ _ _ _ _ F1 => (dg_name (i := 8) F1 rfl (by first | exact .inl rfl | exact .inr rfl))) (fun _ _ _ _ _ F1 => (dts_one (td_not (pt_of (pd_b (b_isi) isiF_nx rfl m_isinstance (by decide +kernel) (pl_cons (pd_var 8) (pl_cons (pd_ty (n := "str") rfl m_str (by decide +kernel)) pl_nil))))))) (fun _ _ _ _ _ F1 => (pd_var 8))))))))
    (xs_one (xs_raise F X_NoName rfl))
    xs_nil)
    (xs_cons (xs_if (td_orW (tw_or (pt_of (pd_lc [("name", 8)] F (di_walk (pd_var 1)) (by kernel_rfl) (by rfl) (fun _ _ _ _ _ F1 => (dg_name (i := 8) F1 rfl (by first | exact .inl rfl | exact .inr rfl))) (fun _ _ _ _ _ F1 => (dts_one (td_notIn F1 (pd_var 8) (pd_var 2)))) (fun _ _ _ _ _ F1 => (pd_var 8)))) (tw_or1 (td_ne F (pd_bT (b_list F) listF_nx rfl m_list (by decide +kernel) (pl_cons (pd_var 1) pl_nil)) (pd_sortSet F rfl m_sorted rfl m_set (pd_var 1))))))
    (xs_one (xs_raise F X_NoName rfl))
    xs_nil)
    (xs_cons (xs_set (i := 3) F rfl (by first | exact .inl rfl | exact .inr rfl) (pd_call F G_needed_by (by decide) rfl (pl_cons (pd_var 0) (pl_cons (pd_var 1) pl_nil))))
    (xs_cons (xs_setLc [("row", 6), ("file", 7)] F rfl rfl (di_zip rfl m_zip (pd_ix F (pd_var 0) pd_int) (pd_ix F (pd_var 0) pd_int)) (by kernel_rfl) (by rfl) (fun _ _ _ _ _ F1 => (dg_tup F1 (dgs_cons (dg_name (i := 6) F1 rfl (by first | exact .inl rfl | exact .inr rfl)) (dgs_cons (dg_name (i := 7) F1 rfl (by first | exact .inl rfl | exact .inr rfl)) dgs_nil)))) (fun _ _ _ _ _ F1 => (dts_one (td_in F1 (pd_ix F1 (pd_var 6) pd_int) (pd_var 3)))) (fun _ _ _ _ _ F1 => (pd_var 7)))
    (xs_cons (xs_setLc [("row", 6)] F rfl rfl (di_walk (pd_ix F (pd_var 0) pd_int)) (by kernel_rfl) (by rfl) (fun _ _ _ _ _ F1 => (dg_name (i := 6) F1 rfl (by first | exact .inl rfl | exact .inr rfl))) (fun _ _ _ _ _ F1 => (dts_one (td_in F1 (pd_ix F1 (pd_var 6) pd_int) (pd_var 3)))) (fun _ _ _ _ _ F1 => (pd_var 6)))
    (xs_one (xs_ret (pd_tup (pl_cons (pd_bT (b_tuple F.hK) tupB_nx rfl m_tuple (by decide +kernel) (pl_cons (pd_var 5) pl_nil)) (pl_cons (pd_bT (b_tuple F.hK) tupB_nx rfl m_tuple (by decide +kernel) (pl_cons (pd_var 4) pl_nil)) (pl_cons (pd_bT (b_tuple F.hK) tupB_nx rfl m_tuple (by decide +kernel) (pl_cons (pd_lc [("name", 8)] F (di_walk (pd_ix F (pd_var 0) pd_int)) (by kernel_rfl) (by rfl) (fun _ _ _ _ _ F1 => (dg_name (i := 8) F1 rfl (by first | exact .inl rfl | exact .inr rfl))) (fun _ _ _ _ _ F1 => (dts_one (td_in F1 (pd_var 8) (pd_var 3)))) (fun _ _ _ _ _ F1 => (pd_var 8))) pl_nil)) pl_nil)))))))))))))
theorem sc__law_cell : FnScope ["_law_script", "_law_k"] ["_law_script", "_law_k"] (defScope (top 64)) := ⟨rfl, rfl, rfl, by decide +kernel, rfl, by decide +kernel, by decide +kernel⟩
theorem ok__law_cell {f : Addr} {fd : FuncData} (Fu : FnP K "_law_cell" (top 64) f fd) (m_ : mg "_law_cell" = some (.ref f)) (m_len : mg "len" = none) : Fn P w K mg base cls "_law_cell" 1 F__law_cell := by
  refine fn_make (k := 0) (t := tX x__law_cell) Fu m_ sc__law_cell (fun _ _ _ _ _ _ us hl => match us, hl with | [_, _], _ => rfl) (fun cdv A outer s H E C W ec F => ?_) (fun ds h => defF_len ds h) (fun ds h => defF_sem ds h)
  subst ec
  exact (xs_cons (xs_if (td_lt (pd_var 1) (pd_b (b_len F.hK) lenF_nx rfl m_len (by decide +kernel) (pl_cons (pd_var 0) pl_nil)))
    (xs_one (xs_ret (pd_ix F (pd_var 0) (pd_var 1))))
    xs_nil)
    (xs_one (xs_ret pd_int)))
theorem sc__law_seed : FnScope ["_law_seed_here", "_law_k"] ["_law_seed_here", "_law_k"] (defScope (top 65)) := ⟨rfl, rfl, rfl, by decide +kernel, rfl, by decide +kernel, by decide +kernel⟩
theorem ok__law_seed {f : Addr} {fd : FuncData} (Fu : FnP K "_law_seed" (top 65) f fd) (m_ : mg "_law_seed" = some (.ref f)) : Fn P w K mg base cls "_law_seed" 1 F__law_seed := by
  refine fn_make (k := 0) (t := tX x__law_seed) Fu m_ sc__law_seed (fun _ _ _ _ _ _ us hl => match us, hl with | [_, _], _ => rfl) (fun cdv A outer s H E C W ec F => ?_) (fun ds h => defF_len ds h) (fun ds h => defF_sem ds h)
  subst ec
  exact (xs_one (xs_ret (pd_mod (pd_pow (pd_mod (pd_add F (pd_add F (pd_mul (pd_var 0) pd_int) (pd_mul pd_int (pd_var 1))) pd_int) pd_int) pd_int) pd_int)))
theorem sc__law_pick : FnScope ["_law_seed_here", "_law_many"] ["_law_seed_here", "_law_many"] (defScope (top 66)) := ⟨rfl, rfl, rfl, by decide +kernel, rfl, by decide +kernel, by decide +kernel⟩
theorem ok__law_pick {f : Addr} {fd : FuncData} (Fu : FnP K "_law_pick" (top 66) f fd) (m_ : mg "_law_pick" = some (.ref f)) : Fn P w K mg base cls "_law_pick" 1 F__law_pick := by
  refine fn_make (k := 0) (t := tX x__law_pick) Fu m_ sc__law_pick (fun _ _ _ _ _ _ us hl => match us, hl with | [_, _], _ => rfl) (fun cdv A outer s H E C W ec F => ?_) (fun ds h => defF_len ds h) (fun ds h => defF_sem ds h)
  subst ec
  exact (xs_one (xs_ret (pd_mod (pd_fdiv (pd_var 0) pd_int) (pd_var 1))))
theorem sc__law_book : FnScope ["_law_seed_here", "_law_most", "_law_names", "_law_k", "_law_name", "_law_rows", "_law_places", "_law_late", "_law_thick", "_law_uses_here", "_law_j", "_law_other"] ["_law_seed_here", "_law_most"] (defScope (top 67)) := ⟨rfl, rfl, rfl, by decide +kernel, rfl, by decide +kernel, by decide +kernel⟩
theorem ok__law_book {f : Addr} {fd : FuncData} (Fu : FnP K "_law_book" (top 67) f fd) (m_ : mg "_law_book" = some (.ref f)) (m_range : mg "range" = none) (m_enumerate : mg "enumerate" = none) (m_len : mg "len" = none) (m_tuple : mg "tuple" = none) (m_int : mg "int" = none) (m_sorted : mg "sorted" = none) (G__law_seed : Fn P w K mg base cls "_law_seed" 1 F__law_seed) (G__law_pick : Fn P w K mg base cls "_law_pick" 1 F__law_pick) : Fn P w K mg base cls "_law_book" 2 F__law_book := by
  refine fn_make (k := 1) (t := tX x__law_book) Fu m_ sc__law_book (fun _ _ _ _ _ _ us hl => match us, hl with | [_, _], _ => rfl) (fun cdv A outer s H E C W ec F => ?_) (fun ds h => defF_len ds h) (fun ds h => defF_sem ds h)
  subst ec
  exact (xs_cons (xs_set (i := 2) F rfl (by first | exact .inl rfl | exact .inr rfl) (pd_lst pl_nil))
    (xs_cons (xs_for F (di_rng1 rfl m_range (pd_add F pd_int (pd_call F G__law_pick (by decide) rfl (pl_cons (pd_call F G__law_seed (by decide) rfl (pl_cons (pd_var 0) (pl_cons pd_int pl_nil))) (pl_cons (pd_var 1) pl_nil))))) (dg_name (i := 3) F rfl (by first | exact .inl rfl | exact .inr rfl))
    (xs_cons (xs_set (i := 4) F rfl (by first | exact .inl rfl | exact .inr rfl) (pd_join F pd_str (pd_lc [("_law_j", 10)] F (di_rng1 rfl m_range (pd_add F pd_int (pd_mod (pd_fdiv (pd_var 0) pd_int) pd_int))) (by kernel_rfl) (by rfl) (fun _ _ _ _ _ F1 => (dg_name (i := 10) F1 rfl (by first | exact .inl rfl | exact .inr rfl))) (fun _ _ _ _ _ F1 => dts_nil) (fun _ _ _ _ _ F1 => (pd_ix F1 pd_str (pd_call F1 G__law_pick (by decide) rfl (pl_cons (pd_call F1 G__law_seed (by decide) rfl (pl_cons (pd_var 0) (pl_cons (pd_add F1 (pd_add F1 pd_int (pd_mul pd_int (pd_var 3))) (pd_var 10)) pl_nil))) (pl_cons pd_int pl_nil))))))))
    (xs_one (xs_if (td_notIn F (pd_var 4) (pd_var 2))
    (xs_one (xs_app 2 F (pd_var 4)))
    xs_nil))))
    (xs_cons (xs_par3 (i := 5) (j := 6) (l := 7) F rfl rfl rfl (by decide) (by decide) (by decide) rfl rfl rfl (pl_cons (pd_lst pl_nil) (pl_cons (pd_lst pl_nil) (pl_cons (pd_lst pl_nil) pl_nil))) (by rfl))
    (xs_cons (xs_set (i := 8) F rfl (by first | exact .inl rfl | exact .inr rfl) (pd_add F pd_int (pd_call F G__law_pick (by decide) rfl (pl_cons (pd_call F G__law_seed (by decide) rfl (pl_cons (pd_var 0) (pl_cons pd_int pl_nil))) (pl_cons pd_int pl_nil)))))
    (xs_cons (xs_sh 2 (xs_for F (di_enum rfl m_enumerate (pd_var 2)) (dg_tup F (dgs_cons (dg_name (i := 3) F rfl (by first | exact .inl rfl | exact .inr rfl)) (dgs_cons (dg_name (i := 4) F rfl (by first | exact .inl rfl | exact .inr rfl)) dgs_nil)))
    (xs_cons (xs_set (i := 9) F rfl (by first | exact .inl rfl | exact .inr rfl) (pd_lst pl_nil))
    (xs_cons (xs_for F (di_rng1 rfl m_range (pd_call F G__law_pick (by decide) rfl (pl_cons (pd_call F G__law_seed (by decide) rfl (pl_cons (pd_var 0) (pl_cons (pd_add F pd_int (pd_var 3)) pl_nil))) (pl_cons (pd_add F (pd_var 8) pd_int) pl_nil)))) (dg_name (i := 10) F rfl (by first | exact .inl rfl | exact .inr rfl))
    (xs_cons (xs_set (i := 11) F rfl (by first | exact .inl rfl | exact .inr rfl) (pd_ix F (pd_var 2) (pd_call F G__law_pick (by decide) rfl (pl_cons (pd_call F G__law_seed (by decide) rfl (pl_cons (pd_var 0) (pl_cons (pd_add F (pd_add F pd_int (pd_mul pd_int (pd_var 3))) (pd_var 10)) pl_nil))) (pl_cons (pd_b (b_len F.hK) lenF_nx rfl m_len (by decide +kernel) (pl_cons (pd_var 2) pl_nil)) pl_nil)))))
    (xs_one (xs_if (td_andW (tw_and (td_ne F (pd_var 11) (pd_var 4)) (tw_and (td_notIn F (pd_var 11) (pd_var 9)) (tw_and1 (td_orW (tw_or (td_gt (pd_mod (pd_fdiv (pd_var 0) pd_int) pd_int) pd_int) (tw_or1 (td_lt (pd_index F (pd_var 2) (pd_var 11)) (pd_var 3)))))))))
    (xs_one (xs_app 9 F (pd_var 11)))
    xs_nil))))
    (xs_cons (xs_app 5 F (pd_tup (pl_cons (pd_var 4) (pl_cons (pd_sub (pd_call F G__law_pick (by decide) rfl (pl_cons (pd_call F G__law_seed (by decide) rfl (pl_cons (pd_var 0) (pl_cons (pd_add F pd_int (pd_var 3)) pl_nil))) (pl_cons pd_int pl_nil))) pd_int) (pl_cons (pd_bT (b_tuple F.hK) tupB_nx rfl m_tuple (by decide +kernel) (pl_cons (pd_var 9) pl_nil)) pl_nil)))))
    (xs_cons (xs_app 6 F (pd_call F G__law_pick (by decide) rfl (pl_cons (pd_call F G__law_seed (by decide) rfl (pl_cons (pd_var 0) (pl_cons (pd_add F pd_int (pd_var 3)) pl_nil))) (pl_cons (pd_add F pd_int (pd_mod (pd_fdiv (pd_var 0) pd_int) pd_int)) pl_nil))))
    (xs_one (xs_set (i := 7) F rfl (by first | exact .inl rfl | exact .inr rfl) (pd_add F (pd_var 7) (pd_mul (pd_lst (pl_cons (pd_var 4) pl_nil)) (pd_bT (b_int) intF_nx rfl m_int (by decide +kernel) (pl_cons (pd_eq F (pd_call F G__law_pick (by decide) rfl (pl_cons (pd_call F G__law_seed (by decide) rfl (pl_cons (pd_var 0) (pl_cons (pd_add F pd_int (pd_var 3)) pl_nil))) (pl_cons (pd_ix F (pd_lst (pl_cons pd_int (pl_cons pd_int (pl_cons pd_int pl_nil)))) (pd_mod (pd_fdiv (pd_var 0) pd_int) pd_int)) pl_nil))) pd_int) pl_nil))))))))))))
    (xs_one (xs_ret (pd_tup (pl_cons (pd_bT (b_tuple F.hK) tupB_nx rfl m_tuple (by decide +kernel) (pl_cons (pd_var 5) pl_nil)) (pl_cons (pd_bT (b_tuple F.hK) tupB_nx rfl m_tuple (by decide +kernel) (pl_cons (pd_var 6) pl_nil)) (pl_cons (pd_bT (b_tuple F.hK) tupB_nx rfl m_tuple (by decide +kernel) (pl_cons (pd_b (b_sorted F) sortF_nx rfl m_sorted (by decide +kernel) (pl_cons (pd_var 7) pl_nil)) pl_nil)) pl_nil)))))))))))
theorem sc__law_uses : FnScope ["_law_book_here", "_law_row"] ["_law_book_here"] (defScope (top 68)) := ⟨rfl, rfl, rfl, by decide +kernel, rfl, by decide +kernel, by decide +kernel⟩
theorem ok__law_uses {f : Addr} {fd : FuncData} (Fu : FnP K "_law_uses" (top 68) f fd) (m_ : mg "_law_uses" = some (.ref f)) (m_dict : mg "dict" = none) : Fn P w K mg base cls "_law_uses" 1 F__law_uses := by
  refine fn_make (k := 0) (t := tX x__law_uses) Fu m_ sc__law_uses (fun _ _ _ _ _ _ us hl => match us, hl with | [_], _ => rfl) (fun cdv A outer s H E C W ec F => ?_) (fun ds h => defF_len ds h) (fun ds h => defF_sem ds h)
  subst ec
  exact (xs_one (xs_ret (pd_bT (b_dict F) dictF_nx rfl m_dict (by decide +kernel) (pl_cons (pd_lc [("_law_row", 1)] F (di_walk (pd_ix F (pd_var 0) pd_int)) (by kernel_rfl) (by rfl) (fun _ _ _ _ _ F1 => (dg_name (i := 1) F1 rfl (by first | exact .inl rfl | exact .inr rfl))) (fun _ _ _ _ _ F1 => dts_nil) (fun _ _ _ _ _ F1 => (pd_tup (pl_cons (pd_ix F1 (pd_var 1) pd_int) (pl_cons (pd_ix F1 (pd_var 1) pd_int) pl_nil))))) pl_nil))))
theorem sc__law_needed : FnScope ["_law_book_here", "_law_some", "_law_uses_here", "_law_found", "_law_time", "_law_name", "_law_use"] ["_law_book_here", "_law_some"] (defScope (top 69)) := ⟨rfl, rfl, rfl, by decide +kernel, rfl, by decide +kernel, by decide +kernel⟩
theorem ok__law_needed {f : Addr} {fd : FuncData} (Fu : FnP K "_law_needed" (top 69) f fd) (m_ : mg "_law_needed" = some (.ref f)) (m_range : mg "range" = none) (m_len : mg "len" = none) (m_list : mg "list" = none) (m_sorted : mg "sorted" = none) (G__law_uses : Fn P w K mg base cls "_law_uses" 1 F__law_uses) : Fn P w K mg base cls "_law_needed" 2 F__law_needed := by
  refine fn_make (k := 1) (t := tX x__law_needed) Fu m_ sc__law_needed (fun _ _ _ _ _ _ us hl => match us, hl with | [_, _], _ => rfl) (fun cdv A outer s H E C W ec F => ?_) (fun ds h => defF_len ds h) (fun ds h => defF_sem ds h)
  subst ec
  exact (xs_cons (xs_set (i := 2) F rfl (by first | exact .inl rfl | exact .inr rfl) (pd_call F G__law_uses (by decide) rfl (pl_cons (pd_var 0) pl_nil)))
    (xs_cons (xs_set (i := 3) F rfl (by first | exact .inl rfl | exact .inr rfl) (pd_lock 2 (pd_lc [("_law_name", 5)] F (di_keys 2) (by kernel_rfl) (by rfl) (fun _ _ _ _ _ F1 => (dg_name (i := 5) F1 rfl (by first | exact .inl rfl | exact .inr rfl))) (fun _ _ _ _ _ F1 => (dts_one (td_in F1 (pd_var 5) (pd_var 1)))) (fun _ _ _ _ _ F1 => (pd_var 5)))))
    (xs_cons (xs_for F (di_rng1 rfl m_range (pd_b (b_len F.hK) lenF_nx rfl m_len (by decide +kernel) (pl_cons (pd_var 2) pl_nil))) (dg_name (i := 4) F rfl (by first | exact .inl rfl | exact .inr rfl))
    (xs_one (xs_for F (di_walk (pd_bT (b_list F) listF_nx rfl m_list (by decide +kernel) (pl_cons (pd_var 3) pl_nil))) (dg_name (i := 5) F rfl (by first | exact .inl rfl | exact .inr rfl))
    (xs_one (xs_set (i := 3) F rfl (by first | exact .inl rfl | exact .inr rfl) (pd_add F (pd_var 3) (pd_lc [("_law_use", 6)] F (di_walk (pd_ix F (pd_var 2) (pd_var 5))) (by kernel_rfl) (by rfl) (fun _ _ _ _ _ F1 => (dg_name (i := 6) F1 rfl (by first | exact .inl rfl | exact .inr rfl))) (fun _ _ _ _ _ F1 => (dts_one (td_notIn F1 (pd_var 6) (pd_var 3)))) (fun _ _ _ _ _ F1 => (pd_var 6)))))))))
    (xs_one (xs_ret (pd_b (b_sorted F) sortF_nx rfl m_sorted (by decide +kernel) (pl_cons (pd_var 3) pl_nil)))))))
theorem sc__law_only : FnScope ["_law_book_here", "_law_some", "_law_kept", "_law_rows", "_law_late", "_law_row", "_law_file", "_law_name"] ["_law_book_here", "_law_some"] (defScope (top 70)) := ⟨rfl, rfl, rfl, by decide +kernel, rfl, by decide +kernel, by decide +kernel⟩
theorem ok__law_only {f : Addr} {fd : FuncData} (Fu : FnP K "_law_only" (top 70) f fd) (m_ : mg "_law_only" = some (.ref f)) (m_zip : mg "zip" = none) (m_tuple : mg "tuple" = none) (G__law_needed : Fn P w K mg base cls "_law_needed" 2 F__law_needed) : Fn P w K mg base cls "_law_only" 3 F__law_only := by
  refine fn_make (k := 2) (t := tX x__law_only) Fu m_ sc__law_only (fun _ _ _ _ _ _ us hl => match us, hl with | [_, _], _ => rfl) (fun cdv A outer s H E C W ec F => ?_) (fun ds h => defF_len ds h) (fun ds h => defF_sem ds h)
  subst ec
  exact (xs_cons (xs_set (i := 2) F rfl (by first | exact .inl rfl | exact .inr rfl) (pd_call F G__law_needed (by decide) rfl (pl_cons (pd_var 0) (pl_cons (pd_var 1) pl_nil))))
    (xs_cons (xs_setLc [("_law_row", 5), ("_law_file", 6)] F rfl rfl (di_zip rfl m_zip (pd_ix F (pd_var 0) pd_int) (pd_ix F (pd_var 0) pd_int)) (by kernel_rfl) (by rfl) (fun _ _ _ _ _ F1 => (dg_tup F1 (dgs_cons (dg_name (i := 5) F1 rfl (by first | exact .inl rfl | exact .inr rfl)) (dgs_cons (dg_name (i := 6) F1 rfl (by first | exact .inl rfl | exact .inr rfl)) dgs_nil)))) (fun _ _ _ _ _ F1 => (dts_one (td_in F1 (pd_ix F1 (pd_var 5) pd_int) (pd_var 2)))) (fun _ _ _ _ _ F1 => (pd_tup (pl_cons (pd_var 5) (pl_cons (pd_var 6) pl_nil)))))
    (xs_cons (xs_set (i := 4) F rfl (by first | exact .inl rfl | exact .inr rfl) (pd_bT (b_tuple F.hK) tupB_nx rfl m_tuple (by decide +kernel) (pl_cons (pd_lc [("_law_name", 7)] F (di_walk (pd_ix F (pd_var 0) pd_int)) (by kernel_rfl) (by rfl) (fun _ _ _ _ _ F1 => (dg_name (i := 7) F1 rfl (by first | exact .inl rfl | exact .inr rfl))) (fun _ _ _ _ _ F1 => (dts_one (td_in F1 (pd_var 7) (pd_var 2)))) (fun _ _ _ _ _ F1 => (pd_var 7))) pl_nil)))
    (xs_one (xs_ret (pd_tup (pl_cons (pd_bT (b_tuple F.hK) tupB_nx rfl m_tuple (by decide +kernel) (pl_cons (pd_lc [("_law_row", 5), ("_law_file", 6)] F (di_walk (pd_var 3)) (by kernel_rfl) (by rfl) (fun _ _ _ _ _ F1 => (dg_tup F1 (dgs_cons (dg_name (i := 5) F1 rfl (by first | exact .inl rfl | exact .inr rfl)) (dgs_cons (dg_name (i := 6) F1 rfl (by first | exact .inl rfl | exact .inr rfl)) dgs_nil)))) (fun _ _ _ _ _ F1 => dts_nil) (fun _ _ _ _ _ F1 => (pd_var 5))) pl_nil)) (pl_cons (pd_bT (b_tuple F.hK) tupB_nx rfl m_tuple (by decide +kernel) (pl_cons (pd_lc [("_law_row", 5), ("_law_file", 6)] F (di_walk (pd_var 3)) (by kernel_rfl) (by rfl) (fun _ _ _ _ _ F1 => (dg_tup F1 (dgs_cons (dg_name (i := 5) F1 rfl (by first | exact .inl rfl | exact .inr rfl)) (dgs_cons (dg_name (i := 6) F1 rfl (by first | exact .inl rfl | exact .inr rfl)) dgs_nil)))) (fun _ _ _ _ _ F1 => dts_nil) (fun _ _ _ _ _ F1 => (pd_var 6))) pl_nil)) (pl_cons (pd_var 4) pl_nil)))))))))
theorem sc__law_some_book : FnScope ["_law_script", "_law_at"] ["_law_script", "_law_at"] (defScope (top 71)) := ⟨rfl, rfl, rfl, by decide +kernel, rfl, by decide +kernel, by decide +kernel⟩
theorem ok__law_some_book {f : Addr} {fd : FuncData} (Fu : FnP K "_law_some_book" (top 71) f fd) (m_ : mg "_law_some_book" = some (.ref f)) (G__law_cell : Fn P w K mg base cls "_law_cell" 1 F__law_cell) (G__law_seed : Fn P w K mg base cls "_law_seed" 1 F__law_seed) (G__law_book : Fn P w K mg base cls "_law_book" 2 F__law_book) : Fn P w K mg base cls "_law_some_book" 3 F__law_some_book := by
  refine fn_make (k := 2) (t := tX x__law_some_book) Fu m_ sc__law_some_book (fun _ _ _ _ _ _ us hl => match us, hl with | [_, _], _ => rfl) (fun cdv A outer s H E C W ec F => ?_) (fun ds h => defF_len ds h) (fun ds h => defF_sem ds h)
  subst ec
  exact (xs_one (xs_ret (pd_call F G__law_book (by decide) rfl (pl_cons (pd_call F G__law_seed (by decide) rfl (pl_cons (pd_call F G__law_cell (by decide) rfl (pl_cons (pd_var 0) (pl_cons (pd_var 1) pl_nil))) (pl_cons (pd_mod (pd_call F G__law_cell (by decide) rfl (pl_cons (pd_var 0) (pl_cons (pd_add F (pd_var 1) pd_int) pl_nil))) pd_int) pl_nil))) (pl_cons pd_int pl_nil)))))
theorem sc__law_called : FnScope ["_law_which", "_law_a"] ["_law_which", "_law_a"] (defScope (top 72)) := ⟨rfl, rfl, rfl, by decide +kernel, rfl, by decide +kernel, by decide +kernel⟩
theorem ok__law_called {f : Addr} {fd : FuncData} (Fu : FnP K "_law_called" (top 72) f fd) (m_ : mg "_law_called" = some (.ref f)) (G_needs : Fn P w K mg base cls "needs" 7 F_needs) (G_users : Fn P w K mg base cls "users" 7 F_users) (G_only : Fn P w K mg base cls "only" 6 F_only) : Fn P w K mg base cls "_law_called" 8 F__law_called := by
  refine fn_make (k := 7) (t := tX x__law_called) Fu m_ sc__law_called (fun _ _ _ _ _ _ us hl => match us, hl with | [_, _], _ => rfl) (fun cdv A outer s H E C W ec F => ?_) (fun ds h => defF_len ds h) (fun ds h => defF_sem ds h)
  subst ec
  exact (xs_cons (xs_if (td_lt (pd_var 0) pd_int)
    (xs_cons (xs_if (td_lt (pd_var 0) pd_int)
    (xs_one (xs_ret (pd_if (td_eq F (pd_var 0) pd_int) (pd_call F G_needs (by decide) rfl (pl_cons (pd_ix F (pd_var 1) pd_int) (pl_cons (pd_ix F (pd_var 1) pd_int) pl_nil))) (pd_if (td_eq F (pd_var 0) pd_int) (pd_call F G_users (by decide) rfl (pl_cons (pd_ix F (pd_var 1) pd_int) (pl_cons (pd_ix F (pd_var 1) pd_int) pl_nil))) (pd_call F G_only (by decide) rfl (pl_cons (pd_ix F (pd_var 1) pd_int) (pl_cons (pd_ix F (pd_var 1) pd_int) pl_nil)))))))
    xs_nil)
    (xs_one xs_never))
    xs_nil)
    (xs_cons (xs_if (td_lt (pd_var 0) pd_int)
    (xs_one xs_never)
    xs_nil)
    (xs_one xs_never)))
theorem sc__law_caught : FnScope ["_law_which", "_law_a", "_law_caught_here"] ["_law_which", "_law_a"] (defScope (top 74)) := ⟨rfl, rfl, rfl, by decide +kernel, rfl, by decide +kernel, by decide +kernel⟩
theorem ok__law_caught {f : Addr} {fd : FuncData} (Fu : FnP K "_law_caught" (top 74) f fd) (m_ : mg "_law_caught" = some (.ref f)) (G__law_called : Fn P w K mg base cls "_law_called" 8 F__law_called) (X_NoOrder : ExcT K mg cls "NoOrder") (X_NoFile : ExcT K mg cls "NoFile") (X_NoName : ExcT K mg cls "NoName") (X_NoBook : ExcT K mg cls "NoBook") (TB : TabOk K cls excTab) : Fn P w K mg base cls "_law_caught" 9 F__law_caught := by
  refine fn_make (k := 8) (t := tX x__law_caught) Fu m_ sc__law_caught (fun _ _ _ _ _ _ us hl => match us, hl with | [_, _], _ => rfl) (fun cdv A outer s H E C W ec F => ?_) (fun ds h => defF_len ds h) (fun ds h => defF_sem ds h)
  subst ec
  exact (xs_cons (xs_set (i := 2) F rfl (by first | exact .inl rfl | exact .inr rfl) pd_str)
    (xs_cons (xs_try F TB rfl rfl (fun _ _ _ F => (xs_one (xs_if (td_lt (pd_var 0) pd_int)
    (xs_one (xs_expr (pd_call F G__law_called (by decide) rfl (pl_cons (pd_var 0) (pl_cons (pd_var 1) pl_nil)))))
    (xs_one xs_never)))) (HdsD.cons ⟨rfl, by decide, .inl X_NoBook.mg⟩ (fun _ _ => su_setS (i := 2) F.nd rfl (by first | exact .inl rfl | exact .inr rfl)) (HdsD.cons ⟨rfl, by decide, .inl X_NoName.mg⟩ (fun _ _ => su_setS (i := 2) F.nd rfl (by first | exact .inl rfl | exact .inr rfl)) (HdsD.cons ⟨rfl, by decide, .inl X_NoFile.mg⟩ (fun _ _ => su_setS (i := 2) F.nd rfl (by first | exact .inl rfl | exact .inr rfl)) (HdsD.cons ⟨rfl, by decide, .inl X_NoOrder.mg⟩ (fun _ _ => su_setS (i := 2) F.nd rfl (by first | exact .inl rfl | exact .inr rfl)) HdsD.nil)))))
    (xs_one (xs_ret (pd_var 2)))))
theorem sc_law : FnScope ["_law_script", "_law_book_here", "_law_names", "_law_name", "_law_uses_here", "_law_some", "_law_odd", "_law_row", "_law_one", "_law_k", "_law_which"] ["_law_script"] (defScope (top 75)) := ⟨rfl, rfl, rfl, by decide +kernel, rfl, by decide +kernel, by decide +kernel⟩
theorem ok_law {f : Addr} {fd : FuncData} (Fu : FnP K "law" (top 75) f fd) (m_sorted : mg "sorted" = none) (m_len : mg "len" = none) (m_enumerate : mg "enumerate" = none) (m_tuple : mg "tuple" = none) (G__law_some_book : Fn P w K mg base cls "_law_some_book" 3 F__law_some_book) (G__law_cell : Fn P w K mg base cls "_law_cell" 1 F__law_cell) (G__law_uses : Fn P w K mg base cls "_law_uses" 1 F__law_uses) (G_needs : Fn P w K mg base cls "needs" 7 F_needs) (G__law_needed : Fn P w K mg base cls "_law_needed" 2 F__law_needed) (G_users : Fn P w K mg base cls "users" 7 F_users) (G__law_seed : Fn P w K mg base cls "_law_seed" 1 F__law_seed) (G__law_pick : Fn P w K mg base cls "_law_pick" 1 F__law_pick) (G_only : Fn P w K mg base cls "only" 6 F_only) (G__law_only : Fn P w K mg base cls "_law_only" 3 F__law_only) (G__law_caught : Fn P w K mg base cls "_law_caught" 9 F__law_caught) : FnOk P w K mg base (L2.CX P w) 10 f fd ["_law_script"] (SpP K cls F_law) := by
  refine fn_ok (k := 9) (t := tX x_law) Fu sc_law (fun cdv A outer s H E C W ec F => ?_) (fun ds h => defF_len ds h) (fun ds h => defF_sem ds h)
  subst ec
  exact (xs_cons (xs_set (i := 1) F rfl (by first | exact .inl rfl | exact .inr rfl) (pd_call F G__law_some_book (by decide) rfl (pl_cons (pd_var 0) (pl_cons pd_int pl_nil))))
    (xs_cons (xs_set (i := 2) F rfl (by first | exact .inl rfl | exact .inr rfl) (pd_b (b_sorted F) sortF_nx rfl m_sorted (by decide +kernel) (pl_cons (pd_lc [("_law_row", 7)] F (di_walk (pd_ix F (pd_var 1) pd_int)) (by kernel_rfl) (by rfl) (fun _ _ _ _ _ F1 => (dg_name (i := 7) F1 rfl (by first | exact .inl rfl | exact .inr rfl))) (fun _ _ _ _ _ F1 => dts_nil) (fun _ _ _ _ _ F1 => (pd_ix F1 (pd_var 7) pd_int))) pl_nil)))
    (xs_cons (xs_set (i := 3) F rfl (by first | exact .inl rfl | exact .inr rfl) (pd_ix F (pd_var 2) (pd_mod (pd_call F G__law_cell (by decide) rfl (pl_cons (pd_var 0) (pl_cons pd_int pl_nil))) (pd_b (b_len F.hK) lenF_nx rfl m_len (by decide +kernel) (pl_cons (pd_var 2) pl_nil)))))
    (xs_cons (xs_set (i := 4) F rfl (by first | exact .inl rfl | exact .inr rfl) (pd_call F G__law_uses (by decide) rfl (pl_cons (pd_var 1) pl_nil)))
    (xs_cons (xs_if (td_ne F (pd_call F G_needs (by decide) rfl (pl_cons (pd_var 1) (pl_cons (pd_var 3) pl_nil))) (pd_call F G__law_needed (by decide) rfl (pl_cons (pd_var 1) (pl_cons (pd_ix F (pd_var 4) (pd_var 3)) pl_nil))))
    (xs_one (xs_ret pd_bl))
    xs_nil)
    (xs_cons (xs_if (td_ne F (pd_call F G_users (by decide) rfl (pl_cons (pd_var 1) (pl_cons (pd_var 3) pl_nil))) (pd_lc [("_law_one", 8)] F (di_walk (pd_var 2)) (by kernel_rfl) (by rfl) (fun _ _ _ _ _ F1 => (dg_name (i := 8) F1 rfl (by first | exact .inl rfl | exact .inr rfl))) (fun _ _ _ _ _ F1 => (dts_one (td_in F1 (pd_var 3) (pd_call F1 G__law_needed (by decide) rfl (pl_cons (pd_var 1) (pl_cons (pd_ix F1 (pd_var 4) (pd_var 8)) pl_nil)))))) (fun _ _ _ _ _ F1 => (pd_var 8))))
    (xs_one (xs_ret pd_bl))
    xs_nil)
    (xs_cons (xs_set (i := 5) F rfl (by first | exact .inl rfl | exact .inr rfl) (pd_bT (b_tuple F.hK) tupB_nx rfl m_tuple (by decide +kernel) (pl_cons (pd_lc [("_law_k", 9), ("_law_one", 8)] F (di_enum rfl m_enumerate (pd_var 2)) (by kernel_rfl) (by rfl) (fun _ _ _ _ _ F1 => (dg_tup F1 (dgs_cons (dg_name (i := 9) F1 rfl (by first | exact .inl rfl | exact .inr rfl)) (dgs_cons (dg_name (i := 8) F1 rfl (by first | exact .inl rfl | exact .inr rfl)) dgs_nil)))) (fun _ _ _ _ _ F1 => (dts_one (td_eq F1 (pd_call F1 G__law_pick (by decide) rfl (pl_cons (pd_call F1 G__law_seed (by decide) rfl (pl_cons (pd_call F1 G__law_cell (by decide) rfl (pl_cons (pd_var 0) (pl_cons pd_int pl_nil))) (pl_cons (pd_var 9) pl_nil))) (pl_cons pd_int pl_nil))) pd_int))) (fun _ _ _ _ _ F1 => (pd_var 8))) pl_nil)))
    (xs_cons (xs_set (i := 5) F rfl (by first | exact .inl rfl | exact .inr rfl) (pd_or (pd_var 5) (pd_one (pd_tup (pl_cons (pd_var 3) pl_nil)))))
    (xs_cons (xs_if (td_ne F (pd_call F G_only (by decide) rfl (pl_cons (pd_var 1) (pl_cons (pd_var 5) pl_nil))) (pd_call F G__law_only (by decide) rfl (pl_cons (pd_var 1) (pl_cons (pd_var 5) pl_nil))))
    (xs_one (xs_ret pd_bl))
    xs_nil)
    (xs_cons (xs_set (i := 6) F rfl (by first | exact .inl rfl | exact .inr rfl) (pd_ix F (pd_lst (pl_cons (pd_tup pl_nil) (pl_cons (pd_tup (pl_cons pd_str pl_nil)) (pl_cons (pd_tup (pl_cons (pd_var 3) (pl_cons (pd_var 3) pl_nil))) (pl_cons (pd_lst (pl_cons (pd_var 3) pl_nil)) (pl_cons pd_non (pl_cons (pd_var 3) (pl_cons (pd_tup (pl_cons (pd_var 3) (pl_cons pd_int pl_nil))) pl_nil)))))))) (pd_mod (pd_call F G__law_cell (by decide) rfl (pl_cons (pd_var 0) (pl_cons pd_int pl_nil))) pd_int)))
    (xs_cons (xs_if (td_ne F (pd_call F G__law_caught (by decide) rfl (pl_cons pd_int (pl_cons (pd_lst (pl_cons (pd_var 1) (pl_cons (pd_var 6) pl_nil))) pl_nil))) pd_str)
    (xs_one (xs_ret pd_bl))
    xs_nil)
    (xs_cons (xs_set (i := 6) F rfl (by first | exact .inl rfl | exact .inr rfl) (pd_ix F (pd_lst (pl_cons pd_str (pl_cons pd_non (pl_cons pd_str (pl_cons pd_int (pl_cons (pd_tup (pl_cons (pd_var 3) pl_nil)) pl_nil)))))) (pd_mod (pd_call F G__law_cell (by decide) rfl (pl_cons (pd_var 0) (pl_cons pd_int pl_nil))) pd_int)))
    (xs_one (xs_ret (pd_eq F (pd_lc [("_law_which", 10)] F (di_walk (pd_tup (pl_cons pd_int (pl_cons pd_int pl_nil)))) (by kernel_rfl) (by rfl) (fun _ _ _ _ _ F1 => (dg_name (i := 10) F1 rfl (by first | exact .inl rfl | exact .inr rfl))) (fun _ _ _ _ _ F1 => dts_nil) (fun _ _ _ _ _ F1 => (pd_call F1 G__law_caught (by decide) rfl (pl_cons (pd_var 10) (pl_cons (pd_lst (pl_cons (pd_var 1) (pl_cons (pd_var 6) pl_nil))) pl_nil))))) (pd_mul (pd_lst (pl_cons pd_str pl_nil)) pd_int))))))))))))))))
end
namespace Hd
def fn : List He.DefD := [⟨("is_within", none), "is_within", "is_within", defArgs (top 13), defBody (top 13), defScope (top 13), [], []⟩,
  ⟨("is_name", none), "is_name", "is_name", defArgs (top 14), defBody (top 14), defScope (top 14), [], []⟩,
  ⟨("is_row", none), "is_row", "is_row", defArgs (top 15), defBody (top 15), defScope (top 15), [], []⟩,
  ⟨("are_rows", none), "are_rows", "are_rows", defArgs (top 16), defBody (top 16), defScope (top 16), [], []⟩,
  ⟨("are_places", none), "are_places", "are_places", defArgs (top 17), defBody (top 17), defScope (top 17), [], []⟩,
  ⟨("are_late", none), "are_late", "are_late", defArgs (top 18), defBody (top 18), defScope (top 18), [], []⟩,
  ⟨("is_book", none), "is_book", "is_book", defArgs (top 19), defBody (top 19), defScope (top 19), [], []⟩,
  ⟨("look", none), "look", "look", defArgs (top 20), defBody (top 20), defScope (top 20), [], []⟩,
  ⟨("uses_of", none), "uses_of", "uses_of", defArgs (top 21), defBody (top 21), defScope (top 21), [], []⟩,
  ⟨("look_name", none), "look_name", "look_name", defArgs (top 28), defBody (top 28), defScope (top 28), [], []⟩,
  ⟨("needed_by", none), "needed_by", "needed_by", defArgs (top 29), defBody (top 29), defScope (top 29), [], []⟩,
  ⟨("needs", none), "needs", "needs", defArgs (top 30), defBody (top 30), defScope (top 30), [], []⟩,
  ⟨("users", none), "users", "users", defArgs (top 31), defBody (top 31), defScope (top 31), [], []⟩,
  ⟨("only", none), "only", "only", defArgs (top 32), defBody (top 32), defScope (top 32), [], []⟩,
  ⟨("_law_cell", none), "_law_cell", "_law_cell", defArgs (top 64), defBody (top 64), defScope (top 64), [], []⟩,
  ⟨("_law_seed", none), "_law_seed", "_law_seed", defArgs (top 65), defBody (top 65), defScope (top 65), [], []⟩,
  ⟨("_law_pick", none), "_law_pick", "_law_pick", defArgs (top 66), defBody (top 66), defScope (top 66), [], []⟩,
  ⟨("_law_book", none), "_law_book", "_law_book", defArgs (top 67), defBody (top 67), defScope (top 67), [], []⟩,
  ⟨("_law_uses", none), "_law_uses", "_law_uses", defArgs (top 68), defBody (top 68), defScope (top 68), [], []⟩,
  ⟨("_law_needed", none), "_law_needed", "_law_needed", defArgs (top 69), defBody (top 69), defScope (top 69), [], []⟩,
  ⟨("_law_only", none), "_law_only", "_law_only", defArgs (top 70), defBody (top 70), defScope (top 70), [], []⟩,
  ⟨("_law_some_book", none), "_law_some_book", "_law_some_book", defArgs (top 71), defBody (top 71), defScope (top 71), [], []⟩,
  ⟨("_law_called", none), "_law_called", "_law_called", defArgs (top 72), defBody (top 72), defScope (top 72), [], []⟩,
  ⟨("_law_caught", none), "_law_caught", "_law_caught", defArgs (top 74), defBody (top 74), defScope (top 74), [], []⟩,
  ⟨("law", none), "law", "law", defArgs (top 75), defBody (top 75), defScope (top 75), [], []⟩]
def fa : List He.Fa := [.glo "is_within", .glo "is_name", .glo "is_row", .glo "are_rows", .glo "are_places", .glo "are_late", .glo "is_book", .glo "look", .glo "uses_of", .glo "look_name", .glo "needed_by", .glo "needs", .glo "users", .glo "only", .glo "_law_cell", .glo "_law_seed", .glo "_law_pick", .glo "_law_book", .glo "_law_uses", .glo "_law_needed", .glo "_law_only", .glo "_law_some_book", .glo "_law_called", .glo "_law_caught", .glo "law", .free "int", .free "isinstance", .free "bool", .free "str", .free "len", .free "tuple", .free "set", .free "list", .free "sorted", .free "dict", .free "zip", .free "range", .free "enumerate", .str "LETTERS" "abcdefghijklmnopqrstuvwxyz", .int "MOST_NAMES" 8, .int "MOST_FILE" 3, .glo "NoBook", .exc "NoBook", .glo "NoName", .exc "NoName", .glo "NoOrder", .exc "NoOrder", .glo "NoFile", .exc "NoFile", .exm "NoBook" "NoBook" true, .exm "NoBook" "NoName" false, .exm "NoBook" "NoFile" false, .exm "NoBook" "NoOrder" false, .exm "NoName" "NoBook" false, .exm "NoName" "NoName" true, .exm "NoName" "NoFile" false, .exm "NoName" "NoOrder" false]
abbrev Rw : PySem.W.OpenRow := PySem.W.OpenLaw.row PySem.Challenge.rw_latebring_k13_needed
abbrev hk : PySem.W.Hook := He.hookD 4 fa fn
def ob (s : PySem.W.SharedT) : He.AlD := He.obsDG 4 fa fn (HandSHeadRun.getT s)
theorem ob_eq (s : PySem.W.SharedT) : ob s = hk.obs s.abs := He.obsDG_eq (HandSHeadRun.getT_eq s)
def loose0 : List Str := ["_wall", "BringError", "NoBook", "NoName", "NoFile", "NoOrder", "Nothing", "NoUse", "LETTERS", "MOST_NAMES", "MOST_FILE", "is_within", "is_name", "is_row", "are_rows", "are_places", "are_late", "is_book", "look", "uses_of", "file_of", "files", "look_file", "made_in", "early_in", "look_name", "needed_by", "needs", "users", "only"]
def loose1 : List Str := ["Load", "MOST_USES", "Desk", "pairs", "file_web", "reached", "knots_of", "name_knots", "file_knots", "merged", "ways_from", "how_many_orders", "least_order", "ranks", "renamed", "renumbered", "sorted_rows", "look_order", "load_all", "orders_of", "good_orders", "Blamed", "blame", "_law_cell", "_law_seed", "_law_pick", "_law_book", "_law_uses", "_law_needed", "_law_only"]
def loose2 : List Str := ["_law_some_book", "_law_called", "_law_called_then", "_law_caught"]
abbrev loose : List Str := loose0 ++ loose1 ++ loose2
theorem run (w : World) : HandSHeadRun.RunEq Rw (PySem.W.view Rw.prog [75]) hk ob 6000 loose w := by
  intro os
  kernel_rfl
theorem facts {P : Program} {w : World} {K : PySem.W.Frag} {h : Heap} {mg : Str → Option Value} {f : Addr} (X : K.In h) (G : h.Ns mainGlobals mg) (hfa : mg ("law" : Str) = some (.ref f)) (c : He.SaysD fa fn K) :
    ∃ fd : FuncData, (∀ (s : Shared) (v : Value), BindsTo s fd ⟨[v], []⟩ [("_law_script", v)]) ∧ ∀ base : Heap, K.In base → base.Ns mainGlobals mg → FnOk P w K mg base (L2.CX P w) 10 f fd ["_law_script"] (SpP K (He.ga K) F_law) := by
  have m_int := He.free_ok X G (c.fact 25 (f := .free "int") rfl)
  have m_isinstance := He.free_ok X G (c.fact 26 (f := .free "isinstance") rfl)
  have m_bool := He.free_ok X G (c.fact 27 (f := .free "bool") rfl)
  have m_str := He.free_ok X G (c.fact 28 (f := .free "str") rfl)
  have m_len := He.free_ok X G (c.fact 29 (f := .free "len") rfl)
  have m_tuple := He.free_ok X G (c.fact 30 (f := .free "tuple") rfl)
  have m_set := He.free_ok X G (c.fact 31 (f := .free "set") rfl)
  have m_list := He.free_ok X G (c.fact 32 (f := .free "list") rfl)
  have m_sorted := He.free_ok X G (c.fact 33 (f := .free "sorted") rfl)
  have m_dict := He.free_ok X G (c.fact 34 (f := .free "dict") rfl)
  have m_zip := He.free_ok X G (c.fact 35 (f := .free "zip") rfl)
  have m_range := He.free_ok X G (c.fact 36 (f := .free "range") rfl)
  have m_enumerate := He.free_ok X G (c.fact 37 (f := .free "enumerate") rfl)
  obtain ⟨k_LETTERS, m_LETTERS⟩ := He.str_ok X G (c.fact 38 (f := .str "LETTERS" "abcdefghijklmnopqrstuvwxyz") rfl)
  obtain ⟨k_MOST_NAMES, m_MOST_NAMES⟩ := He.int_ok X G (c.fact 39 (f := .int "MOST_NAMES" 8) rfl)
  obtain ⟨k_MOST_FILE, m_MOST_FILE⟩ := He.int_ok X G (c.fact 40 (f := .int "MOST_FILE" 3) rfl)
  have X_NoBook := exc_of X G (c.fact 41 (f := .glo "NoBook") rfl) (c.fact 42 (f := .exc "NoBook") rfl)
  have X_NoName := exc_of X G (c.fact 43 (f := .glo "NoName") rfl) (c.fact 44 (f := .exc "NoName") rfl)
  have X_NoOrder := exc_of X G (c.fact 45 (f := .glo "NoOrder") rfl) (c.fact 46 (f := .exc "NoOrder") rfl)
  have X_NoFile := exc_of X G (c.fact 47 (f := .glo "NoFile") rfl) (c.fact 48 (f := .exc "NoFile") rfl)
  have TB : TabOk K (He.ga K) excTab := (tab_cons (He.exm_ok (c.fact 49 (f := .exm "NoBook" "NoBook" true) rfl)) (tab_cons (He.exm_ok (c.fact 50 (f := .exm "NoBook" "NoName" false) rfl)) (tab_cons (He.exm_ok (c.fact 51 (f := .exm "NoBook" "NoFile" false) rfl)) (tab_cons (He.exm_ok (c.fact 52 (f := .exm "NoBook" "NoOrder" false) rfl)) (tab_cons (He.exm_ok (c.fact 53 (f := .exm "NoName" "NoBook" false) rfl)) (tab_cons (He.exm_ok (c.fact 54 (f := .exm "NoName" "NoName" true) rfl)) (tab_cons (He.exm_ok (c.fact 55 (f := .exm "NoName" "NoFile" false) rfl)) (tab_cons (He.exm_ok (c.fact 56 (f := .exm "NoName" "NoOrder" false) rfl)) tab_nil))))))))
  obtain ⟨fd_is_within, Fu_is_within⟩ := c.def_ 0 (d := fn[0]) rfl
  have g_is_within := He.glo_ok X G (c.fact 0 (f := .glo "is_within") rfl)
  obtain ⟨fd_is_name, Fu_is_name⟩ := c.def_ 1 (d := fn[1]) rfl
  have g_is_name := He.glo_ok X G (c.fact 1 (f := .glo "is_name") rfl)
  obtain ⟨fd_is_row, Fu_is_row⟩ := c.def_ 2 (d := fn[2]) rfl
  have g_is_row := He.glo_ok X G (c.fact 2 (f := .glo "is_row") rfl)
  obtain ⟨fd_are_rows, Fu_are_rows⟩ := c.def_ 3 (d := fn[3]) rfl
  have g_are_rows := He.glo_ok X G (c.fact 3 (f := .glo "are_rows") rfl)
  obtain ⟨fd_are_places, Fu_are_places⟩ := c.def_ 4 (d := fn[4]) rfl
  have g_are_places := He.glo_ok X G (c.fact 4 (f := .glo "are_places") rfl)
  obtain ⟨fd_are_late, Fu_are_late⟩ := c.def_ 5 (d := fn[5]) rfl
  have g_are_late := He.glo_ok X G (c.fact 5 (f := .glo "are_late") rfl)
  obtain ⟨fd_is_book, Fu_is_book⟩ := c.def_ 6 (d := fn[6]) rfl
  have g_is_book := He.glo_ok X G (c.fact 6 (f := .glo "is_book") rfl)
  obtain ⟨fd_look, Fu_look⟩ := c.def_ 7 (d := fn[7]) rfl
  have g_look := He.glo_ok X G (c.fact 7 (f := .glo "look") rfl)
  obtain ⟨fd_uses_of, Fu_uses_of⟩ := c.def_ 8 (d := fn[8]) rfl
  have g_uses_of := He.glo_ok X G (c.fact 8 (f := .glo "uses_of") rfl)
  obtain ⟨fd_look_name, Fu_look_name⟩ := c.def_ 9 (d := fn[9]) rfl
  have g_look_name := He.glo_ok X G (c.fact 9 (f := .glo "look_name") rfl)
  obtain ⟨fd_needed_by, Fu_needed_by⟩ := c.def_ 10 (d := fn[10]) rfl
  have g_needed_by := He.glo_ok X G (c.fact 10 (f := .glo "needed_by") rfl)
  obtain ⟨fd_needs, Fu_needs⟩ := c.def_ 11 (d := fn[11]) rfl
  have g_needs := He.glo_ok X G (c.fact 11 (f := .glo "needs") rfl)
  obtain ⟨fd_users, Fu_users⟩ := c.def_ 12 (d := fn[12]) rfl
  have g_users := He.glo_ok X G (c.fact 12 (f := .glo "users") rfl)
  obtain ⟨fd_only, Fu_only⟩ := c.def_ 13 (d := fn[13]) rfl
  have g_only := He.glo_ok X G (c.fact 13 (f := .glo "only") rfl)
  obtain ⟨fd__law_cell, Fu__law_cell⟩ := c.def_ 14 (d := fn[14]) rfl
  have g__law_cell := He.glo_ok X G (c.fact 14 (f := .glo "_law_cell") rfl)
  obtain ⟨fd__law_seed, Fu__law_seed⟩ := c.def_ 15 (d := fn[15]) rfl
  have g__law_seed := He.glo_ok X G (c.fact 15 (f := .glo "_law_seed") rfl)
  obtain ⟨fd__law_pick, Fu__law_pick⟩ := c.def_ 16 (d := fn[16]) rfl
  have g__law_pick := He.glo_ok X G (c.fact 16 (f := .glo "_law_pick") rfl)
  obtain ⟨fd__law_book, Fu__law_book⟩ := c.def_ 17 (d := fn[17]) rfl
  have g__law_book := He.glo_ok X G (c.fact 17 (f := .glo "_law_book") rfl)
  obtain ⟨fd__law_uses, Fu__law_uses⟩ := c.def_ 18 (d := fn[18]) rfl
  have g__law_uses := He.glo_ok X G (c.fact 18 (f := .glo "_law_uses") rfl)
  obtain ⟨fd__law_needed, Fu__law_needed⟩ := c.def_ 19 (d := fn[19]) rfl
  have g__law_needed := He.glo_ok X G (c.fact 19 (f := .glo "_law_needed") rfl)
  obtain ⟨fd__law_only, Fu__law_only⟩ := c.def_ 20 (d := fn[20]) rfl
  have g__law_only := He.glo_ok X G (c.fact 20 (f := .glo "_law_only") rfl)
  obtain ⟨fd__law_some_book, Fu__law_some_book⟩ := c.def_ 21 (d := fn[21]) rfl
  have g__law_some_book := He.glo_ok X G (c.fact 21 (f := .glo "_law_some_book") rfl)
  obtain ⟨fd__law_called, Fu__law_called⟩ := c.def_ 22 (d := fn[22]) rfl
  have g__law_called := He.glo_ok X G (c.fact 22 (f := .glo "_law_called") rfl)
  obtain ⟨fd__law_caught, Fu__law_caught⟩ := c.def_ 23 (d := fn[23]) rfl
  have g__law_caught := He.glo_ok X G (c.fact 23 (f := .glo "_law_caught") rfl)
  obtain ⟨fd_law, Fu_law⟩ := c.def_ 24 (d := fn[24]) rfl
  have g_law := He.glo_ok X G (c.fact 24 (f := .glo "law") rfl)
  have e := hfa.symm.trans g_law
  cases e
  have b := FunD.bindsA (ps := ["_law_script"]) Fu_law fun _ _ _ _ _ _ us hl => match us, hl with | [_], _ => rfl
  refine ⟨fd_law, fun s v => b s [v] rfl, fun base _ _ => ?_⟩
  have G_is_within := ok_is_within (P := P) (w := w) (base := base) (cls := He.ga K) Fu_is_within g_is_within m_int m_isinstance m_bool
  have G_is_name := ok_is_name (P := P) (w := w) (base := base) (cls := He.ga K) Fu_is_name g_is_name m_str m_isinstance m_len m_LETTERS
  have G_is_row := ok_is_row (P := P) (w := w) (base := base) (cls := He.ga K) Fu_is_row g_is_row m_tuple m_isinstance m_len G_is_name G_is_within
  have G_are_rows := ok_are_rows (P := P) (w := w) (base := base) (cls := He.ga K) Fu_are_rows g_are_rows m_tuple m_isinstance m_len m_set m_MOST_NAMES G_is_row
  have G_are_places := ok_are_places (P := P) (w := w) (base := base) (cls := He.ga K) Fu_are_places g_are_places m_tuple m_isinstance m_len m_MOST_FILE G_is_within
  have G_are_late := ok_are_late (P := P) (w := w) (base := base) (cls := He.ga K) Fu_are_late g_are_late m_tuple m_isinstance m_list m_sorted m_set G_is_name
  have G_is_book := ok_is_book (P := P) (w := w) (base := base) (cls := He.ga K) Fu_is_book g_is_book m_tuple m_isinstance m_len G_are_rows G_are_places G_are_late
  have G_look := ok_look (P := P) (w := w) (base := base) (cls := He.ga K) Fu_look g_look G_is_book X_NoBook
  have G_uses_of := ok_uses_of (P := P) (w := w) (base := base) (cls := He.ga K) Fu_uses_of g_uses_of m_dict
  have G_look_name := ok_look_name (P := P) (w := w) (base := base) (cls := He.ga K) Fu_look_name g_look_name m_str m_isinstance G_look G_uses_of X_NoName
  have G_needed_by := ok_needed_by (P := P) (w := w) (base := base) (cls := He.ga K) Fu_needed_by g_needed_by m_list m_len m_sorted G_uses_of
  have G_needs := ok_needs (P := P) (w := w) (base := base) (cls := He.ga K) Fu_needs g_needs G_look_name G_uses_of G_needed_by
  have G_users := ok_users (P := P) (w := w) (base := base) (cls := He.ga K) Fu_users g_users m_sorted G_look_name G_needed_by
  have G_only := ok_only (P := P) (w := w) (base := base) (cls := He.ga K) Fu_only g_only m_tuple m_isinstance m_str m_list m_sorted m_set m_zip G_look G_uses_of G_needed_by X_NoName
  have G__law_cell := ok__law_cell (P := P) (w := w) (base := base) (cls := He.ga K) Fu__law_cell g__law_cell m_len
  have G__law_seed := ok__law_seed (P := P) (w := w) (base := base) (cls := He.ga K) Fu__law_seed g__law_seed
  have G__law_pick := ok__law_pick (P := P) (w := w) (base := base) (cls := He.ga K) Fu__law_pick g__law_pick
  have G__law_book := ok__law_book (P := P) (w := w) (base := base) (cls := He.ga K) Fu__law_book g__law_book m_range m_enumerate m_len m_tuple m_int m_sorted G__law_seed G__law_pick
  have G__law_uses := ok__law_uses (P := P) (w := w) (base := base) (cls := He.ga K) Fu__law_uses g__law_uses m_dict
  have G__law_needed := ok__law_needed (P := P) (w := w) (base := base) (cls := He.ga K) Fu__law_needed g__law_needed m_range m_len m_list m_sorted G__law_uses
  have G__law_only := ok__law_only (P := P) (w := w) (base := base) (cls := He.ga K) Fu__law_only g__law_only m_zip m_tuple G__law_needed
  have G__law_some_book := ok__law_some_book (P := P) (w := w) (base := base) (cls := He.ga K) Fu__law_some_book g__law_some_book G__law_cell G__law_seed G__law_book
  have G__law_called := ok__law_called (P := P) (w := w) (base := base) (cls := He.ga K) Fu__law_called g__law_called G_needs G_users G_only
  have G__law_caught := ok__law_caught (P := P) (w := w) (base := base) (cls := He.ga K) Fu__law_caught g__law_caught G__law_called X_NoOrder X_NoFile X_NoName X_NoBook TB
  exact ok_law (P := P) (w := w) (base := base) (cls := He.ga K) Fu_law m_sorted m_len m_enumerate m_tuple G__law_some_book G__law_cell G__law_uses G_needs G__law_needed G_users G__law_seed G__law_pick G_only G__law_only G__law_caught
end Hd
end DL
open PySem PySem.W PySem.Calls PyProof.Rows
set_option maxHeartbeats 8000000 in
theorem PySem.Challenge.cw_latebring_k13_needed_holds : PySem.Challenge.rw_latebring_k13_needed.Holds := by
  w_on; o_law
  refine HandSHeadRun.head_any (r := OpenLaw.row PySem.Challenge.rw_latebring_k13_needed) (q := view (OpenLaw.row PySem.Challenge.rw_latebring_k13_needed).prog [75]) (H := DL.Hd.hk) (ob := DL.Hd.ob) (M := 6000) (loose := DL.Hd.loose) (d := HandSHeadRun.topDef (OpenLaw.row PySem.Challenge.rw_latebring_k13_needed).prog 75) (kwd := []) DL.Hd.ob_eq
    (by kernel_rfl) (fun s => by kernel_rfl) DL.Hd.run (by kernel_rfl) (by kernel_rfl) (by kernel_rfl) (by rfl) (by first | assumption | decide +kernel) (by decide +kernel) ⟨rfl, rfl, rfl, rfl, rfl, by decide +kernel⟩ ?hw ?hc
  case hw => w_witness2
  case hc =>
    refine DL.walk_law (l := PySem.Challenge.rw_latebring_k13_needed) (n := 63) (k := 10) (x := "_law_script") (CX := fun w => L2.CX (PySem.Challenge.rw_latebring_k13_needed).prog w) rfl (by decide) (by kernel_rfl) ⟨rfl, by decide, by decide⟩ ?F (fun w => DL.cx_none)
    intro w mg fa h Y G hmg0
    obtain ⟨K, KX, c⟩ := Y
    have hmg : mg ("law" : PySem.Str) = some (.ref fa) := by
      have e : (HandSHeadRun.topDef (OpenLaw.row PySem.Challenge.rw_latebring_k13_needed).prog 75).name = ("law" : PySem.Str) := by kernel_rfl
      rw [← e]
      exact hmg0
    obtain ⟨fd, hb, hF⟩ := DL.Hd.facts (P := (PySem.Challenge.rw_latebring_k13_needed).prog) (w := w) KX G hmg c
    exact ⟨K, fd, DL.SpP K (He.ga K) DL.F_law, KX, hb, DL.law_sp (by decide) DL.main_law, hF⟩
