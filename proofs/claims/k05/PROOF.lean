import PyProof.Rows.All
import Wide.All
import OpenK.AllK
import Wide.FinOn
import HandS.ForMost
import HandS.Flow
import KE.KDictKeyed
import HandS.Style
import HandS.IsInst
import HandS.Exc
import HandS.ExcOwn
import HandS.CallSlots
import HandS.WordsExc
import KE.SortData
import KE.KRevSl
import PyProof.StrOps2
import HandS.Ends
import KE.KDictSum
import KE.KDictCopyH
import HandS.DictComp
import HandS.OwnEq
import PyProof.InstNe
import HandS.Deep
import KE.GoesEnum
import HandS.NestedK
import HandS.ExcInit
import HandS.FStr
import HandS.ExcField
import HandS.ExcIs
import KE.KExcSuper
import KE.KExcIs
import HandS.IterVal
import HandS.OwnIter
import PyProof.CollectWalk
import PyProof.WalksMore
import HandS.Conv
import HandS.Sort
import KE.RegKIsAll
import KE.RegKTryMore
import KE.RegKSuper
import PySem.Challenge.RW_casesandwitnesses_k05_joined_worlds
set_option Elab.async false
set_option linter.all false
set_option maxRecDepth 100000
/-! PD: a layer of data over the hand layer: what stands in the frame and the heap is told as plain data. -/
namespace PD
open PySem PySem.Spec PyProof.Rows L2

/-- what stands around: the written part, the program, the world -/
structure KC where
  K : PySem.W.Frag
  P : Program
  w : World
abbrev kc (X : Cx) : KC := ⟨X.K, X.prog, X.w⟩
/-- data -/
inductive D where
  | non | bl (b : Bool) | int (i : Int) | str (x : Str)
  | tup (xs : List D) | lst (xs : List D)
  | dct (t : Bool) (ks vs : List D) | obj (C : Addr) (ns : List Str) (vs : List D)
deriving Inhabited
mutual
/-- data as a key of a dict -/
def D.nk : D → NestedKey
  | .non => .none
  | .bl b => .num (if b = true then 1 else 0)
  | .int i => .num i
  | .str x => .text x
  | .tup xs => .tup (D.nkL xs)
  | .lst _ => .none
  | .dct _ _ _ => .none
  | .obj _ _ _ => .none
def D.nkL : List D → List NestedKey
  | [] => []
  | x :: xs => D.nk x :: D.nkL xs
end
mutual
def D.keyable : D → Bool
  | .tup xs => D.keyableL xs
  | .lst _ => false
  | .dct _ _ _ => false
  | .obj _ _ _ => false
  | _ => true
def D.keyableL : List D → Bool
  | [] => true
  | x :: xs => D.keyable x && D.keyableL xs
end
def D.isKey : D → Bool
  | .tup xs => D.keyableL xs && decide ((D.nk (.tup xs)).depth ≤ 8)
  | _ => false
def kD : Key → D
  | .inl i => .int i
  | .inr x => .str x
/-- a dict whose keys are tuples, by its entries: key, the key's tuple, value -/
def dctO (P : Program) (w : World) (a : Addr) (xs : List (NestedKey × Addr × V)) : HO := .ext fun h => xs.length ≤ sizeLine ∧ (a == sysModules) = false ∧ ∃ raw : List (NestedKey × Addr × Value),
  Paired (fun (p : NestedKey × Addr × V) (q : NestedKey × Addr × Value) => p.1 = q.1 ∧ p.2.1 = q.2.1 ∧ RelV p.2.2 q.2.2) xs raw ∧ ∃ o es ep, h.get? a = some o ∧ o.ExactDict ∧ o.data = .dict es ep ∧ es.toList = raw.map (entryOfKey (nestedKind P w)) ∧ (raw.map (·.1)).Nodup

mutual
/-- the value v stands for the data d, all of its objects within F -/
inductive Rep (K : KC) (F : Hp) : V → D → Prop
  | non : Rep K F .non .non
  | bl (b : Bool) : Rep K F (.bl b) (.bl b)
  | int (i : Int) : Rep K F (.int i) (.int i)
  | str (x : Str) (h : PyData.strOk x = true) : Rep K F (.str x) (.str x)
  | tup {a : Addr} {vs : List V} {ds : List D} : SqT K.K F a vs → RepL K F vs ds → Rep K F (.ref a) (.tup ds)
  | lst {a : Addr} {vs : List V} {ds : List D} : SqL K.K F a vs → RepL K F vs ds → Rep K F (.ref a) (.lst ds)
  | dctK {a : Addr} {kvs : List (Key × V)} {ks vs : List D} : F a = some (.dK kvs) → ks = kvs.map (fun p => kD p.1) → RepL K F (kvs.map (·.2)) vs → Rep K F (.ref a) (.dct false ks vs)
  | dctN {a : Addr} {xs : List (NestedKey × Addr × V)} {ks vs : List D} : F a = some (dctO K.P K.w a xs) → (∀ k ∈ ks, k.isKey = true) → xs.map (·.1) = ks.map D.nk → RepL K F (xs.map fun x => .ref x.2.1) ks → RepL K F (xs.map (·.2.2)) vs → Rep K F (.ref a) (.dct true ks vs)
  | obj {a dx C : Addr} {fs : List (Str × V)} {ns : List Str} {vs : List D} : F a = some (.ins C dx fs) → fs.map (·.1) = ns → RepL K F (fs.map (·.2)) vs → Rep K F (.ref a) (.obj C ns vs)
inductive RepL (K : KC) (F : Hp) : List V → List D → Prop
  | nil : RepL K F [] []
  | cons {v : V} {vs : List V} {d : D} {ds : List D} : Rep K F v d → RepL K F vs ds → RepL K F (v :: vs) (d :: ds)
end

def Le (F H : Hp) : Prop := ∀ a o, F a = some o → H a = some o
theorem Le.refl (F : Hp) : Le F F := fun _ _ h => h
theorem Le.trans {F G H : Hp} (a : Le F G) (b : Le G H) : Le F H := fun x o h => b x o (a x o h)
theorem Le.seqL {K : KC} {F H : Hp} {a : Addr} {xs : List V} (e : Le F H) (h : SqL K.K F a xs) : SqL K.K H a xs := by
  rcases h with (h | ⟨o, h⟩) | h
  · exact .inl (.inl (e _ _ h))
  · exact .inl (.inr ⟨o, e _ _ h⟩)
  · exact .inr h
theorem Le.seqT {K : KC} {F H : Hp} {a : Addr} {xs : List V} (e : Le F H) (h : SqT K.K F a xs) : SqT K.K H a xs := by
  rcases h with (h | ⟨o, h⟩) | h
  · exact .inl (.inl (e _ _ h))
  · exact .inl (.inr ⟨o, e _ _ h⟩)
  · exact .inr h
mutual
theorem Rep.mono {K : KC} {F G : Hp} (l : Le F G) : ∀ {d : D} {v : V}, Rep K F v d → Rep K G v d
  | .non, _, .non => .non
  | .bl _, _, .bl b => .bl b
  | .int _, _, .int i => .int i
  | .str _, _, .str x h => .str x h
  | .tup _, _, .tup s r => .tup (l.seqT s) (RepL.mono l r)
  | .lst _, _, .lst s r => .lst (l.seqL s) (RepL.mono l r)
  | .dct _ _ _, _, .dctK e h r => .dctK (l _ _ e) h (RepL.mono l r)
  | .dct _ _ _, _, .dctN e h h2 r r2 => .dctN (l _ _ e) h h2 (RepL.mono l r) (RepL.mono l r2)
  | .obj _ _ _, _, .obj e h r => .obj (l _ _ e) h (RepL.mono l r)
theorem RepL.mono {K : KC} {F G : Hp} (l : Le F G) : ∀ {ds : List D} {vs : List V}, RepL K F vs ds → RepL K G vs ds
  | [], _, .nil => .nil
  | _ :: _, _, .cons a b => .cons (Rep.mono l a) (RepL.mono l b)
end
section
variable {K : KC} {F : Hp}
theorem RepL.length : ∀ {vs : List V} {ds : List D}, RepL K F vs ds → vs.length = ds.length
  | _, _, .nil => rfl
  | _, _, .cons _ t => congrArg (· + 1) (RepL.length t)
theorem RepL.get : ∀ {vs : List V} {ds : List D} {i : Nat} {d : D}, RepL K F vs ds → ds[i]? = some d → ∃ v, vs[i]? = some v ∧ Rep K F v d
  | _, _, _, _, .nil, e => by simp at e
  | _, _, 0, _, .cons r _, e => by simp at e; subst e; exact ⟨_, rfl, r⟩
  | _, _, i + 1, d, .cons _ t, e => by
    obtain ⟨v, h1, h2⟩ := RepL.get (i := i) (d := d) t (by simpa using e)
    exact ⟨v, by simpa using h1, h2⟩
theorem RepL.getV : ∀ {vs : List V} {ds : List D} {i : Nat} {v : V}, RepL K F vs ds → vs[i]? = some v → ∃ d, ds[i]? = some d ∧ Rep K F v d
  | _, _, _, _, .nil, e => by simp at e
  | _, _, 0, _, .cons r _, e => by simp at e; subst e; exact ⟨_, rfl, r⟩
  | _, _, i + 1, v, .cons _ t, e => by
    obtain ⟨d, h1, h2⟩ := RepL.getV (i := i) (v := v) t (by simpa using e)
    exact ⟨d, by simpa using h1, h2⟩
theorem RepL.append : ∀ {vs ws : List V} {ds es : List D}, RepL K F vs ds → RepL K F ws es → RepL K F (vs ++ ws) (ds ++ es)
  | _, _, _, _, .nil, s => s
  | _, _, _, _, .cons r t, s => .cons r (RepL.append t s)
theorem RepL.one {v : V} {d : D} (r : Rep K F v d) : RepL K F [v] [d] := .cons r .nil
theorem RepL.take : ∀ {vs : List V} {ds : List D} (n : Nat), RepL K F vs ds → RepL K F (vs.take n) (ds.take n)
  | _, _, 0, _ => .nil
  | _, _, _ + 1, .nil => .nil
  | _, _, n + 1, .cons r t => .cons r (RepL.take n t)
theorem RepL.drop : ∀ {vs : List V} {ds : List D} (n : Nat), RepL K F vs ds → RepL K F (vs.drop n) (ds.drop n)
  | _, _, 0, r => r
  | _, _, _ + 1, .nil => .nil
  | _, _, n + 1, .cons _ t => RepL.drop n t
theorem RepL.reverse {vs : List V} {ds : List D} (h : RepL K F vs ds) : RepL K F vs.reverse ds.reverse := by
  induction vs generalizing ds with
  | nil => cases h; exact .nil
  | cons v vs ih =>
    cases h with
    | cons r t =>
      rw [List.reverse_cons, List.reverse_cons]
      exact RepL.append (ih t) (RepL.one r)
theorem RepL.dropLast {vs : List V} {ds : List D} (h : RepL K F vs ds) : RepL K F vs.dropLast ds.dropLast := by
  rw [List.dropLast_eq_take, List.dropLast_eq_take, h.length]
  exact h.take _
theorem RepL.ints : ∀ {ns : List Int} {vs : List V}, RepL K F vs (ns.map D.int) → vs = ns.map V.int
  | [], _, .nil => rfl
  | _ :: _, _, .cons r t => by cases r; rw [RepL.ints t]; rfl
theorem RepL.bls : ∀ {ns : List Bool} {vs : List V}, RepL K F vs (ns.map D.bl) → vs = ns.map V.bl
  | [], _, .nil => rfl
  | _ :: _, _, .cons r t => by cases r; rw [RepL.bls t]; rfl
theorem RepL.strs : ∀ {ns : List Str} {vs : List V}, RepL K F vs (ns.map D.str) → vs = ns.map V.str
  | [], _, .nil => rfl
  | _ :: _, _, .cons r t => by cases r; rw [RepL.strs t]; rfl
theorem repL_ints : ∀ (ns : List Int), RepL K F (ns.map V.int) (ns.map D.int)
  | [] => .nil
  | _ :: r => .cons (.int _) (repL_ints r)
theorem repL_strs : ∀ (ns : List Str), (∀ x ∈ ns, PyData.strOk x = true) → RepL K F (ns.map V.str) (ns.map D.str)
  | [], _ => .nil
  | x :: r, h => .cons (.str _ (h x (.head _))) (repL_strs r fun y hy => h y (.tail _ hy))
end

/-- what an owned object holds -/
inductive Oc where
  | lst (ds : List D) | dK (ks vs : List D) | dN (ks vs : List D) | ins (C : Addr) (ns : List Str) (vs : List D)
def OcOk (K : KC) (F : Hp) (a : Addr) (ho : HO) : Oc → Prop
  | .lst ds => ∃ vs, ho = .lst vs ∧ RepL K F vs ds
  | .dK ks ds => ∃ kvs, ho = .dK kvs ∧ ks = kvs.map (fun p => kD p.1) ∧ RepL K F (kvs.map (·.2)) ds
  | .dN ks ds => ∃ xs, ho = dctO K.P K.w a xs ∧ (∀ k ∈ ks, k.isKey = true) ∧ xs.map (·.1) = ks.map D.nk ∧ RepL K F (xs.map fun x => .ref x.2.1) ks ∧ RepL K F (xs.map (·.2.2)) ds
  | .ins C ns ds => ∃ dx fs, ho = .ins C dx fs ∧ fs.map (·.1) = ns ∧ RepL K F (fs.map (·.2)) ds
def Oc.d : Oc → D
  | .lst ds => .lst ds
  | .dK ks vs => .dct false ks vs
  | .dN ks vs => .dct true ks vs
  | .ins C ns vs => .obj C ns vs
theorem OcOk.mono {K : KC} {F G : Hp} {a : Addr} {ho : HO} {c : Oc} (l : Le F G) (h : OcOk K F a ho c) : OcOk K G a ho c := by
  cases c with
  | lst ds => obtain ⟨vs, e, r⟩ := h; exact ⟨vs, e, r.mono l⟩
  | dK ks ds => obtain ⟨kvs, e, e2, r⟩ := h; exact ⟨kvs, e, e2, r.mono l⟩
  | dN ks ds => obtain ⟨xs, e, e2, e3, r, r2⟩ := h; exact ⟨xs, e, e2, e3, r.mono l, r2.mono l⟩
  | ins C ns ds => obtain ⟨dx, fs, e, e2, r⟩ := h; exact ⟨dx, fs, e, e2, r.mono l⟩
theorem OcOk.rep {K : KC} {F : Hp} {ho : HO} {c : Oc} {a : Addr} (h : OcOk K F a ho c) (e : F a = some ho) : Rep K F (.ref a) c.d := by
  cases c with
  | lst ds => obtain ⟨vs, rfl, r⟩ := h; exact .lst (SqL.of e) r
  | dK ks ds => obtain ⟨kvs, rfl, e2, r⟩ := h; exact .dctK e e2 r
  | dN ks ds => obtain ⟨xs, rfl, e2, e3, r, r2⟩ := h; exact .dctN e e2 e3 r r2
  | ins C ns ds => obtain ⟨dx, fs, rfl, e2, r⟩ := h; exact .obj e e2 r

/-- an exception: its class, its own attributes -/
structure Xd where
  C : Addr
  ns : List Str
  vs : List D
def XRep (K : KC) (F : Hp) (cls : Value) (d : Option Addr) (x : Xd) : Prop :=
  cls = .ref x.C ∧ (x.ns = [] ∨ ∃ dd fs, d = some dd ∧ F dd = some (.xd fs) ∧ ∀ (i : Nat) n v, x.ns[i]? = some n → x.vs[i]? = some v → ∃ u, fs.lookup n = some u ∧ Rep K F u v)
theorem XRep.mono {K : KC} {F G : Hp} {cls : Value} {d : Option Addr} {x : Xd} (l : Le F G) (h : XRep K F cls d x) : XRep K G cls d x :=
  ⟨h.1, h.2.imp id fun ⟨dd, fs, e, h1, h2⟩ => ⟨dd, fs, e, l _ _ h1, fun i n v e1 e2 => by
    obtain ⟨u, k1, k2⟩ := h2 i n v e1 e2
    exact ⟨u, k1, k2.mono l⟩⟩⟩
/-- the attributes of a caught exception at d -/
def XAt (K : KC) (F : Hp) (d : Option Addr) (x : Xd) : Prop := x.ns = [] ∨ ∃ dd fs, d = some dd ∧ F dd = some (.xd fs) ∧ ∀ (i : Nat) n v, x.ns[i]? = some n → x.vs[i]? = some v → ∃ u, fs.lookup n = some u ∧ Rep K F u v
theorem XAt.mono {K : KC} {F G : Hp} {d : Option Addr} {x : Xd} (l : Le F G) (h : XAt K F d x) : XAt K G d x := h.imp id fun ⟨dd, fs, e, h1, h2⟩ => ⟨dd, fs, e, l _ _ h1, fun i n v e1 e2 => by
    obtain ⟨u, k1, k2⟩ := h2 i n v e1 e2
    exact ⟨u, k1, k2.mono l⟩⟩
/-- a slot: nothing is known; data; an object that this slot alone refers to (by its address, where it is known) -/
inductive Sl where
  | any | dat (d : D) | own (o : Option Addr) (c : Oc) | err (a : Addr) (d : Option Addr) (x : Xd)
abbrev Env' := List Sl
def SlOk (K : KC) (F H : Hp) (o : Option V) : Sl → Prop
  | .any => True
  | .dat d => ∃ v, o = some v ∧ Rep K F v d
  | .own ao c => ∃ a ho, o = some (.ref a) ∧ (∀ b, ao = some b → b = a) ∧ H a = some ho ∧ F a = none ∧ OcOk K F a ho c
  | .err a d x => o = some (.ref a) ∧ XAt K F d x
def Owned (Γ : Env') (σ : L2.St) (a : Addr) : Prop := ∃ (i : Nat) (ao : Option Addr) (c : Oc), Γ[i]? = some (.own ao c) ∧ σ[i]? = some (some (.ref a))
structure Holds (K : KC) (F : Hp) (Γ : Env') (σ : L2.St) (H : Hp) : Prop where
  le : Le F H
  len : Γ.length = σ.length
  sl : ∀ (i : Nat) (s : Sl), Γ[i]? = some s → SlOk K F H (σ[i]?.join) s
  dis : ∀ (i j : Nat) (ai aj : Option Addr) (ci cj : Oc) (a : Addr), Γ[i]? = some (.own ai ci) → Γ[j]? = some (.own aj cj) → σ[i]? = some (some (.ref a)) → σ[j]? = some (some (.ref a)) → i = j

/-- what may have changed: all but what O owns is as it was, and what F did not have it does not have now, but for new objects and what O owned -/
structure Ext (O : Addr → Prop) (F H F' H' : Hp) : Prop where
  mono : Le F F'
  keep : ∀ a o, H a = some o → F a = none → ¬ O a → H' a = some o ∧ F' a = none
  there : ∀ a o, H a = some o → ∃ o', H' a = some o'
theorem Ext.refl {O : Addr → Prop} {F H : Hp} : Ext O F H F H := ⟨Le.refl F, fun _ _ h f _ => ⟨h, f⟩, fun _ _ h => ⟨_, h⟩⟩
theorem Ext.trans {O O1 : Addr → Prop} {F H F1 H1 F2 H2 : Hp} (a : Ext O F H F1 H1) (b : Ext O1 F1 H1 F2 H2) (s : ∀ x, O1 x → O x ∨ H x = none) : Ext O F H F2 H2 where
  mono := a.mono.trans b.mono
  keep := fun x o h f n => by
    obtain ⟨h1, f1⟩ := a.keep x o h f n
    refine b.keep x o h1 f1 fun z => ?_
    rcases s x z with z | z
    · exact n z
    · rw [h] at z; cases z
  there := fun x o h => by
    obtain ⟨o1, h1⟩ := a.there x o h
    exact b.there x o1 h1
theorem Ext.fresh {O : Addr → Prop} {F H F' H' : Hp} (a : Ext O F H F' H') {x : Addr} (h : H' x = none) : H x = none := by
  cases q : H x with
  | none => rfl
  | some o => obtain ⟨o', e⟩ := a.there x o q; rw [h] at e; cases e

structure Post (K : KC) (Γ : Env') (σ : L2.St) (F H : Hp) (Γ' : Env') (σ' : L2.St) (F' H' : Hp) : Prop where
  ext : Ext (Owned Γ σ) F H F' H'
  ok : Holds K F' Γ' σ' H'
  sub : ∀ a, Owned Γ' σ' a → Owned Γ σ a ∨ H a = none
section
variable {K : KC} {Γ Γ1 Γ2 : Env'} {σ σ1 σ2 : L2.St} {F H F1 H1 F2 H2 : Hp}
theorem Post.refl (h : Holds K F Γ σ H) : Post K Γ σ F H Γ σ F H := ⟨.refl, h, fun _ h => .inl h⟩
theorem Post.trans (a : Post K Γ σ F H Γ1 σ1 F1 H1) (b : Post K Γ1 σ1 F1 H1 Γ2 σ2 F2 H2) : Post K Γ σ F H Γ2 σ2 F2 H2 :=
  ⟨a.ext.trans b.ext a.sub, b.ok, fun x hx => by
    rcases b.sub x hx with h | h
    · exact a.sub x h
    · exact .inr (a.ext.fresh h)⟩
end

/-- a result: data; a new object that nothing else refers to; the object of the slot i -/
inductive Rv where
  | dat (d : D) | own (c : Oc) | bor (i : Nat)
/-- A: where a new object may lie -/
def RvOk (K : KC) (F : Hp) (Γ : Env') (σ : L2.St) (H : Hp) (A : Addr → Prop) (v : V) : Rv → Prop
  | .dat d => Rep K F v d
  | .own c => ∃ a ho, v = .ref a ∧ H a = some ho ∧ F a = none ∧ OcOk K F a ho c ∧ ¬ Owned Γ σ a ∧ A a
  | .bor i => σ[i]? = some (some v)
theorem RvOk.later {K : KC} {Γ Γ2 : Env'} {σ : L2.St} {F H F2 H2 : Hp} {A B : Addr → Prop} {v : V} {r : Rv} (h : RvOk K F Γ σ H A v r) (p : Post K Γ σ F H Γ2 σ F2 H2) (hA : ∀ a, A a → B a) : RvOk K F2 Γ2 σ H2 B v r := by
  cases r with
  | dat d => exact Rep.mono p.ext.mono h
  | own c =>
    obtain ⟨a, ho, e, h1, h2, h3, h4, h5⟩ := h
    obtain ⟨k1, k2⟩ := p.ext.keep a ho h1 h2 h4
    refine ⟨a, ho, e, k1, k2, h3.mono p.ext.mono, fun z => ?_, hA a h5⟩
    rcases p.sub a z with z | z
    · exact h4 z
    · rw [h1] at z; cases z
  | bor i => exact h

/-- the readings -/
def NewAt (Γ : Env') (σ : L2.St) (H : Hp) (a : Addr) : Prop := Owned Γ σ a ∨ H a = none
def tEV (K : KC) (Γ : Env') (r : Rv) (Γ' : Env') : TE := fun σ H Q => ∃ F, Holds K F Γ σ H ∧ ∀ F' H' v, Post K Γ σ F H Γ' σ F' H' → RvOk K F' Γ' σ H' (NewAt Γ σ H) v r → Q v H'
def tTV (K : KC) (Γ : Env') (b : Bool) (Γ' : Env') : TT := fun σ H Q => ∃ F, Holds K F Γ σ H ∧ ∀ F' H', Post K Γ σ F H Γ' σ F' H' → Q b H'
def tAV (K : KC) (Γ : Env') (rs : List Rv) (Γ' : Env') : TA := fun σ H Q => ∃ F, Holds K F Γ σ H ∧ ∀ F' H' vs, Post K Γ σ F H Γ' σ F' H' → Paired (fun v r => RvOk K F' Γ' σ H' (NewAt Γ σ H) v r) vs rs → Q vs H'
/-- e, evaluated where Γ holds, gives r, and Γ' holds then -/
def EV (X : Cx) (Γ : Env') (e : Expr) (r : Rv) (Γ' : Env') : Prop := PE X e (tEV (kc X) Γ r Γ')
def TV (X : Cx) (Γ : Env') (e : Expr) (b : Bool) (Γ' : Env') : Prop := PT X e (tTV (kc X) Γ b Γ')
def AV (X : Cx) (Γ : Env') (es : List Expr) (rs : List Rv) (Γ' : Env') : Prop := PA X es (tAV (kc X) Γ rs Γ')
theorem PE.weak {X : Cx} {e : Expr} {t t' : TE} (h : PE X e t) (w : ∀ σ H Q, t' σ H Q → t σ H Q) : PE X e t' := ⟨fun pins s σ H Q I q => h.run pins s σ H Q I (w σ H Q q)⟩
theorem PT.weak {X : Cx} {e : Expr} {t t' : TT} (h : PT X e t) (w : ∀ σ H Q, t' σ H Q → t σ H Q) : PT X e t' := ⟨fun pins s σ H Q I q => h.run pins s σ H Q I (w σ H Q q)⟩
theorem PA.weak {X : Cx} {e : List Expr} {t t' : TA} (h : PA X e t) (w : ∀ σ H Q, t' σ H Q → t σ H Q) : PA X e t' := ⟨fun pos pins s σ H Q I q => h.run pos pins s σ H Q I (w σ H Q q)⟩
theorem PS.weak {X : Cx} {e : Stmt} {t t' : TS} (h : PS X e t) (w : ∀ D σ H, t' D σ H → t D σ H) : PS X e t' := ⟨fun pins s σ H D I q => h.run pins s σ H D I (w D σ H q)⟩
theorem PSs.weak {X : Cx} {e : List Stmt} {t t' : TS} (h : PSs X e t) (w : ∀ D σ H, t' D σ H → t D σ H) : PSs X e t' := ⟨fun pins s σ H D I q => h.run pins s σ H D I (w D σ H q)⟩
end PD
namespace PD
open PySem PySem.Spec PyProof.Rows L2
/-! ### heap steps -/
section
variable {K : KC} {Γ Γ1 Γ2 : Env'} {σ σ1 σ2 : L2.St} {F H F1 H1 F2 H2 : Hp} {a p : Addr} {ho : HO} {c : Oc}
theorem Holds.slot (h : Holds K F Γ σ H) {i : Nat} {s : Sl} (e : Γ[i]? = some s) : SlOk K F H (σ[i]?.join) s := h.sl i s e
theorem join_some {o : Option (Option V)} {v : V} (h : o.join = some v) : o = some (some v) := by
  cases o with
  | none => cases h
  | some x => exact congrArg some h
theorem Holds.dat (h : Holds K F Γ σ H) {i : Nat} {d : D} (e : Γ[i]? = some (.dat d)) : ∃ v, σ[i]? = some (some v) ∧ Rep K F v d := by
  obtain ⟨v, h1, h2⟩ := h.slot e
  exact ⟨v, join_some h1, h2⟩
theorem Holds.own (h : Holds K F Γ σ H) {i : Nat} {ao : Option Addr} (e : Γ[i]? = some (.own ao c)) : ∃ a ho, σ[i]? = some (some (.ref a)) ∧ (∀ b, ao = some b → b = a) ∧ H a = some ho ∧ F a = none ∧ OcOk K F a ho c := by
  obtain ⟨a, ho, h1, h2⟩ := h.slot e
  exact ⟨a, ho, join_some h1, h2⟩
theorem SlOk.mono {o : Option V} {s : Sl} (h : SlOk K F H o s) (l : Le F F1) (k : ∀ a ho, H a = some ho → F a = none → s ≠ .any → H1 a = some ho ∧ F1 a = none) : SlOk K F1 H1 o s := by
  cases s with
  | any => trivial
  | dat d => obtain ⟨v, e, r⟩ := h; exact ⟨v, e, r.mono l⟩
  | own ao c =>
    obtain ⟨a, ho, e, b, h1, h2, h3⟩ := h
    obtain ⟨k1, k2⟩ := k a ho h1 h2 (fun z => nomatch z)
    exact ⟨a, ho, e, b, k1, k2, h3.mono l⟩
  | err a d x => exact ⟨h.1, h.2.mono l⟩
/-- a new object, not within F -/
theorem Post.new (h : Holds K F Γ σ H) (n : H p = none) (o : HO) : Post K Γ σ F H Γ σ F (upd H p o) := by
  have nf : F p = none := by
    cases q : F p with
    | none => rfl
    | some u => have := h.le p u q; rw [n] at this; cases this
  refine ⟨⟨Le.refl F, fun b u hb fb _ => ⟨by rw [upd_ne (ne_of_none hb n)]; exact hb, fb⟩, fun b u hb => ⟨u, by rw [upd_ne (ne_of_none hb n)]; exact hb⟩⟩, ⟨fun b u fb => ?_, h.len, fun i s e => ?_, h.dis⟩, fun b hb => .inl hb⟩
  · have hb := h.le b u fb
    rw [upd_ne (ne_of_none hb n)]; exact hb
  · exact (h.sl i s e).mono (Le.refl F) fun b u hb fb _ => ⟨by rw [upd_ne (ne_of_none hb n)]; exact hb, fb⟩
theorem Holds.notOwned (h : Holds K F Γ σ H) (n : H p = none) : ¬ Owned Γ σ p := by
  rintro ⟨i, ao, c, e1, e2⟩
  obtain ⟨a, ho, e3, _, e4, _⟩ := h.own e1
  rw [e2] at e3; cases e3
  rw [n] at e4; cases e4
theorem Holds.free (h : Holds K F Γ σ H) (n : H p = none) : F p = none := by
  cases q : F p with
  | none => rfl
  | some u => have := h.le p u q; rw [n] at this; cases this
/-- an object that nothing owns goes into F -/
theorem Post.freeze (h : Holds K F Γ σ H) (e : H p = some ho) (nf : F p = none) (no : ¬ Owned Γ σ p) (A : Addr → Prop) : Le F (upd F p ho) ∧ Holds K (upd F p ho) Γ σ H := by
  have l : Le F (upd F p ho) := fun b u fb => by rw [upd_ne (ne_of_none fb nf)]; exact fb
  refine ⟨l, ⟨fun b u fb => ?_, h.len, fun i s e' => ?_, h.dis⟩⟩
  · by_cases hb : b = p
    · subst hb; rw [upd_same] at fb; cases fb; exact e
    · rw [upd_ne hb] at fb; exact h.le b u fb
  · have q := h.sl i s e'
    cases s with
    | any => trivial
    | dat d => obtain ⟨v, e1, r⟩ := q; exact ⟨v, e1, r.mono l⟩
    | own ao c =>
      obtain ⟨a, u, e1, b, h1, h2, h3⟩ := q
      refine ⟨a, u, e1, b, h1, ?_, h3.mono l⟩
      have ne : a ≠ p := fun z => no (by subst z; exact ⟨i, ao, c, e', join_some e1⟩)
      rw [upd_ne ne]; exact h2
    | err a d x => exact ⟨q.1, q.2.mono l⟩
/-- a new object within F -/
theorem Post.newF (h : Holds K F Γ σ H) (n : H p = none) (o : HO) : Post K Γ σ F H Γ σ (upd F p o) (upd H p o) := by
  have P1 := Post.new h n o
  have nf := h.free n
  obtain ⟨l, h2⟩ := Post.freeze P1.ok upd_same nf (h.notOwned n) (fun _ => True)
  refine ⟨⟨l, fun b u hb fb hO => ?_, P1.ext.there⟩, h2, fun b hb => .inl hb⟩
  obtain ⟨k1, k2⟩ := P1.ext.keep b u hb fb hO
  exact ⟨k1, by rw [upd_ne (ne_of_none hb n)]; exact fb⟩
/-- the object of a slot is written -/
theorem Post.write (h : Holds K F Γ σ H) {i : Nat} {ao : Option Addr} (e : Γ[i]? = some (.own ao c)) (es : σ[i]? = some (some (.ref a))) {c' : Oc} {o : HO} (ok : OcOk K F a o c') :
    Post K Γ σ F H (Γ.set i (.own ao c')) σ F (upd H a o) := by
  obtain ⟨a', ho, e1, e2, e3, e4, _⟩ := h.own e
  rw [es] at e1; cases e1
  have hi : i < Γ.length := (List.getElem?_eq_some_iff.mp e).1
  have ow : Owned Γ σ a := ⟨i, ao, c, e, es⟩
  have fne : ∀ b u, F b = some u → b ≠ a := fun b u fb z => by subst z; rw [e4] at fb; cases fb
  refine ⟨⟨Le.refl F, fun b u hb fb hO => ⟨?_, fb⟩, fun b u hb => ?_⟩, ⟨fun b u fb => ?_, by rw [List.length_set]; exact h.len, fun j s ej => ?_, fun j k aj ak cj ck b ej ek sj sk => ?_⟩, fun b hb => .inl ?_⟩
  · rw [upd_ne (fun z => hO (by subst z; exact ow))]; exact hb
  · by_cases z : b = a
    · subst z; exact ⟨o, upd_same⟩
    · exact ⟨u, by rw [upd_ne z]; exact hb⟩
  · rw [upd_ne (fne b u fb)]; exact h.le b u fb
  · by_cases z : j = i
    · subst z
      rw [List.getElem?_set_self hi] at ej
      cases ej
      exact ⟨a, o, by rw [es]; rfl, e2, upd_same, e4, ok⟩
    · rw [List.getElem?_set_ne (Ne.symm z)] at ej
      have q := h.sl j s ej
      cases s with
      | any => trivial
      | dat d => exact q
      | own aj cj =>
        obtain ⟨a2, u, f1, f2, f3, f4, f5⟩ := q
        refine ⟨a2, u, f1, f2, ?_, f4, f5⟩
        rw [upd_ne (fun y => z ?_)]
        · exact f3
        · subst y
          exact h.dis j i aj ao cj c a2 ej e (join_some f1) es
      | err a d x => exact q
  · have up : ∀ (m : Nat) (am : Option Addr) (cm : Oc), (Γ.set i (.own ao c'))[m]? = some (.own am cm) → ∃ am' cm', Γ[m]? = some (.own am' cm') := fun m am cm em => by
      by_cases z : m = i
      · subst z; exact ⟨_, _, e⟩
      · rw [List.getElem?_set_ne (Ne.symm z)] at em; exact ⟨_, _, em⟩
    obtain ⟨_, _, ej'⟩ := up j aj cj ej
    obtain ⟨_, _, ek'⟩ := up k ak ck ek
    exact h.dis j k _ _ _ _ b ej' ek' sj sk
  · obtain ⟨j, aj, cj, ej, sj⟩ := hb
    by_cases z : j = i
    · subst z; rw [es] at sj; cases sj; exact ow
    · rw [List.getElem?_set_ne (Ne.symm z)] at ej
      exact ⟨j, aj, cj, ej, sj⟩
/-- what is known of the slots may be forgotten; an owned object goes into F -/
theorem Holds.getD (h : Holds K F Γ σ H) {i : Nat} (hi : i < Γ.length) : ∃ o, σ[i]? = some o := by
  rw [h.len] at hi
  exact ⟨σ[i], List.getElem?_eq_getElem hi⟩
theorem Post.slotFreeze (h : Holds K F Γ σ H) {i : Nat} {ao : Option Addr} (e : Γ[i]? = some (.own ao c)) : ∃ F', Post K Γ σ F H (Γ.set i (.dat c.d)) σ F' H := by
  obtain ⟨a, ho, e1, e2, e3, e4, e5⟩ := h.own e
  have hi : i < Γ.length := (List.getElem?_eq_some_iff.mp e).1
  have l : Le F (upd F a ho) := fun b u fb => by rw [upd_ne (ne_of_none fb e4)]; exact fb
  have ow : Owned Γ σ a := ⟨i, ao, c, e, e1⟩
  refine ⟨upd F a ho, ⟨l, fun b u hb fb hO => ⟨hb, ?_⟩, fun b u hb => ⟨u, hb⟩⟩, ⟨fun b u fb => ?_, by rw [List.length_set]; exact h.len, fun j s ej => ?_, fun j k aj ak cj ck b ej ek sj sk => ?_⟩, fun b hb => .inl ?_⟩
  · rw [upd_ne (fun z => hO (by subst z; exact ow))]; exact fb
  · by_cases hb : b = a
    · subst hb; rw [upd_same] at fb; cases fb; exact e3
    · rw [upd_ne hb] at fb; exact h.le b u fb
  · by_cases z : j = i
    · subst z
      rw [List.getElem?_set_self hi] at ej
      cases ej
      exact ⟨.ref a, by rw [e1]; rfl, (e5.mono l).rep upd_same⟩
    · rw [List.getElem?_set_ne (Ne.symm z)] at ej
      have q := h.sl j s ej
      cases s with
      | any => trivial
      | dat d => obtain ⟨v, e1, r⟩ := q; exact ⟨v, e1, r.mono l⟩
      | own aj cj =>
        obtain ⟨a2, u, f1, f2, f3, f4, f5⟩ := q
        refine ⟨a2, u, f1, f2, f3, ?_, f5.mono l⟩
        rw [upd_ne (fun y => z ?_)]
        · exact f4
        · subst y
          exact h.dis j i aj ao cj c a2 ej e (join_some f1) e1
      | err a d x => exact ⟨q.1, q.2.mono l⟩
  · have up : ∀ (m : Nat) (am : Option Addr) (cm : Oc), (Γ.set i (.dat c.d))[m]? = some (.own am cm) → m ≠ i ∧ Γ[m]? = some (.own am cm) := fun m am cm em => by
      by_cases z : m = i
      · subst z; rw [List.getElem?_set_self hi] at em; cases em
      · rw [List.getElem?_set_ne (Ne.symm z)] at em; exact ⟨z, em⟩
    exact h.dis j k _ _ _ _ b (up j aj cj ej).2 (up k ak ck ek).2 sj sk
  · obtain ⟨j, aj, cj, ej, sj⟩ := hb
    by_cases z : j = i
    · subst z; rw [List.getElem?_set_self hi] at ej; cases ej
    · rw [List.getElem?_set_ne (Ne.symm z)] at ej
      exact ⟨j, aj, cj, ej, sj⟩
/-- a slot is stored -/
theorem Post.store (h : Holds K F Γ σ H) {i : Nat} {v : V} {s : Sl} (ok : SlOk K F H (some v) s) (new : ∀ a ao c, s = .own ao c → v = .ref a → ¬ Owned Γ σ a) (at' : ∀ a ao c, s = .own ao c → v = .ref a → Owned Γ σ a ∨ H1 a = none) :
    Holds K F (Γ.set i s) (σ.set i (some v)) H ∧ ∀ a, Owned (Γ.set i s) (σ.set i (some v)) a → Owned Γ σ a ∨ H1 a = none := by
  have low : ∀ (j : Nat) (aj : Option Addr) (cj : Oc) (b : Addr), (Γ.set i s)[j]? = some (.own aj cj) → (σ.set i (some v))[j]? = some (some (.ref b)) → (j = i ∧ s = .own aj cj ∧ v = .ref b) ∨ (j ≠ i ∧ Γ[j]? = some (.own aj cj) ∧ σ[j]? = some (some (.ref b))) := fun j aj cj b ej sj => by
    by_cases z : j = i
    · subst z
      have hj : j < Γ.length := by have := (List.getElem?_eq_some_iff.mp ej).1; rwa [List.length_set] at this
      have hj2 : j < σ.length := by rw [← h.len]; exact hj
      rw [List.getElem?_set_self hj] at ej
      rw [List.getElem?_set_self hj2] at sj
      cases ej; cases sj
      exact .inl ⟨rfl, rfl, rfl⟩
    · rw [List.getElem?_set_ne (Ne.symm z)] at ej sj
      exact .inr ⟨z, ej, sj⟩
  refine ⟨⟨h.le, by rw [List.length_set, List.length_set]; exact h.len, fun j t ej => ?_, fun j k aj ak cj ck b ej ek sj sk => ?_⟩, fun b hb => ?_⟩
  · by_cases z : j = i
    · subst z
      have hj : j < Γ.length := by have := (List.getElem?_eq_some_iff.mp ej).1; rwa [List.length_set] at this
      have hj2 : j < σ.length := by rw [← h.len]; exact hj
      rw [List.getElem?_set_self hj] at ej
      cases ej
      rw [List.getElem?_set_self hj2]
      exact ok
    · rw [List.getElem?_set_ne (Ne.symm z)] at ej
      rw [List.getElem?_set_ne (Ne.symm z)]
      exact h.sl j t ej
  · rcases low j aj cj b ej sj with ⟨z1, s1, v1⟩ | ⟨z1, s1, v1⟩ <;> rcases low k ak ck b ek sk with ⟨z2, s2, v2⟩ | ⟨z2, s2, v2⟩
    · rw [z1, z2]
    · exact absurd ⟨k, ak, ck, s2, v2⟩ (new b aj cj s1 v1)
    · exact absurd ⟨j, aj, cj, s1, v1⟩ (new b ak ck s2 v2)
    · exact h.dis j k aj ak cj ck b s1 s2 v1 v2
  · obtain ⟨j, aj, cj, ej, sj⟩ := hb
    rcases low j aj cj b ej sj with ⟨z1, s1, v1⟩ | ⟨z1, s1, v1⟩
    · exact at' b aj cj s1 v1
    · exact .inl ⟨j, aj, cj, s1, v1⟩
/-- what is known is forgotten -/
def Weak (Γ Γ' : Env') : Prop := Γ.length = Γ'.length ∧ ∀ (i : Nat) (s : Sl), Γ'[i]? = some s → s = .any ∨ Γ[i]? = some s
theorem Holds.weak (h : Holds K F Γ σ H) (w : Weak Γ Γ1) : Holds K F Γ1 σ H := by
  refine ⟨h.le, w.1.symm.trans h.len, fun i s e => ?_, fun i j ai aj ci cj a ei ej si sj => ?_⟩
  · rcases w.2 i s e with rfl | q
    · trivial
    · exact h.sl i s q
  · rcases w.2 i _ ei with q | q
    · cases q
    · rcases w.2 j _ ej with q' | q'
      · cases q'
      · exact h.dis i j ai aj ci cj a q q' si sj
theorem Owned.weak (w : Weak Γ Γ1) (h : Owned Γ1 σ a) : Owned Γ σ a := by
  obtain ⟨i, ao, c, e, s⟩ := h
  rcases w.2 i _ e with q | q
  · cases q
  · exact ⟨i, ao, c, q, s⟩
theorem Post.weak (p : Post K Γ σ F H Γ1 σ1 F1 H1) (w : Weak Γ1 Γ2) : Post K Γ σ F H Γ2 σ1 F1 H1 := ⟨p.ext, p.ok.weak w, fun a h => p.sub a (h.weak w)⟩
end
end PD
namespace PD
open PySem PySem.Spec PyProof.Rows L2
/-! ### expressions -/
section
variable {X : Cx} {Γ Γ1 Γ2 Γ3 : Env'} {e a b c : Expr} {pos : Pos} {r ra rb rc : Rv} {d : D}
theorem EV.of {t : TE} (h : PE X e t) (w : ∀ σ H Q, tEV (kc X) Γ r Γ1 σ H Q → t σ H Q) : EV X Γ e r Γ1 := PE.weak h w
/-- a value that needs no object -/
theorem EV.const {v : V} (h : PE X e (tC v)) (hr : ∀ F, Rep (kc X) F v d) : EV X Γ e (.dat d) Γ :=
  EV.of h fun σ H Q ⟨F, hH, q⟩ => q F H v (.refl hH) (hr F)
theorem ev_int {i : Int} {j} : EV X Γ (.Constant (.int i) j pos) (.dat (.int i)) Γ := EV.const pe_int fun F => .int i
theorem ev_bl {i : Bool} {j} : EV X Γ (.Constant (.bool i) j pos) (.dat (.bl i)) Γ := EV.const pe_bl fun F => .bl i
theorem ev_non {j} : EV X Γ (.Constant .none j pos) (.dat .non) Γ := EV.const pe_non fun F => .non
theorem ev_str {x : Str} {j} (hx : PyData.strOk x = true := by decide +kernel) : EV X Γ (.Constant (.str x) j pos) (.dat (.str x)) Γ := EV.const pe_str fun F => .str x hx
theorem ev_var (i : Nat) {x : Str} (h : Γ[i]? = some (.dat d)) (p : PE X (.Name x pos) (tVar i)) : EV X Γ (.Name x pos) (.dat d) Γ :=
  EV.of p fun σ H Q ⟨F, hH, q⟩ => by
    obtain ⟨v, e1, r1⟩ := hH.dat h
    exact ⟨v, e1, q F H v (.refl hH) r1⟩
theorem ev_bor (i : Nat) {x : Str} {ao : Option Addr} {oc : Oc} (h : Γ[i]? = some (.own ao oc)) (p : PE X (.Name x pos) (tVar i)) : EV X Γ (.Name x pos) (.bor i) Γ :=
  EV.of p fun σ H Q ⟨F, hH, q⟩ => by
    obtain ⟨a, ho, e1, _⟩ := hH.own h
    exact ⟨.ref a, e1, q F H _ (.refl hH) e1⟩
/-- a new object goes into the data -/
theorem EV.fz {oc : Oc} (h : EV X Γ e (.own oc) Γ1) : EV X Γ e (.dat oc.d) Γ1 :=
  PE.weak h fun σ H Q ⟨F, hH, q⟩ => ⟨F, hH, fun F' H' v p ⟨x, ho, ev, h1, h2, h3, h4, h5⟩ => by
    subst ev
    obtain ⟨l, hf⟩ := Post.freeze p.ok h1 h2 h4 (fun _ => True)
    refine q (upd F' x ho) H' _ ⟨⟨p.ext.mono.trans l, fun y u hy fy no => ?_, p.ext.there⟩, hf, p.sub⟩ ((h3.mono l).rep upd_same)
    obtain ⟨k1, k2⟩ := p.ext.keep y u hy fy no
    refine ⟨k1, ?_⟩
    have ne : y ≠ x := fun z => by
      subst z
      rcases h5 with z | z
      · exact no z
      · rw [hy] at z; cases z
    rw [upd_ne ne]; exact k2⟩
/-- the object of a slot goes into the data -/
theorem EV.fzv {i : Nat} {ao : Option Addr} {oc : Oc} (h : EV X Γ e (.bor i) Γ1) (hi : Γ1[i]? = some (.own ao oc)) : EV X Γ e (.dat oc.d) (Γ1.set i (.dat oc.d)) :=
  PE.weak h fun σ H Q ⟨F, hH, q⟩ => ⟨F, hH, fun F' H' v p hv => by
    obtain ⟨F2, p2⟩ := Post.slotFreeze p.ok hi
    have hlt : i < Γ1.length := (List.getElem?_eq_some_iff.mp hi).1
    obtain ⟨w, e1, r1⟩ := p2.ok.dat (i := i) (d := oc.d) (List.getElem?_set_self hlt)
    have hv : σ[i]? = some (some v) := hv
    rw [hv] at e1; cases e1
    exact q F2 H' v (p.trans p2) r1⟩
theorem EV.weakΓ (h : EV X Γ e r Γ1) (w : Weak Γ1 Γ2) (nb : ∀ i, r = .bor i → True) : EV X Γ e r Γ2 :=
  PE.weak h fun σ H Q ⟨F, hH, q⟩ => ⟨F, hH, fun F' H' v p hv => q F' H' v (p.weak w) (by
    cases r with
    | dat d => exact hv
    | own oc => obtain ⟨x, ho, e1, h1, h2, h3, h4, h5⟩ := hv; exact ⟨x, ho, e1, h1, h2, h3, fun z => h4 (z.weak w), h5⟩
    | bor i => exact hv)⟩
/-- of a value alone: a bool, an int, a text, None -/
def D.flat : D → Bool
  | .non => true | .bl _ => true | .int _ => true | .str _ => true | _ => false
theorem Rep.flat {K : KC} {F G : Hp} {v : V} (hf : d.flat = true) (h : Rep K F v d) : Rep K G v d := by
  cases h with
  | non => exact .non
  | bl b => exact .bl b
  | int i => exact .int i
  | str x h => exact .str x h
  | tup _ _ => cases hf
  | lst _ _ => cases hf
  | dctK _ _ _ => cases hf
  | dctN _ _ _ _ _ => cases hf
  | obj _ _ _ => cases hf
/-- all that is owned is lent to an expression that hands back a flat value -/
def frz : Sl → Sl
  | .own _ oc => .dat oc.d
  | s => s
theorem Holds.frz {K : KC} {F H : Hp} {σ : L2.St} (h : Holds K F Γ σ H) : Holds K H (Γ.map PD.frz) σ H := by
  have no : ∀ (m : Nat) (am : Option Addr) (cm : Oc), (Γ.map PD.frz)[m]? ≠ some (.own am cm) := fun m am cm em => by
    rw [List.getElem?_map] at em
    cases q : Γ[m]? with
    | none => rw [q] at em; cases em
    | some s => rw [q] at em; cases s <;> cases em
  refine ⟨Le.refl H, by rw [List.length_map]; exact h.len, fun i s e => ?_, fun i j ai aj ci cj a ei ej si sj => absurd ei (no i ai ci)⟩
  rw [List.getElem?_map] at e
  cases q : Γ[i]? with
  | none => rw [q] at e; cases e
  | some t =>
    rw [q] at e
    cases e
    have z := h.sl i t q
    cases t with
    | any => trivial
    | dat d => obtain ⟨v, e1, r⟩ := z; exact ⟨v, e1, r.mono h.le⟩
    | own ao oc =>
      obtain ⟨x, ho, e1, e2, h1, h2, h3⟩ := z
      exact ⟨.ref x, e1, (h3.mono h.le).rep h1⟩
    | err a d x => exact ⟨z.1, z.2.mono h.le⟩
theorem Post.lent {K : KC} {F H F' H' : Hp} {σ : L2.St} (h : Holds K F Γ σ H) (p : Post K (Γ.map frz) σ H H (Γ.map frz) σ F' H') : Post K Γ σ F H Γ σ F H' := by
  have k : Le H H' := p.ext.mono.trans p.ok.le
  refine ⟨⟨Le.refl F, fun a o e f _ => ⟨k a o e, f⟩, fun a o e => ⟨o, k a o e⟩⟩, ⟨h.le.trans k, h.len, fun i s e => ?_, h.dis⟩, fun a z => .inl z⟩
  exact (h.sl i s e).mono (Le.refl F) fun a o e f _ => ⟨k a o e, f⟩
theorem EV.lend (h : EV X (Γ.map frz) e (.dat d) (Γ.map frz)) (hf : d.flat = true) : EV X Γ e (.dat d) Γ :=
  PE.weak h fun σ H Q ⟨F, hH, q⟩ => ⟨H, hH.frz, fun F' H' v p hv => q F H' v (p.lent hH) (Rep.flat hf hv)⟩
theorem TV.lend {k : Bool} (h : TV X (Γ.map frz) e k (Γ.map frz)) : TV X Γ e k Γ :=
  PT.weak h fun σ H Q ⟨F, hH, q⟩ => ⟨H, hH.frz, fun F' H' p => q F H' (p.lent hH)⟩

/-! ### operators -/
/-- an operation on results: what its rule asks holds -/
def Op2 (K : KC) (Γ : Env') (ra rb rv : Rv) (r : R2) : Prop := ∀ (F : Hp) (σ : L2.St) (H : Hp) (A : Addr → Prop) (x y : V) (Q : VK), Holds K F Γ σ H → RvOk K F Γ σ H A x ra → RvOk K F Γ σ H A y rb →
  (∀ F' H' v, Post K Γ σ F H Γ σ F' H' → RvOk K F' Γ σ H' (NewAt Γ σ H) v rv → Q v H') → r x y H Q
theorem RvOk.at {K : KC} {F H : Hp} {σ : L2.St} {A B : Addr → Prop} {v : V} (h : RvOk K F Γ σ H A v r) (w : ∀ a, A a → B a) : RvOk K F Γ σ H B v r := by
  cases r with
  | dat d => exact h
  | own oc => obtain ⟨x, ho, e1, h1, h2, h3, h4, h5⟩ := h; exact ⟨x, ho, e1, h1, h2, h3, h4, w x h5⟩
  | bor i => exact h
theorem NewAt.back {K : KC} {F H F1 H1 : Hp} {σ σ1 : L2.St} {a : Addr} (p : Post K Γ σ F H Γ1 σ1 F1 H1) (h : NewAt Γ1 σ1 H1 a) : NewAt Γ σ H a := by
  rcases h with h | h
  · exact p.sub a h
  · exact .inr (p.ext.fresh h)
theorem op2_run {K : KC} {ta tb : TE} {t : R2} {rv : Rv} (ha : ∀ σ H Q, tEV K Γ ra Γ1 σ H Q → ta σ H Q) (hb : ∀ σ H Q, tEV K Γ1 rb Γ2 σ H Q → tb σ H Q) (ho : Op2 K Γ2 ra rb rv t) (σ : L2.St) (H : Hp) (Q : VK) (h : tEV K Γ rv Γ2 σ H Q) : tOp t ta tb σ H Q := by
  obtain ⟨F, hH, q⟩ := h
  refine ha σ H _ ⟨F, hH, fun F1 H1 x p1 hx => ?_⟩
  refine hb σ H1 _ ⟨F1, p1.ok, fun F2 H2 y p2 hy => ?_⟩
  have hx2 := hx.later p2 (B := fun _ => True) (fun _ _ => trivial)
  refine ho F2 σ H2 (fun _ => True) x y Q p2.ok hx2 (hy.at fun _ _ => trivial) fun F3 H3 v p3 hv => ?_
  have p := (p1.trans p2).trans p3
  exact q F3 H3 v p (hv.at fun a z => NewAt.back (p1.trans p2) z)
theorem ev_op {op : Operator} {t : R2} {rv : Rv} (ho : OpR X (binaryOp op) t) (h : Op2 (kc X) Γ2 ra rb rv t) (ha : EV X Γ a ra Γ1) (hb : EV X Γ1 b rb Γ2) : EV X Γ (.BinOp a op b pos) rv Γ2 :=
  PE.weak (pe_op ho ha hb) (op2_run (fun _ _ _ h => h) (fun _ _ _ h => h) h)
theorem ev_cmp {op : CmpOp} {t : R2} {rv : Rv} (ho : OpR X (compareOp op) t) (hm : behindInMarks op b = false) (h : Op2 (kc X) Γ2 ra rb rv t) (ha : EV X Γ a ra Γ1) (hb : EV X Γ1 b rb Γ2) : EV X Γ (.Compare a [op] [b] pos) rv Γ2 :=
  PE.weak (pe_cmpR ho ha hb hm) (op2_run (fun _ _ _ h => h) (fun _ _ _ h => h) h)
theorem tTest_run {K : KC} {t : TE} {k : Bool} (ht : ∀ σ H Q, tEV K Γ (.dat (.bl k)) Γ1 σ H Q → t σ H Q) (σ : L2.St) (H : Hp) (Q : Bool → Hp → Prop) (h : tTV K Γ k Γ1 σ H Q) : tTest t σ H Q := by
  obtain ⟨F, hH, q⟩ := h
  refine ht σ H _ ⟨F, hH, fun F1 H1 x p1 hx => ?_⟩
  cases hx
  exact ⟨k, rfl, q F1 H1 p1⟩
theorem tv_cmp {op : CmpOp} {t : R2} {k : Bool} (ho : OpR X (compareOp op) t) (hm : behindInMarks op b = false) (h : Op2 (kc X) Γ2 ra rb (.dat (.bl k)) t) (ha : EV X Γ a ra Γ1) (hb : EV X Γ1 b rb Γ2) : TV X Γ (.Compare a [op] [b] pos) k Γ2 :=
  PT.weak (pt_cmpR ho ha hb hm) (tTest_run (op2_run (fun _ _ _ h => h) (fun _ _ _ h => h) h))
theorem tv_val {k : Bool} (h : EV X Γ e (.dat (.bl k)) Γ1) (he : ∀ whole, isTrue e X.env whole = (do let v ← whole; standAt e.pos; holding [v] (truthy v)) := by intro _; rfl) : TV X Γ e k Γ1 :=
  PT.weak (pt_val h he) (tTest_run (fun _ _ _ h => h))

/-- ints -/
theorem o2I {K : KC} {C : Int → Int → Prop} {g : Int → Int → D} {gv : Int → Int → V} {i j : Int} (hg : ∀ F, Rep K F (gv i j) (g i j)) (hc : C i j) : Op2 K Γ (.dat (.int i)) (.dat (.int j)) (.dat (g i j)) (rI C gv) :=
  fun F σ H A x y Q hH hx hy q => by
    cases hx; cases hy
    exact ⟨i, j, rfl, rfl, hc, q F H _ (.refl hH) (hg F)⟩
theorem o2I0 {K : KC} {g : Int → Int → D} {gv : Int → Int → V} {i j : Int} (hg : ∀ F, Rep K F (gv i j) (g i j)) : Op2 K Γ (.dat (.int i)) (.dat (.int j)) (.dat (g i j)) (rI0 gv) :=
  fun F σ H A x y Q hH hx hy q => by
    cases hx; cases hy
    exact ⟨i, j, rfl, rfl, q F H _ (.refl hH) (hg F)⟩
variable {i j : Int}
theorem ev_add (ha : EV X Γ a (.dat (.int i)) Γ1) (hb : EV X Γ1 b (.dat (.int j)) Γ2) : EV X Γ (.BinOp a .Add b pos) (.dat (.int (i + j))) Γ2 := ev_op op_add (o2I0 (g := fun i j => .int (i + j)) fun F => .int _) ha hb
theorem ev_sub (ha : EV X Γ a (.dat (.int i)) Γ1) (hb : EV X Γ1 b (.dat (.int j)) Γ2) : EV X Γ (.BinOp a .Sub b pos) (.dat (.int (i - j))) Γ2 := ev_op op_sub (o2I0 (g := fun i j => .int (i - j)) fun F => .int _) ha hb
theorem ev_mul (hc : CMul i j) (ha : EV X Γ a (.dat (.int i)) Γ1) (hb : EV X Γ1 b (.dat (.int j)) Γ2) : EV X Γ (.BinOp a .Mult b pos) (.dat (.int (i * j))) Γ2 := ev_op op_mul (o2I (g := fun i j => .int (i * j)) (fun F => .int _) hc) ha hb
theorem ev_fdiv (hc : CDiv i j) (ha : EV X Γ a (.dat (.int i)) Γ1) (hb : EV X Γ1 b (.dat (.int j)) Γ2) : EV X Γ (.BinOp a .FloorDiv b pos) (.dat (.int (i / j))) Γ2 := ev_op op_fdiv (o2I (g := fun i j => .int (i / j)) (fun F => .int _) hc) ha hb
theorem ev_mod (hc : 0 < j) (ha : EV X Γ a (.dat (.int i)) Γ1) (hb : EV X Γ1 b (.dat (.int j)) Γ2) : EV X Γ (.BinOp a .Mod b pos) (.dat (.int (i % j))) Γ2 := ev_op op_mod (o2I (g := fun i j => .int (i % j)) (fun F => .int _) hc) ha hb
theorem ev_pow (hc : CPow i j) (ha : EV X Γ a (.dat (.int i)) Γ1) (hb : EV X Γ1 b (.dat (.int j)) Γ2) : EV X Γ (.BinOp a .Pow b pos) (.dat (.int (i ^ j.toNat))) Γ2 := ev_op op_pow (o2I (g := fun i j => .int (i ^ j.toNat)) (fun F => .int _) hc) ha hb
theorem ev_lt (ha : EV X Γ a (.dat (.int i)) Γ1) (hb : EV X Γ1 b (.dat (.int j)) Γ2) : EV X Γ (.Compare a [.Lt] [b] pos) (.dat (.bl (decide (i < j)))) Γ2 := ev_cmp op_lt (nomark _) (o2I0 (g := fun i j => .bl (decide (i < j))) fun F => .bl _) ha hb
theorem ev_le (ha : EV X Γ a (.dat (.int i)) Γ1) (hb : EV X Γ1 b (.dat (.int j)) Γ2) : EV X Γ (.Compare a [.LtE] [b] pos) (.dat (.bl (decide (i ≤ j)))) Γ2 := ev_cmp op_le (nomark _) (o2I0 (g := fun i j => .bl (decide (i ≤ j))) fun F => .bl _) ha hb
theorem ev_gt (ha : EV X Γ a (.dat (.int i)) Γ1) (hb : EV X Γ1 b (.dat (.int j)) Γ2) : EV X Γ (.Compare a [.Gt] [b] pos) (.dat (.bl (decide (j < i)))) Γ2 := ev_cmp op_gt (nomark _) (o2I0 (g := fun i j => .bl (decide (j < i))) fun F => .bl _) ha hb
theorem ev_ge (ha : EV X Γ a (.dat (.int i)) Γ1) (hb : EV X Γ1 b (.dat (.int j)) Γ2) : EV X Γ (.Compare a [.GtE] [b] pos) (.dat (.bl (decide (j ≤ i)))) Γ2 := ev_cmp op_ge (nomark _) (o2I0 (g := fun i j => .bl (decide (j ≤ i))) fun F => .bl _) ha hb
theorem tv_lt (ha : EV X Γ a (.dat (.int i)) Γ1) (hb : EV X Γ1 b (.dat (.int j)) Γ2) : TV X Γ (.Compare a [.Lt] [b] pos) (decide (i < j)) Γ2 := tv_cmp op_lt (nomark _) (o2I0 (g := fun i j => .bl (decide (i < j))) fun F => .bl _) ha hb
theorem tv_le (ha : EV X Γ a (.dat (.int i)) Γ1) (hb : EV X Γ1 b (.dat (.int j)) Γ2) : TV X Γ (.Compare a [.LtE] [b] pos) (decide (i ≤ j)) Γ2 := tv_cmp op_le (nomark _) (o2I0 (g := fun i j => .bl (decide (i ≤ j))) fun F => .bl _) ha hb
theorem tv_gt (ha : EV X Γ a (.dat (.int i)) Γ1) (hb : EV X Γ1 b (.dat (.int j)) Γ2) : TV X Γ (.Compare a [.Gt] [b] pos) (decide (j < i)) Γ2 := tv_cmp op_gt (nomark _) (o2I0 (g := fun i j => .bl (decide (j < i))) fun F => .bl _) ha hb
theorem tv_ge (ha : EV X Γ a (.dat (.int i)) Γ1) (hb : EV X Γ1 b (.dat (.int j)) Γ2) : TV X Γ (.Compare a [.GtE] [b] pos) (decide (j ≤ i)) Γ2 := tv_cmp op_ge (nomark _) (o2I0 (g := fun i j => .bl (decide (j ≤ i))) fun F => .bl _) ha hb
/-- == of flat values: the same kind, or None and another -/
def D.v? : D → V
  | .bl b => .bl b | .int i => .int i | .str x => .str x | _ => .non
theorem Rep.v? {K : KC} {F : Hp} {v : V} {d : D} (hf : d.flat = true) (h : Rep K F v d) : v = d.v? := by
  cases h with
  | non => rfl
  | bl b => rfl
  | int i => rfl
  | str x => rfl
  | tup _ _ => cases hf
  | lst _ _ => cases hf
  | dctK _ _ _ => cases hf
  | dctN _ _ _ _ _ => cases hf
  | obj _ _ _ => cases hf
def feq (d e : D) : Bool := decide (d.v? = e.v?)
theorem o2eq {K : KC} {d e : D} (h1 : d.flat = true) (h2 : e.flat = true) (hs : scal d.v? e.v? = true) : Op2 K Γ (.dat d) (.dat e) (.dat (.bl (feq d e))) rEq :=
  fun F σ H A x y Q hH hx hy q => by
    have e1 := Rep.v? h1 hx
    have e2 := Rep.v? h2 hy
    subst e1 e2
    exact ⟨hs, q F H _ (.refl hH) (.bl _)⟩
theorem o2ne {K : KC} {d e : D} (h1 : d.flat = true) (h2 : e.flat = true) (hs : scal d.v? e.v? = true) : Op2 K Γ (.dat d) (.dat e) (.dat (.bl (!feq d e))) rNe :=
  fun F σ H A x y Q hH hx hy q => by
    have e1 := Rep.v? h1 hx
    have e2 := Rep.v? h2 hy
    subst e1 e2
    exact ⟨hs, q F H _ (.refl hH) (.bl _)⟩
theorem feq_int (i j : Int) : feq (.int i) (.int j) = decide (i = j) := by unfold feq; exact decide_eq_decide.mpr ⟨fun h => V.int.inj h, fun h => congrArg V.int h⟩
theorem feq_bl (i j : Bool) : feq (.bl i) (.bl j) = decide (i = j) := by unfold feq; exact decide_eq_decide.mpr ⟨fun h => V.bl.inj h, fun h => congrArg V.bl h⟩
theorem feq_str (i j : Str) : feq (.str i) (.str j) = decide (i = j) := by unfold feq; exact decide_eq_decide.mpr ⟨fun h => V.str.inj h, fun h => congrArg V.str h⟩
theorem ev_eqI (ha : EV X Γ a (.dat (.int i)) Γ1) (hb : EV X Γ1 b (.dat (.int j)) Γ2) : EV X Γ (.Compare a [.Eq] [b] pos) (.dat (.bl (decide (i = j)))) Γ2 := by rw [← feq_int]; exact ev_cmp op_eq (nomark _) (o2eq rfl rfl rfl) ha hb
theorem tv_eqI (ha : EV X Γ a (.dat (.int i)) Γ1) (hb : EV X Γ1 b (.dat (.int j)) Γ2) : TV X Γ (.Compare a [.Eq] [b] pos) (decide (i = j)) Γ2 := by rw [← feq_int]; exact tv_cmp op_eq (nomark _) (o2eq rfl rfl rfl) ha hb
theorem ev_neI (ha : EV X Γ a (.dat (.int i)) Γ1) (hb : EV X Γ1 b (.dat (.int j)) Γ2) : EV X Γ (.Compare a [.NotEq] [b] pos) (.dat (.bl (!decide (i = j)))) Γ2 := by rw [← feq_int]; exact ev_cmp op_ne (nomark _) (o2ne rfl rfl rfl) ha hb
theorem tv_neI (ha : EV X Γ a (.dat (.int i)) Γ1) (hb : EV X Γ1 b (.dat (.int j)) Γ2) : TV X Γ (.Compare a [.NotEq] [b] pos) (!decide (i = j)) Γ2 := by rw [← feq_int]; exact tv_cmp op_ne (nomark _) (o2ne rfl rfl rfl) ha hb
theorem ev_eqS {i j : Str} (ha : EV X Γ a (.dat (.str i)) Γ1) (hb : EV X Γ1 b (.dat (.str j)) Γ2) : EV X Γ (.Compare a [.Eq] [b] pos) (.dat (.bl (decide (i = j)))) Γ2 := by rw [← feq_str]; exact ev_cmp op_eq (nomark _) (o2eq rfl rfl rfl) ha hb
theorem tv_eqS {i j : Str} (ha : EV X Γ a (.dat (.str i)) Γ1) (hb : EV X Γ1 b (.dat (.str j)) Γ2) : TV X Γ (.Compare a [.Eq] [b] pos) (decide (i = j)) Γ2 := by rw [← feq_str]; exact tv_cmp op_eq (nomark _) (o2eq rfl rfl rfl) ha hb
theorem ev_neS {i j : Str} (ha : EV X Γ a (.dat (.str i)) Γ1) (hb : EV X Γ1 b (.dat (.str j)) Γ2) : EV X Γ (.Compare a [.NotEq] [b] pos) (.dat (.bl (!decide (i = j)))) Γ2 := by rw [← feq_str]; exact ev_cmp op_ne (nomark _) (o2ne rfl rfl rfl) ha hb
theorem tv_neS {i j : Str} (ha : EV X Γ a (.dat (.str i)) Γ1) (hb : EV X Γ1 b (.dat (.str j)) Γ2) : TV X Γ (.Compare a [.NotEq] [b] pos) (!decide (i = j)) Γ2 := by rw [← feq_str]; exact tv_cmp op_ne (nomark _) (o2ne rfl rfl rfl) ha hb
theorem ev_eqB {i j : Bool} (ha : EV X Γ a (.dat (.bl i)) Γ1) (hb : EV X Γ1 b (.dat (.bl j)) Γ2) : EV X Γ (.Compare a [.Eq] [b] pos) (.dat (.bl (decide (i = j)))) Γ2 := by rw [← feq_bl]; exact ev_cmp op_eq (nomark _) (o2eq rfl rfl rfl) ha hb
theorem tv_eqB {i j : Bool} (ha : EV X Γ a (.dat (.bl i)) Γ1) (hb : EV X Γ1 b (.dat (.bl j)) Γ2) : TV X Γ (.Compare a [.Eq] [b] pos) (decide (i = j)) Γ2 := by rw [← feq_bl]; exact tv_cmp op_eq (nomark _) (o2eq rfl rfl rfl) ha hb
theorem ev_neB {i j : Bool} (ha : EV X Γ a (.dat (.bl i)) Γ1) (hb : EV X Γ1 b (.dat (.bl j)) Γ2) : EV X Γ (.Compare a [.NotEq] [b] pos) (.dat (.bl (!decide (i = j)))) Γ2 := by rw [← feq_bl]; exact ev_cmp op_ne (nomark _) (o2ne rfl rfl rfl) ha hb
theorem tv_neB {i j : Bool} (ha : EV X Γ a (.dat (.bl i)) Γ1) (hb : EV X Γ1 b (.dat (.bl j)) Γ2) : TV X Γ (.Compare a [.NotEq] [b] pos) (!decide (i = j)) Γ2 := by rw [← feq_bl]; exact tv_cmp op_ne (nomark _) (o2ne rfl rfl rfl) ha hb
/-- is None, is not None -/
def D.isNon : D → Bool
  | .non => true | _ => false
theorem Rep.isNon {K : KC} {F : Hp} {v : V} {d : D} (h : Rep K F v d) : decide (v = .non) = d.isNon := by
  cases h <;> simp [D.isNon]
theorem RvOk.isNon {K : KC} {F H : Hp} {σ : L2.St} {A : Addr → Prop} {v : V} (hH : Holds K F Γ σ H) (h : RvOk K F Γ σ H A v r) (k : Bool) (hk : match r with | .dat d => d.isNon = k | .own _ => k = false | .bor i => ∃ ao oc, Γ[i]? = some (.own ao oc) ∧ k = false) : decide (v = .non) = k := by
  cases r with
  | dat d => rw [Rep.isNon h]; exact hk
  | own oc => obtain ⟨x, ho, e1, _⟩ := h; subst e1; subst hk; rfl
  | bor i =>
    obtain ⟨ao, oc, e, rfl⟩ := hk
    obtain ⟨x, ho, e1, _⟩ := hH.own e
    have h : σ[i]? = some (some v) := h
    rw [h] at e1; cases e1; rfl
theorem ev_isN {j} {pos'} (ha : EV X Γ a (.dat d) Γ1) : EV X Γ (.Compare a [.Is] [.Constant .none j pos'] pos) (.dat (.bl d.isNon)) Γ1 :=
  PE.weak (pe_cmpR op_isN ha pe_non (nomark _)) fun σ H Q ⟨F, hH, q⟩ => ⟨F, hH, fun F' H' v p hv => ⟨rfl, by rw [Rep.isNon hv]; exact q F' H' _ p (.bl _)⟩⟩
theorem ev_notN {j} {pos'} (ha : EV X Γ a (.dat d) Γ1) : EV X Γ (.Compare a [.IsNot] [.Constant .none j pos'] pos) (.dat (.bl (!d.isNon))) Γ1 :=
  PE.weak (pe_cmpR op_notN ha pe_non (nomark _)) fun σ H Q ⟨F, hH, q⟩ => ⟨F, hH, fun F' H' v p hv => ⟨rfl, by rw [Rep.isNon hv]; exact q F' H' _ p (.bl _)⟩⟩
theorem tv_isN {j} {pos'} (ha : EV X Γ a (.dat d) Γ1) : TV X Γ (.Compare a [.Is] [.Constant .none j pos'] pos) d.isNon Γ1 :=
  PT.weak (pt_cmpR op_isN ha pe_non (nomark _)) fun σ H Q ⟨F, hH, q⟩ => ⟨F, hH, fun F' H' v p hv => ⟨rfl, _, rfl, by rw [Rep.isNon hv]; exact q F' H' p⟩⟩
theorem tv_notN {j} {pos'} (ha : EV X Γ a (.dat d) Γ1) : TV X Γ (.Compare a [.IsNot] [.Constant .none j pos'] pos) (!d.isNon) Γ1 :=
  PT.weak (pt_cmpR op_notN ha pe_non (nomark _)) fun σ H Q ⟨F, hH, q⟩ => ⟨F, hH, fun F' H' v p hv => ⟨rfl, _, rfl, by rw [Rep.isNon hv]; exact q F' H' p⟩⟩

/-! ### tests -/
def WV (X : Cx) (Γ : Env') (e : Expr) (b : Bool) (Γ' : Env') : Prop := PW X e (tTV (kc X) Γ b Γ')
theorem PW.weak {X : Cx} {e : Expr} {t t' : TT} (h : PW X e t) (w : ∀ σ H Q, t' σ H Q → t σ H Q) : PW X e t' := ⟨fun wh pins s σ H Q I q => h.run wh pins s σ H Q I (w σ H Q q)⟩
variable {k l : Bool} {rest : List Expr}
theorem WV.tv (h : WV X Γ e k Γ1) : TV X Γ e k Γ1 := PW.pt h
theorem wv_and1 (h : TV X Γ a k Γ1) : WV X Γ (.BoolOp .And [a] pos) k Γ1 := pw_and1 h
theorem wv_or1 (h : TV X Γ a k Γ1) : WV X Γ (.BoolOp .Or [a] pos) k Γ1 := pw_or1 h
theorem pw_no : PW X e (fun _ _ _ => False) := ⟨fun _ _ _ _ _ _ _ h => h.elim⟩
theorem pe_no : PE X e (fun _ _ _ => False) := ⟨fun _ _ _ _ _ _ h => h.elim⟩
/-- the second one is asked where the first one is true, and changes nothing that is owned -/
theorem wv_and (ha : TV X Γ a k Γ1) (hb : k = true → WV X Γ1 (.BoolOp .And (b :: rest) pos) l Γ1) : WV X Γ (.BoolOp .And (a :: b :: rest) pos) (k && l) Γ1 := by
  cases k with
  | true => exact PW.weak (pw_and ha (hb rfl)) fun σ H Q ⟨F, hH, q⟩ => ⟨F, hH, fun F' H' p => iteT ⟨F', p.ok, fun F2 H2 p2 => q F2 H2 (p.trans p2)⟩⟩
  | false => exact PW.weak (pw_and ha pw_no) fun σ H Q ⟨F, hH, q⟩ => ⟨F, hH, fun F' H' p => iteF (q F' H' p)⟩
theorem wv_or (ha : TV X Γ a k Γ1) (hb : k = false → WV X Γ1 (.BoolOp .Or (b :: rest) pos) l Γ1) : WV X Γ (.BoolOp .Or (a :: b :: rest) pos) (k || l) Γ1 := by
  cases k with
  | false => exact PW.weak (pw_or ha (hb rfl)) fun σ H Q ⟨F, hH, q⟩ => ⟨F, hH, fun F' H' p => iteF ⟨F', p.ok, fun F2 H2 p2 => q F2 H2 (p.trans p2)⟩⟩
  | true => exact PW.weak (pw_or ha pw_no) fun σ H Q ⟨F, hH, q⟩ => ⟨F, hH, fun F' H' p => iteT (q F' H' p)⟩
theorem tv_not (ha : TV X Γ a k Γ1) : TV X Γ (.UnaryOp .Not a pos) (!k) Γ1 := PT.weak (pt_not ha) fun σ H Q ⟨F, hH, q⟩ => ⟨F, hH, fun F' H' p => q F' H' p⟩
theorem ev_one {op} (h : EV X Γ a r Γ1) : EV X Γ (.BoolOp op [a] pos) r Γ1 := pe_one h
theorem ev_and (ha : EV X Γ a (.dat (.bl k)) Γ1) (hb : k = true → EV X Γ1 (.BoolOp .And (b :: rest) pos) (.dat (.bl l)) Γ1) : EV X Γ (.BoolOp .And (a :: b :: rest) pos) (.dat (.bl (k && l))) Γ1 := by
  cases k with
  | true => exact PE.weak (pe_and ha (hb rfl)) fun σ H Q ⟨F, hH, q⟩ => ⟨F, hH, fun F' H' v p hv => by cases hv; exact ⟨true, rfl, iteT ⟨F', p.ok, fun F2 H2 v2 p2 hv2 => q F2 H2 v2 (p.trans p2) hv2⟩⟩⟩
  | false => exact PE.weak (pe_and ha pe_no) fun σ H Q ⟨F, hH, q⟩ => ⟨F, hH, fun F' H' v p hv => by cases hv; exact ⟨false, rfl, iteF (q F' H' _ p (.bl _))⟩⟩
theorem ev_or (ha : EV X Γ a (.dat (.bl k)) Γ1) (hb : k = false → EV X Γ1 (.BoolOp .Or (b :: rest) pos) (.dat (.bl l)) Γ1) : EV X Γ (.BoolOp .Or (a :: b :: rest) pos) (.dat (.bl (k || l))) Γ1 := by
  cases k with
  | false => exact PE.weak (pe_or ha (hb rfl)) fun σ H Q ⟨F, hH, q⟩ => ⟨F, hH, fun F' H' v p hv => by cases hv; exact ⟨false, rfl, iteF ⟨F', p.ok, fun F2 H2 v2 p2 hv2 => q F2 H2 v2 (p.trans p2) hv2⟩⟩⟩
  | true => exact PE.weak (pe_or ha pe_no) fun σ H Q ⟨F, hH, q⟩ => ⟨F, hH, fun F' H' v p hv => by cases hv; exact ⟨true, rfl, iteT (q F' H' _ p (.bl _))⟩⟩
theorem ev_not (ha : EV X Γ a (.dat (.bl k)) Γ1) : EV X Γ (.UnaryOp .Not a pos) (.dat (.bl (!k))) Γ1 := PE.weak (pe_not ha) fun σ H Q ⟨F, hH, q⟩ => ⟨F, hH, fun F' H' v p hv => by cases hv; exact ⟨k, rfl, q F' H' _ p (.bl _)⟩⟩
/-- a if c else b, by cases on the test -/
theorem ev_ifT (hc : TV X Γ c true Γ1) (ha : EV X Γ1 a r Γ2) : EV X Γ (.IfExp c a b pos) r Γ2 :=
  PE.weak (pe_ifExp hc ha pe_no) fun σ H Q ⟨F, hH, q⟩ => ⟨F, hH, fun F' H' p => iteT ⟨F', p.ok, fun F2 H2 v2 p2 hv2 => q F2 H2 v2 (p.trans p2) (hv2.at fun _ z => NewAt.back p z)⟩⟩
theorem ev_ifF (hc : TV X Γ c false Γ1) (hb : EV X Γ1 b r Γ2) : EV X Γ (.IfExp c a b pos) r Γ2 :=
  PE.weak (pe_ifExp hc pe_no hb) fun σ H Q ⟨F, hH, q⟩ => ⟨F, hH, fun F' H' p => iteF ⟨F', p.ok, fun F2 H2 v2 p2 hv2 => q F2 H2 v2 (p.trans p2) (hv2.at fun _ z => NewAt.back p z)⟩⟩

/-! ### arguments, displays -/
theorem av_nil : AV X Γ [] [] Γ := PA.weak pa_nil fun σ H Q ⟨F, hH, q⟩ => q F H [] (.refl hH) .nil
theorem paired_later {K : KC} {F H F2 H2 : Hp} {σ : L2.St} {A B : Addr → Prop} {vs : List V} {rs : List Rv} (h : Paired (fun v r => RvOk K F Γ σ H A v r) vs rs) (p : Post K Γ σ F H Γ2 σ F2 H2) (hA : ∀ a, A a → B a) : Paired (fun v r => RvOk K F2 Γ2 σ H2 B v r) vs rs :=
  Paired.mapP h fun v r x => x.later p hA
theorem paired_at {K : KC} {F H : Hp} {σ : L2.St} {A B : Addr → Prop} {vs : List V} {rs : List Rv} (h : Paired (fun v r => RvOk K F Γ σ H A v r) vs rs) (hA : ∀ a, A a → B a) : Paired (fun v r => RvOk K F Γ σ H B v r) vs rs :=
  Paired.mapP h fun v r x => x.at hA
theorem av_cons {rs : List Rv} {es : List Expr} (ha : EV X Γ a r Γ1) (hr : AV X Γ1 es rs Γ2) (hs : starEach (a :: es) X.env = (false, eval a X.env) :: starEach es X.env := by rfl) : AV X Γ (a :: es) (r :: rs) Γ2 :=
  PA.weak (pa_cons ha hr hs) fun σ H Q ⟨F, hH, q⟩ => ⟨F, hH, fun F1 H1 v p1 hv => ⟨F1, p1.ok, fun F2 H2 vs p2 hvs => q F2 H2 _ (p1.trans p2) (.cons (hv.later p2 fun _ z => z) (paired_at hvs fun _ z => NewAt.back p1 z))⟩⟩
theorem repL_of {K : KC} {F H : Hp} {σ : L2.St} {A : Addr → Prop} : ∀ {ds : List D} {vs : List V}, Paired (fun v r => RvOk K F Γ σ H A v r) vs (ds.map Rv.dat) → RepL K F vs ds
  | [], _, .nil => .nil
  | _ :: _, _, .cons r t => .cons r (repL_of t)
theorem len63 {n : Nat} (h : n ≤ 63) : n ≤ sizeLine := Nat.le_trans h (by decide)
theorem ev_tup {ds : List D} {es : List Expr} {k} (h : AV X Γ es (ds.map Rv.dat) Γ1) (hl : ds.length ≤ sizeLine := by exact len63 (Nat.le_of_ble_eq_true rfl)) : EV X Γ (.Tuple es k pos) (.dat (.tup ds)) Γ1 :=
  PE.weak (pe_tup h) fun σ H Q ⟨F, hH, q⟩ => ⟨F, hH, fun F1 H1 vs p1 hvs => by
    have rl := repL_of hvs
    refine ⟨by rw [rl.length]; exact hl, fun x hx => ?_⟩
    have p2 := Post.newF p1.ok hx (.tup vs)
    exact q _ _ _ (p1.trans p2) (.tup (SqT.of upd_same) (rl.mono p2.ext.mono))⟩
theorem ev_lst {ds : List D} {es : List Expr} (h : AV X Γ es (ds.map Rv.dat) Γ1) (hl : ds.length ≤ sizeLine := by exact len63 (Nat.le_of_ble_eq_true rfl)) : EV X Γ (.List es pos) (.own (.lst ds)) Γ1 :=
  PE.weak (pe_lst h) fun σ H Q ⟨F, hH, q⟩ => ⟨F, hH, fun F1 H1 vs p1 hvs => by
    have rl := repL_of hvs
    refine ⟨by rw [rl.length]; exact hl, fun x hx => ?_⟩
    have p2 := Post.new p1.ok hx (.lst vs)
    exact q _ _ _ (p1.trans p2) ⟨x, _, rfl, upd_same, p1.ok.free hx, ⟨vs, rfl, rl⟩, fun z => p1.ok.notOwned hx (by obtain ⟨i, ao, oc, e1, e2⟩ := z; exact ⟨i, ao, oc, e1, e2⟩), .inr (p1.ext.fresh hx)⟩⟩
/-- a new list behind a rule -/
theorem new_list {K : KC} {F H F0 H0 : Hp} {Γ0 : Env'} {σ : L2.St} {vs : List V} {ds : List D} {x : Addr} {Q : VK} (p1 : Post K Γ0 σ F0 H0 Γ σ F H) (rl : RepL K F vs ds) (hx : H x = none)
    (q : ∀ F' H' v, Post K Γ0 σ F0 H0 Γ σ F' H' → RvOk K F' Γ σ H' (NewAt Γ0 σ H0) v (.own (.lst ds)) → Q v H') : Q (.ref x) (upd H x (.lst vs)) :=
  q _ _ _ (p1.trans (Post.new p1.ok hx (.lst vs))) ⟨x, _, rfl, upd_same, p1.ok.free hx, ⟨vs, rfl, rl⟩, fun z => p1.ok.notOwned hx (by obtain ⟨i, ao, oc, e1, e2⟩ := z; exact ⟨i, ao, oc, e1, e2⟩), .inr (p1.ext.fresh hx)⟩
theorem new_tup {K : KC} {F H F0 H0 : Hp} {Γ0 : Env'} {σ : L2.St} {vs : List V} {ds : List D} {x : Addr} {Q : VK} (p1 : Post K Γ0 σ F0 H0 Γ σ F H) (rl : RepL K F vs ds) (hx : H x = none)
    (q : ∀ F' H' v, Post K Γ0 σ F0 H0 Γ σ F' H' → RvOk K F' Γ σ H' (NewAt Γ0 σ H0) v (.dat (.tup ds)) → Q v H') : Q (.ref x) (upd H x (.tup vs)) := by
  have p2 := Post.newF p1.ok hx (.tup vs)
  exact q _ _ _ (p1.trans p2) (.tup (SqT.of upd_same) (rl.mono p2.ext.mono))

/-! ### what a list holds, a tuple -/
inductive View (Γ : Env') : Rv → List D → Prop
  | dat {ds} : View Γ (.dat (.lst ds)) ds
  | own {ds} : View Γ (.own (.lst ds)) ds
  | bor {i : Nat} {ao ds} : Γ[i]? = some (.own ao (.lst ds)) → View Γ (.bor i) ds
theorem View.at {K : KC} {F H : Hp} {σ : L2.St} {A : Addr → Prop} {v : V} {ds : List D} (w : View Γ r ds) (hH : Holds K F Γ σ H) (h : RvOk K F Γ σ H A v r) : ∃ a vs, v = .ref a ∧ SqL K.K H a vs ∧ RepL K F vs ds := by
  cases w with
  | dat =>
    cases h with
    | lst s t => exact ⟨_, _, rfl, hH.le.seqL s, t⟩
  | own =>
    obtain ⟨x, ho, e1, h1, h2, ⟨vs, rfl, t⟩, _⟩ := h
    exact ⟨x, vs, e1, SqL.of h1, t⟩
  | bor e =>
    obtain ⟨x, ho, e1, e2, h1, h2, ⟨vs, rfl, t⟩⟩ := hH.own e
    have h : σ[_]? = some (some v) := h
    rw [h] at e1; cases e1
    exact ⟨x, vs, rfl, SqL.of h1, t⟩
theorem Rep.tup_at {K : KC} {F : Hp} {v : V} {ds : List D} (h : Rep K F v (.tup ds)) : ∃ a vs, v = .ref a ∧ SqT K.K F a vs ∧ RepL K F vs ds := by
  cases h with
  | tup s t => exact ⟨_, _, rfl, s, t⟩
/-- a list or a tuple -/
inductive VSeq (Γ : Env') : Rv → List D → Prop
  | l {r ds} : View Γ r ds → VSeq Γ r ds
  | t {ds} : VSeq Γ (.dat (.tup ds)) ds
theorem VSeq.at {K : KC} {F H : Hp} {σ : L2.St} {A : Addr → Prop} {v : V} {ds : List D} (w : VSeq Γ r ds) (hH : Holds K F Γ σ H) (h : RvOk K F Γ σ H A v r) : ∃ a vs, v = .ref a ∧ (SqL K.K H a vs ∨ SqT K.K H a vs) ∧ RepL K F vs ds := by
  cases w with
  | l w =>
    obtain ⟨a, vs, e, s, t⟩ := w.at hH h
    exact ⟨a, vs, e, .inl s, t⟩
  | t =>
    obtain ⟨a, vs, e, s, t⟩ := Rep.tup_at h
    exact ⟨a, vs, e, .inr (hH.le.seqT s), t⟩
/-- an item -/
theorem o2ixL {K : KC} {ds : List D} (w : View Γ ra ds) (h : atI ds i = some d) : Op2 K Γ ra (.dat (.int i)) (.dat d) (rIxL K.K) := fun F σ H A x y Q hH hx hy q => by
  cases hy
  obtain ⟨p, vs, e, s, t⟩ := w.at hH hx
  unfold atI at h
  cases e2 : ixN ds.length i with
  | none => rw [e2] at h; cases h
  | some j =>
    rw [e2] at h
    obtain ⟨v, h1, h2⟩ := t.get (show ds[j]? = some d from h)
    exact ⟨p, vs, i, v, e, rfl, s, by unfold atI; rw [t.length, e2]; exact h1, q F H v (.refl hH) h2⟩
theorem o2ixT {K : KC} {ds : List D} (h : atI ds i = some d) : Op2 K Γ (.dat (.tup ds)) (.dat (.int i)) (.dat d) (rIxT K.K) := fun F σ H A x y Q hH hx hy q => by
  cases hy
  obtain ⟨p, vs, e, s, t⟩ := Rep.tup_at hx
  unfold atI at h
  cases e2 : ixN ds.length i with
  | none => rw [e2] at h; cases h
  | some j =>
    rw [e2] at h
    obtain ⟨v, h1, h2⟩ := t.get (show ds[j]? = some d from h)
    exact ⟨p, vs, i, v, e, rfl, hH.le.seqT s, by unfold atI; rw [t.length, e2]; exact h1, q F H v (.refl hH) h2⟩
theorem atI_mem {α : Type} {xs : List α} {x : α} (h : atI xs i = some x) : x ∈ xs := by
  obtain ⟨j, _, h2⟩ := Option.bind_eq_some_iff.mp h
  exact List.mem_of_getElem? h2
theorem sok_at {z : Str} {cp : Nat} (hz : PyData.strOk z = true) (h : cp ∈ z.cps.toList) : PyData.strOk ⟨#[cp]⟩ = true := by
  unfold PyData.strOk at hz ⊢
  have := Array.all_eq_true'.mp hz cp (by simpa using h)
  simpa using this
theorem sok_add {x y : Str} (hx : PyData.strOk x = true) (hy : PyData.strOk y = true) : PyData.strOk (x ++ y) = true := by
  unfold PyData.strOk at *
  rw [Str.cps_append, Array.all_append, hx, hy]; rfl
theorem o2ixS {K : KC} {z : Str} {cp : Nat} (hz : z.length ≤ sizeLine) (h : atI z.cps.toList i = some cp) : Op2 K Γ (.dat (.str z)) (.dat (.int i)) (.dat (.str ⟨#[cp]⟩)) rIxS := fun F σ H A x y Q hH hx hy q => by
  cases hy
  cases hx with
  | str _ ok => exact ⟨z, i, cp, rfl, rfl, hz, h, q F H _ (.refl hH) (.str _ (sok_at ok (atI_mem h)))⟩
theorem ev_ix {t : R2} {rv : Rv} (ho : IxR X t) (hs : PlainIx b) (h : Op2 (kc X) Γ2 ra rb rv t) (ha : EV X Γ a ra Γ1) (hb : EV X Γ1 b rb Γ2) : EV X Γ (.Subscript a b pos) rv Γ2 :=
  PE.weak (pe_ix ho ha hb hs) (op2_run (fun _ _ _ h => h) (fun _ _ _ h => h) h)
theorem ev_ixL {ds : List D} (ha : EV X Γ a ra Γ1) (hb : EV X Γ1 b (.dat (.int i)) Γ2) (w : View Γ2 ra ds) (h : atI ds i = some d) (hs : PlainIx b := by exact fun _ _ => rfl) : EV X Γ (.Subscript a b pos) (.dat d) Γ2 := ev_ix ix_list hs (o2ixL w h) ha hb
theorem ev_ixT {ds : List D} (ha : EV X Γ a (.dat (.tup ds)) Γ1) (hb : EV X Γ1 b (.dat (.int i)) Γ2) (h : atI ds i = some d) (hs : PlainIx b := by exact fun _ _ => rfl) : EV X Γ (.Subscript a b pos) (.dat d) Γ2 := ev_ix ix_tup hs (o2ixT h) ha hb
theorem ev_ixS {z : Str} {cp : Nat} (ha : EV X Γ a (.dat (.str z)) Γ1) (hb : EV X Γ1 b (.dat (.int i)) Γ2) (hz : z.length ≤ sizeLine) (h : atI z.cps.toList i = some cp) (hs : PlainIx b := by exact fun _ _ => rfl) : EV X Γ (.Subscript a b pos) (.dat (.str ⟨#[cp]⟩)) Γ2 := ev_ix ix_str hs (o2ixS hz h) ha hb
end
end PD
namespace PD
open PySem PySem.Spec PyProof.Rows L2
/-! ### t + u of any tuples, xs + ys of any lists -/
def rCatT2 (K : KC) : R2 := fun x y H Q => ∃ a b xs ys, x = .ref a ∧ y = .ref b ∧ SqT K.K H a xs ∧ SqT K.K H b ys ∧ xs.length + ys.length ≤ sizeLine ∧
  (xs = [] → Q (.ref b) H) ∧ (ys = [] → Q (.ref a) H) ∧ (∀ p, H p = none → Q (.ref p) (upd H p (.tup (xs ++ ys))))
theorem op_catT2 {X : Cx} : OpR X (binaryOp .Add) (rCatT2 (kc X)) := by
  intro pins s σ H x y v u Q I rx ry h
  obtain ⟨a, b, xs, ys, rfl, rfl, ha, hb, hz, q0, q1, q2⟩ := h
  by_cases hx : xs = []
  · cases rx
    cases ry
    obtain ⟨its, r1, p1, _⟩ := I.tuple ha
    obtain ⟨its2, r2, p2, _⟩ := I.tuple hb
    obtain ⟨⟨cls, dd, data, sl⟩, ho, hc, n, hd⟩ := id p1
    obtain ⟨⟨cls2, dd2, data2, sl2⟩, ho2, hc2, n2, hd2⟩ := id p2
    simp only at hc hd hc2 hd2
    subst hc hd hc2 hd2
    exact concat_meets ⟨_, ho, rfl⟩ ⟨_, ho2, rfl⟩ noFill_tuple_add seq_tuple_add PySem.F.slot_tuple_add PySem.F.entry_tuple_add (PySem.F.args_tuple_add_2 _ _)
      (tuple_addW0 a b its.toArray its2.toArray n n2 dd dd2 sl sl2 (by simp [r1.nil_iff.mpr hx])) ⟨ho, ho2, .ref b, H, I, rfl, q0 hx⟩
  · exact op_catT pins s σ H (.ref a) (.ref b) v u Q I rx ry ⟨a, b, xs, ys, rfl, rfl, ha, hb, hx, hz, q1, fun _ => q2⟩
def rCat2 (K : KC) : R2 := fun x y H Q => ∃ l b xs zs, x = .ref l ∧ y = .ref b ∧ SqL K.K H l xs ∧ SqL K.K H b zs ∧ xs.length + zs.length ≤ sizeLine ∧ ∀ p, H p = none → Q (.ref p) (upd H p (.lst (xs ++ zs)))
theorem op_cat2 {X : Cx} : OpR X (binaryOp .Add) (rCat2 (kc X)) := by
  intro pins s σ H x y v u Q I rx ry h
  obtain ⟨l, b, xs, zs, rfl, rfl, hH, hB, hz, q⟩ := h
  cases rx
  cases ry
  obtain ⟨its, r, ⟨⟨cls, dd, data, sl⟩, n, e, hc, hdn, hd⟩, _⟩ := I.list hH
  obtain ⟨its2, r2, ⟨⟨cls2, dd2, data2, sl2⟩, n2, e2, hc2, hdn2, hd2⟩, _⟩ := I.list hB
  have hl := r.length
  have hl2 := r2.length
  simp only at hc hdn hd hc2 hdn2 hd2
  subst hc hdn hd hc2 hdn2 hd2
  refine concat_meets ⟨_, e, rfl⟩ ⟨_, e2, rfl⟩ noFill_list_add seq_list_add PySem.F.slot_list_add PySem.F.entry_list_add (PySem.F.args_list_add_2 _ _) (list_addW l b its.toArray its2.toArray n n2 none none sl sl2 (by rw [List.size_toArray, List.size_toArray]; omega)) ⟨e, e2, ?_⟩
  have ea : its.toArray ++ its2.toArray = (its ++ its2).toArray := by simp
  rw [ea]
  exact ⟨.ref _, _, I.lnew (t' := s.toks) (r.append r2) (by rw [List.length_append]; omega), rfl, q _ I.fresh⟩
section
variable {X : Cx} {Γ Γ1 Γ2 Γ3 : Env'} {e a b c : Expr} {pos : Pos} {r ra rb rc rv : Rv} {d : D} {ds es : List D} {i j : Int}
theorem RepL.nil_iff {K : KC} {F : Hp} {vs : List V} {ds : List D} (h : RepL K F vs ds) : vs = [] ↔ ds = [] := by
  cases h with
  | nil => simp
  | cons _ _ => simp
theorem o2catT {K : KC} (hz : ds.length + es.length ≤ sizeLine) : Op2 K Γ (.dat (.tup ds)) (.dat (.tup es)) (.dat (.tup (ds ++ es))) (rCatT2 K) := fun F σ H A x y Q hH hx hy q => by
  obtain ⟨p, vs, e1, s1, t1⟩ := Rep.tup_at hx
  obtain ⟨p2, ws, e2, s2, t2⟩ := Rep.tup_at hy
  refine ⟨p, p2, vs, ws, e1, e2, hH.le.seqT s1, hH.le.seqT s2, by rw [t1.length, t2.length]; exact hz, fun z => ?_, fun z => ?_, fun pp hp => new_tup (.refl hH) (t1.append t2) hp q⟩
  · have := t1.nil_iff.mp z
    subst this
    exact q F H _ (.refl hH) (.tup s2 t2)
  · have := t2.nil_iff.mp z
    subst this
    rw [List.append_nil] at q
    exact q F H _ (.refl hH) (.tup s1 t1)
theorem ev_catT (ha : EV X Γ a (.dat (.tup ds)) Γ1) (hb : EV X Γ1 b (.dat (.tup es)) Γ2) (hz : ds.length + es.length ≤ sizeLine) : EV X Γ (.BinOp a .Add b pos) (.dat (.tup (ds ++ es))) Γ2 := ev_op op_catT2 (o2catT hz) ha hb
theorem o2catL {K : KC} (w1 : View Γ ra ds) (w2 : View Γ rb es) (hz : ds.length + es.length ≤ sizeLine) : Op2 K Γ ra rb (.own (.lst (ds ++ es))) (rCat2 K) := fun F σ H A x y Q hH hx hy q => by
  obtain ⟨p, vs, e1, s1, t1⟩ := w1.at hH hx
  obtain ⟨p2, ws, e2, s2, t2⟩ := w2.at hH hy
  exact ⟨p, p2, vs, ws, e1, e2, s1, s2, by rw [t1.length, t2.length]; exact hz, fun pp hp => new_list (.refl hH) (t1.append t2) hp q⟩
theorem ev_catL (ha : EV X Γ a ra Γ1) (hb : EV X Γ1 b rb Γ2) (w1 : View Γ2 ra ds) (w2 : View Γ2 rb es) (hz : ds.length + es.length ≤ sizeLine) : EV X Γ (.BinOp a .Add b pos) (.own (.lst (ds ++ es))) Γ2 := ev_op op_cat2 (o2catL w1 w2 hz) ha hb
/-- texts -/
theorem ev_catS {x y : Str} (ha : EV X Γ a (.dat (.str x)) Γ1) (hb : EV X Γ1 b (.dat (.str y)) Γ2) (hz : x.length + y.length ≤ sizeLine) : EV X Γ (.BinOp a .Add b pos) (.dat (.str (x ++ y))) Γ2 :=
  ev_op op_add_str (fun F σ H A x y Q hH hx hy q => by
    cases hx with
    | str _ h1 =>
      cases hy with
      | str _ h2 => exact ⟨_, _, rfl, rfl, hz, q F H _ (.refl hH) (.str _ (sok_add h1 h2))⟩) ha hb

/-! ### slices -/
def cutD (xs : List D) (lo hi : Option Int) : List D := (xs.drop (HT.sIx xs.length 0 lo)).take (HT.sIx xs.length xs.length hi - HT.sIx xs.length 0 lo)
theorem RepL.cut {K : KC} {F : Hp} {vs : List V} (h : RepL K F vs ds) (lo hi : Option Int) : RepL K F (cutV vs lo hi) (cutD ds lo hi) := by
  unfold cutV cutD
  rw [h.length]
  exact (h.drop _).take _
/-- a bound of a slice -/
def OV (X : Cx) (Γ : Env') (e : Option Expr) (o : Option Int) (Γ' : Env') : Prop := ∃ t, PO X e t ∧ ∀ (σ : L2.St) (H : Hp) (Q : Option Int → Hp → Prop) (F : Hp), Holds (kc X) F Γ σ H → (∀ F' H', Post (kc X) Γ σ F H Γ' σ F' H' → Q o H') → t σ H Q
theorem ov_none : OV X Γ none none Γ := ⟨_, po_none, fun σ H Q F hH q => q F H (.refl hH)⟩
theorem ov_some (h : EV X Γ e (.dat (.int i)) Γ1) : OV X Γ (some e) (some i) Γ1 := ⟨_, po_some h, fun σ H Q F hH q => ⟨F, hH, fun F' H' v p hv => by cases hv; exact ⟨i, rfl, q F' H' p⟩⟩⟩
theorem ev_slL {lo hi : Option Expr} {l u : Option Int} {p2 : Pos} (ha : EV X Γ a ra Γ1) (hl : OV X Γ1 lo l Γ2) (hu : OV X Γ2 hi u Γ3) (w : View Γ3 ra ds) : EV X Γ (.Subscript a (.Slice lo hi none p2) pos) (.own (.lst (cutD ds l u))) Γ3 := by
  obtain ⟨t1, h1, w1⟩ := hl
  obtain ⟨t2, h2, w2⟩ := hu
  refine PE.weak (pe_slice sl_list ha h1 h2) fun σ H Q ⟨F, hH, q⟩ => ⟨F, hH, fun F1 H1 v q1 hv => w1 σ H1 _ F1 q1.ok fun F2 H2 q2 => w2 σ H2 _ F2 q2.ok fun F3 H3 q3 => ?_⟩
  obtain ⟨p, vs, e1, s1, t1⟩ := w.at q3.ok ((hv.later q2 (B := fun _ => True) (fun _ _ => trivial)).later q3 (fun _ z => z))
  exact ⟨p, vs, e1, s1, fun pp hp => new_list ((q1.trans q2).trans q3) (t1.cut l u) hp q⟩
theorem ev_revL {k : Nat} {p1 p2 p3 : Pos} (ha : EV X Γ a ra Γ1) (w : View Γ1 ra ds) : EV X Γ (.Subscript a (.Slice none none (some (.UnaryOp .USub (.Constant (.int 1) k p1) p2)) p3) pos) (.own (.lst ds.reverse)) Γ1 :=
  PE.weak (pe_revL ha) fun σ H Q ⟨F, hH, q⟩ => ⟨F, hH, fun F1 H1 v q1 hv => by
    obtain ⟨p, vs, e1, s1, t1⟩ := w.at q1.ok hv
    exact ⟨p, vs, e1, s1, fun pp hp => new_list q1 t1.reverse hp q⟩⟩

/-! ### calls of what is built in -/
/-- a call on results -/
def OpC (K : KC) (Γ : Env') (rs : List Rv) (rv : Rv) (r : List V → Hp → VK → Prop) : Prop := ∀ (F : Hp) (σ : L2.St) (H : Hp) (A : Addr → Prop) (vs : List V) (Q : VK), Holds K F Γ σ H → Paired (fun v r => RvOk K F Γ σ H A v r) vs rs →
  (∀ F' H' v, Post K Γ σ F H Γ σ F' H' → RvOk K F' Γ σ H' (NewAt Γ σ H) v rv → Q v H') → r vs H Q
theorem opC_run {K : KC} {rs : List Rv} {t : List V → Hp → VK → Prop} {ta : TA} (ha : ∀ σ H Q, tAV K Γ rs Γ1 σ H Q → ta σ H Q) (h : OpC K Γ1 rs rv t) (σ : L2.St) (H : Hp) (Q : VK) (hq : tEV K Γ rv Γ1 σ H Q) : tCB t ta σ H Q := by
  obtain ⟨F, hH, q⟩ := hq
  refine ha σ H _ ⟨F, hH, fun F1 H1 vs p hvs => ?_⟩
  exact h F1 σ H1 _ vs Q p.ok hvs fun F2 H2 v p2 hv => q F2 H2 v (p.trans p2) (hv.at fun _ z => NewAt.back p z)
variable {x : Str} {p : Pos} {rs : List Rv} {el : List Expr} {bid T : String} {t : List V → Hp → VK → Prop}
theorem ev_callB (hc : CallR X (.builtin bid) t) (hg : Gl X x) (hm : X.mg x = none) (hv : bootBuiltins x = some (.builtin bid)) (h : OpC (kc X) Γ1 rs rv t) (ha : AV X Γ (e :: el) rs Γ1) (hn : x ≠ "__name__" := by decide) (hdb : (x == ("__debug__" : Str)) = false := by decide)
    (he : starEach (e :: el) X.env = (false, eval e X.env) :: starEach el X.env := by rfl) (hpl : (backTo pos (starEach el X.env)).any (·.1) = false := by rfl) : EV X Γ (.Call (.Name x p) (e :: el) [] pos) rv Γ1 :=
  PE.weak (pe_callB hc hg hm hv ha hn hdb he hpl) (opC_run (fun _ _ _ h => h) h)
theorem ev_callTy (hc : CallR X (.type T) t) (hg : Gl X x) (hm : X.mg x = none) (hv : bootBuiltins x = some (.type T)) (h : OpC (kc X) Γ1 rs rv t) (ha : AV X Γ (e :: el) rs Γ1) (hn : x ≠ "__name__" := by decide) (hdb : (x == ("__debug__" : Str)) = false := by decide)
    (he : starEach (e :: el) X.env = (false, eval e X.env) :: starEach el X.env := by rfl) (hpl : (backTo pos (starEach el X.env)).any (·.1) = false := by rfl) : EV X Γ (.Call (.Name x p) (e :: el) [] pos) rv Γ1 :=
  PE.weak (pe_callTy hc hg hm hv ha hn hdb he hpl) (opC_run (fun _ _ _ h => h) h)
theorem oc_len {K : KC} (w : VSeq Γ r ds) : OpC K Γ [r] (.dat (.int (ds.length : Nat))) (fun xs H Q => ∃ p ys, xs = [.ref p] ∧ (SqL K.K H p ys ∨ SqT K.K H p ys) ∧ Q (.int ys.length) H) := fun F σ H A vs Q hH hv q => by
  cases hv with
  | cons h t =>
    cases t
    obtain ⟨a, ws, e, s, t⟩ := w.at hH h
    subst e
    exact ⟨a, ws, rfl, s, by rw [t.length]; exact q F H _ (.refl hH) (.int _)⟩
theorem ev_len (hg : Gl X "len") (hm : X.mg "len" = none) (w : VSeq Γ1 r ds) (ha : EV X Γ a r Γ1) (hs : starEach [a] X.env = (false, eval a X.env) :: starEach [] X.env := by rfl) : EV X Γ (.Call (.Name "len" p) [a] [] pos) (.dat (.int (ds.length : Nat))) Γ1 :=
  ev_callB call_len_seq hg hm PySem.boot_len (oc_len w) (av_cons ha av_nil hs) (by decide) (by decide) hs rfl
theorem ev_lenS {z : Str} (hg : Gl X "len") (hm : X.mg "len" = none) (hz : z.length ≤ sizeLine) (ha : EV X Γ a (.dat (.str z)) Γ1) (hs : starEach [a] X.env = (false, eval a X.env) :: starEach [] X.env := by rfl) : EV X Γ (.Call (.Name "len" p) [a] [] pos) (.dat (.int (z.length : Nat))) Γ1 :=
  ev_callB call_len_str hg hm PySem.boot_len (fun F σ H A vs Q hH hv q => by
    cases hv with
    | cons h t => cases t; cases h; exact ⟨z, rfl, hz, q F H _ (.refl hH) (.int _)⟩) (av_cons ha av_nil hs) (by decide) (by decide) hs rfl
theorem ev_abs (hg : Gl X "abs") (hm : X.mg "abs" = none) (ha : EV X Γ a (.dat (.int i)) Γ1) (hs : starEach [a] X.env = (false, eval a X.env) :: starEach [] X.env := by rfl) : EV X Γ (.Call (.Name "abs" p) [a] [] pos) (.dat (.int (if i < 0 then -i else i))) Γ1 :=
  ev_callB call_abs hg hm (by decide +kernel) (fun F σ H A vs Q hH hv q => by
    cases hv with
    | cons h t => cases t; cases h; exact ⟨i, rfl, q F H _ (.refl hH) (.int _)⟩) (av_cons ha av_nil hs) (by decide) (by decide) hs rfl
theorem ev_int1 (hg : Gl X "int") (hm : X.mg "int" = none) (ha : EV X Γ a (.dat (.int i)) Γ1) (hs : starEach [a] X.env = (false, eval a X.env) :: starEach [] X.env := by rfl) : EV X Γ (.Call (.Name "int" p) [a] [] pos) (.dat (.int i)) Γ1 :=
  ev_callTy call_int1 hg hm (by decide +kernel) (fun F σ H A vs Q hH hv q => by
    cases hv with
    | cons h t => cases t; cases h; exact .inl ⟨i, rfl, q F H _ (.refl hH) (.int _)⟩) (av_cons ha av_nil hs) (by decide) (by decide) hs rfl
theorem ev_any {bs : List Bool} (hc : X.calm = true) (hg : Gl X "any") (hm : X.mg "any" = none) (w : View Γ1 r (bs.map D.bl)) (ha : EV X Γ a r Γ1) (hs : starEach [a] X.env = (false, eval a X.env) :: starEach [] X.env := by rfl) : EV X Γ (.Call (.Name "any" p) [a] [] pos) (.dat (.bl (bs.any id))) Γ1 :=
  ev_callB (cr_any hc) hg hm (by decide +kernel) (fun F σ H A vs Q hH hv q => by
    cases hv with
    | cons h t =>
      cases t
      obtain ⟨x, ws, e, s, t⟩ := w.at hH h
      subst e
      have := t.bls
      subst this
      exact ⟨x, bs, rfl, s, q F H _ (.refl hH) (.bl _)⟩) (av_cons ha av_nil hs) (by decide) (by decide) hs rfl
theorem ev_all {bs : List Bool} (hc : X.calm = true) (hg : Gl X "all") (hm : X.mg "all" = none) (w : View Γ1 r (bs.map D.bl)) (ha : EV X Γ a r Γ1) (hs : starEach [a] X.env = (false, eval a X.env) :: starEach [] X.env := by rfl) : EV X Γ (.Call (.Name "all" p) [a] [] pos) (.dat (.bl (bs.all id))) Γ1 :=
  ev_callB (cr_all hc) hg hm (by decide +kernel) (fun F σ H A vs Q hH hv q => by
    cases hv with
    | cons h t =>
      cases t
      obtain ⟨x, ws, e, s, t⟩ := w.at hH h
      subst e
      have := t.bls
      subst this
      exact ⟨x, bs, rfl, s, q F H _ (.refl hH) (.bl _)⟩) (av_cons ha av_nil hs) (by decide) (by decide) hs rfl
theorem ev_list (hg : Gl X "list") (hm : X.mg "list" = none) (w : VSeq Γ1 r ds) (ha : EV X Γ a r Γ1) (hs : starEach [a] X.env = (false, eval a X.env) :: starEach [] X.env := by rfl) : EV X Γ (.Call (.Name "list" p) [a] [] pos) (.own (.lst ds)) Γ1 :=
  ev_callTy call_list_of hg hm (by decide +kernel) (fun F σ H A vs Q hH hv q => by
    cases hv with
    | cons h t =>
      cases t
      obtain ⟨x, ws, e, s, t⟩ := w.at hH h
      subst e
      exact ⟨x, ws, rfl, s, fun l hl => new_list (.refl hH) t hl q⟩) (av_cons ha av_nil hs) (by decide) (by decide) hs rfl
theorem ev_tuple (hg : Gl X "tuple") (hm : X.mg "tuple" = none) (w : VSeq Γ1 r ds) (ha : EV X Γ a r Γ1) (hs : starEach [a] X.env = (false, eval a X.env) :: starEach [] X.env := by rfl) : EV X Γ (.Call (.Name "tuple" p) [a] [] pos) (.dat (.tup ds)) Γ1 :=
  ev_callTy call_tuple_of hg hm (by decide +kernel) (fun F σ H A vs Q hH hv q => by
    cases hv with
    | cons h t =>
      cases t
      cases w with
      | l w =>
        obtain ⟨x, ws, e, s, t⟩ := w.at hH h
        subst e
        exact ⟨x, ws, rfl, .inl ⟨s, fun l hl => new_tup (.refl hH) t hl q⟩⟩
      | t =>
        obtain ⟨x, ws, e, s, t⟩ := Rep.tup_at h
        subst e
        exact ⟨x, ws, rfl, .inr ⟨hH.le.seqT s, q F H _ (.refl hH) (.tup s t)⟩⟩) (av_cons ha av_nil hs) (by decide) (by decide) hs rfl

/-! ### isinstance of data -/
def D.ty : D → String
  | .non => "NoneType" | .bl _ => "bool" | .int _ => "int" | .str _ => "str" | .tup _ => "tuple" | .lst _ => "list" | .dct _ _ _ => "dict" | .obj _ _ _ => "object"
/-- no dict, no instance at its head -/
def D.base : D → Bool
  | .dct _ _ _ => false
  | .obj _ _ _ => false
  | _ => true
theorem ty_seqT {K : KC} {H : Hp} {a : Addr} {vs : List V} (h : SqT K.K H a vs) : TyX K.K H (.ref a) (.type "tuple") := by
  rcases h with (h | ⟨o, h⟩) | ⟨o, its, n, h1, h2, _⟩
  · exact .base (.tup h)
  · exact .fTuple h
  · exact .kTuple h1 h2
theorem ty_seqL {K : KC} {H : Hp} {a : Addr} {vs : List V} (h : SqL K.K H a vs) : TyX K.K H (.ref a) (.type "list") := by
  rcases h with (h | ⟨o, h⟩) | ⟨o, its, n, h1, h2, _⟩
  · exact .base (.lst h)
  · exact .base (.frz h)
  · exact .kList h1 h2
theorem Rep.ty {K : KC} {F H : Hp} {v : V} (hb : d.base = true) (l : Le F H) (h : Rep K F v d) : TyX K.K H v (.type d.ty) := by
  cases h with
  | non => exact .base .non
  | bl b => exact .base (.bl b)
  | int i => exact .base (.int i)
  | str x _ => exact .base (.str x)
  | tup s _ => exact ty_seqT (l.seqT s)
  | lst s _ => exact ty_seqL (l.seqL s)
  | dctK _ _ _ => cases hb
  | dctN _ _ _ _ _ => cases hb
  | obj _ _ _ => cases hb
theorem ev_isi {y : Str} {py : Pos} {k : Bool} (hg : Gl X "isinstance") (hm : X.mg "isinstance" = none) (hg2 : Gl X y) (hm2 : X.mg y = none) (hv2 : bootBuiltins y = some (.type T)) (ha : EV X Γ a (.dat d) Γ1) (hk : kitB d.ty T = some k) (hb : d.base = true)
    (hn : y ≠ "__name__" := by decide) (hdb : (y == ("__debug__" : Str)) = false := by decide) (hs2 : starEach (a :: [.Name y py]) X.env = (false, eval a X.env) :: starEach [.Name y py] X.env := by rfl)
    (hpl : (backTo pos (starEach [.Name y py] X.env)).any (·.1) = false := by rfl) :
    EV X Γ (.Call (.Name "isinstance" p) [a, .Name y py] [] pos) (.dat (.bl k)) Γ1 :=
  PE.weak (pe_callB call_isi hg hm (by decide +kernel) (pa_cons ha (pa_cons (pe_bltn (v := .ty T) hg2 hm2 hv2 rfl hn hdb) pa_nil rfl) hs2) (by decide) (by decide) hs2 hpl) fun σ H Q ⟨F, hH, q⟩ => ⟨F, hH, fun F1 H1 v p1 hv =>
    ⟨v, .ty T, .type d.ty, .type T, k, rfl, .ty T, Rep.ty hb p1.ok.le hv, kit_ty hk, q F1 H1 _ p1 (.bl k)⟩⟩
end
end PD
namespace PD
open PySem PySem.Spec PyProof.Rows L2
/-! ### in, methods of an owned list -/
section
variable {X : Cx} {Γ Γ1 Γ2 Γ3 : Env'} {e a b c : Expr} {pos p px apos : Pos} {r ra rb rc rv : Rv} {d : D} {ds es : List D} {i j : Int}
theorem inV_ints (i : Int) : ∀ ns : List Int, inV (.int i) (ns.map V.int) = decide (i ∈ ns)
  | [] => rfl
  | n :: ns => by
    have ih := inV_ints i ns
    unfold inV at ih ⊢
    rw [List.map_cons, List.any_cons, ih]
    show (n == i || decide (i ∈ ns)) = decide (i ∈ n :: ns)
    by_cases h : n = i
    · subst h; simp
    · have : (n == i) = false := beq_eq_false_iff_ne.mpr h
      rw [this, Bool.false_or]
      exact decide_eq_decide.mpr ⟨fun z => List.mem_cons_of_mem _ z, fun z => (List.mem_cons.mp z).resolve_left (Ne.symm h)⟩
theorem inV_strs (i : Str) : ∀ ns : List Str, inV (.str i) (ns.map V.str) = decide (i ∈ ns)
  | [] => rfl
  | n :: ns => by
    have ih := inV_strs i ns
    unfold inV at ih ⊢
    rw [List.map_cons, List.any_cons, ih]
    show (n == i || decide (i ∈ ns)) = decide (i ∈ n :: ns)
    by_cases h : n = i
    · subst h; simp
    · have : (n == i) = false := beq_eq_false_iff_ne.mpr h
      rw [this, Bool.false_or]
      exact decide_eq_decide.mpr ⟨fun z => List.mem_cons_of_mem _ z, fun z => (List.mem_cons.mp z).resolve_left (Ne.symm h)⟩
theorem flat_ints : ∀ ns : List Int, (ns.map V.int).all flatV = true
  | [] => rfl
  | _ :: ns => by rw [List.map_cons, List.all_cons, flat_ints ns]; rfl
theorem flat_strs : ∀ ns : List Str, (ns.map V.str).all flatV = true
  | [] => rfl
  | _ :: ns => by rw [List.map_cons, List.all_cons, flat_strs ns]; rfl
theorem o2inI {K : KC} {ns : List Int} {neg : Bool} (w : VSeq Γ rb (ns.map D.int)) : Op2 K Γ (.dat (.int i)) rb (.dat (.bl (if neg then !decide (i ∈ ns) else decide (i ∈ ns)))) (rIn K.K neg) := fun F σ H A x y Q hH hx hy q => by
  cases hx
  obtain ⟨p, vs, e, s, t⟩ := w.at hH hy
  have := t.ints
  subst this
  refine ⟨p, _, e, s, rfl, flat_ints ns, ?_⟩
  rw [inV_ints]
  exact q F H _ (.refl hH) (.bl _)
theorem o2inS {K : KC} {z : Str} {ns : List Str} {neg : Bool} (w : VSeq Γ rb (ns.map D.str)) : Op2 K Γ (.dat (.str z)) rb (.dat (.bl (if neg then !decide (z ∈ ns) else decide (z ∈ ns)))) (rIn K.K neg) := fun F σ H A x y Q hH hx hy q => by
  cases hx
  obtain ⟨p, vs, e, s, t⟩ := w.at hH hy
  have := t.strs
  subst this
  refine ⟨p, _, e, s, rfl, flat_strs ns, ?_⟩
  rw [inV_strs]
  exact q F H _ (.refl hH) (.bl _)
theorem ev_inI {ns : List Int} (ha : EV X Γ a (.dat (.int i)) Γ1) (hb : EV X Γ1 b rb Γ2) (w : VSeq Γ2 rb (ns.map D.int)) (hm : behindInMarks .In b = false := by rfl) : EV X Γ (.Compare a [.In] [b] pos) (.dat (.bl (decide (i ∈ ns)))) Γ2 := ev_cmp op_in_seq hm (o2inI (neg := false) w) ha hb
theorem tv_inI {ns : List Int} (ha : EV X Γ a (.dat (.int i)) Γ1) (hb : EV X Γ1 b rb Γ2) (w : VSeq Γ2 rb (ns.map D.int)) (hm : behindInMarks .In b = false := by rfl) : TV X Γ (.Compare a [.In] [b] pos) (decide (i ∈ ns)) Γ2 := tv_cmp op_in_seq hm (o2inI (neg := false) w) ha hb
theorem ev_inS {z : Str} {ns : List Str} (ha : EV X Γ a (.dat (.str z)) Γ1) (hb : EV X Γ1 b rb Γ2) (w : VSeq Γ2 rb (ns.map D.str)) (hm : behindInMarks .In b = false := by rfl) : EV X Γ (.Compare a [.In] [b] pos) (.dat (.bl (decide (z ∈ ns)))) Γ2 := ev_cmp op_in_seq hm (o2inS (neg := false) w) ha hb
theorem tv_inS {z : Str} {ns : List Str} (ha : EV X Γ a (.dat (.str z)) Γ1) (hb : EV X Γ1 b rb Γ2) (w : VSeq Γ2 rb (ns.map D.str)) (hm : behindInMarks .In b = false := by rfl) : TV X Γ (.Compare a [.In] [b] pos) (decide (z ∈ ns)) Γ2 := tv_cmp op_in_seq hm (o2inS (neg := false) w) ha hb
theorem ev_ninS {z : Str} {ns : List Str} (ha : EV X Γ a (.dat (.str z)) Γ1) (hb : EV X Γ1 b rb Γ2) (w : VSeq Γ2 rb (ns.map D.str)) (hm : behindInMarks .NotIn b = false := by rfl) : EV X Γ (.Compare a [.NotIn] [b] pos) (.dat (.bl (!decide (z ∈ ns)))) Γ2 := ev_cmp op_notIn_seq hm (o2inS (neg := true) w) ha hb
theorem tv_ninS {z : Str} {ns : List Str} (ha : EV X Γ a (.dat (.str z)) Γ1) (hb : EV X Γ1 b rb Γ2) (w : VSeq Γ2 rb (ns.map D.str)) (hm : behindInMarks .NotIn b = false := by rfl) : TV X Γ (.Compare a [.NotIn] [b] pos) (!decide (z ∈ ns)) Γ2 := tv_cmp op_notIn_seq hm (o2inS (neg := true) w) ha hb

variable {x : Str} {k : Nat} {ao : Option Addr}
theorem ev_append (hv : PE X (.Name x px) (tVar k)) (hk : Γ[k]? = some (.own ao (.lst es))) (ha : EV X Γ a (.dat d) Γ1) (hk1 : Γ1[k]? = some (.own ao (.lst ds))) (hz : ds.length < sizeLine)
    (hbase : attributeBase (.Name x px) "append" X.env (eval (.Name x px) X.env) = eval (.Name x px) X.env := by rfl)
    (hfew : ((backTo pos (starEach [a] X.env)).all (fun x => !x.1) && (backToKw pos (keywordEach [] X.env)).all (fun x => x.1.isSome) && decide ([a].length + ([] : List Keyword).length + (if ([] : List Keyword).isEmpty then 0 else 1) < 30)) = true := by rfl)
    (hline : (apos.endLine == pos.line) = true := by rfl) (hs : starEach [a] X.env = (false, eval a X.env) :: starEach [] X.env := by rfl) :
    EV X Γ (.Call (.Attribute (.Name x px) "append" apos) [a] [] pos) (.dat .non) (Γ1.set k (.own ao (.lst (ds ++ [d])))) :=
  PE.weak (pe_bm PySem.F.plainAttrs_list PySem.F.slot_list_append PySem.F.type_list_append mt_append hv (pa_cons ha pa_nil hs) hbase hfew hline hs rfl) fun σ H Q ⟨F, hH, q⟩ => by
    obtain ⟨x0, ho0, f1, f2, f3, f4, vs0, rfl, _⟩ := hH.own hk
    refine ⟨_, f1, .inl ⟨rfl, _, SqL.of f3⟩, F, hH, fun F1 H1 v p1 hv => ?_⟩
    obtain ⟨x1, ho1, g1, g2, g3, g4, vs1, rfl, g5⟩ := p1.ok.own hk1
    rw [f1] at g1; cases g1
    refine ⟨x0, vs1, v, rfl, rfl, g3, by rw [g5.length]; exact hz, ?_⟩
    have p2 := Post.write p1.ok hk1 f1 (c' := .lst (ds ++ [d])) (o := .lst (vs1 ++ [v])) ⟨_, rfl, g5.append (RepL.one hv)⟩
    exact q _ _ _ (p1.trans p2) .non
theorem ev_pop (hv : PE X (.Name x px) (tVar k)) (hk : Γ[k]? = some (.own ao (.lst ds))) (hl : ds[ds.length - 1]? = some d)
    (hbase : attributeBase (.Name x px) "pop" X.env (eval (.Name x px) X.env) = eval (.Name x px) X.env := by rfl) (hline : (apos.endLine == pos.line) = true := by rfl) :
    EV X Γ (.Call (.Attribute (.Name x px) "pop" apos) [] [] pos) (.dat d) (Γ.set k (.own ao (.lst ds.dropLast))) :=
  PE.weak (pe_bm0 PySem.F.plainAttrs_list PySem.F.slot_list_pop PySem.F.type_list_pop mt_pop hv hbase hline) fun σ H Q ⟨F, hH, q⟩ => by
    obtain ⟨x0, ho0, f1, f2, f3, f4, vs0, rfl, f5⟩ := hH.own hk
    obtain ⟨v, e1, e2⟩ := f5.get hl
    refine ⟨_, f1, .inl ⟨rfl, _, SqL.of f3⟩, x0, vs0, v, rfl, rfl, f3, by rw [f5.length]; exact e1, ?_⟩
    have p2 := Post.write hH hk f1 (c' := .lst ds.dropLast) (o := .lst vs0.dropLast) ⟨_, rfl, f5.dropLast⟩
    exact q _ _ _ p2 e2
/-- xs.index(x), x a text that is there -/
theorem strs_at {ns : List Str} {m : Nat} {v : V} (h : (ns.map V.str)[m]? = some v) : ∃ y, ns[m]? = some y ∧ v = .str y := by
  rw [List.getElem?_map] at h
  cases e : ns[m]? with
  | none => rw [e] at h; cases h
  | some y => rw [e] at h; cases h; exact ⟨y, rfl, rfl⟩
theorem ev_indexS {z : Str} {ns : List Str} {m : Nat} (he : EV X Γ e re Γ1) (ha : EV X Γ1 a (.dat (.str z)) Γ1) (w : View Γ1 re (ns.map D.str)) (hm : ns[m]? = some z) (hno : ∀ l, l < m → ns[l]? ≠ some z)
    (hbase : attributeBase e "index" X.env (eval e X.env) = eval e X.env := by rfl)
    (hfew : ((backTo pos (starEach [a] X.env)).all (fun x => !x.1) && (backToKw pos (keywordEach [] X.env)).all (fun x => x.1.isSome) && decide ([a].length + ([] : List Keyword).length + (if ([] : List Keyword).isEmpty then 0 else 1) < 30)) = true := by rfl)
    (hline : (apos.endLine == pos.line) = true := by rfl) (hs : starEach [a] X.env = (false, eval a X.env) :: starEach [] X.env := by rfl) :
    EV X Γ (.Call (.Attribute e "index" apos) [a] [] pos) (.dat (.int (m : Nat))) Γ1 :=
  PE.weak (pe_bm PySem.F.plainAttrs_list PySem.F.slot_list_index PySem.F.type_list_index mt_index he (pa_cons ha pa_nil hs) hbase hfew hline hs rfl) fun σ H Q ⟨F, hH, q⟩ => ⟨F, hH, fun F1 H1 v p1 hv => by
    obtain ⟨x0, vs0, rfl, s0, t0⟩ := w.at p1.ok hv
    refine ⟨.inl ⟨rfl, _, s0⟩, F1, p1.ok, fun F2 H2 u p2 hu => ?_⟩
    obtain ⟨x2, vs2, e2, s2, t2⟩ := w.at p2.ok (hv.later p2 (B := fun _ => True) (fun _ _ => trivial))
    cases e2
    cases hu
    have := t2.strs
    subst this
    refine ⟨x0, _, .str z, m, .str z, rfl, rfl, s2, rfl, flat_strs ns, by rw [List.getElem?_map, hm]; rfl, by simp [eqV], fun l z' hl hz' => ?_, q F2 H2 _ (p1.trans p2) (.int _)⟩
    obtain ⟨y, hy, rfl⟩ := strs_at hz'
    have ne : y ≠ z := fun h => hno l hl (by rw [hy, h])
    show (y == z) = false
    exact beq_eq_false_iff_ne.mpr ne⟩
end

/-! ### statements -/
/-- how a statement ends: behind it, at the loop's next turn, behind the loop, with a value, with an exception; bad: nothing is told -/
inductive LO (S L R : Type) where
  | next (s : S) | cnt (l : L) | brk (l : L) | ret (r : R) | exc (x : Xd) | bad
def LO.bind {S S' L R : Type} : LO S L R → (S → LO S' L R) → LO S' L R
  | .next s, k => k s
  | .cnt l, _ => .cnt l
  | .brk l, _ => .brk l
  | .ret r, _ => .ret r
  | .exc x, _ => .exc x
  | .bad, _ => .bad
open Classical in
/-- o, where c holds -/
noncomputable def grd {S L R : Type} (c : Prop) (o : LO S L R) : LO S L R := if c then o else .bad
theorem grd_pos {S L R : Type} {c : Prop} {o : LO S L R} (h : c) : grd c o = o := if_pos h
def LO.IsRet {S L R : Type} (o : LO S L R) : Prop := ∃ r, o = .ret r
/-- the strongest wish for exceptions in X -/
def Wst (X : Cx) : WX := fun cls d σ H => ∀ u s', XE X (fun c e τ J => c = cls ∧ e = d ∧ τ = σ ∧ J = H) u s' → X.xe u s'
theorem takes_st {X : Cx} : Takes X (Wst X) := fun u s' ⟨a, B, sI, pins, σ, H, cls, d, e, I, nb, up, sky, na, os, ag, w⟩ =>
  w u s' ⟨a, B, sI, pins, σ, H, cls, d, e, I, nb, up, sky, na, os, ag, rfl, rfl, rfl, rfl⟩
theorem wst_of {X : Cx} {W : WX} (t : Takes X W) {cls : Value} {d : Option Addr} {σ : L2.St} {H : Hp} (h : W cls d σ H) : Wst X cls d σ H := fun u s' x =>
  (t.imp fun _ _ _ _ ⟨e1, e2, e3, e4⟩ => by subst e1 e2 e3 e4; exact h) u s' x
section
variable {X : Cx} {Xe Γ Γ1 Γ2 Γ3 : Env'} {e a b c : Expr} {pos p px apos : Pos} {r ra rb rc rv : Rv} {d : D} {ds es : List D} {i j : Int} {S S' L R : Type} {G : S → Env'} {G' : S' → Env'} {Lp : L → Env'} {Kr : R → Rv × Env'} {st : Stmt} {rest : List Stmt} {o : LO S L R}
def qST (X : Cx) (Xe Γ : Env') (G : S → Env') (Lp : L → Env') (Kr : R → Rv × Env') (D : Ends) (σ : L2.St) (F H : Hp) : LO S L R → Prop
  | .next s => ∀ F' H' σ', Post (kc X) Γ σ F H (G s) σ' F' H' → D.nx σ' H'
  | .cnt l => ∀ F' H' σ', Post (kc X) Γ σ F H (Lp l) σ' F' H' → D.ct σ' H'
  | .brk l => ∀ F' H' σ', Post (kc X) Γ σ F H (Lp l) σ' F' H' → D.bk σ' H'
  | .ret r => ∀ F' H' σ' v, Post (kc X) Γ σ F H (Kr r).2 σ' F' H' → RvOk (kc X) F' (Kr r).2 σ' H' (NewAt Γ σ H) v (Kr r).1 → D.rt v H'
  | .exc x => ∀ F' H' σ' cls d, Post (kc X) Γ σ F H Xe σ' F' H' → XRep (kc X) F' cls d x → Wst X cls d σ' H'
  | .bad => False
theorem qST.later {D : Ends} {σ σ1 : L2.St} {F H F1 H1 : Hp} (p1 : Post (kc X) Γ σ F H Γ1 σ1 F1 H1) (q : qST X Xe Γ G Lp Kr D σ F H o) : qST X Xe Γ1 G Lp Kr D σ1 F1 H1 o := by
  cases o with
  | next s => exact fun F2 H2 σ2 p2 => q F2 H2 σ2 (p1.trans p2)
  | cnt l => exact fun F2 H2 σ2 p2 => q F2 H2 σ2 (p1.trans p2)
  | brk l => exact fun F2 H2 σ2 p2 => q F2 H2 σ2 (p1.trans p2)
  | ret r => exact fun F2 H2 σ2 v p2 hv => q F2 H2 σ2 v (p1.trans p2) (hv.at fun _ z => NewAt.back p1 z)
  | exc x => exact fun F2 H2 σ2 cls d p2 hx => q F2 H2 σ2 cls d (p1.trans p2) hx
  | bad => exact q
def tST (X : Cx) (Xe Γ : Env') (G : S → Env') (Lp : L → Env') (Kr : R → Rv × Env') (o : LO S L R) : TS := fun D σ H => ∃ F, Holds (kc X) F Γ σ H ∧ qST X Xe Γ G Lp Kr D σ F H o
def ST (X : Cx) (Xe Γ : Env') (st : Stmt) (G : S → Env') (Lp : L → Env') (Kr : R → Rv × Env') (o : LO S L R) : Prop := PS X st (tST X Xe Γ G Lp Kr o)
def SS (X : Cx) (Xe Γ : Env') (st : List Stmt) (G : S → Env') (Lp : L → Env') (Kr : R → Rv × Env') (o : LO S L R) : Prop := PSs X st (tST X Xe Γ G Lp Kr o)
theorem ss_bad : SS X Xe Γ rest G Lp Kr (.bad : LO S L R) := PSs.weak pss_never fun D σ H ⟨F, hH, q⟩ => q.elim
theorem st_bad : ST X Xe Γ st G Lp Kr (.bad : LO S L R) := PS.weak ps_never fun D σ H ⟨F, hH, q⟩ => q.elim
/-- where c holds -/
theorem ss_grd {c : Prop} (h : c → SS X Xe Γ rest G Lp Kr o) : SS X Xe Γ rest G Lp Kr (grd c o) := by
  by_cases k : c
  · rw [grd_pos k]; exact h k
  · rw [show grd c o = .bad from if_neg k]; exact ss_bad
theorem st_grd {c : Prop} (h : c → ST X Xe Γ st G Lp Kr o) : ST X Xe Γ st G Lp Kr (grd c o) := by
  by_cases k : c
  · rw [grd_pos k]; exact h k
  · rw [show grd c o = .bad from if_neg k]; exact st_bad
theorem ss_nil {s : S} (w : Weak Γ (G s)) : SS X Xe Γ [] G Lp Kr (.next s) := PSs.weak pss_nil fun D σ H ⟨F, hH, q⟩ => q F H σ ((Post.refl hH).weak w)
theorem ss_cons {o1 : LO S' L R} {k : S' → LO S L R} (h1 : ST X Xe Γ st G' Lp Kr o1) (h2 : ∀ s, SS X Xe (G' s) rest G Lp Kr (k s)) : SS X Xe Γ (st :: rest) G Lp Kr (o1.bind k) := by
  cases o1 with
  | next s => exact PSs.weak (pss_cons h1 (h2 s)) fun D σ H ⟨F, hH, q⟩ => ⟨F, hH, fun F1 H1 σ1 p1 => ⟨F1, p1.ok, qST.later (o := k s) p1 q⟩⟩
  | cnt l => exact PSs.weak (pss_cons h1 pss_never) fun D σ H ⟨F, hH, q⟩ => ⟨F, hH, q⟩
  | brk l => exact PSs.weak (pss_cons h1 pss_never) fun D σ H ⟨F, hH, q⟩ => ⟨F, hH, q⟩
  | ret r => exact PSs.weak (pss_cons h1 pss_never) fun D σ H ⟨F, hH, q⟩ => ⟨F, hH, q⟩
  | exc x => exact PSs.weak (pss_cons h1 pss_never) fun D σ H ⟨F, hH, q⟩ => ⟨F, hH, q⟩
  | bad => exact ss_bad
/-- a last statement that does not go on -/
theorem ss_one {o : LO S L R} (h1 : ST X Xe Γ st G Lp Kr o) : SS X Xe Γ [st] G Lp Kr o := PSs.weak (pss_one h1) fun D σ H h => h
theorem st_pass {s : S} (w : Weak Γ (G s)) : ST X Xe Γ (.Pass pos) G Lp Kr (.next s) := PS.weak ps_pass fun D σ H ⟨F, hH, q⟩ => q F H σ ((Post.refl hH).weak w)
theorem st_break {l : L} (w : Weak Γ (Lp l)) : ST X Xe Γ (.Break pos) G Lp Kr (.brk l) := PS.weak ps_break fun D σ H ⟨F, hH, q⟩ => q F H σ ((Post.refl hH).weak w)
theorem st_cont {l : L} (w : Weak Γ (Lp l)) : ST X Xe Γ (.Continue pos) G Lp Kr (.cnt l) := PS.weak ps_continue fun D σ H ⟨F, hH, q⟩ => q F H σ ((Post.refl hH).weak w)
/-- what comes out may be forgotten -/
theorem st_expr {s : S} (h : EV X Γ e r Γ1) (w : Weak Γ1 (G s)) (hs : swapsWith e none pos.line X.env = pure false := by rfl) : ST X Xe Γ (.Expr e pos) G Lp Kr (.next s) :=
  PS.weak (ps_expr h hs) fun D σ H ⟨F, hH, q⟩ => ⟨F, hH, fun F1 H1 v p1 hv => q F1 H1 σ (p1.weak w)⟩
theorem st_ret {r : R} {rv : Rv} (h : EV X Γ e rv Γ1) (hr : (Kr r).1 = rv) (w : Weak Γ1 (Kr r).2) (nb : ∀ i, rv ≠ .bor i := by intro _ h; cases h) : ST X Xe Γ (.Return (some e) pos) G Lp Kr (.ret r) :=
  PS.weak (ps_ret h) fun D σ H ⟨F, hH, q⟩ => ⟨F, hH, fun F1 H1 v p1 hv => q F1 H1 σ v (p1.weak w) (by
    rw [hr]
    cases rv with
    | dat d => exact hv
    | own oc => obtain ⟨x, ho, e1, h1, h2, h3, h4, h5⟩ := hv; exact ⟨x, ho, e1, h1, h2, h3, fun z => h4 (z.weak w), h5⟩
    | bor i => exact absurd rfl (nb i))⟩
theorem st_retN {r : R} (hr : (Kr r).1 = .dat .non) (w : Weak Γ (Kr r).2) : ST X Xe Γ (.Return none pos) G Lp Kr (.ret r) :=
  PS.weak ps_retN fun D σ H ⟨F, hH, q⟩ => q F H σ .non ((Post.refl hH).weak w) (by rw [hr]; exact .non)
theorem st_if {A B : List Stmt} {k : Bool} {o1 o2 : LO S L R} (hc : TV X Γ c k Γ1) (hA : k = true → SS X Xe Γ1 A G Lp Kr o1) (hB : k = false → SS X Xe Γ1 B G Lp Kr o2) : ST X Xe Γ (.If c A B pos) G Lp Kr (if k then o1 else o2) := by
  cases k with
  | true => exact PS.weak (ps_if hc (hA rfl) pss_never) fun D σ H ⟨F, hH, q⟩ => ⟨F, hH, fun F1 H1 p1 => iteT ⟨F1, p1.ok, qST.later (o := o1) p1 q⟩⟩
  | false => exact PS.weak (ps_if hc pss_never (hB rfl)) fun D σ H ⟨F, hH, q⟩ => ⟨F, hH, fun F1 H1 p1 => iteF ⟨F1, p1.ok, qST.later (o := o2) p1 q⟩⟩

/-! ### targets -/
/-- data goes to a target -/
def GV (X : Cx) (Γ : Env') (tg : Expr) (d : D) (Γ' : Env') (is : List Nat) : Prop := ∃ g, PG X tg g ∧ ∀ (F : Hp) (σ : L2.St) (H : Hp) (v : V) (Q : L2.St → Hp → Prop), Holds (kc X) F Γ σ H → Rep (kc X) F v d →
  (∀ σ', Post (kc X) Γ σ F H Γ' σ' F H → (∀ n, n ∉ is → σ'[n]? = σ[n]?) → σ'.length = σ.length → Q σ' H) → g v σ H Q
theorem Post.setD {K : KC} {F H : Hp} {σ : L2.St} {v : V} (hH : Holds K F Γ σ H) (hv : Rep K F v d) (k : Nat) : Post K Γ σ F H (Γ.set k (.dat d)) (σ.set k (some v)) F H := by
  obtain ⟨h1, h2⟩ := Post.store (H1 := H) hH (i := k) (v := v) (s := .dat d) ⟨v, rfl, hv⟩ (fun _ _ _ z => nomatch z) (fun _ _ _ z => nomatch z)
  exact ⟨.refl, h1, h2⟩
theorem gv_name (k : Nat) {x : Str} (h : PG X (.Name x pos) (gName k)) : GV X Γ (.Name x pos) d (Γ.set k (.dat d)) [k] :=
  ⟨_, h, fun F σ H v Q hH hv q => q _ (Post.setD hH hv k) (fun n hn => List.getElem?_set_ne (fun z => hn (by simp [z]))) (by simp)⟩
/-- names, one after another -/
def setD (Γ : Env') : List (Nat × D) → Env'
  | [] => Γ
  | (k, d) :: r => setD (Γ.set k (.dat d)) r
def GVs (X : Cx) (es : List Expr) (ks : List Nat) : Prop := ∃ g, PGs X es g ∧ ∀ (ds : List D), ds.length = ks.length → ∀ (Γ : Env') (F : Hp) (σ : L2.St) (H : Hp) (vs : List V) (Q : L2.St → Hp → Prop), Holds (kc X) F Γ σ H → RepL (kc X) F vs ds →
  (∀ σ', Post (kc X) Γ σ F H (setD Γ (ks.zip ds)) σ' F H → (∀ n, n ∉ ks → σ'[n]? = σ[n]?) → σ'.length = σ.length → Q σ' H) → g vs σ H Q
theorem gvs_nil : GVs X [] [] := ⟨_, pgs_nil, fun ds hl Γ F σ H vs Q hH hv q => by
  cases ds with
  | nil => cases hv; exact ⟨rfl, q σ (.refl hH) (fun _ _ => rfl) rfl⟩
  | cons _ _ => cases hl⟩
theorem gvs_cons (k : Nat) {x : Str} {el : List Expr} {ks : List Nat} (h : PG X (.Name x pos) (gName k)) (t : GVs X el ks) (hs : (assignEach (.Name x pos :: el) X.env).map (·.2) = assign (.Name x pos) X.env :: (assignEach el X.env).map (·.2) := by rfl) : GVs X (.Name x pos :: el) (k :: ks) := by
  obtain ⟨g, h2, w⟩ := t
  refine ⟨_, pgs_cons h h2 hs, fun ds hl Γ F σ H vs Q hH hv q => ?_⟩
  cases ds with
  | nil => cases hl
  | cons d dr =>
    cases hv with
    | cons r t =>
      refine ⟨_, _, rfl, ?_⟩
      have p1 := Post.setD hH r k
      refine w dr (by simpa using hl) (Γ.set k (.dat d)) F _ H _ Q p1.ok t fun σ' p2 h3 h4 => q σ' (p1.trans p2) (fun n hn => ?_) (by rw [h4]; simp)
      simp only [List.mem_cons, not_or] at hn
      rw [h3 n hn.2]
      exact List.getElem?_set_ne (fun z => hn.1 z.symm)
theorem gv_tup {el : List Expr} {ks : List Nat} {m : Nat} (hc : X.calm = true) (h : GVs X el ks) (hl : ds.length = ks.length) (hn : (assignEach el X.env).length = ks.length := by rfl) (hst : (assignEach el X.env).findIdx? (·.1) = none := by rfl) : GV X Γ (.Tuple el m pos) (.tup ds) (setD Γ (ks.zip ds)) ks := by
  obtain ⟨g, h2, w⟩ := h
  refine ⟨_, pg_tup hc h2 hn hst, fun F σ H v Q hH hv q => ?_⟩
  obtain ⟨a, vs, rfl, s, t⟩ := Rep.tup_at hv
  exact ⟨a, vs, rfl, hH.le.seqT s, by rw [t.length]; exact hl, w ds hl Γ F σ H vs Q hH t q⟩

/-! ### assignments -/
/-- what a slot holds of a result -/
def slOf : Rv → Sl
  | .dat d => .dat d
  | .own c => .own none c
  | .bor _ => .any
theorem set_run {te : TE} {k : Nat} {s : S} (hw : ∀ σ H Q, tEV (kc X) Γ r Γ1 σ H Q → te σ H Q) (w : Weak (Γ1.set k (slOf r)) (G s)) (D : Ends) (σ : L2.St) (H : Hp) (h : tST X Xe Γ G Lp Kr (.next s : LO S L R) D σ H) : tAsg te (gName k) D σ H := by
  obtain ⟨F, hH, q⟩ := h
  refine hw σ H _ ⟨F, hH, fun F1 H1 v p1 hv => ?_⟩
  have st : Holds (kc X) F1 (Γ1.set k (slOf r)) (σ.set k (some v)) H1 ∧ ∀ y, Owned (Γ1.set k (slOf r)) (σ.set k (some v)) y → Owned Γ1 σ y ∨ (Owned Γ σ y ∨ H y = none) := by
    cases r with
    | dat d =>
      obtain ⟨h1, h2⟩ := Post.store (H1 := H1) p1.ok (i := k) (v := v) (s := .dat d) ⟨v, rfl, hv⟩ (fun _ _ _ z => nomatch z) (fun _ _ _ z => nomatch z)
      exact ⟨h1, fun y hy => .inr (by rcases h2 y hy with z | z; exact p1.sub y z; exact .inr (p1.ext.fresh z))⟩
    | own oc =>
      obtain ⟨y, ho, e1, g1, g2, g3, g4, g5⟩ := hv
      subst e1
      obtain ⟨h1, h2⟩ := Post.store (H1 := fun z => if z = y then none else H1 z) p1.ok (i := k) (v := .ref y) (s := .own none oc) ⟨y, ho, rfl, (fun b z => nomatch z), g1, g2, g3⟩
        (fun a ao c e1 e2 => by cases e2; exact g4) (fun a ao c e1 e2 => by cases e2; exact .inr (if_pos rfl))
      refine ⟨h1, fun z hz => ?_⟩
      rcases h2 z hz with q1 | q1
      · exact .inl q1
      · by_cases e : z = y
        · subst e; exact .inr g5
        · have q1 : (if z = y then none else H1 z) = none := q1
          rw [if_neg e] at q1
          exact .inr (.inr (p1.ext.fresh q1))
    | bor m =>
      obtain ⟨h1, h2⟩ := Post.store (H1 := H1) p1.ok (i := k) (v := v) (s := .any) trivial (fun _ _ _ z => nomatch z) (fun _ _ _ z => nomatch z)
      exact ⟨h1, fun y hy => .inr (by rcases h2 y hy with z | z; exact p1.sub y z; exact .inr (p1.ext.fresh z))⟩
  refine q F1 H1 _ ((⟨p1.ext, st.1, fun y hy => ?_⟩ : Post (kc X) Γ σ F H _ _ F1 H1).weak w)
  rcases st.2 y hy with z | z
  · exact p1.sub y z
  · exact z
theorem st_set (k : Nat) {x : Str} {s : S} {px : Pos} (hN : X.N.Nodup) (hi : X.N[k]? = some x) (hx : Loc X.env.scope x) (h : EV X Γ e r Γ1) (w : Weak (Γ1.set k (slOf r)) (G s)) (hs : swapsWith e (some (.Name x px)) pos.line X.env = pure false := by rfl)
    (hf : X.fn x = true ∨ X.env.scope.names.lookup x = some .local := by first | exact .inl rfl | exact .inr rfl | assumption) : ST X Xe Γ (.Assign [.Name x px] e pos) G Lp Kr (.next s) :=
  PS.weak (ps_set hN hi hx h hs hf) (set_run (fun _ _ _ h => h) w)
/-- a, b = e -/
theorem st_unpack {tg : Expr} {s : S} {is : List Nat} (h : EV X Γ e (.dat d) Γ1) (hg : GV X Γ1 tg d Γ2 is) (w : Weak Γ2 (G s)) (hs : swapsWithSole [tg] e pos.line X.env = pure false := by rfl) (hw : swappedStores [tg] e X.env = pure none := by rfl)
    (h1 : (assignEach [tg] X.env).map (·.2) = [assign tg X.env] := by rfl) : ST X Xe Γ (.Assign [tg] e pos) G Lp Kr (.next s) := by
  obtain ⟨g, hg, hq⟩ := hg
  exact PS.weak (ps_asg h hg hs hw h1) fun D σ H ⟨F, hH, q⟩ => ⟨F, hH, fun F1 H1 v p1 hv => hq F1 σ H1 v _ p1.ok hv fun σ' p2 _ _ => q F1 H1 σ' ((p1.trans p2).weak w)⟩
end
end PD
namespace PD
open PySem PySem.Spec PyProof.Rows L2
/-! ### sizes -/
def Sz (K : KC) (H : Hp) : Prop := (∀ a xs, SqL K.K H a xs → xs.length ≤ sizeLine) ∧ ∀ a xs, SqT K.K H a xs → xs.length ≤ sizeLine
theorem Inv.sz' {X : Cx} {pins : List (Addr × Obj)} {σ : L2.St} {H : Hp} {s : Shared} (I : Inv X pins σ H s) : Sz (kc X) H :=
  ⟨fun a xs h => (I.list h).elim fun _ z => z.2.2, fun a xs h => (I.tuple h).elim fun _ z => z.2.2⟩
section
variable {X : Cx} {Xe Γ Γ1 Γ2 Γ3 : Env'} {e a b c tg iter : Expr} {pos p px apos : Pos} {r ra rb rc rv : Rv} {d : D} {ds es : List D} {i j : Int} {S S' L R : Type} {G : S → Env'} {G' : S' → Env'} {Lp : L → Env'} {Kr : R → Rv × Env'} {st : Stmt} {rest : List Stmt} {o : LO S L R}
theorem PE.sz0 {t : TE} (h : PE X e t) : PE X e (fun σ H Q => Sz (kc X) H → t σ H Q) := ⟨fun pins s σ H Q I q => h.run pins s σ H Q I (q (Inv.sz' I))⟩
theorem PS.sz0 {t : TS} (h : PS X st t) : PS X st (fun D σ H => Sz (kc X) H → t D σ H) := ⟨fun pins s σ H D I q => h.run pins s σ H D I (q (Inv.sz' I))⟩
theorem PSs.sz0 {t : TS} (h : PSs X rest t) : PSs X rest (fun D σ H => Sz (kc X) H → t D σ H) := ⟨fun pins s σ H D I q => h.run pins s σ H D I (q (Inv.sz' I))⟩
theorem PI.sz {wi : TI} (h : PI X tg iter wi) : PI X tg iter (fun σ H R => wi σ H fun J H1 => Sz (kc X) H1 → R J H1) :=
  ⟨fun pins s σ H R I q => thn (h.run pins s σ H _ I q) fun v s1 h1 => thn h1 fun itv s2 ⟨it, fp, tn, J, H', e, I2, T, st, f, r⟩ => ⟨it, fp, tn, J, H', e, I2, T, st, f, r (Inv.sz' I2)⟩⟩
/-- the length of a list that a slot holds -/
def lenOk : Sl → Prop
  | .dat (.lst ds) => ds.length ≤ sizeLine
  | .dat (.tup ds) => ds.length ≤ sizeLine
  | .own _ (.lst ds) => ds.length ≤ sizeLine
  | _ => True
theorem Holds.lenOk {K : KC} {F H : Hp} {σ : L2.St} (h : Holds K F Γ σ H) (z : Sz K H) (k : Nat) (s : Sl) (e : Γ[k]? = some s) : PD.lenOk s := by
  have q := h.sl k s e
  cases s with
  | any => trivial
  | dat d =>
    obtain ⟨v, _, r⟩ := q
    cases r with
    | lst s t => show List.length _ ≤ _; rw [← t.length]; exact z.1 _ _ (h.le.seqL s)
    | tup s t => show List.length _ ≤ _; rw [← t.length]; exact z.2 _ _ (h.le.seqT s)
    | _ => trivial
  | own ao oc =>
    obtain ⟨x, ho, _, _, h1, _, h3⟩ := q
    cases oc with
    | lst ds =>
      obtain ⟨vs, rfl, t⟩ := h3
      show List.length _ ≤ _
      rw [← t.length]
      exact z.1 _ _ (SqL.of h1)
    | _ => trivial
  | err a d x => trivial
theorem ss_len (h : (∀ (k : Nat) s, Γ[k]? = some s → lenOk s) → SS X Xe Γ rest G Lp Kr o) : SS X Xe Γ rest G Lp Kr o :=
  ⟨fun pins s σ H D I ⟨F, hH, q⟩ => (h (hH.lenOk (Inv.sz' I))).run pins s σ H D I ⟨F, hH, q⟩⟩
theorem ev_len0 (h : (∀ (k : Nat) s, Γ[k]? = some s → lenOk s) → EV X Γ e r Γ1) : EV X Γ e r Γ1 :=
  ⟨fun pins s σ H Q I ⟨F, hH, q⟩ => (h (hH.lenOk (Inv.sz' I))).run pins s σ H Q I ⟨F, hH, q⟩⟩

/-! ### targets by their shape -/
inductive Sh where
  | name (k : Nat)
  | tup (ss : List Sh)
mutual
def Sh.set : Sh → Env' → D → Option Env'
  | .name k, Γ, d => some (Γ.set k (.dat d))
  | .tup ss, Γ, .tup ds => Sh.setL ss Γ ds
  | .tup _, _, _ => none
def Sh.setL : List Sh → Env' → List D → Option Env'
  | [], Γ, [] => some Γ
  | s :: ss, Γ, d :: ds => match Sh.set s Γ d with
    | some Γ' => Sh.setL ss Γ' ds
    | none => none
  | _, _, _ => none
end
mutual
def Sh.ix : Sh → List Nat
  | .name k => [k]
  | .tup ss => Sh.ixL ss
def Sh.ixL : List Sh → List Nat
  | [] => []
  | s :: ss => Sh.ix s ++ Sh.ixL ss
end
mutual
def Sh.g (K : KC) : Sh → TG
  | .name k => gName k
  | .tup ss => gTup K.K ss.length (Sh.gL K ss)
def Sh.gL (K : KC) : List Sh → TGs
  | [] => gNil
  | s :: ss => gCons (Sh.g K s) (Sh.gL K ss)
end
mutual
theorem Sh.run {K : KC} {F H : Hp} {Q : L2.St → Hp → Prop} : ∀ (s : Sh) {Γ Γ' : Env'} {d : D} {v : V} {σ : L2.St}, s.set Γ d = some Γ' → Holds K F Γ σ H → Rep K F v d →
    (∀ σ', Post K Γ σ F H Γ' σ' F H → (∀ n, n ∉ s.ix → σ'[n]? = σ[n]?) → σ'.length = σ.length → Q σ' H) → s.g K v σ H Q
  | .name k, Γ, Γ', d, v, σ, e, hH, hv, q => by
    cases (Option.some.inj (show some (Γ.set k (.dat d)) = some Γ' from e))
    exact q _ (Post.setD hH hv k) (fun n hn => List.getElem?_set_ne (fun z => hn (by simp [Sh.ix, z]))) (by simp)
  | .tup ss, Γ, Γ', .tup ds, v, σ, e, hH, hv, q => by
    obtain ⟨a, vs, rfl, s, t⟩ := Rep.tup_at hv
    exact ⟨a, vs, rfl, hH.le.seqT s, by rw [t.length]; exact Sh.lenL ss e, Sh.runL ss e hH t q⟩
theorem Sh.lenL : ∀ (ss : List Sh) {Γ Γ' : Env'} {ds : List D}, Sh.setL ss Γ ds = some Γ' → ds.length = ss.length
  | [], _, _, [], _ => rfl
  | [], _, _, _ :: _, e => nomatch e
  | s :: ss, Γ, Γ', [], e => nomatch e
  | s :: ss, Γ, Γ', d :: ds, e => by
    have e : (match Sh.set s Γ d with | some Γ' => Sh.setL ss Γ' ds | none => none) = some Γ' := e
    cases q : Sh.set s Γ d with
    | none => rw [q] at e; cases e
    | some Γ1 => rw [q] at e; exact congrArg (· + 1) (Sh.lenL ss e)
theorem Sh.runL {K : KC} {F H : Hp} {Q : L2.St → Hp → Prop} : ∀ (ss : List Sh) {Γ Γ' : Env'} {ds : List D} {vs : List V} {σ : L2.St}, Sh.setL ss Γ ds = some Γ' → Holds K F Γ σ H → RepL K F vs ds →
    (∀ σ', Post K Γ σ F H Γ' σ' F H → (∀ n, n ∉ Sh.ixL ss → σ'[n]? = σ[n]?) → σ'.length = σ.length → Q σ' H) → Sh.gL K ss vs σ H Q
  | [], Γ, Γ', [], vs, σ, e, hH, hv, q => by
    cases (Option.some.inj (show some Γ = some Γ' from e))
    cases hv
    exact ⟨rfl, q σ (.refl hH) (fun _ _ => rfl) rfl⟩
  | [], _, _, _ :: _, _, _, e, _, _, _ => nomatch e
  | s :: ss, Γ, Γ', [], _, _, e, _, _, _ => nomatch e
  | s :: ss, Γ, Γ', d :: ds, vs, σ, e, hH, hv, q => by
    have e : (match Sh.set s Γ d with | some Γ' => Sh.setL ss Γ' ds | none => none) = some Γ' := e
    cases q1 : Sh.set s Γ d with
    | none => rw [q1] at e; cases e
    | some Γ1 =>
      rw [q1] at e
      cases hv with
      | cons r t =>
        refine ⟨_, _, rfl, Sh.run s q1 hH r fun σ1 p1 k1 l1 => Sh.runL ss e p1.ok t fun σ2 p2 k2 l2 => q σ2 (p1.trans p2) (fun n hn => ?_) (l2.trans l1)⟩
        have hn : n ∉ Sh.ix s ++ Sh.ixL ss := hn
        simp only [List.mem_append, not_or] at hn
        rw [k2 n hn.2, k1 n hn.1]
end
theorem sh_name (k : Nat) {x : Str} (h : PG X (.Name x pos) (gName k)) : PG X (.Name x pos) ((Sh.name k).g (kc X)) := h
theorem sh_tup {el : List Expr} {ss : List Sh} {m : Nat} (hc : X.calm = true) (h : PGs X el (Sh.gL (kc X) ss)) (hn : (assignEach el X.env).length = ss.length := by rfl) (hst : (assignEach el X.env).findIdx? (·.1) = none := by rfl) : PG X (.Tuple el m pos) ((Sh.tup ss).g (kc X)) := pg_tup hc h hn hst
theorem sh_nil : PGs X [] (Sh.gL (kc X) []) := pgs_nil
theorem sh_cons {el : List Expr} {s : Sh} {ss : List Sh} (h1 : PG X e (s.g (kc X))) (h2 : PGs X el (Sh.gL (kc X) ss)) (hs : (assignEach (e :: el) X.env).map (·.2) = assign e X.env :: (assignEach el X.env).map (·.2) := by rfl) : PGs X (e :: el) (Sh.gL (kc X) (s :: ss)) := pgs_cons h1 h2 hs
theorem gv_sh {s : Sh} (h : PG X tg (s.g (kc X))) (e : s.set Γ d = some Γ1) : GV X Γ tg d Γ1 s.ix := ⟨_, h, fun F σ H v Q hH hv q => Sh.run s e hH hv q⟩

/-! ### what is walked -/
structure JOk (K : KC) (F1 : Hp) (J : It) (ds : List D) : Prop where
  go : ∀ F' H', Le F1 F' → Le F' H' → ∀ (i : Nat) (d : D), ds[i]? = some d → J.go i H' ∧ ∀ x H2, J.yld i H' x H2 → ∃ F2, Ext (fun _ => False) F' H' F2 H2 ∧ Le F2 H2 ∧ Rep K F2 x d
  stop : ∀ F' H', Le F1 F' → Le F' H' → J.stop ds.length H'
def IV (X : Cx) (Γ : Env') (tg iter : Expr) (ds : List D) (Γ1 : Env') (B : Prop) : Prop := ∃ wi, PI X tg iter wi ∧ ∀ (σ : L2.St) (H : Hp) (R : It → Hp → Prop) (F : Hp), Holds (kc X) F Γ σ H →
  (∀ F1 H1 J, Post (kc X) Γ σ F H Γ1 σ F1 H1 → JOk (kc X) F1 J ds → B → R J H1) → wi σ H R
theorem iv_list (h : EV X Γ e (.dat (.lst ds)) Γ1) : IV X Γ tg e ds Γ1 (ds.length ≤ sizeLine) := ⟨_, PD.PI.sz (pi_list h), fun σ H R F hH q => ⟨F, hH, fun F1 H1 v p hv => by
  cases hv with
  | lst s t =>
    refine ⟨_, rfl, ⟨_, p.ok.le.seqL s⟩, fun z => q F1 H1 _ p ⟨fun F' H' l1 l2 i d hd => ?_, fun F' H' l1 l2 => ⟨_, (l1.trans l2).seqL s, by rw [t.length]; exact Nat.le_refl _⟩⟩ (by rw [← t.length]; exact z.1 _ _ (p.ok.le.seqL s))⟩
    obtain ⟨x, hx, rx⟩ := t.get hd
    refine ⟨⟨_, x, (l1.trans l2).seqL s, hx⟩, fun y H2 ⟨e1, e2⟩ => ?_⟩
    subst e1
    have := e2 _ ((l1.trans l2).seqL s)
    rw [hx] at this; cases this
    exact ⟨F', .refl, l2, rx.mono l1⟩⟩⟩
theorem iv_tup (h : EV X Γ e (.dat (.tup ds)) Γ1) : IV X Γ tg e ds Γ1 (ds.length ≤ sizeLine) := ⟨_, PD.PI.sz (pi_tup h), fun σ H R F hH q => ⟨F, hH, fun F1 H1 v p hv => by
  cases hv with
  | tup s t =>
    refine ⟨_, rfl, ⟨_, p.ok.le.seqT s⟩, fun z => q F1 H1 _ p ⟨fun F' H' l1 l2 i d hd => ?_, fun F' H' l1 l2 => ⟨_, (l1.trans l2).seqT s, by rw [t.length]; exact Nat.le_refl _⟩⟩ (by rw [← t.length]; exact z.2 _ _ (p.ok.le.seqT s))⟩
    obtain ⟨x, hx, rx⟩ := t.get hd
    refine ⟨⟨_, x, (l1.trans l2).seqT s, hx⟩, fun y H2 ⟨e1, e2⟩ => ?_⟩
    subst e1
    have := e2 _ ((l1.trans l2).seqT s)
    rw [hx] at this; cases this
    exact ⟨F', .refl, l2, rx.mono l1⟩⟩⟩
theorem jok_range {K : KC} {F1 : Hp} (lo : Int) (n : Nat) : JOk K F1 (Itr lo n) ((List.range n).map fun i => D.int (lo + (i : Nat))) := by
  refine ⟨fun F' H' l1 l2 i d hd => ?_, fun F' H' l1 l2 => by simp [Itr]⟩
  rw [List.getElem?_map] at hd
  cases e : (List.range n)[i]? with
  | none => rw [e] at hd; cases hd
  | some k =>
    rw [e] at hd
    obtain ⟨h1, h2⟩ := List.getElem?_eq_some_iff.mp e
    simp at h1 h2
    subst h2
    cases hd
    exact ⟨h1, fun x H2 ⟨e1, e2⟩ => by subst e1 e2; exact ⟨F', .refl, l2, .int _⟩⟩
theorem iv_range1 {n : Int} (hg : Gl X "range") (hm : X.mg "range" = none) (ha : EV X Γ a (.dat (.int n)) Γ1) (h1 : -(2 ^ 62) ≤ n) (h2 : n < 2 ^ 62) (hs : starEach [a] X.env = [(false, eval a X.env)] := by rfl) :
    IV X Γ tg (.Call (.Name "range" p) [a] [] pos) ((List.range n.toNat).map fun i => D.int (0 + (i : Nat))) Γ1 True :=
  ⟨_, pi_range1 hg hm (pa_cons ha pa_nil hs) hs, fun σ H R F hH q => ⟨F, hH, fun F1 H1 v p hv => by cases hv; exact ⟨n, rfl, h1, h2, q F1 H1 _ p (jok_range 0 n.toNat) trivial⟩⟩⟩
theorem iv_range2 {n m : Int} (hg : Gl X "range") (hm : X.mg "range" = none) (ha : EV X Γ a (.dat (.int n)) Γ1) (hb : EV X Γ1 b (.dat (.int m)) Γ2) (h1 : -(2 ^ 62) ≤ n ∧ n < 2 ^ 62 ∧ -(2 ^ 62) ≤ m ∧ m < 2 ^ 62) (hs : starEach [a, b] X.env = [(false, eval a X.env), (false, eval b X.env)] := by rfl) (hs2 : starEach [b] X.env = [(false, eval b X.env)] := by rfl) :
    IV X Γ tg (.Call (.Name "range" p) [a, b] [] pos) ((List.range (m - n).toNat).map fun i => D.int (n + (i : Nat))) Γ2 True :=
  ⟨_, pi_range2 hg hm (pa_cons ha (pa_cons hb pa_nil hs2) (by rw [hs, hs2])) hs hs2, fun σ H R F hH q => ⟨F, hH, fun F1 H1 v p1 hv => ⟨F1, p1.ok, fun F2 H2 u p2 hu => by
    cases hv; cases hu
    exact ⟨n, m, rfl, h1, q F2 H2 _ (p1.trans p2) (jok_range n (m - n).toNat) trivial⟩⟩⟩⟩

theorem Post.grow {K : KC} {F H F2 H2 : Hp} {σ : L2.St} (h : Holds K F Γ σ H) (x : Ext (fun _ => False) F H F2 H2) (l : Le F2 H2) : Post K Γ σ F H Γ σ F2 H2 :=
  ⟨⟨x.mono, fun a o ha fa _ => x.keep a o ha fa (fun z => z), x.there⟩, ⟨l, h.len, fun i s e => (h.sl i s e).mono x.mono fun a ho ha fa _ => x.keep a ho ha fa (fun z => z), h.dis⟩, fun a z => .inl z⟩

/-! ### for -/
variable {α : Type} {enc : α → D} {body : List Stmt} {Gs : S → Env'} {sh : Sh} {B : Prop}
def forL (step : S → α → LO S S R) : List α → S → LO S L R
  | [], s => .next s
  | x :: xs, s => match step s x with
    | .next s' => forL step xs s'
    | .cnt s' => forL step xs s'
    | .brk s' => .next s'
    | .ret r => .ret r
    | .exc x => .exc x
    | .bad => .bad
theorem st_for (step : S → α → LO S S R) {xs : List α} {s0 : S} (hi : IV X Γ tg iter (xs.map enc) Γ1 B) (hg : PG X tg (sh.g (kc X))) (hp : PassesOwn (model X.prog X.w) X.A X.env X.xe) (hc : X.calm = true) (w0 : Weak Γ1 (Gs s0))
    (hb : B → ∀ s x, x ∈ xs → ∃ Γa, sh.set (Gs s) (enc x) = some Γa ∧ SS X Xe Γa body Gs Gs Kr (step s x))
    (hs : ∀ x, foldedSetIterable iter X.env x = pure x := by intro _; rfl) : ST X Xe Γ (.For tg iter body [] pos) Gs Lp Kr (forL (L := L) step xs s0) := by
  obtain ⟨wi, hi, hw⟩ := hi
  -- one reading of the body for all turns
  have hbody : PSs X body (fun D σ H => ∃ Γa s x, SS X Xe Γa body Gs Gs Kr (step s x) ∧ tST X Xe Γa Gs Gs Kr (step s x) D σ H) := ⟨fun pins s σ H D I ⟨Γa, s1, x, h1, h2⟩ => h1.run pins s σ H D I h2⟩
  refine PS.weak (ps_for hp hc hi hg hbody hs) fun D σ H ⟨F, hH, q⟩ => ?_
  refine hw σ H _ F hH fun F1 H1 J p1 jok hB => ?_
  refine ⟨fun i m σ' H' => ∃ F' s, m = xs.length - i ∧ i ≤ xs.length ∧ Post (kc X) Γ σ F H (Gs s) σ' F' H' ∧ Le F1 F' ∧ forL (L := L) step (xs.drop i) s = forL step xs s0, ⟨xs.length, F1, s0, rfl, Nat.zero_le _, p1.weak w0, Le.refl _, rfl⟩, ?_⟩
  rintro i m σ' H' ⟨F', s, rfl, hin, p', l', hrest⟩
  by_cases hlt : i < xs.length
  · have hx : xs[i]? = some xs[i] := List.getElem?_eq_getElem hlt
    have hdx : (xs.map enc)[i]? = some (enc xs[i]) := by rw [List.getElem?_map, hx]; rfl
    obtain ⟨go, yl⟩ := jok.go F' H' l' p'.ok.le i _ hdx
    obtain ⟨Γa, hset, hbd⟩ := hb hB s xs[i] (List.getElem_mem hlt)
    have hd : xs.drop i = xs[i] :: xs.drop (i + 1) := List.drop_eq_getElem_cons hlt
    rw [hd] at hrest
    have hrest : (match step s xs[i] with | .next s' => forL step (xs.drop (i + 1)) s' | .cnt s' => forL step (xs.drop (i + 1)) s' | .brk s' => .next s' | .ret r => .ret r | .exc x => .exc x | .bad => .bad) = forL (L := L) step xs s0 := hrest
    refine .inr ⟨go, fun σ2 H2 => ∃ F2 s2, Post (kc X) Γ σ F H (Gs s2) σ2 F2 H2 ∧ Le F1 F2 ∧ forL (L := L) step (xs.drop (i + 1)) s2 = forL step xs s0, fun σ2 H2 ⟨F2, s2, a1, a2, a4⟩ => ⟨xs.length - (i + 1), by omega, F2, s2, rfl, hlt, a1, a2, a4⟩, fun x H2 hy => ?_⟩
    obtain ⟨F2, x2, l2, r2⟩ := yl x H2 hy
    have p2 := Post.grow p'.ok x2 l2
    refine Sh.run sh hset p2.ok r2 fun σ3 p3 _ _ => ⟨Γa, s, xs[i], hbd, F2, p3.ok, ?_⟩
    have pa := (p'.trans p2).trans p3
    have la : Le F1 F2 := l'.trans x2.mono
    revert hrest
    cases step s xs[i] with
    | next s2 => exact fun hrest F4 H4 σ4 p4 => ⟨F4, s2, pa.trans p4, la.trans p4.ext.mono, hrest⟩
    | cnt s2 => exact fun hrest F4 H4 σ4 p4 => ⟨F4, s2, pa.trans p4, la.trans p4.ext.mono, hrest⟩
    | brk s2 =>
      intro hrest F4 H4 σ4 p4
      rw [← hrest] at q
      exact q F4 H4 σ4 (pa.trans p4)
    | ret r =>
      intro hrest F4 H4 σ4 v p4 hv
      rw [← hrest] at q
      exact q F4 H4 σ4 v (pa.trans p4) (hv.at fun _ z => NewAt.back pa z)
    | exc y =>
      intro hrest F4 H4 σ4 cls d p4 hx
      rw [← hrest] at q
      exact q F4 H4 σ4 cls d (pa.trans p4) hx
    | bad =>
      intro hrest
      rw [← hrest] at q
      exact q.elim
  · have e : i = xs.length := by omega
    subst e
    refine .inl ⟨by have := jok.stop F' H' l' p'.ok.le; rwa [List.length_map] at this, ?_⟩
    rw [List.drop_length] at hrest
    have hrest : LO.next s = forL (L := L) step xs s0 := hrest
    rw [← hrest] at q
    exact q F' H' σ' p'
/-- a loop that does not leave early is a fold -/
theorem forL_fold (f : S → α → S) (xs : List α) (s : S) : forL (L := L) (R := R) (fun s x => .next (f s x)) xs s = .next (xs.foldl f s) := by
  induction xs generalizing s with
  | nil => rfl
  | cons x xs ih => exact ih (f s x)
end
end PD
namespace PD
open PySem PySem.Spec PyProof.Rows L2
/-! ### comprehensions -/
theorem wipe_off {σ : L2.St} {n : Nat} : ∀ {vs : List Nat}, n ∉ vs → (wipe σ vs)[n]? = σ[n]?
  | [], _ => rfl
  | v :: vs, h => by
    simp only [List.mem_cons, not_or] at h
    unfold wipe
    rw [List.getElem?_set_ne (Ne.symm h.1)]
    exact wipe_off h.2
theorem wipe_on {σ : L2.St} {n : Nat} : ∀ {vs : List Nat}, n ∈ vs → n < σ.length → (wipe σ vs)[n]? = some none
  | v :: vs, h, hn => by
    unfold wipe
    by_cases e : v = n
    · subst e
      rw [List.getElem?_set_self (by rw [wipe_length]; exact hn)]
    · rw [List.getElem?_set_ne e]
      exact wipe_on ((List.mem_cons.mp h).resolve_left (Ne.symm e)) hn
theorem wipe_ext {σ τ : L2.St} {vs : List Nat} (hl : τ.length = σ.length) (h : ∀ n, n ∉ vs → τ[n]? = σ[n]?) : wipe τ vs = wipe σ vs := by
  refine List.ext_getElem? fun n => ?_
  by_cases hn : n ∈ vs
  · by_cases hlt : n < σ.length
    · rw [wipe_on hn (by rw [hl]; exact hlt), wipe_on hn hlt]
    · rw [List.getElem?_eq_none (by rw [wipe_length, hl]; omega), List.getElem?_eq_none (by rw [wipe_length]; omega)]
  · rw [wipe_off hn, wipe_off hn, h n hn]
theorem wipe_idem {σ : L2.St} {vs : List Nat} : wipe (wipe σ vs) vs = wipe σ vs := wipe_ext (wipe_length σ vs) fun n hn => wipe_off hn
theorem wipe_ext_of {σ τ : L2.St} {vs : List Nat} (hl : τ.length = (wipe σ vs).length) (h : ∀ n, n ∉ vs → τ[n]? = (wipe σ vs)[n]?) : wipe τ vs = wipe σ vs := (wipe_ext hl h).trans wipe_idem
section
variable {X : Cx} {Xe Γ Γ1 Γ2 Γ3 : Env'} {e a b c tg iter elt : Expr} {pos p px apos : Pos} {r ra rb rc rv : Rv} {d : D} {ds es : List D} {i j : Int} {S S' L R : Type} {G : S → Env'} {G' : S' → Env'} {Lp : L → Env'} {Kr : R → Rv × Env'} {st : Stmt} {rest : List Stmt} {o : LO S L R}
theorem Post.upd {K : KC} {F H F1 H1 : Hp} {σ σ1 : L2.St} {D : Addr} {ho : HO} (p : Post K Γ σ F H Γ1 σ1 F1 H1) (n : H D = none) (f : F1 D = none) (no : ¬ Owned Γ1 σ1 D) : Post K Γ σ F H Γ1 σ1 F1 (L2.upd H1 D ho) := by
  refine ⟨⟨p.ext.mono, fun a o h hf nO => ?_, fun a o h => ?_⟩, ⟨fun a o fa => ?_, p.ok.len, fun k s e => ?_, p.ok.dis⟩, p.sub⟩
  · obtain ⟨k1, k2⟩ := p.ext.keep a o h hf nO
    exact ⟨by rw [upd_ne (ne_of_none h n)]; exact k1, k2⟩
  · obtain ⟨o', k1⟩ := p.ext.there a o h
    exact ⟨o', by rw [upd_ne (ne_of_none h n)]; exact k1⟩
  · rw [upd_ne (ne_of_none fa f)]; exact p.ok.le a o fa
  · have q := p.ok.sl k s e
    cases s with
    | any => trivial
    | dat d => exact q
    | own ao c =>
      obtain ⟨x, u, e1, e2, h1, h2, h3⟩ := q
      exact ⟨x, u, e1, e2, by rw [upd_ne (fun z => no (by subst z; exact ⟨k, ao, c, e, join_some e1⟩))]; exact h1, h2, h3⟩
    | err a d x => exact q
/-- the slots of a block forgotten, and back -/
theorem Post.wiped {K : KC} {F H F1 H1 : Hp} {σ : L2.St} {vs : List Nat} (p : Post K Γ σ F H Γ1 σ F1 H1) (w : Weak Γ1 Γ2) (hv : ∀ n, n ∈ vs → ∀ s, Γ2[n]? = some s → s = .any) : Post K Γ σ F H Γ2 (wipe σ vs) F1 H1 := by
  have p' := p.weak w
  have nv : ∀ (k : Nat) (ao : Option Addr) (c : Oc), Γ2[k]? = some (.own ao c) → k ∉ vs := fun k ao c e hk => nomatch (hv k hk _ e)
  refine ⟨p'.ext, ⟨p'.ok.le, by rw [wipe_length]; exact p'.ok.len, fun k s e => ?_, fun k l ak al ck cl x ek el sk sl => ?_⟩, fun x ⟨k, ao, c, e, s⟩ => ?_⟩
  · by_cases hk : k ∈ vs
    · rw [hv k hk s e]; trivial
    · rw [wipe_off hk]; exact p'.ok.sl k s e
  · rw [wipe_off (nv k ak ck ek)] at sk
    rw [wipe_off (nv l al cl el)] at sl
    exact p'.ok.dis k l ak al ck cl x ek el sk sl
  · rw [wipe_off (nv k ao c e)] at s
    exact p'.sub x ⟨k, ao, c, e, s⟩
theorem Post.wiped' {K : KC} {F H F1 H1 : Hp} {σ σ1 : L2.St} {vs : List Nat} (p : Post K Γ σ F H Γ1 σ1 F1 H1) (w : Weak Γ1 Γ2) (hv : ∀ n, n ∈ vs → ∀ s, Γ2[n]? = some s → s = .any) : Post K Γ σ F H Γ2 (wipe σ1 vs) F1 H1 := by
  have p' := p.weak w
  have nv : ∀ (k : Nat) (ao : Option Addr) (c : Oc), Γ2[k]? = some (.own ao c) → k ∉ vs := fun k ao c e hk => nomatch (hv k hk _ e)
  refine ⟨p'.ext, ⟨p'.ok.le, by rw [wipe_length]; exact p'.ok.len, fun k s e => ?_, fun k l ak al ck cl x ek el sk sl => ?_⟩, fun x ⟨k, ao, c, e, s⟩ => ?_⟩
  · by_cases hk : k ∈ vs
    · rw [hv k hk s e]; trivial
    · rw [wipe_off hk]; exact p'.ok.sl k s e
  · rw [wipe_off (nv k ak ck ek)] at sk
    rw [wipe_off (nv l al cl el)] at sl
    exact p'.ok.dis k l ak al ck cl x ek el sk sl
  · rw [wipe_off (nv k ao c e)] at s
    exact p'.sub x ⟨k, ao, c, e, s⟩
theorem Post.unwiped {K : KC} {F H F1 H1 : Hp} {σ : L2.St} {vs : List Nat} (p : Post K Γ σ F H Γ2 (wipe σ vs) F1 H1) (hv : ∀ n, n ∈ vs → ∀ s, Γ2[n]? = some s → s = .any) : Post K Γ σ F H Γ2 σ F1 H1 := by
  have nv : ∀ (k : Nat) (ao : Option Addr) (c : Oc), Γ2[k]? = some (.own ao c) → k ∉ vs := fun k ao c e hk => nomatch (hv k hk _ e)
  refine ⟨p.ext, ⟨p.ok.le, by rw [p.ok.len, wipe_length], fun k s e => ?_, fun k l ak al ck cl x ek el sk sl => ?_⟩, fun x ⟨k, ao, c, e, s⟩ => ?_⟩
  · by_cases hk : k ∈ vs
    · rw [hv k hk s e]; trivial
    · have := p.ok.sl k s e
      rw [wipe_off hk] at this; exact this
  · refine p.ok.dis k l ak al ck cl x ek el ?_ ?_
    · rw [wipe_off (nv k ak ck ek)]; exact sk
    · rw [wipe_off (nv l al cl el)]; exact sl
  · exact p.sub x ⟨k, ao, c, e, by rw [wipe_off (nv k ao c e)]; exact s⟩
def TTs (X : Cx) (Γ : Env') (ifs : List Expr) (k : Bool) (Γ' : Env') : Prop := PTs X ifs (tTV (kc X) Γ k Γ')
theorem PTs.weak {ifs : List Expr} {t t' : TT} (h : PTs X ifs t) (w : ∀ σ H Q, t' σ H Q → t σ H Q) : PTs X ifs t' := ⟨fun pins s σ H Q I q => h.run pins s σ H Q I (w σ H Q q)⟩
theorem tts_nil : TTs X Γ [] true Γ := PTs.weak pts_nil fun σ H Q ⟨F, hH, q⟩ => q F H (.refl hH)
theorem tts_one {k : Bool} (h : TV X Γ c k Γ1) : TTs X Γ [c] k Γ1 := pts_one h
/-- the context of a block -/
abbrev Bk (X : Cx) (scope : Scope) (s : Shared) (H : Hp) (C : Addr) (cl : List (Str × Addr)) (fp : List Addr) : Cx := X.blk s H scope (compEnvC scope cl C X.env) fp
variable {α β : Type} {enc : α → D} {encb : β → D} {Gs : S → Env'} {sh : Sh} {B : Prop} {ifs : List Expr} {scope : Scope} {own : List (Str × Nat)}
def compL (step : S → α → S × Option β) : List α → S → S × List β
  | [], s => (s, [])
  | x :: xs, s => match step s x with
    | (s', none) => compL step xs s'
    | (s', some y) => ((compL step xs s').1, y :: (compL step xs s').2)
/-- a comprehension's parts; what its reading asks -/
def CompOk (X : Cx) (Γ : Env') (elt tg iter : Expr) (ifs : List Expr) (scope : Scope) (own : List (Str × Nat)) (sh : Sh) (r : Rv) (Γ' : Env') : Prop :=
  ∃ wi tt te, PI X tg iter wi ∧ (∀ s H C cl fp, PTs (Bk X scope s H C cl fp) ifs tt) ∧ (∀ s H C cl fp, PE (Bk X scope s H C cl fp) elt te) ∧ ∀ σ H Q, tEV (kc X) Γ r Γ' σ H Q → tLc wi (sh.g (kc X)) tt te (own.map (·.2)) σ H Q
theorem ev_lc {q : Env'} (hc : X.calm = true) (hN : X.N.Nodup) (ok : BlkOk X.N X.env.scope scope own) (hg : ∀ s H C cl fp, PG (Bk X scope s H C cl fp) tg (sh.g (kc X))) (h : CompOk X Γ elt tg iter ifs scope own sh r q)
    (hs : ∀ x, foldedSetIterable iter X.env x = pure x := by intro _; rfl) : EV X Γ (.ListComp elt [⟨tg, iter, ifs, 0⟩] scope pos) r q := by
  obtain ⟨wi, tt, te, hi, ht, he, hw⟩ := h
  exact PE.weak (pe_lc (own := own) hc hN hi ok hg ht he hs) hw
theorem st_lc {q : Env'} (k : Nat) {y : Str} {py spos : Pos} {s : S} (hc : X.calm = true) (hN : X.N.Nodup) (hy : X.N[k]? = some y) (hyl : X.env.scope.names.lookup y = some .local)
    (hsw : swapsWith (.ListComp elt [⟨tg, iter, ifs, 0⟩] scope pos) (some (.Name y py)) spos.line X.env = pure true) (ok : BlkOk X.N X.env.scope scope own) (hg : ∀ s H C cl fp, PG (Bk X scope s H C cl fp) tg (sh.g (kc X)))
    (h : CompOk X Γ elt tg iter ifs scope own sh r q) (w : Weak (q.set k (slOf r)) (G s)) (hs : ∀ x, foldedSetIterable iter X.env x = pure x := by intro _; rfl) :
    ST X Xe Γ (.Assign [.Name y py] (.ListComp elt [⟨tg, iter, ifs, 0⟩] scope pos) spos) G Lp Kr (.next s) := by
  obtain ⟨wi, tt, te, hi, ht, he, hw⟩ := h
  exact PS.weak (ps_setLc (i := k) (own := own) hc hN hy hyl hsw hi ok hg ht he hs) (fun D σ H h => set_run hw w D σ H h)
theorem cp_comp (step : S → α → S × Option β) {xs : List α} {s0 : S} (P : Nat → S → Prop) (hi : IV X Γ tg iter (xs.map enc) Γ1 B)
    (hix : ∀ n, n ∈ sh.ix → n ∈ own.map (·.2)) (w0 : Weak Γ1 (Gs s0)) (hv : ∀ s n, n ∈ own.map (·.2) → ∀ t, (Gs s)[n]? = some t → t = .any) (hP : P 0 s0) (hB : B → xs.length ≤ sizeLine)
    (hb : B → ∀ i s x, xs[i]? = some x → P i s → ∃ Γa k Γb, sh.set (Gs s) (enc x) = some Γa ∧ (∀ s H C cl fp, TTs (Bk X scope s H C cl fp) Γa ifs k Γb) ∧
      (if k = true then ∃ y Γc, (step s x).2 = some y ∧ (∀ s H C cl fp, EV (Bk X scope s H C cl fp) Γb elt (.dat (encb y)) Γc) ∧ Weak Γc (Gs (step s x).1) else (step s x).2 = none ∧ Weak Γb (Gs (step s x).1)) ∧ P (i + 1) (step s x).1) :
    CompOk X Γ elt tg iter ifs scope own sh (.own (.lst ((compL step xs s0).2.map encb))) (Gs (compL step xs s0).1) := by
  obtain ⟨wi, hi, hw⟩ := hi
  have ht : ∀ s H C cl fp, PTs (Bk X scope s H C cl fp) ifs (fun σ H Q => ∃ Γa k Γb, (∀ s H C cl fp, TTs (Bk X scope s H C cl fp) Γa ifs k Γb) ∧ tTV (kc X) Γa k Γb σ H Q) :=
    fun s H C cl fp => ⟨fun pins s' σ H' Q I ⟨Γa, k, Γb, h1, h2⟩ => (h1 s H C cl fp).run pins s' σ H' Q I h2⟩
  have he : ∀ s H C cl fp, PE (Bk X scope s H C cl fp) elt (fun σ H Q => ∃ Γb rv Γc, (∀ s H C cl fp, EV (Bk X scope s H C cl fp) Γb elt rv Γc) ∧ tEV (kc X) Γb rv Γc σ H Q) :=
    fun s H C cl fp => ⟨fun pins s' σ H' Q I ⟨Γb, rv, Γc, h1, h2⟩ => (h1 s H C cl fp).run pins s' σ H' Q I h2⟩
  refine ⟨wi, _, _, hi, ht, he, fun σ H Q ⟨F, hH, q⟩ => ?_⟩
  refine hw σ H _ F hH fun F1 H1 J p1 jok hBv => fun D hD => ?_
  have fD : F1 D = none := p1.ok.free hD
  have nD : H D = none := p1.ext.fresh hD
  -- what holds of the list at D
  refine ⟨fun i m H' => ∃ F' s vs acc, m = xs.length - i ∧ i ≤ xs.length ∧ Post (kc X) Γ σ F H (Gs s) (wipe σ (own.map (·.2))) F' H' ∧ Le F1 F' ∧ P i s ∧ acc.length ≤ i ∧ H' D = some (.lst vs) ∧ F' D = none ∧ ¬ Owned (Gs s) (wipe σ (own.map (·.2))) D ∧ RepL (kc X) F' vs (acc.map encb) ∧
      (compL step (xs.drop i) s).1 = (compL step xs s0).1 ∧ acc ++ (compL step (xs.drop i) s).2 = (compL step xs s0).2, ⟨xs.length, F1, s0, [], [], rfl, Nat.zero_le _, ?_, Le.refl _, hP, Nat.le_refl _, upd_same, fD, ?_, .nil, rfl, rfl⟩, ?_⟩
  · have pw := p1.wiped w0 (hv s0)
    exact pw.upd nD fD (pw.ok.notOwned hD)
  · have pw := p1.wiped w0 (hv s0)
    exact pw.ok.notOwned hD
  rintro i m H' ⟨F', s, vs, acc, rfl, hin, p', l', hPi, hacc, hD', fD', oD', rD', e1, e2⟩
  by_cases hlt : i < xs.length
  · have hx : xs[i]? = some xs[i] := List.getElem?_eq_getElem hlt
    have hdx : (xs.map enc)[i]? = some (enc xs[i]) := by rw [List.getElem?_map, hx]; rfl
    obtain ⟨go, yl⟩ := jok.go F' H' l' p'.ok.le i _ hdx
    obtain ⟨Γa, k, Γb, hset, htt, hel, hPn⟩ := hb hBv i s xs[i] hx hPi
    have hd : xs.drop i = xs[i] :: xs.drop (i + 1) := List.drop_eq_getElem_cons hlt
    rw [hd] at e1 e2
    have eqL : compL step (xs[i] :: xs.drop (i + 1)) s = (match step s xs[i] with | (s', none) => compL step (xs.drop (i + 1)) s' | (s', some y) => ((compL step (xs.drop (i + 1)) s').1, y :: (compL step (xs.drop (i + 1)) s').2)) := rfl
    rw [eqL] at e1 e2
    generalize hst : step s xs[i] = sp at e1 e2 hel hPn
    obtain ⟨s2, oy⟩ := sp
    refine .inr ⟨go, fun H2 => ∃ F2 vs acc, Post (kc X) Γ σ F H (Gs s2) (wipe σ (own.map (·.2))) F2 H2 ∧ Le F1 F2 ∧ acc.length ≤ i + 1 ∧ H2 D = some (.lst vs) ∧ F2 D = none ∧ ¬ Owned (Gs s2) (wipe σ (own.map (·.2))) D ∧ RepL (kc X) F2 vs (acc.map encb) ∧
      (compL step (xs.drop (i + 1)) s2).1 = (compL step xs s0).1 ∧ acc ++ (compL step (xs.drop (i + 1)) s2).2 = (compL step xs s0).2, fun H2 ⟨F2, vs, acc, a1, a2, a3, a4, a5, a6, a7, a8, a9⟩ => ⟨xs.length - (i + 1), by omega, F2, s2, vs, acc, rfl, hlt, a1, a2, hPn, a3, a4, a5, a6, a7, a8, a9⟩, fun x H2 hy => ?_⟩
    obtain ⟨F2, x2, l2, r2⟩ := yl x H2 hy
    have p2 := Post.grow p'.ok x2 l2
    obtain ⟨d2, fd2⟩ := p2.ext.keep D _ hD' fD' oD'
    refine Sh.run sh hset p2.ok r2 fun σ3 p3 k3 l3 => ⟨wipe_ext_of l3 (fun n hn => k3 n fun z => hn (hix n z)), Γa, k, Γb, htt, F2, p3.ok, fun F4 H4 p4 => ?_⟩
    -- behind the tests
    have pt := p3.trans p4
    have back : ∀ {F5 H5 : Hp} {Γc : Env'}, Post (kc X) (Gs s) (wipe σ (own.map (·.2))) F2 H2 Γc σ3 F5 H5 → Weak Γc (Gs s2) → Post (kc X) (Gs s) (wipe σ (own.map (·.2))) F2 H2 (Gs s2) (wipe σ (own.map (·.2))) F5 H5 := fun {F5 H5 Γc} p5 w5 => by
      have := p5.wiped' w5 (hv s2)
      rw [show wipe σ3 (own.map (·.2)) = wipe (wipe σ (own.map (·.2))) (own.map (·.2)) from wipe_ext l3 (fun n hn => k3 n fun z => hn (hix n z)), wipe_idem] at this
      exact this
    have oD2 : ¬ Owned (Gs s) (wipe σ (own.map (·.2))) D := oD'
    cases k with
    | false =>
      rw [if_neg Bool.false_ne_true] at hel
      refine iteF ?_
      obtain ⟨hy2, hw2⟩ := hel
      have hy2 : oy = none := hy2
      subst hy2
      have pb := back pt hw2
      obtain ⟨d5, fd5⟩ := pb.ext.keep D _ d2 fd2 oD2
      refine ⟨F4, vs, acc, (p'.trans p2).trans pb, (l'.trans p2.ext.mono).trans pb.ext.mono, by omega, d5, fd5, fun z => ?_, rD'.mono (p2.ext.mono.trans pb.ext.mono), e1, e2⟩
      rcases pb.sub D z with z | z
      · exact oD2 z
      · rw [d2] at z; cases z
    | true =>
      rw [if_pos rfl] at hel
      refine iteT ?_
      obtain ⟨y, Γc, hy2, hev, hw2⟩ := hel
      have hy2 : oy = some y := hy2
      subst hy2
      refine ⟨Γb, _, Γc, hev, F4, p4.ok, fun F5 H5 v p5 hv5 => ?_⟩
      have pb := back (pt.trans p5) hw2
      obtain ⟨d5, fd5⟩ := pb.ext.keep D _ d2 fd2 oD2
      have oD5 : ¬ Owned (Gs s2) (wipe σ (own.map (·.2))) D := fun z => by
        rcases pb.sub D z with z | z
        · exact oD2 z
        · rw [d2] at z; cases z
      have rD5 := rD'.mono (p2.ext.mono.trans pb.ext.mono)
      refine ⟨vs, d5, by rw [rD5.length, List.length_map]; exact Nat.lt_of_le_of_lt hacc (Nat.lt_of_lt_of_le hlt (hB hBv)), F5, vs ++ [v], acc ++ [y], ?_, (l'.trans p2.ext.mono).trans pb.ext.mono, by rw [List.length_append]; exact Nat.succ_le_succ hacc, upd_same, fd5, oD5, ?_, e1, by rw [List.append_assoc]; exact e2⟩
      · exact ((p'.trans p2).trans pb).upd nD fd5 oD5
      · rw [List.map_append]
        exact rD5.append (RepL.one hv5)
  · have e : i = xs.length := by omega
    subst e
    refine .inl ⟨by have := jok.stop F' H' l' p'.ok.le; rwa [List.length_map] at this, ?_⟩
    rw [List.drop_length] at e1 e2
    have e1 : s = (compL step xs s0).1 := e1
    have e2 : acc ++ [] = (compL step xs s0).2 := e2
    rw [List.append_nil] at e2
    rw [e2] at rD'
    rw [← e1] at q
    have pu := p'.unwiped (hv _)
    refine q F' H' _ pu ⟨D, _, rfl, hD', fD', ⟨vs, rfl, rD'⟩, fun z => oD' ?_, .inr nD⟩
    obtain ⟨n, ao, c, g1, g2⟩ := z
    exact ⟨n, ao, c, g1, by rw [wipe_off (fun hn => nomatch (hv _ n hn _ g1))]; exact g2⟩
end
end PD
namespace PD
open PySem PySem.Spec PyProof.Rows L2
/-! ### defs -/
/-- an argument: data, or an object that is handed over, with what it holds behind the call -/
inductive Ar where
  | dat (d : D) | mu (c c' : Oc)
def ArOk (K : KC) (F H : Hp) (v : V) : Ar → Prop
  | .dat d => Rep K F v d
  | .mu c _ => ∃ a ho, v = .ref a ∧ H a = some ho ∧ F a = none ∧ OcOk K F a ho c
/-- what comes back: data, a new object -/
inductive Rr where
  | dat (d : D) | own (c : Oc)
def Rr.rv : Rr → Rv
  | .dat d => .dat d
  | .own c => .own c
def RrOk (K : KC) (F H H0 : Hp) (v : V) : Rr → Prop
  | .dat d => Rep K F v d
  | .own c => ∃ a ho, v = .ref a ∧ H a = some ho ∧ F a = none ∧ OcOk K F a ho c ∧ H0 a = none
def MutAt (vs : List V) (ars : List Ar) (a : Addr) : Prop := ∃ (i : Nat) (c c' : Oc), ars[i]? = some (.mu c c') ∧ vs[i]? = some (.ref a)
structure Before (K : KC) (F H : Hp) (vs : List V) (ars : List Ar) : Prop where
  le : Le F H
  ok : Paired (fun v a => ArOk K F H v a) vs ars
  dis : ∀ (i j : Nat) (ci ci' cj cj' : Oc) (a : Addr), ars[i]? = some (.mu ci ci') → ars[j]? = some (.mu cj cj') → vs[i]? = some (.ref a) → vs[j]? = some (.ref a) → i = j
/-- behind a call -/
structure Mid (K : KC) (F H : Hp) (vs : List V) (ars : List Ar) (F' H' : Hp) : Prop where
  ext : Ext (MutAt vs ars) F H F' H'
  le : Le F' H'
  mus : ∀ (i : Nat) (c c' : Oc) (a : Addr), ars[i]? = some (.mu c c') → vs[i]? = some (.ref a) → ∃ ho, H' a = some ho ∧ F' a = none ∧ OcOk K F' a ho c'
/-- how a call ends: with a value, with an exception -/
inductive Out where
  | val (r : Rr) | exc (x : Xd)
/-- the promise -/
def spR (K : KC) (Rel : List Ar → Out → Prop) : Sp := fun vs H Q E => ∃ ars out F, Rel ars out ∧ Before K F H vs ars ∧ match out with
  | .val rr => ∀ F' H' v, Mid K F H vs ars F' H' → RrOk K F' H' H v rr → Q v H'
  | .exc x => ∀ F' H' cls d, Mid K F H vs ars F' H' → XRep K F' cls d x → E cls d H'
/-- a def that may be called by its name -/
structure Cle (P : Program) (w : World) (K : PySem.W.Frag) (mg : Str → Option Value) (base : Heap) (k : Nat) (x : Str) (Rel : List Ar → Out → Prop) : Prop where
  ex : ∃ (f : Addr) (fd : FuncData) (ps : List Str), FnOk P w K mg base (L2.CX P w) k f fd ps (spR ⟨K, P, w⟩ Rel) ∧ mg x = some (.ref f) ∧ PySem.W.keepIn K (.ref f) = true ∧ Binds K fd ps []
theorem paired_get {α β : Type} {R : α → β → Prop} : ∀ {l : List α} {m : List β} {i : Nat} {y : β}, Paired R l m → m[i]? = some y → ∃ x, l[i]? = some x ∧ R x y
  | _, _, _, _, .nil, e => by simp at e
  | _, _, 0, _, .cons r _, e => by simp at e; subst e; exact ⟨_, rfl, r⟩
  | _, _, i + 1, y, .cons _ t, e => by
    obtain ⟨x, h1, h2⟩ := paired_get (i := i) (y := y) t (by simpa using e)
    exact ⟨x, by simpa using h1, h2⟩
theorem paired_getL {α β : Type} {R : α → β → Prop} : ∀ {l : List α} {m : List β} {i : Nat} {x : α}, Paired R l m → l[i]? = some x → ∃ y, m[i]? = some y ∧ R x y
  | _, _, _, _, .nil, e => by simp at e
  | _, _, 0, _, .cons r _, e => by simp at e; subst e; exact ⟨_, rfl, r⟩
  | _, _, i + 1, x, .cons _ t, e => by
    obtain ⟨y, h1, h2⟩ := paired_getL (i := i) (x := x) t (by simpa using e)
    exact ⟨y, by simpa using h1, h2⟩
theorem paired_mk {α β : Type} {R : α → β → Prop} : ∀ {l : List α} {m : List β}, l.length = m.length → (∀ (i : Nat) x y, l[i]? = some x → m[i]? = some y → R x y) → Paired R l m
  | [], [], _, _ => .nil
  | x :: l, y :: m, hl, h => .cons (h 0 x y rfl rfl) (paired_mk (by simpa using hl) fun i a b e1 e2 => h (i + 1) a b (by simpa using e1) (by simpa using e2))
/-- results are handed over as arguments; Γ' holds then -/
structure MtOk (Γ : Env') (rs : List Rv) (ars : List Ar) (Γ' : Env') : Prop where
  lenΓ : Γ'.length = Γ.length
  len : rs.length = ars.length
  at' : ∀ (j : Nat) s, Γ'[j]? = some s → (Γ[j]? = some s ∧ ∀ (i : Nat), rs[i]? ≠ some (.bor j)) ∨ (∃ (i : Nat) (ao : Option Addr) (c c' : Oc), rs[i]? = some (.bor j) ∧ ars[i]? = some (.mu c c') ∧ Γ[j]? = some (.own ao c) ∧ s = .own ao c')
  arg : ∀ (i : Nat) r a, rs[i]? = some r → ars[i]? = some a → (∃ d, r = .dat d ∧ a = .dat d) ∨ (∃ c c', r = .own c ∧ a = .mu c c') ∨ ∃ j ao c c', r = .bor j ∧ a = .mu c c' ∧ Γ[j]? = some (.own ao c)
  inj : ∀ (i i' : Nat) j, rs[i]? = some (.bor j) → rs[i']? = some (.bor j) → i = i'
  tmp : ∀ (i i' : Nat) c c', rs[i]? = some (.own c) → rs[i']? = some (.own c') → i = i'
section
variable {X : Cx} {Γ Γ1 Γ2 Γ3 : Env'} {e a b c : Expr} {pos p px apos : Pos} {r ra rb rc rv : Rv} {d : D} {ds es : List D} {i j : Int} {rs : List Rv} {ars : List Ar} {rr : Rr} {Rel : List Ar → Out → Prop} {el : List Expr} {x : Str} {k : Nat}
theorem call_post {K : KC} {F H F1 H1 F' H' : Hp} {σ : L2.St} {vs : List V} {v : V} (hH : Holds K F Γ σ H) (p1 : Post K Γ σ F H Γ1 σ F1 H1) (hv : Paired (fun v r => RvOk K F1 Γ1 σ H1 (NewAt Γ σ H) v r) vs rs) (m : MtOk Γ1 rs ars Γ2) :
    Before K F1 H1 vs ars ∧ (Mid K F1 H1 vs ars F' H' → Post K Γ σ F H Γ2 σ F' H' ∧ (RrOk K F' H' H1 v rr → RvOk K F' Γ2 σ H' (NewAt Γ σ H) v rr.rv)) := by
  have hl := Paired.length hv
  -- where a handed object lies
  have mutw : ∀ x, MutAt vs ars x → (∃ (i j : Nat) (ao : Option Addr) (c c' : Oc), rs[i]? = some (.bor j) ∧ vs[i]? = some (.ref x) ∧ ars[i]? = some (.mu c c') ∧ Γ1[j]? = some (.own ao c) ∧ σ[j]? = some (some (.ref x))) ∨
      (∃ (i : Nat) (c c' : Oc) (ho : HO), rs[i]? = some (.own c) ∧ vs[i]? = some (.ref x) ∧ ars[i]? = some (.mu c c') ∧ H1 x = some ho ∧ F1 x = none ∧ OcOk K F1 x ho c ∧ ¬ Owned Γ1 σ x ∧ NewAt Γ σ H x) := fun x ⟨i, c, c', e1, e2⟩ => by
    obtain ⟨r, hr, ok⟩ := paired_getL hv e2
    rcases m.arg i r _ hr e1 with ⟨d, _, z⟩ | ⟨c1, c1', rfl, z⟩ | ⟨j, ao, c1, c1', rfl, z, q⟩
    · cases z
    · cases z
      obtain ⟨y, ho, ey, g1, g2, g3, g4, g5⟩ := ok
      cases ey
      exact .inr ⟨i, c, c', ho, hr, e2, e1, g1, g2, g3, g4, g5⟩
    · cases z
      exact .inl ⟨i, j, ao, c, c', hr, e2, e1, q, ok⟩
  have bef : Before K F1 H1 vs ars := by
    refine ⟨p1.ok.le, paired_mk (hl.trans m.len) fun i v a e1 e2 => ?_, fun i j ci ci' cj cj' x e1 e2 e3 e4 => ?_⟩
    · obtain ⟨r, hr, ok⟩ := paired_getL hv e1
      rcases m.arg i r a hr e2 with ⟨d, rfl, rfl⟩ | ⟨c1, c1', rfl, rfl⟩ | ⟨j, ao, c1, c1', rfl, rfl, q⟩
      · exact ok
      · obtain ⟨y, ho, ey, g1, g2, g3, _⟩ := ok
        exact ⟨y, ho, ey, g1, g2, g3⟩
      · obtain ⟨y, ho, f1, _, f3, f4, f5⟩ := p1.ok.own q
        have ok : σ[j]? = some (some v) := ok
        rw [ok] at f1; cases f1
        exact ⟨y, ho, rfl, f3, f4, f5⟩
    · obtain ⟨r, hr, ok⟩ := paired_getL hv e3
      obtain ⟨r2, hr2, ok2⟩ := paired_getL hv e4
      rcases m.arg i r _ hr e1 with ⟨d, _, z⟩ | ⟨c1, c1', rfl, z⟩ | ⟨n, ao, c1, c1', rfl, z, q⟩
      · cases z
      · obtain ⟨y, ho, ey, g1, g2, g3, g4, g5⟩ := ok
        cases ey
        rcases m.arg j r2 _ hr2 e2 with ⟨d, _, z⟩ | ⟨c2, c2', rfl, z⟩ | ⟨n, ao, c2, c2', rfl, z, q⟩
        · cases z
        · exact m.tmp i j _ _ hr hr2
        · exact absurd ⟨n, ao, c2, q, ok2⟩ g4
      · rcases m.arg j r2 _ hr2 e2 with ⟨d, _, z⟩ | ⟨c2, c2', rfl, z⟩ | ⟨n2, ao2, c2, c2', rfl, z, q2⟩
        · cases z
        · obtain ⟨y, ho, ey, g1, g2, g3, g4, g5⟩ := ok2
          cases ey
          exact absurd ⟨n, ao, c1, q, ok⟩ g4
        · have := p1.ok.dis n n2 _ _ _ _ x q q2 ok ok2
          subst this
          exact m.inj i j n hr hr2
  refine ⟨bef, fun af => ?_⟩
  have own2 : ∀ x, Owned Γ2 σ x → Owned Γ1 σ x := fun x ⟨j, ao, c, e1, e2⟩ => by
    rcases m.at' j _ e1 with ⟨z, _⟩ | ⟨i, ao', c1, c1', _, _, z, e⟩
    · exact ⟨j, ao, c, z, e2⟩
    · exact ⟨j, ao', c1, z, e2⟩
  have P2 : Post K Γ σ F H Γ2 σ F' H' := by
    refine ⟨⟨p1.ext.mono.trans af.ext.mono, fun x o h f nO => ?_, fun x o h => ?_⟩, ⟨af.le, m.lenΓ.trans p1.ok.len, fun j s e => ?_, fun i j ai aj ci cj x ei ej si sj => ?_⟩, fun x hx => p1.sub x (own2 x hx)⟩
    · obtain ⟨k1, k2⟩ := p1.ext.keep x o h f nO
      refine af.ext.keep x o k1 k2 fun z => ?_
      rcases mutw x z with ⟨i, j, ao, c, c', _, _, _, q1, q2⟩ | ⟨i, c, c', ho, _, _, _, _, _, _, _, q⟩
      · rcases p1.sub x ⟨j, ao, c, q1, q2⟩ with z | z
        · exact nO z
        · rw [h] at z; cases z
      · rcases q with z | z
        · exact nO z
        · rw [h] at z; cases z
    · obtain ⟨o1, h1⟩ := p1.ext.there x o h
      exact af.ext.there x o1 h1
    · rcases m.at' j s e with ⟨z, nb⟩ | ⟨i, ao, c1, c1', hr, ha, z, rfl⟩
      · have q := p1.ok.sl j s z
        cases s with
        | any => trivial
        | dat d => obtain ⟨v, e1, r⟩ := q; exact ⟨v, e1, r.mono af.ext.mono⟩
        | own ao oc =>
          obtain ⟨x, ho, e1, e2, h1, h2, h3⟩ := q
          obtain ⟨k1, k2⟩ := af.ext.keep x ho h1 h2 fun w => by
            rcases mutw x w with ⟨i, n, ao', c, c', hb, _, _, q1, q2⟩ | ⟨i, c, c', ho', _, _, _, _, _, _, q, _⟩
            · have := p1.ok.dis j n _ _ _ _ x z q1 (join_some e1) q2
              subst this
              exact nb i hb
            · exact q ⟨j, ao, oc, z, join_some e1⟩
          exact ⟨x, ho, e1, e2, k1, k2, h3.mono af.ext.mono⟩
        | err a d x => exact ⟨q.1, q.2.mono af.ext.mono⟩
      · obtain ⟨x, ho, f1, f2, f3, f4, f5⟩ := p1.ok.own z
        obtain ⟨v', hv', _⟩ := paired_get hv hr
        have okb : σ[j]? = some (some v') := by
          obtain ⟨r2, hr2, ok2⟩ := paired_getL hv hv'
          rw [hr] at hr2; cases hr2
          exact ok2
        rw [f1] at okb; cases okb
        obtain ⟨ho', g1, g2, g3⟩ := af.mus i c1 c1' x ha hv'
        exact ⟨x, ho', by rw [f1]; rfl, f2, g1, g2, g3⟩
    · have up : ∀ (n : Nat) (an : Option Addr) (cn : Oc), Γ2[n]? = some (.own an cn) → ∃ an' cn', Γ1[n]? = some (.own an' cn') := fun n an cn en => by
        rcases m.at' n _ en with ⟨z, _⟩ | ⟨i, ao', c1, c1', _, _, z, e⟩
        · exact ⟨_, _, z⟩
        · exact ⟨_, _, z⟩
      obtain ⟨_, _, ei'⟩ := up i ai ci ei
      obtain ⟨_, _, ej'⟩ := up j aj cj ej
      exact p1.ok.dis i j _ _ _ _ x ei' ej' si sj
  refine ⟨P2, fun hres => ?_⟩
  cases rr with
  | dat d => exact hres
  | own oc =>
    obtain ⟨x, ho, e, h1, h2, h3, h4⟩ := hres
    refine ⟨x, ho, e, h1, h2, h3, fun z => ?_, .inr (p1.ext.fresh h4)⟩
    exact p1.ok.notOwned h4 (own2 x z)
/-- a call that gives a value, or raises -/
def tCV {R : Type} (X : Cx) (Xe Γ : Env') (rr : R → Rv) (Γ' : R → Env') (o : LO Unit Unit R) : TE := fun σ H Q => ∃ F, Holds (kc X) F Γ σ H ∧ match o with
  | .ret r => ∀ F' H' v, Post (kc X) Γ σ F H (Γ' r) σ F' H' → RvOk (kc X) F' (Γ' r) σ H' (NewAt Γ σ H) v (rr r) → Q v H'
  | .exc x => ∀ F' H' cls d, Post (kc X) Γ σ F H Xe σ F' H' → XRep (kc X) F' cls d x → Wst X cls d σ H'
  | _ => False
def CV {R : Type} (X : Cx) (Xe Γ : Env') (e : Expr) (rr : R → Rv) (Γ' : R → Env') (o : LO Unit Unit R) : Prop := PE X e (tCV X Xe Γ rr Γ' o)
theorem call_read {σ : L2.St} {H : Hp} {Q : VK} {o : Out} {E : XK} (hR : Rel ars o) {F F1 H1 : Hp} {vs : List V} (hH : Holds (kc X) F Γ σ H) (p1 : Post (kc X) Γ σ F H Γ1 σ F1 H1) (hv : Paired (fun v r => RvOk (kc X) F1 Γ1 σ H1 (NewAt Γ σ H) v r) vs rs) (m : MtOk Γ1 rs ars Γ2)
    (hq : match o with | .val rr => ∀ F' H' v, Post (kc X) Γ σ F H Γ2 σ F' H' → RvOk (kc X) F' Γ2 σ H' (NewAt Γ σ H) v rr.rv → Q v H' | .exc x => ∀ F' H' cls d, Post (kc X) Γ σ F H Γ2 σ F' H' → XRep (kc X) F' cls d x → E cls d H') : spR (kc X) Rel (vs ++ []) H1 Q E := by
  rw [List.append_nil]
  refine ⟨ars, o, F1, hR, (call_post (rr := .dat .non) (F' := F1) (H' := H1) (v := .non) hH p1 hv m).1, ?_⟩
  cases o with
  | val rr => exact fun F' H' v md hr => hq F' H' v ((call_post (v := v) (rr := rr) hH p1 hv m).2 md).1 (((call_post hH p1 hv m).2 md).2 hr)
  | exc x => exact fun F' H' cls d md hx => hq F' H' cls d ((call_post (v := .non) (rr := .dat .non) hH p1 hv m).2 md).1 hx
theorem ev_call (C : Cle X.prog X.w X.K X.mg X.base k x Rel) (hr : Room k X.A) (hg : Gl X x) (hR : Rel ars (.val rr)) (m : MtOk Γ1 rs ars Γ2) (ha : AV X Γ (e :: el) rs Γ1)
    (hdb : (x == ("__debug__" : Str)) = false := by decide) (he : starEach (e :: el) X.env = (false, eval e X.env) :: starEach el X.env := by rfl) (hpl : (backTo pos (starEach el X.env)).any (·.1) = false := by rfl) :
    EV X Γ (.Call (.Name x p) (e :: el) [] pos) rr.rv Γ2 := by
  obtain ⟨f, fd, ps, hF, hm, hk, hb⟩ := C.ex
  exact PE.weak (pe_callSD hF hr hg hm hk hb .nil (fun σ => passAt takes_st σ) ha hdb he hpl) fun σ H Q ⟨F, hH, q⟩ => ⟨F, hH, fun F1 H1 vs p1 hv => call_read (o := .val rr) hR hH p1 hv m q⟩
/-- the result of a call -/
def LO.callX {L R' R : Type} : LO Unit Unit R → LO R L R'
  | .ret r => .next r
  | .exc x => .exc x
  | _ => .bad
theorem cv_call {R : Type} {o : LO Unit Unit R} {rf : R → Rr} {Γ' : R → Env'} {Xe : Env'} {arf : R → List Ar} {arx : List Ar} (C : Cle X.prog X.w X.K X.mg X.base k x Rel) (hr : Room k X.A) (hg : Gl X x) (hR : ∀ r, o = .ret r → Rel (arf r) (.val (rf r))) (hX : ∀ y, o = .exc y → Rel arx (.exc y))
    (m : ∀ r, MtOk Γ1 rs (arf r) (Γ' r)) (mX : MtOk Γ1 rs arx Xe) (ha : AV X Γ (e :: el) rs Γ1)
    (hdb : (x == ("__debug__" : Str)) = false := by decide) (he : starEach (e :: el) X.env = (false, eval e X.env) :: starEach el X.env := by rfl) (hpl : (backTo pos (starEach el X.env)).any (·.1) = false := by rfl) :
    CV X Xe Γ (.Call (.Name x p) (e :: el) [] pos) (fun r => (rf r).rv) Γ' o := by
  obtain ⟨f, fd, ps, hF, hm, hk, hb⟩ := C.ex
  refine PE.weak (pe_callSD hF hr hg hm hk hb .nil (fun σ => passAt takes_st σ) ha hdb he hpl) fun σ H Q ⟨F, hH, q⟩ => ⟨F, hH, fun F1 H1 vs p1 hv => ?_⟩
  cases o with
  | ret r => exact call_read (o := .val (rf r)) (hR r rfl) hH p1 hv (m r) q
  | exc y => exact call_read (o := .exc y) (hX y rfl) hH p1 hv mX q
  | next _ => exact q.elim
  | cnt _ => exact q.elim
  | brk _ => exact q.elim
  | bad => exact q.elim
section
variable {S L R R' : Type} {G : S → Env'} {Lp : L → Env'} {Kr : R → Rv × Env'} {Xe : Env'} {o : LO Unit Unit R'} {rr' : R' → Rv} {Γ' : R' → Env'}
theorem CV.ev {r : R'} (h : CV X Xe Γ e rr' Γ' (.ret r)) : EV X Γ e (rr' r) (Γ' r) := h
/-- it raises -/
theorem CV.ex {y : Xd} (h : CV X Xe Γ e rr' Γ' (.exc y)) : PE X e (fun σ H _ => ∃ F, Holds (kc X) F Γ σ H ∧ ∀ F' H' cls d, Post (kc X) Γ σ F H Xe σ F' H' → XRep (kc X) F' cls d y → Wst X cls d σ H') := h
theorem st_exprC {G : R' → Env'} (h : CV X Xe Γ e rr' Γ' o) (w : ∀ r, Weak (Γ' r) (G r)) (hs : swapsWith e none pos.line X.env = pure false := by rfl) : ST X Xe Γ (.Expr e pos) G Lp Kr (o.callX : LO R' L R) := by
  cases o with
  | ret r => exact st_expr h.ev (w r) hs
  | exc y => exact PS.weak (ps_expr h.ex hs) fun D σ H ⟨F, hH, q⟩ => ⟨F, hH, fun F' H' cls d p hx => q F' H' σ cls d p hx⟩
  | _ => exact st_bad
theorem st_setC {G : R' → Env'} (i : Nat) {x : Str} {px : Pos} (hN : X.N.Nodup) (hi : X.N[i]? = some x) (hx : Loc X.env.scope x) (h : CV X Xe Γ e rr' Γ' o) (w : ∀ r, Weak ((Γ' r).set i (slOf (rr' r))) (G r)) (hs : swapsWith e (some (.Name x px)) pos.line X.env = pure false := by rfl)
    (hf : X.fn x = true ∨ X.env.scope.names.lookup x = some .local := by first | exact .inl rfl | exact .inr rfl | assumption) : ST X Xe Γ (.Assign [.Name x px] e pos) G Lp Kr (o.callX : LO R' L R) := by
  cases o with
  | ret r => exact st_set i hN hi hx h.ev (w r) hs hf
  | exc y => exact PS.weak (ps_set hN hi hx h.ex hs hf) fun D σ H ⟨F, hH, q⟩ => ⟨F, hH, fun F' H' cls d p hx => q F' H' σ cls d p hx⟩
  | _ => exact st_bad
theorem st_retC {f : R' → R} (h : CV X Xe Γ e rr' Γ' o) (hr : ∀ r, (Kr (f r)).1 = rr' r) (w : ∀ r, Weak (Γ' r) (Kr (f r)).2) (nb : ∀ r i, rr' r ≠ .bor i := by intro _ _ h; cases h) : ST X Xe Γ (.Return (some e) pos) G Lp Kr ((o.callX : LO R' L R).bind fun r => .ret (f r)) := by
  cases o with
  | ret r => exact st_ret h.ev (hr r) (w r) (nb r)
  | exc y => exact PS.weak (ps_ret h.ex) fun D σ H ⟨F, hH, q⟩ => ⟨F, hH, fun F' H' cls d p hx => q F' H' σ cls d p hx⟩
  | _ => exact st_bad
end

/-! ### handing over -/
theorem map_dat_at {ds : List D} {i : Nat} {r : Rv} (h : (ds.map Rv.dat)[i]? = some r) : ∃ d, ds[i]? = some d ∧ r = .dat d := by
  rw [List.getElem?_map] at h
  cases e : ds[i]? with
  | none => rw [e] at h; cases h
  | some d => rw [e] at h; cases h; exact ⟨d, rfl, rfl⟩
theorem mt_dat (ds : List D) : MtOk Γ (ds.map .dat) (ds.map .dat) Γ := by
  refine ⟨rfl, by simp, fun j s e => .inl ⟨e, fun i h => ?_⟩, fun i r a h1 h2 => .inl ?_, fun i i' j h _ => ?_, fun i i' c c' h _ => ?_⟩
  · obtain ⟨d, _, z⟩ := map_dat_at h; cases z
  · obtain ⟨d, hd, rfl⟩ := map_dat_at h1
    rw [List.getElem?_map, hd] at h2
    cases h2
    exact ⟨d, rfl, rfl⟩
  · obtain ⟨d, _, z⟩ := map_dat_at h; cases z
  · obtain ⟨d, _, z⟩ := map_dat_at h; cases z
/-- one that is not data, among data -/
theorem mid_at {α : Type} {f : D → α} {ds es : List D} {y : α} {i : Nat} {r : α} (h : (ds.map f ++ y :: es.map f)[i]? = some r) : (i = ds.length ∧ r = y) ∨ (i ≠ ds.length ∧ ∃ d, r = f d ∧ ∀ {β : Type} (g : D → β) (z : β), (ds.map g ++ z :: es.map g)[i]? = some (g d)) := by
  by_cases h1 : i < ds.length
  · rw [List.getElem?_append_left (by simpa using h1), List.getElem?_map, List.getElem?_eq_getElem h1] at h
    cases h
    refine .inr ⟨by omega, ds[i], rfl, fun g z => ?_⟩
    rw [List.getElem?_append_left (by simpa using h1), List.getElem?_map, List.getElem?_eq_getElem h1]; rfl
  · rw [List.getElem?_append_right (by simpa using h1), List.length_map] at h
    by_cases h2 : i = ds.length
    · subst h2
      simp at h
      exact .inl ⟨rfl, h.symm⟩
    · obtain ⟨n, hn⟩ : ∃ n, i - ds.length = n + 1 := ⟨i - ds.length - 1, by omega⟩
      rw [hn, List.getElem?_cons_succ, List.getElem?_map] at h
      cases e : es[n]? with
      | none => rw [e] at h; cases h
      | some d =>
        rw [e] at h; cases h
        refine .inr ⟨h2, d, rfl, fun g z => ?_⟩
        rw [List.getElem?_append_right (by simpa using h1), List.length_map, hn, List.getElem?_cons_succ, List.getElem?_map, e]; rfl
theorem mt_bor (ds es : List D) {n : Nat} {ao : Option Addr} {oc oc' : Oc} (hn : Γ[n]? = some (.own ao oc)) : MtOk Γ (ds.map .dat ++ .bor n :: es.map .dat) (ds.map .dat ++ .mu oc oc' :: es.map .dat) (Γ.set n (.own ao oc')) := by
  have hlt : n < Γ.length := (List.getElem?_eq_some_iff.mp hn).1
  have hb : (ds.map Rv.dat ++ Rv.bor n :: es.map Rv.dat)[ds.length]? = some (.bor n) := by simp
  have hm : (ds.map Ar.dat ++ Ar.mu oc oc' :: es.map Ar.dat)[ds.length]? = some (.mu oc oc') := by simp
  refine ⟨by simp, by simp, fun j s e => ?_, fun i r a h1 h2 => ?_, fun i i' j h h' => ?_, fun i i' c c' h _ => ?_⟩
  · by_cases z : j = n
    · subst z
      rw [List.getElem?_set_self hlt] at e
      cases e
      exact .inr ⟨ds.length, ao, oc, oc', hb, hm, hn, rfl⟩
    · rw [List.getElem?_set_ne (Ne.symm z)] at e
      refine .inl ⟨e, fun i h => ?_⟩
      rcases mid_at h with ⟨_, q⟩ | ⟨_, d, q, _⟩
      · cases q; exact z rfl
      · cases q
  · rcases mid_at h1 with ⟨rfl, rfl⟩ | ⟨_, d, rfl, q⟩
    · rw [hm] at h2; cases h2
      exact .inr (.inr ⟨n, ao, oc, oc', rfl, rfl, hn⟩)
    · rw [q Ar.dat] at h2; cases h2
      exact .inl ⟨d, rfl, rfl⟩
  · rcases mid_at h with ⟨rfl, q⟩ | ⟨_, d, q, _⟩
    · rcases mid_at h' with ⟨rfl, q⟩ | ⟨_, d, q, _⟩
      · rfl
      · cases q
    · cases q
  · rcases mid_at h with ⟨_, q⟩ | ⟨_, d, q, _⟩
    · cases q
    · cases q
theorem mt_own (ds es : List D) {oc oc' : Oc} : MtOk Γ (ds.map .dat ++ .own oc :: es.map .dat) (ds.map .dat ++ .mu oc oc' :: es.map .dat) Γ := by
  have hm : (ds.map Ar.dat ++ Ar.mu oc oc' :: es.map Ar.dat)[ds.length]? = some (.mu oc oc') := by simp
  refine ⟨rfl, by simp, fun j s e => .inl ⟨e, fun i h => ?_⟩, fun i r a h1 h2 => ?_, fun i i' j h h' => ?_, fun i i' c c' h h' => ?_⟩
  · rcases mid_at h with ⟨_, q⟩ | ⟨_, d, q, _⟩
    · cases q
    · cases q
  · rcases mid_at h1 with ⟨rfl, rfl⟩ | ⟨_, d, rfl, q⟩
    · rw [hm] at h2; cases h2
      exact .inr (.inl ⟨oc, oc', rfl, rfl⟩)
    · rw [q Ar.dat] at h2; cases h2
      exact .inl ⟨d, rfl, rfl⟩
  · rcases mid_at h with ⟨_, q⟩ | ⟨_, d, q, _⟩
    · cases q
    · cases q
  · rcases mid_at h with ⟨rfl, _⟩ | ⟨_, d, q, _⟩
    · rcases mid_at h' with ⟨rfl, _⟩ | ⟨_, d, q, _⟩
      · rfl
      · cases q
    · cases q

/-! ### a def's body -/
def arSl (as : Nat → Addr) : Nat → List Ar → Env'
  | _, [] => []
  | n, .dat d :: r => .dat d :: arSl as (n + 1) r
  | n, .mu c _ :: r => .own (some (as n)) c :: arSl as (n + 1) r
theorem arSl_at {as : Nat → Addr} : ∀ {ars : List Ar} {n i : Nat} {s : Sl}, (arSl as n ars)[i]? = some s → ∃ a, ars[i]? = some a ∧ match a with | .dat d => s = .dat d | .mu c _ => s = .own (some (as (n + i))) c
  | [], _, _, _, h => by cases h
  | .dat d :: r, n, 0, s, h => by cases h; exact ⟨_, rfl, rfl⟩
  | .mu c c' :: r, n, 0, s, h => by cases h; exact ⟨_, rfl, rfl⟩
  | .dat d :: r, n, i + 1, s, h => by
    obtain ⟨a, e, q⟩ := arSl_at (ars := r) (n := n + 1) (i := i) (s := s) h
    exact ⟨a, e, by rw [show n + (i + 1) = n + 1 + i by omega]; exact q⟩
  | .mu c c' :: r, n, i + 1, s, h => by
    obtain ⟨a, e, q⟩ := arSl_at (ars := r) (n := n + 1) (i := i) (s := s) h
    exact ⟨a, e, by rw [show n + (i + 1) = n + 1 + i by omega]; exact q⟩
theorem arSl_length {as : Nat → Addr} : ∀ {ars : List Ar} {n : Nat}, (arSl as n ars).length = ars.length
  | [], _ => rfl
  | .dat d :: r, n => congrArg (· + 1) arSl_length
  | .mu c c' :: r, n => congrArg (· + 1) arSl_length
def env0 (as : Nat → Addr) (ars : List Ar) (n : Nat) : Env' := arSl as 0 ars ++ List.replicate (n - ars.length) .any
def FinOk (as : Nat → Addr) (ars : List Ar) (fin : Env') : Prop := ∀ (i : Nat) c c', ars[i]? = some (.mu c c') → fin[i]? = some (.own (some (as i)) c')
theorem fn_mk {P : Program} {w : World} {K : PySem.W.Frag} {mg : Str → Option Value} {base : Heap} {S L R : Type} {qual : Str} {st : Stmt} {f : Addr} {fd : FuncData} {N ps : List Str} (hF : Fun K x qual st f fd) (hS : FnScope N ps (defScope st))
    (hlen : ∀ ars o, Rel ars o → ars.length = ps.length)
    (body : ∀ (cdv : Value) (A : Around) (outer : List Env) (s : Shared) (H : Hp) (E : XK) ars out (as : Nat → Addr), Room k (A.deeper (envOfC qual (defScope st) s.heap.objs.size f cdv)) → Rel ars out →
      ∃ (Xe : Env') (G : S → Env') (Lp : L → Env') (Kr : R → Rv × Env') (o : LO S L R), SS (cxOf (L2.CX P w) P w K mg base N qual (defScope st) f cdv A outer s H E) Xe (env0 as ars N.length) (defBody st) G Lp Kr o ∧
        ((∃ r rr, o = .ret r ∧ out = .val rr ∧ (Kr r).1 = rr.rv ∧ FinOk as ars (Kr r).2) ∨ (∃ s, o = .next s ∧ out = .val (.dat .non) ∧ FinOk as ars (G s)) ∨ ∃ y, o = .exc y ∧ out = .exc y ∧ FinOk as ars Xe)) : FnOk P w K mg base (L2.CX P w) (k + 1) f fd ps (spR ⟨K, P, w⟩ Rel) := by
  refine hF.okX hS (fun vs H Q E h => ?_) (fun cdv A outer s H vs Q E hr h => ?_)
  · obtain ⟨ars, out, F, hR, bf, _⟩ := h
    rw [Paired.length bf.ok]
    exact hlen ars out hR
  · obtain ⟨ars, out, F, hR, bf, q⟩ := h
    let as : Nat → Addr := fun i => match vs[i]? with | some (.ref a) => a | _ => 0
    obtain ⟨Xe, G, Lp, Kr, o, hbody, hend⟩ := body cdv A outer s H E ars out as hr hR
    refine ⟨_, hbody, F, ?_, ?_⟩
    all_goals
      have hN : N.take ps.length = ps := hS.pre
      have hpl : ps.length ≤ N.length := by have := congrArg List.length hN; rw [List.length_take] at this; omega
      have hla := hlen ars out hR
      have hlv : vs.length = ars.length := Paired.length bf.ok
      have lenσ : (L2.start N vs).length = N.length := by unfold L2.start; rw [List.length_append, List.length_map, List.length_replicate]; omega
      have lenΓ : (env0 as ars N.length).length = N.length := by unfold env0; rw [List.length_append, arSl_length, List.length_replicate]; omega
      have at0 : ∀ (i : Nat) s, (env0 as ars N.length)[i]? = some s → s = .any ∨ ∃ a v, ars[i]? = some a ∧ vs[i]? = some v ∧ (L2.start N vs)[i]? = some (some v) ∧ match a with | .dat d => s = .dat d | .mu c _ => s = .own (some (as i)) c := fun i s e => by
        unfold env0 at e
        by_cases hi : i < ars.length
        · rw [List.getElem?_append_left (by rw [arSl_length]; exact hi)] at e
          obtain ⟨a, e1, e2⟩ := arSl_at e
          have hv : vs[i]? = some vs[i] := List.getElem?_eq_getElem (by omega)
          refine .inr ⟨a, vs[i], e1, hv, ?_, by rw [Nat.zero_add] at e2; exact e2⟩
          unfold L2.start
          rw [List.getElem?_append_left (by rw [List.length_map]; omega), List.getElem?_map, hv]; rfl
        · rw [List.getElem?_append_right (by rw [arSl_length]; omega)] at e
          exact .inl (by have := List.mem_of_getElem? e; exact (List.mem_replicate.mp this).2)
      have asv : ∀ (i : Nat) a, vs[i]? = some (.ref a) → as i = a := fun i a e => by show (match vs[i]? with | some (.ref a) => a | _ => 0) = a; rw [e]
      have ownAt : ∀ x, Owned (env0 as ars N.length) (L2.start N vs) x → MutAt vs ars x := fun x ⟨i, ao, c, e1, e2⟩ => by
        rcases at0 i _ e1 with z | ⟨a, v, g1, g2, g3, g4⟩
        · cases z
        · cases a with
          | dat d => cases g4
          | mu c1 c1' =>
            cases g4
            rw [e2] at g3; cases g3
            exact ⟨i, _, _, g1, g2⟩
    · refine ⟨bf.le, by rw [lenΓ, lenσ], fun i s e => ?_, fun i j ai aj ci cj x ei ej si sj => ?_⟩
      · rcases at0 i s e with rfl | ⟨a, v, g1, g2, g3, g4⟩
        · trivial
        · obtain ⟨v', h1, ok⟩ := paired_get bf.ok g1
          rw [g2] at h1; cases h1
          cases a with
          | dat d => subst g4; exact ⟨v, by rw [g3]; rfl, ok⟩
          | mu c1 c1' =>
            subst g4
            obtain ⟨y, ho, rfl, h2, h3, h4⟩ := ok
            exact ⟨y, ho, by rw [g3]; rfl, fun b hb => by cases hb; exact asv i y g2, h2, h3, h4⟩
      · rcases at0 i _ ei with z | ⟨a1, v1, g1, g2, g3, g4⟩
        · cases z
        · rcases at0 j _ ej with z | ⟨a2, v2, k1, k2, k3, k4⟩
          · cases z
          · rw [si] at g3; cases g3
            rw [sj] at k3; cases k3
            cases a1 with
            | dat d => cases g4
            | mu c1 c1' =>
              cases a2 with
              | dat d => cases k4
              | mu c2 c2' => exact bf.dis i j c1 c1' c2 c2' x g1 k1 g2 k2
    · have fin : ∀ {F' H' : Hp} {σ' : L2.St} {Γ' : Env'}, Post (⟨K, P, w⟩ : KC) (env0 as ars N.length) (L2.start N vs) F H Γ' σ' F' H' → FinOk as ars Γ' → Mid ⟨K, P, w⟩ F H vs ars F' H' := fun {F' H' σ' Γ'} p hf => by
        refine ⟨⟨p.ext.mono, fun x o h f nm => p.ext.keep x o h f fun z => nm (ownAt x z), p.ext.there⟩, p.ok.le, fun i c c' x e1 e2 => ?_⟩
        obtain ⟨y, ho, h1, h2, h3, h4, h5⟩ := p.ok.own (hf i c c' e1)
        have := h2 _ rfl
        rw [asv i x e2] at this
        subst this
        exact ⟨ho, h3, h4, h5⟩
      rcases hend with ⟨r, rr, rfl, rfl, hk, hf⟩ | ⟨s1, rfl, rfl, hf⟩ | ⟨y, rfl, rfl, hf⟩
      · intro F' H' σ' v p hv
        rw [hk] at hv
        refine q F' H' v (fin p hf) ?_
        cases rr with
        | dat d => exact hv
        | own oc =>
          obtain ⟨y, ho, e1, h1, h2, h3, h4, h5⟩ := hv
          refine ⟨y, ho, e1, h1, h2, h3, ?_⟩
          rcases h5 with z | z
          · -- an object that was handed over is not handed back
            obtain ⟨i, c, c', g1, g2⟩ := ownAt y z
            obtain ⟨y', ho', k1, k2, k3, _⟩ := p.ok.own (hf i c c' g1)
            have := k2 _ rfl
            rw [asv i y g2] at this
            subst this
            exact absurd ⟨i, _, _, hf i c c' g1, k1⟩ h4
          · exact z
      · intro F' H' σ' p
        exact q F' H' .non (fin p hf) .non
      · intro F' H' σ' cls d p hx
        exact wst_of (takes_of rfl rfl rfl rfl) (q F' H' cls d (fin p hf) hx)
theorem cle_mk {P : Program} {w : World} {K : PySem.W.Frag} {mg : Str → Option Value} {base : Heap} {S L R : Type} {qual : Str} {st : Stmt} {f : Addr} {fd : FuncData} {N ps : List Str} (hF : Fun K x qual st f fd) (hS : FnScope N ps (defScope st)) (hm : mg x = some (.ref f)) (hb : Binds K fd ps [])
    (hlen : ∀ ars o, Rel ars o → ars.length = ps.length)
    (body : ∀ (cdv : Value) (A : Around) (outer : List Env) (s : Shared) (H : Hp) (E : XK) ars out (as : Nat → Addr), Room k (A.deeper (envOfC qual (defScope st) s.heap.objs.size f cdv)) → Rel ars out →
      ∃ (Xe : Env') (G : S → Env') (Lp : L → Env') (Kr : R → Rv × Env') (o : LO S L R), SS (cxOf (L2.CX P w) P w K mg base N qual (defScope st) f cdv A outer s H E) Xe (env0 as ars N.length) (defBody st) G Lp Kr o ∧
        ((∃ r rr, o = .ret r ∧ out = .val rr ∧ (Kr r).1 = rr.rv ∧ FinOk as ars (Kr r).2) ∨ (∃ s, o = .next s ∧ out = .val (.dat .non) ∧ FinOk as ars (G s)) ∨ ∃ y, o = .exc y ∧ out = .exc y ∧ FinOk as ars Xe)) : Cle P w K mg base (k + 1) x Rel :=
  ⟨f, fd, ps, fn_mk hF hS hlen body, hm, hF.kp, hb⟩
end
end PD
namespace PD
open PySem PySem.Spec PyProof.Rows L2
/-! ### data as the library's data: ==, <, sorted -/
mutual
def D.py : D → PyData
  | .non => .none
  | .bl b => .bool b
  | .int i => .int i
  | .str x => .str x
  | .tup xs => .tuple (D.pyL xs)
  | .lst xs => .list (D.pyL xs)
  | .dct _ _ _ => .none
  | .obj _ _ _ => .none
def D.pyL : List D → List PyData
  | [] => []
  | x :: xs => D.py x :: D.pyL xs
end
mutual
/-- no dict and no instance within -/
def D.plain : D → Bool
  | .tup xs => D.plainL xs
  | .lst xs => D.plainL xs
  | .dct _ _ _ => false
  | .obj _ _ _ => false
  | _ => true
def D.plainL : List D → Bool
  | [] => true
  | x :: xs => D.plain x && D.plainL xs
end
theorem plainL_iff : ∀ {xs : List D}, D.plainL xs = true ↔ ∀ d ∈ xs, d.plain = true
  | [] => by simp [D.plainL]
  | x :: xs => by simp [D.plainL, plainL_iff (xs := xs)]
theorem pyL_map : ∀ xs : List D, D.pyL xs = xs.map D.py
  | [] => rfl
  | x :: xs => by rw [D.pyL, pyL_map xs]; rfl
mutual
theorem Rep.dp {K : KC} {F H : Hp} (l : Le F H) : ∀ {d : D} {v : V}, d.plain = true → Rep K F v d → Dp K.K H v d.py
  | .non, _, _, .non => .non
  | .bl _, _, _, .bl b => .bl b
  | .int _, _, _, .int i => .int i
  | .str _, _, _, .str x _ => .str x
  | .tup _, _, hp, .tup s r => .tup (l.seqT s) (RepL.dp l hp r)
  | .lst _, _, hp, .lst s r => .lst (l.seqL s) (RepL.dp l hp r)
  | .dct _ _ _, _, hp, _ => nomatch hp
  | .obj _ _ _, _, hp, _ => nomatch hp
theorem RepL.dp {K : KC} {F H : Hp} (l : Le F H) : ∀ {ds : List D} {vs : List V}, D.plainL ds = true → RepL K F vs ds → DpAll K.K H vs (D.pyL ds)
  | [], _, _, .nil => .nil
  | _ :: _, _, hp, .cons a b => .cons (Rep.dp l (Bool.and_eq_true_iff.mp hp).1 a) (RepL.dp l (Bool.and_eq_true_iff.mp hp).2 b)
end
def rLtD (K : KC) : R2 := fun x y H Q => ∃ d e, Dp K.K H x d ∧ Dp K.K H y e ∧ PySem.W.alike d e = true ∧ d ≠ .none ∧ d.depth ≤ 64 ∧ Q (.bl (PySem.W.dataLt d e)) H
theorem op_ltD {X : Cx} (hu : X.A.units + 64 < cLine) : OpR X (compareOp .Lt) (rLtD (kc X)) := by
  intro pins s σ H x y v u Q I rx ry h
  obtain ⟨d, e, hd, he, ha, hn, hp, q⟩ := h
  obtain ⟨as, r1⟩ := Dp.reads I d x v hd rx
  obtain ⟨bs, r2⟩ := Dp.reads I e y u he ry
  exact PySem.W.rcLt_alike d e X.A s v u as bs r1 r2 ha hn (by have := Nat.min_le_left d.depth e.depth; omega) X.prog X.w X.xe _ ⟨.bl _, H, I, rfl, q⟩
/-- sorted(xs), xs a list or a tuple of data -/
def leD (a b : D) : Bool := !PySem.W.dataLt b.py a.py
def rSortD (K : KC) : List V → Hp → VK → Prop := fun xs H Q => ∃ p ys F ds, xs = [.ref p] ∧ (SqL K.K H p ys ∨ SqT K.K H p ys) ∧ Le F H ∧ RepL K F ys ds ∧ PySem.W.AllAlike (ds.map D.py) ∧ PySem.W.Sortable (ds.map D.py) ∧ (∀ d ∈ ds, d.py.depth ≤ 50) ∧ (∀ d ∈ ds, d.plain = true) ∧
  ∀ l ws, H l = none → RepL K F ws (ds.mergeSort leD) → Q (.ref l) (upd H l (.lst ws))
open PySem.W in
theorem call_sortD {X : Cx} (hu : X.A.units + 64 < cLine) : CallR X (.builtin "sorted") (rSortD (kc X)) := by
  intro pins s σ H xs us Q I r h
  obtain ⟨p, ys, F, ds, rfl, hq, hF, rl, hal, hk, hdep, hpl, q⟩ := h
  cases r with
  | cons rp rt =>
  cases rt
  cases rp
  -- the items
  have hit : ∃ (its : List Value) (o : Obj) (n : Nat) (T : String), Vals ys its ∧ s.heap.get? p = some o ∧ o.cls = .type T ∧ o.data = .seq its.toArray n ∧ (T = "list" ∨ T = "tuple") ∧ ys.length ≤ sizeLine := by
    rcases hq with hq | hq
    · obtain ⟨its, rv, ⟨o, n, e, hc, _, hd⟩, hz⟩ := I.list hq
      exact ⟨its, o, n, "list", rv, e, hc, hd, .inl rfl, hz⟩
    · obtain ⟨its, rv, ⟨o, e, hc, n, hd⟩, hz⟩ := I.tuple hq
      exact ⟨its, o, n, "tuple", rv, e, hc, hd, .inr rfl, hz⟩
  obtain ⟨its, o, n, T, rv, ho, hc, hd, hT, hz⟩ := hit
  have hl := rv.length
  have hz' : its.length ≤ sizeLine := by omega
  refine Calls.call_function_entry kind_sorted plain_sorted entry_sorted (args_sorted1 _) ?_
  unfold Builtin.«sorted»
  refine wpAny_bind (m := checkCount "sorted" 1 1 _) (wpAny_pure ?_)
  refine wpAny_bind (wpAny_collect_seq p hT ho hc hd (fun h' kh => ?_) (by rw [List.size_toArray]; exact hz'))
  refine wpAny_bind (wpAny_newList ?_ hz')
  have I1 : Inv X pins σ H { s with heap := h' } := I.kept (t' := s.toks) kh
  have hoL : (h'.push (seqObj "list" its.toArray 0)).get? h'.objs.size = some (seqObj "list" its.toArray 0) := Heap.get?_push_size _ rfl
  have kp : ∀ b ob, s.heap.get? b = some ob → (h'.push (seqObj "list" its.toArray 0)).get? b = some ob := fun b ob e => Heap.get?_push_of_some _ (kh b ob e)
  show wpAny _ _ _ _ _ { s with heap := h'.push (seqObj "list" its.toArray 0) }
  -- what the items read as
  have each : ∀ {ys : List V} {its : List Value} {ds : List D}, Vals ys its → RepL (kc X) F ys ds → EachIs (fun u d => ∃ v, RelV v u ∧ Rep (kc X) F v d) its ds := by
    intro ys its ds rv rl
    induction rv generalizing ds with
    | nil => cases rl; exact .nil
    | cons r t ih => cases rl with | cons r2 t2 => exact .cons ⟨_, r, r2⟩ (ih t2)
  have e0 := each rv rl
  have er : EachIs (fun u d => ∃ as, Reads s.heap u (D.py d) as) its ds := (each_mem e0).mono fun u d ⟨⟨v, r1, r2⟩, hd⟩ => Dp.reads I _ v u (Rep.dp hF (hpl d hd) r2) r1
  have er' : EachIs (fun u d => ∃ as, Reads (sortingHeap (h'.push (seqObj "list" its.toArray 0)) h'.objs.size its) u (D.py d) as) its ds := er.mono fun u d ⟨as, rr⟩ => ⟨as, PyProof.Rows.Reads.keeps (fun b ob e => by
    have hb : b ≠ h'.objs.size := Nat.ne_of_lt (Heap.lt_size (kh b ob e))
    exact sortingHeap_old hb (kp b ob e)) rr⟩
  refine wpAny_bind (wpAny_holding (wpAny_call_entry slot_list_sort ⟨_, hoL, rfl⟩ entry_list_sort (list_sort_vals (κ := dataKind (sortingHeap (h'.push (seqObj "list" its.toArray 0)) h'.objs.size its) (ds.map D.py)) hoL
    (SortsAt.data (s := { s with heap := sortingHeap (h'.push (seqObj "list" its.toArray 0)) h'.objs.size its }) (each_map (R := fun v d => ∃ as, Reads (sortingHeap (h'.push (seqObj "list" its.toArray 0)) h'.objs.size its) v d as) D.py er') hal hk (fun d hd => ?_)) hz' ⟨_, rfl, ?_⟩) (args_list_sort _)))
  · obtain ⟨b, hb, rfl⟩ := List.mem_map.mp hd
    have := hdep b hb
    show X.A.units + 1 + 1 + b.py.depth < cLine
    omega
  refine wpAny_pure ⟨_, rfl, ?_⟩
  -- the new list
  have out := sortVals_data (h' := sortingHeap (h'.push (seqObj "list" its.toArray 0)) h'.objs.size its) false e0 er' hal
  have hsrt : dataLe false D.py = leD := by funext a b; rfl
  rw [hsrt] at out
  generalize hov : sortVals (dataKind (sortingHeap (h'.push (seqObj "list" its.toArray 0)) h'.objs.size its) (ds.map D.py)) false its its = ov at out
  have hlen : ov.length = its.length := by rw [← hov]; exact sortVals_length false rfl
  have back : ∀ {us : List Value} {es : List D}, EachIs (fun u d => ∃ v, RelV v u ∧ Rep (kc X) F v d) us es → ∃ ws, Vals ws us ∧ RepL (kc X) F ws es := by
    intro us es h
    induction h with
    | nil => exact ⟨[], .nil, .nil⟩
    | cons h1 _ ih =>
      obtain ⟨v, r1, r2⟩ := h1
      obtain ⟨ws, h1, h2⟩ := ih
      exact ⟨v :: ws, .cons r1 h1, .cons r2 h2⟩
  obtain ⟨ws, w1, w2⟩ := back out
  obtain ⟨ep, hat⟩ := sortedHeap_at (out := ov.toArray) hoL
  refine ⟨.ref h'.objs.size, _, I1.laid (t' := s.toks) (o := .lst ws) (fun b ob e => ?_) (Nat.le_refl _) ?_, rfl, q h'.objs.size ws (I1.hok.fresh (Nat.le_refl _)) w2⟩
  · have hb : b < h'.objs.size := Heap.lt_size e
    exact (sortedHeap_old (Nat.ne_of_lt hb) (by rw [size_push']; exact Nat.lt_succ_of_lt hb)).trans (Heap.get?_push_of_some _ e)
  · exact ⟨by rw [w1.length, hlen]; exact hz', ov, ep, w1, hat⟩
section
variable {X : Cx} {Γ Γ1 Γ2 Γ3 : Env'} {e a b c : Expr} {pos p px apos : Pos} {r ra rb rc rv : Rv} {d : D} {ds es : List D}
theorem ev_sorted (hu : X.A.units + 64 < cLine) (hg : Gl X "sorted") (hm : X.mg "sorted" = none) (w : VSeq Γ1 r ds) (hal : PySem.W.AllAlike (ds.map D.py)) (hk : PySem.W.Sortable (ds.map D.py)) (hdep : ∀ d ∈ ds, d.py.depth ≤ 50) (hpl : ∀ d ∈ ds, d.plain = true) (ha : EV X Γ a r Γ1) (hs : starEach [a] X.env = (false, eval a X.env) :: starEach [] X.env := by rfl) :
    EV X Γ (.Call (.Name "sorted" p) [a] [] pos) (.own (.lst (ds.mergeSort leD))) Γ1 :=
  ev_callB (call_sortD hu) hg hm (by decide +kernel) (fun F σ H A vs Q hH hv q => by
    cases hv with
    | cons h t =>
      cases t
      obtain ⟨x, ws, e, s, t⟩ := w.at hH h
      subst e
      have t' : ∃ F', Le F' H ∧ RepL (kc X) F' ws ds ∧ Le F F' := ⟨F, hH.le, t, Le.refl F⟩
      exact ⟨x, ws, F, ds, rfl, s, hH.le, t, hal, hk, hdep, hpl, fun l ws' hl rw' => new_list (.refl hH) rw' hl q⟩) (av_cons ha av_nil hs) (by decide) (by decide) hs rfl
/-- the sorted list in typed words -/
def leT {α : Type} (enc : α → D) (a b : α) : Bool := leD (enc a) (enc b)
theorem sorted_map {α : Type} (enc : α → D) (xs : List α) : (xs.map enc).mergeSort leD = (xs.mergeSort (leT enc)).map enc := (PySem.W.sort_maps enc fun _ _ _ _ => rfl).symm
end
end PD
namespace PD
open PySem PySem.Spec PyProof.Rows L2
/-! ### slices of tuples: the whole, turned round -/
section
variable {prog : Program} {w : World} {A : Around} {E : Value → Shared → Prop} {s : Shared}
theorem tupleIsExact_ {t : Addr} {items : Array Value} {Q : Bool → Shared → Prop} (ht : IsTup s.heap t items) (h : Q true s) : wpAny (model prog w) A (Builtin.Tuple.tupleIsExact (.ref t)) Q E s := by
  obtain ⟨o, ho, hc, _⟩ := id ht
  unfold Builtin.Tuple.tupleIsExact
  refine wpAny_bind (wpAny_typeOf (T := "tuple") ⟨o, ho, hc⟩ (wpAny_pure ?_))
  exact h
theorem getItem_tuple_whole {t sl : Addr} {items : Array Value} {vl vu : Value} {lo hi : Option Int} {Q : Value → Shared → Prop} (ht : IsTup s.heap t items) (hs : s.heap.IsSliceOf sl vl vu .none) (pl : IsPart vl lo) (pu : IsPart vu hi)
    (hw : HT.sIx items.size 0 lo = 0 ∧ HT.sIx items.size items.size hi = items.size) (h : Q (.ref t) s) : wpAny (model prog w) A (getItem (.ref t) (.ref sl)) Q E s := by
  obtain ⟨os, hos, hcs, hds⟩ := id hs
  have hTs : s.TypeIs (.ref sl) "slice" := ⟨os, hos, hcs⟩
  unfold getItem
  try with_reducible refine wpAny_holding ?_
  first | refine wpAny_bind (wpAny_pure ?_) | skip
  refine wpAny_bind (wpAny_sequenceKey ht.typeIs (by decide) ?_)
  refine wpAny_bind (wpAny_callSpecial?_slot (name := Str.ofString "__getitem__") ht.typeIs PyProof.Rows.slot_tuple_getitem
    (wpAny_call_entry PyProof.Rows.slot_tuple_getitem ht.typeIs entry_tuple_getitem ?_ (args_tuple_getitem _ _)))
  show wpAny _ _ (Builtin.Tuple.tupleItemsOf (.ref t) >>= _) _ _ s
  refine wpAny_bind (tupleItemsOf_ ht ?_)
  refine wpAny_bind (wpAny_typeOf hTs ?_)
  rw [if_pos (by decide)]
  refine wpAny_bind (HT.sliceApplied_gen hs pl pu ?_)
  show wpAny _ _ (if (((HT.sIx items.size 0 lo : Nat) : Int) == 0 && (1 : Int) == 1 && (HT.sIx items.size items.size hi - HT.sIx items.size 0 lo) == items.size) = true then _ else _) _ _ s
  rw [hw.1, hw.2, if_pos (by simp)]
  refine wpAny_bind (tupleIsExact_ ht ?_)
  rw [if_pos rfl]
  first
    | exact wpAny_bind (wpAny_rule (wpAny_pure ⟨_, rfl, wpAny_pure h⟩))
    | exact wpAny_bind (wpAny_rule (wpAny_bind (wpAny_pure (wpAny_pure ⟨_, rfl, wpAny_pure h⟩))))
    | exact wpAny_bind (wpAny_bind (wpAny_rule (wpAny_pure (wpAny_pure ⟨_, rfl, wpAny_pure h⟩))))
    | exact wpAny_bind (wpAny_bind (wpAny_rule (wpAny_bind (wpAny_pure (wpAny_pure ⟨_, rfl, wpAny_pure h⟩)))))
theorem sliceApplied_rev {sl : Addr} {vk : Value} {n : Nat} {Q : Int × Int × Nat → Shared → Prop} (hs : s.heap.IsSliceOf sl .none .none vk) (pk : IsPart vk (some (-1)))
    (h : Q ((n : Int) - 1, -1, n) s) : wpAny (model prog w) A (Builtin.Slice.sliceApplied (.ref sl) (pure (n : Int))) Q E s := by
  obtain ⟨os, hos, hcs, hds⟩ := id hs
  unfold Builtin.Slice.sliceApplied Builtin.Slice.sliceFields
  refine wpAny_bind (wpAny_bind (wpAny_field hos hds (x := .none) rfl (wpAny_bind (wpAny_field hos hds (x := .none) rfl (wpAny_bind (wpAny_field hos hds (x := vk) rfl (wpAny_pure ?_)))))))
  refine wpAny_bind (HT.slicePart_ pk ?_)
  show wpAny _ _ (if ((-1 : Int) == 0) = true then _ else _) _ _ s
  rw [if_neg (by decide)]
  refine wpAny_bind (slicePart_none (wpAny_bind (slicePart_none (wpAny_bind (wpAny_pure ?_)))))
  show wpAny _ _ (pure ((n : Int) - 1, (-1 : Int), Builtin.Slice.slicePlaces ((n : Int) - 1) (-1) (-1))) _ _ s
  have e : Builtin.Slice.slicePlaces ((n : Int) - 1) (-1) (-1) = n := by
    unfold Builtin.Slice.slicePlaces
    have h1 : ¬ ((-1 : Int) > 0) := by decide
    simp only [h1, if_false]
    split
    · rw [show (- -1 : Int) = 1 by decide, Int.ediv_one]; omega
    · omega
  rw [e]
  exact wpAny_pure h
theorem fm_congr {α β : Type} {f g : α → Option β} : ∀ {l : List α}, (∀ x ∈ l, f x = g x) → l.filterMap f = l.filterMap g
  | [], _ => rfl
  | x :: l, h => by
    rw [List.filterMap_cons, List.filterMap_cons, h x List.mem_cons_self, fm_congr fun y hy => h y (List.mem_cons_of_mem _ hy)]
theorem rev_pick (xs : Array Value) : ((List.range xs.size).filterMap fun (k : Nat) => xs[((xs.size : Int) - 1 + (k : Int) * -1).toNat]?).toArray = xs.toList.reverse.toArray := by
  have e : ∀ k ∈ List.range xs.size, xs[((xs.size : Int) - 1 + (k : Int) * -1).toNat]? = (fun j => xs[j]?) (xs.size - 1 - k) := fun k hk => by
    have := List.mem_range.mp hk
    show xs[((xs.size : Int) - 1 + (k : Int) * -1).toNat]? = xs[xs.size - 1 - k]?
    congr 1
    omega
  rw [fm_congr e]
  rw [show (List.range xs.size).filterMap (fun k => (fun j => xs[j]?) (xs.size - 1 - k)) = ((List.range xs.size).map fun k => xs.size - 1 - k).filterMap (fun j => xs[j]?) from (List.filterMap_map ..).symm]
  rw [PySem.W.krv_range, List.filterMap_reverse, PySem.W.krv_all]
theorem getItem_tuple_rev {t sl : Addr} {items : Array Value} {vk : Value} {Q : Value → Shared → Prop} (ht : IsTup s.heap t items) (hs : s.heap.IsSliceOf sl .none .none vk) (pk : IsPart vk (some (-1))) (hsz : items.size ≤ sizeLine)
    (h : Q (.ref s.heap.objs.size) { s with heap := s.heap.push { cls := .type "tuple", data := .seq items.toList.reverse.toArray } }) : wpAny (model prog w) A (getItem (.ref t) (.ref sl)) Q E s := by
  obtain ⟨os, hos, hcs, hds⟩ := id hs
  have htake : sizeOk (.seq items.toList.reverse.toArray) := by
    show items.toList.reverse.toArray.size ≤ sizeLine
    simpa using hsz
  have hTs : s.TypeIs (.ref sl) "slice" := ⟨os, hos, hcs⟩
  unfold getItem
  try with_reducible refine wpAny_holding ?_
  first | refine wpAny_bind (wpAny_pure ?_) | skip
  refine wpAny_bind (wpAny_sequenceKey ht.typeIs (by decide) ?_)
  refine wpAny_bind (wpAny_callSpecial?_slot (name := Str.ofString "__getitem__") ht.typeIs PyProof.Rows.slot_tuple_getitem
    (wpAny_call_entry PyProof.Rows.slot_tuple_getitem ht.typeIs entry_tuple_getitem ?_ (args_tuple_getitem _ _)))
  show wpAny _ _ (Builtin.Tuple.tupleItemsOf (.ref t) >>= _) _ _ s
  refine wpAny_bind (tupleItemsOf_ ht ?_)
  refine wpAny_bind (wpAny_typeOf hTs ?_)
  rw [if_pos (by decide)]
  refine wpAny_bind (sliceApplied_rev hs pk ?_)
  show wpAny _ _ (if (((items.size : Nat) : Int) - 1 == 0 && (-1 : Int) == 1 && items.size == items.size) = true then _ else _) _ _ s
  rw [if_neg (by simp), rev_pick]
  first
    | exact wpAny_bind (m := Builtin.Tuple.tupleExact _) (wpAny_newObj_type (wpAny_pure ⟨_, rfl, wpAny_pure h⟩) htake)
    | exact wpAny_bind (m := Builtin.Tuple.tupleExact _) (wpAny_newObj_type (wpAny_bind (wpAny_pure (wpAny_pure ⟨_, rfl, wpAny_pure h⟩))) htake)
    | exact wpAny_bind (wpAny_bind (m := Builtin.Tuple.tupleExact _) (wpAny_newObj_type (wpAny_pure (wpAny_pure ⟨_, rfl, wpAny_pure h⟩)) htake))
    | exact wpAny_bind (wpAny_bind (m := Builtin.Tuple.tupleExact _) (wpAny_newObj_type (wpAny_pure ⟨_, rfl, wpAny_pure h⟩) htake))
end
section
variable {X : Cx} {Γ Γ1 Γ2 Γ3 : Env'} {e a b c : Expr} {pos p px apos : Pos} {r ra rb rc rv : Rv} {d : D} {ds es : List D} {i j : Int}
def rSlT2 (K : KC) : V → Option Int → Option Int → Hp → VK → Prop := fun x lo hi H Q => ∃ a xs, x = .ref a ∧ SqT K.K H a xs ∧ (cutV xs lo hi = xs → Q (.ref a) H) ∧ ∀ p, H p = none → Q (.ref p) (upd H p (.tup (cutV xs lo hi)))
theorem sl_tup2 : SlR X (rSlT2 (kc X)) := by
  intro pins s σ H x v vl vu lo hi sl Q I rx hs pl pu h
  obtain ⟨a, xs, rfl, hx, q1, q2⟩ := h
  by_cases hw : HT.sIx xs.length 0 lo = 0 ∧ HT.sIx xs.length xs.length hi = xs.length
  · cases rx
    obtain ⟨its, r, ht, hz⟩ := I.tuple hx
    have hlen : its.toArray.size = xs.length := by rw [List.size_toArray]; exact r.length.symm
    refine ⟨"tuple", _, PyProof.Rows.slot_tuple_getitem.lookup, ht.typeIs, ?_⟩
    exact getItem_tuple_whole ht hs pl pu (by rw [hlen]; exact hw) ⟨.ref a, H, I, rfl, q1 (by unfold cutV; rw [hw.1, hw.2]; simp)⟩
  · exact sl_tup pins s σ H (.ref a) v vl vu lo hi sl Q I rx hs pl pu ⟨a, xs, rfl, hx, hw, q2⟩
theorem ev_slT {lo hi : Option Expr} {l u : Option Int} {p2 : Pos} (ha : EV X Γ a (.dat (.tup ds)) Γ1) (hl : OV X Γ1 lo l Γ2) (hu : OV X Γ2 hi u Γ3) : EV X Γ (.Subscript a (.Slice lo hi none p2) pos) (.dat (.tup (cutD ds l u))) Γ3 := by
  obtain ⟨t1, h1, w1⟩ := hl
  obtain ⟨t2, h2, w2⟩ := hu
  refine PE.weak (pe_slice sl_tup2 ha h1 h2) fun σ H Q ⟨F, hH, q⟩ => ⟨F, hH, fun F1 H1 v q1 hv => w1 σ H1 _ F1 q1.ok fun F2 H2 q2 => w2 σ H2 _ F2 q2.ok fun F3 H3 q3 => ?_⟩
  obtain ⟨p, vs, e1, s1, t1⟩ := Rep.tup_at (Rep.mono (q2.ext.mono.trans q3.ext.mono) hv)
  have pp := (q1.trans q2).trans q3
  refine ⟨p, vs, e1, q3.ok.le.seqT s1, fun z => q F3 H3 _ pp ?_, fun y hy => new_tup pp (t1.cut l u) hy q⟩
  have tc := t1.cut l u
  rw [z] at tc
  exact .tup s1 tc
def tRevT (K : KC) (te : TE) : TE := fun σ H Q => te σ H fun x H1 => ∃ a xs, x = .ref a ∧ SqT K.K H1 a xs ∧ ∀ p, H1 p = none → Q (.ref p) (upd H1 p (.tup xs.reverse))
theorem pe_revT {e : Expr} {te : TE} {k : Nat} {p1 p2 p3 pos : Pos} (he : PE X e te) : PE X (.Subscript e (.Slice none none (some (.UnaryOp .USub (.Constant (.int 1) k p1) p2)) p3) pos) (tRevT (kc X) te) := by
  refine ⟨fun pins s σ H Q I h => ?_⟩
  refine Subscript_ (thn (he.run pins s σ H _ I h) fun v s1 ⟨x, H1, I1, r1, q1⟩ => ?_)
  obtain ⟨a, xs, ex, hx, q⟩ := q1
  subst ex
  cases r1
  have hst : PO X (some (.UnaryOp .USub (.Constant (.int 1) k p1) p2)) (tPart (tUn (rU fun i => .int (-i)) (tC (.int 1)))) := po_some (pe_un un_neg pe_int)
  refine wpAny_Slice (thn (po_none.run pins s1 σ H1 (fun o H2 => o = none ∧ H2 = H1) I1 ⟨rfl, rfl⟩) fun vl s2 ⟨l, H2, I2, pl, el, e2⟩ => ?_)
  subst el e2
  refine thn (po_none.run pins s2 σ H2 (fun o H3 => o = none ∧ H3 = H2) I2 ⟨rfl, rfl⟩) fun vu s3 ⟨u, H3, I3, pu, eu, e3⟩ => ?_
  subst eu e3
  refine thn (hst.run pins s3 σ H3 (fun o H4 => o = some (-1) ∧ H4 = H3) I3 ⟨1, rfl, -1, rfl, rfl, rfl⟩) fun vs s4 ⟨o, H4, I4, ps, eo, e4⟩ => ?_
  subst eo e4
  have I5 : Inv X pins σ H4 { s4 with heap := s4.heap.push { cls := .type "slice", data := .fields #[vl, vu, vs] } } := I4.kept (t' := s4.toks) fun b ob q => Heap.get?_push_of_some _ q
  obtain ⟨its, r, ht, hz⟩ := I5.tuple hx
  have hlen := r.length
  cases pl
  cases pu
  show wpAny (model X.prog X.w) X.A (subscriptTail e (.Slice none none (some (.UnaryOp .USub (.Constant (.int 1) k p1) p2)) p3) (.ref a) (.ref s4.heap.objs.size)) (EP X pins σ Q) X.xe { s4 with heap := s4.heap.push { cls := .type "slice", data := .fields #[.none, .none, vs] } }
  refine tail_any (ops := [.ref a, .ref s4.heap.objs.size]) ht.typeIs (PyProof.Rows.slot_tuple_getitem.lookup) ?_ (by with_unfolding_all rfl)
  refine getItem_tuple_rev ht (Heap.IsSliceOf.new _ .none .none vs) ps (by rw [List.size_toArray]; omega) ?_
  refine ⟨.ref _, _, I5.laid (t' := s4.toks) (o := .tup xs.reverse) (fun b ob q => Heap.get?_push_of_some _ q) (Nat.le_refl _) ?_, rfl, q _ (I5.hok.fresh (Nat.le_refl _))⟩
  exact ⟨by rw [List.length_reverse]; exact hz, _, by simpa using r.reverse, IsTup.new _ _⟩
theorem ev_revT {k : Nat} {p1 p2 p3 : Pos} (ha : EV X Γ a (.dat (.tup ds)) Γ1) : EV X Γ (.Subscript a (.Slice none none (some (.UnaryOp .USub (.Constant (.int 1) k p1) p2)) p3) pos) (.dat (.tup ds.reverse)) Γ1 :=
  PE.weak (pe_revT ha) fun σ H Q ⟨F, hH, q⟩ => ⟨F, hH, fun F1 H1 v q1 hv => by
    obtain ⟨p, vs, e1, s1, t1⟩ := Rep.tup_at hv
    exact ⟨p, vs, e1, q1.ok.le.seqT s1, fun pp hp => new_tup q1 t1.reverse hp q⟩⟩
end
end PD
namespace PD
open PySem PySem.Spec PyProof.Rows L2
/-! ### text times int -/
def strRep (x : Str) (n : Int) : Str := ⟨(List.replicate n.toNat x.cps.toList).flatten.toArray⟩
theorem foldl_cps (x : Array Nat) : ∀ (k : Nat) (acc : Array Nat), (List.replicate k x).foldl (· ++ ·) acc = acc ++ (List.replicate k x.toList).flatten.toArray
  | 0, acc => by simp
  | k + 1, acc => by
    rw [List.replicate_succ, List.foldl_cons, foldl_cps x k, List.replicate_succ, List.flatten_cons]
    apply Array.ext'
    simp
theorem strRep_eq (x : Str) (n : Int) : strRep x n = ⟨(List.replicate n.toNat x.cps).foldl (· ++ ·) #[]⟩ := by
  unfold strRep
  rw [foldl_cps]
  simp
theorem strRep_none {x : Str} {n : Int} (h : n < 1) : strRep x n = Str.empty := by
  unfold strRep
  rw [show n.toNat = 0 by omega]
  rfl
theorem strRep_same {x : Str} {n : Int} (h : (n == 1 || x.length == 0) = true) (h1 : ¬ n < 1) : strRep x n = x := by
  unfold strRep
  rcases Bool.or_eq_true_iff.mp h with q | q
  · have : n = 1 := by simpa using q
    subst this
    show (⟨_⟩ : Str) = ⟨x.cps⟩
    congr 1
    simp
  · have q : x.length = 0 := by simpa using q
    have q : x.cps = #[] := Array.eq_empty_of_size_eq_zero q
    show (⟨_⟩ : Str) = ⟨x.cps⟩
    rw [q]
    congr 1
    simp
theorem sok_mul {x : Str} {n : Int} (h : PyData.strOk x = true) : PyData.strOk (strRep x n) = true := by
  unfold PyData.strOk strRep at *
  rw [Array.all_eq_true']
  intro c hc
  simp only [List.mem_toArray, List.mem_flatten, List.mem_replicate] at hc
  obtain ⟨l, ⟨_, rfl⟩, hc⟩ := hc
  exact Array.all_eq_true'.mp h c (by simpa using hc)
theorem strRep_len (x : Str) (n : Int) : (strRep x n).length = n.toNat * x.length := by
  unfold strRep Str.length
  simp
theorem op_mulS {X : Cx} : OpR X (binaryOp .Mult) (fun x y H Q => ∃ z n, x = .str z ∧ y = .int n ∧ z.length ≤ 4000 ∧ 0 ≤ n ∧ n ≤ 4000 ∧ Q (.str (strRep z n)) H) := by
  intro pins s σ H x y v u Q I rx ry h
  obtain ⟨z, n, rfl, rfl, hz, h0, h1, q⟩ := h
  obtain ⟨t, rfl⟩ := rx
  obtain ⟨t', rfl⟩ := ry
  have hzn : z.length * n.toNat ≤ 16000000 := by
    have h3 : n.toNat ≤ 4000 := by omega
    calc z.length * n.toNat ≤ 4000 * 4000 := Nat.mul_le_mul hz h3
      _ = 16000000 := by decide
  refine PySem.P.mul_str (by
      have e1 : ¬ n < -(2 ^ 63 : Int) := by omega
      have e2 : ¬ n ≥ 2 ^ 63 := by omega
      rw [decide_eq_false e1, decide_eq_false e2]; rfl) (fun hn _ => ?_) (fun _ _ => ?_) ?_
  · have hn' : 0 < n := by omega
    have : (4000 : Int) ≤ (2 ^ 63 - 1) / n := by
      refine (Int.le_ediv_iff_mul_le hn').mpr ?_
      have : (4000 : Int) * n ≤ 4000 * 4000 := by omega
      omega
    omega
  · unfold Builtin.Str.tooLong
    have : sizeLine = 16777216 := by rw [sizeLine_eq]
    simp only [decide_eq_false_iff_not]
    omega
  · by_cases hn : n < 1
    · rw [if_pos hn]
      rw [strRep_none hn] at q
      exact ⟨by decide, .str _, H, I.tok _, ⟨_, rfl⟩, q⟩
    · rw [if_neg hn]
      by_cases hs : (n == 1 || z.length == 0) = true
      · rw [if_pos hs]
        rw [strRep_same hs hn] at q
        exact ⟨.str _, H, I, ⟨_, rfl⟩, q⟩
      · rw [if_neg hs, ← strRep_eq]
        refine ⟨?_, .str _, H, I.tok _, ⟨_, rfl⟩, q⟩
        rw [strRep_len, Nat.mul_comm]
        exact Nat.le_trans hzn (by decide)
section
variable {X : Cx} {Γ Γ1 Γ2 Γ3 : Env'} {e a b c : Expr} {pos p px apos : Pos} {r ra rb rc rv : Rv} {d : D} {ds es : List D} {i j : Int}
theorem ev_mulS {z : Str} (hz : z.length ≤ 4000) (h0 : 0 ≤ i) (h1 : i ≤ 4000) (ha : EV X Γ a (.dat (.str z)) Γ1) (hb : EV X Γ1 b (.dat (.int i)) Γ2) : EV X Γ (.BinOp a .Mult b pos) (.dat (.str (strRep z i))) Γ2 :=
  ev_op op_mulS (fun F σ H A x y Q hH hx hy q => by
    cases hy
    cases hx with
    | str _ ok => exact ⟨_, _, rfl, rfl, hz, h0, h1, q F H _ (.refl hH) (.str _ (sok_mul ok))⟩) ha hb
end
end PD
namespace PD
open PySem PySem.Spec PyProof.Rows L2
/-! ### small words for a walk -/
theorem weak_rfl {Γ : Env'} : Weak Γ Γ := ⟨rfl, fun _ _ h => .inr h⟩
theorem weak_nil : Weak [] [] := weak_rfl
theorem weak_eq {Γ Γ' : Env'} {s : Sl} (h : Weak Γ Γ') : Weak (s :: Γ) (s :: Γ') := ⟨congrArg (· + 1) h.1, fun i t e => match i, e with
  | 0, e => .inr e
  | i + 1, e => h.2 i t e⟩
theorem weak_any {Γ Γ' : Env'} {s : Sl} (h : Weak Γ Γ') : Weak (s :: Γ) (.any :: Γ') := ⟨congrArg (· + 1) h.1, fun i t e => match i, e with
  | 0, e => .inl (by cases e; rfl)
  | i + 1, e => h.2 i t e⟩
def finB (as : Nat → Addr) : Nat → List Ar → Env' → Prop
  | _, [], _ => True
  | n, .dat _ :: r, _ :: f => finB as (n + 1) r f
  | n, .mu _ c' :: r, .own (some a) x :: f => a = as n ∧ x = c' ∧ finB as (n + 1) r f
  | _, _, _ => False
theorem finB_at {as : Nat → Addr} : ∀ {ars : List Ar} {n : Nat} {fin : Env'}, finB as n ars fin → ∀ (i : Nat) c c', ars[i]? = some (.mu c c') → fin[i]? = some (.own (some (as (n + i))) c')
  | [], _, _, _, _, _, _, e => by cases e
  | .dat d :: r, n, [], h, _, _, _, _ => h.elim
  | .dat d :: r, n, s :: f, h, 0, c, c', e => by cases e
  | .dat d :: r, n, s :: f, h, i + 1, c, c', e => by
    have := finB_at (ars := r) (n := n + 1) (fin := f) h i c c' e
    rw [show n + (i + 1) = n + 1 + i by omega]; exact this
  | .mu c1 c1' :: r, n, .own (some a) x :: f, h, 0, c, c', e => by
    obtain ⟨rfl, rfl, _⟩ := h
    cases e; rfl
  | .mu c1 c1' :: r, n, .own (some a) x :: f, h, i + 1, c, c', e => by
    have := finB_at (ars := r) (n := n + 1) (fin := f) h.2.2 i c c' e
    rw [show n + (i + 1) = n + 1 + i by omega]; exact this
theorem finOk {as : Nat → Addr} {ars : List Ar} {fin : Env'} (h : finB as 0 ars fin) : FinOk as ars fin := fun i c c' e => by
  have := finB_at h i c c' e
  rw [Nat.zero_add] at this; exact this
theorem bind_ret {S S' L R : Type} {o : LO S L R} {k : S → LO S' L R} {r : R} : (LO.ret r : LO S L R).bind k = .ret r := rfl
end PD
namespace PD
open PySem PySem.Spec PyProof.Rows L2
/-! ### typed data -/
instance : Inhabited Str := ⟨Str.empty⟩
abbrev eL {α : Type} (f : α → D) (xs : List α) : D := .lst (xs.map f)
abbrev eT {α : Type} (f : α → D) (xs : List α) : D := .tup (xs.map f)
abbrev eP {α β : Type} (f : α → D) (g : β → D) (p : α × β) : D := .tup [f p.1, g p.2]
abbrev eP3 {α β γ : Type} (f : α → D) (g : β → D) (h : γ → D) (p : α × β × γ) : D := .tup [f p.1, g p.2.1, h p.2.2]
abbrev eP4 {α β γ δ : Type} (f : α → D) (g : β → D) (h : γ → D) (k : δ → D) (p : α × β × γ × δ) : D := .tup [f p.1, g p.2.1, h p.2.2.1, k p.2.2.2]
abbrev eD (d : D) : D := d
def eO {α : Type} (f : α → D) : Option α → D
  | none => .non
  | some x => f x
def cutL {α : Type} (xs : List α) (lo hi : Option Int) : List α := (xs.drop (HT.sIx xs.length 0 lo)).take (HT.sIx xs.length xs.length hi - HT.sIx xs.length 0 lo)
section
variable {α β : Type} {enc : α → D} {encb : β → D} {xs ys : List α}
theorem cut_map (lo hi : Option Int) : cutD (xs.map enc) lo hi = (cutL xs lo hi).map enc := by
  unfold cutD cutL
  rw [List.length_map, ← List.map_drop, ← List.map_take]
theorem at_map [Inhabited α] {k : Int} (h0 : 0 ≤ k) (h1 : k < xs.length) : atI (xs.map enc) k = some (enc (xs.getD k.toNat default)) := by
  obtain ⟨n, rfl⟩ := Int.eq_ofNat_of_zero_le h0
  have hn : n < xs.length := by omega
  refine atI_nat ?_
  rw [List.getElem?_map, List.getElem?_eq_getElem hn]
  simp [hn]
theorem at_last [Inhabited α] (h : 0 < xs.length) : atI (xs.map enc) (-1) = some (enc (xs.getD (xs.length - 1) default)) := by
  obtain ⟨ys, y, rfl⟩ : ∃ ys y, xs = ys ++ [y] := ⟨xs.dropLast, xs.getLast (by intro z; rw [z] at h; cases h), (List.dropLast_concat_getLast _).symm⟩
  rw [List.map_append, List.map_singleton, atI_last]
  simp
theorem compL_map (f : α → β) : ∀ xs : List α, compL (fun (_ : Unit) x => ((), some (f x))) xs () = ((), xs.map f)
  | [] => rfl
  | x :: xs => by
    have := compL_map f xs
    show ((compL (fun (_ : Unit) x => ((), some (f x))) xs ()).1, f x :: (compL (fun (_ : Unit) x => ((), some (f x))) xs ()).2) = _
    rw [this]; rfl
theorem compL_if (c : α → Bool) (f : α → β) : ∀ xs : List α, compL (fun (_ : Unit) x => ((), if c x then some (f x) else none)) xs () = ((), (xs.filter c).map f)
  | [] => rfl
  | x :: xs => by
    have ih := compL_if c f xs
    cases hc : c x with
    | true =>
      rw [List.filter_cons_of_pos hc]
      have e : compL (fun (_ : Unit) x => ((), if c x then some (f x) else none)) (x :: xs) () = ((compL (fun (_ : Unit) x => ((), if c x then some (f x) else none)) xs ()).1, f x :: (compL (fun (_ : Unit) x => ((), if c x then some (f x) else none)) xs ()).2) := by
        rw [compL]; simp [hc]
      rw [e, ih]; rfl
    | false =>
      rw [List.filter_cons_of_neg (by rw [hc]; exact Bool.false_ne_true)]
      have e : compL (fun (_ : Unit) x => ((), if c x then some (f x) else none)) (x :: xs) () = compL (fun (_ : Unit) x => ((), if c x then some (f x) else none)) xs () := by
        rw [compL]; simp [hc]
      rw [e, ih]
end
section
variable {X : Cx} {Γ Γ1 Γ2 Γ3 : Env'} {e a b c tg iter elt : Expr} {pos p px apos : Pos} {r ra rb rc rv : Rv} {d : D} {i j : Int} {α β : Type} {enc : α → D} {encb : β → D} {xs ys : List α} {x : Str} {k : Nat} {ao : Option Addr}
theorem evt_ixL [Inhabited α] (ha : EV X Γ a ra Γ1) (hb : EV X Γ1 b (.dat (.int i)) Γ2) (w : View Γ2 ra (xs.map enc)) (h0 : 0 ≤ i) (h1 : i < xs.length) (hs : PlainIx b := by exact fun _ _ => rfl) : EV X Γ (.Subscript a b pos) (.dat (enc (xs.getD i.toNat default))) Γ2 := ev_ixL ha hb w (at_map h0 h1) hs
theorem evt_ixT [Inhabited α] (ha : EV X Γ a (.dat (.tup (xs.map enc))) Γ1) (hb : EV X Γ1 b (.dat (.int i)) Γ2) (h0 : 0 ≤ i) (h1 : i < xs.length) (hs : PlainIx b := by exact fun _ _ => rfl) : EV X Γ (.Subscript a b pos) (.dat (enc (xs.getD i.toNat default))) Γ2 := ev_ixT ha hb (at_map h0 h1) hs
theorem evt_catL (ha : EV X Γ a ra Γ1) (hb : EV X Γ1 b rb Γ2) (w1 : View Γ2 ra (xs.map enc)) (w2 : View Γ2 rb (ys.map enc)) (hz : xs.length + ys.length ≤ sizeLine) : EV X Γ (.BinOp a .Add b pos) (.own (.lst ((xs ++ ys).map enc))) Γ2 := by
  rw [List.map_append]; exact ev_catL ha hb w1 w2 (by simpa using hz)
theorem evt_catT (ha : EV X Γ a (.dat (.tup (xs.map enc))) Γ1) (hb : EV X Γ1 b (.dat (.tup (ys.map enc))) Γ2) (hz : xs.length + ys.length ≤ sizeLine) : EV X Γ (.BinOp a .Add b pos) (.dat (.tup ((xs ++ ys).map enc))) Γ2 := by
  rw [List.map_append]; exact ev_catT ha hb (by simpa using hz)
theorem evt_slL {lo hi : Option Expr} {l u : Option Int} {p2 : Pos} (ha : EV X Γ a ra Γ1) (hl : OV X Γ1 lo l Γ2) (hu : OV X Γ2 hi u Γ3) (w : View Γ3 ra (xs.map enc)) : EV X Γ (.Subscript a (.Slice lo hi none p2) pos) (.own (.lst ((cutL xs l u).map enc))) Γ3 := by
  rw [← cut_map]; exact ev_slL ha hl hu w
theorem evt_slT {lo hi : Option Expr} {l u : Option Int} {p2 : Pos} (ha : EV X Γ a (.dat (.tup (xs.map enc))) Γ1) (hl : OV X Γ1 lo l Γ2) (hu : OV X Γ2 hi u Γ3) : EV X Γ (.Subscript a (.Slice lo hi none p2) pos) (.dat (.tup ((cutL xs l u).map enc))) Γ3 := by
  rw [← cut_map]; exact ev_slT ha hl hu
theorem evt_revL {k : Nat} {p1 p2 p3 : Pos} (ha : EV X Γ a ra Γ1) (w : View Γ1 ra (xs.map enc)) : EV X Γ (.Subscript a (.Slice none none (some (.UnaryOp .USub (.Constant (.int 1) k p1) p2)) p3) pos) (.own (.lst (xs.reverse.map enc))) Γ1 := by
  rw [List.map_reverse]; exact ev_revL ha w
theorem evt_revT {k : Nat} {p1 p2 p3 : Pos} (ha : EV X Γ a (.dat (.tup (xs.map enc))) Γ1) : EV X Γ (.Subscript a (.Slice none none (some (.UnaryOp .USub (.Constant (.int 1) k p1) p2)) p3) pos) (.dat (.tup (xs.reverse.map enc))) Γ1 := by
  rw [List.map_reverse]; exact ev_revT ha
theorem evt_len (hg : Gl X "len") (hm : X.mg "len" = none) (w : VSeq Γ1 r (xs.map enc)) (ha : EV X Γ a r Γ1) (hs : starEach [a] X.env = (false, eval a X.env) :: starEach [] X.env := by rfl) : EV X Γ (.Call (.Name "len" p) [a] [] pos) (.dat (.int (xs.length : Nat))) Γ1 := by
  have := ev_len (p := p) (pos := pos) hg hm w ha hs
  rwa [List.length_map] at this
theorem evt_append {v : α} (hv : PE X (.Name x px) (tVar k)) (hk : Γ[k]? = some (.own ao (.lst (ys.map enc)))) (ha : EV X Γ a (.dat (enc v)) Γ1) (hk1 : Γ1[k]? = some (.own ao (.lst (xs.map enc)))) (hz : xs.length < sizeLine)
    (hbase : attributeBase (.Name x px) "append" X.env (eval (.Name x px) X.env) = eval (.Name x px) X.env := by rfl)
    (hfew : ((backTo pos (starEach [a] X.env)).all (fun x => !x.1) && (backToKw pos (keywordEach [] X.env)).all (fun x => x.1.isSome) && decide ([a].length + ([] : List Keyword).length + (if ([] : List Keyword).isEmpty then 0 else 1) < 30)) = true := by rfl)
    (hline : (apos.endLine == pos.line) = true := by rfl) (hs : starEach [a] X.env = (false, eval a X.env) :: starEach [] X.env := by rfl) :
    EV X Γ (.Call (.Attribute (.Name x px) "append" apos) [a] [] pos) (.dat .non) (Γ1.set k (.own ao (.lst ((xs ++ [v]).map enc)))) := by
  rw [List.map_append]
  exact ev_append hv hk ha hk1 (by simpa using hz) hbase hfew hline hs
theorem evt_pop [Inhabited α] (hv : PE X (.Name x px) (tVar k)) (hk : Γ[k]? = some (.own ao (.lst (xs.map enc)))) (hl : 0 < xs.length)
    (hbase : attributeBase (.Name x px) "pop" X.env (eval (.Name x px) X.env) = eval (.Name x px) X.env := by rfl) (hline : (apos.endLine == pos.line) = true := by rfl) :
    EV X Γ (.Call (.Attribute (.Name x px) "pop" apos) [] [] pos) (.dat (enc (xs.getLastD default))) (Γ.set k (.own ao (.lst (xs.dropLast.map enc)))) := by
  rw [List.map_dropLast]
  refine ev_pop hv hk ?_ hbase hline
  rw [List.length_map, List.getElem?_map, List.getElem?_eq_getElem (by omega)]
  cases xs with
  | nil => cases hl
  | cons y r =>
    simp only [Option.map_some, List.getLastD_cons]
    congr 2
    rw [← List.getLast_eq_getElem (List.cons_ne_nil y r)]
    cases r with
    | nil => rfl
    | cons z t => simp [List.getLastD, List.getLast_cons]
theorem evt_list (hg : Gl X "list") (hm : X.mg "list" = none) (w : VSeq Γ1 r (xs.map enc)) (ha : EV X Γ a r Γ1) (hs : starEach [a] X.env = (false, eval a X.env) :: starEach [] X.env := by rfl) : EV X Γ (.Call (.Name "list" p) [a] [] pos) (.own (.lst (xs.map enc))) Γ1 := ev_list hg hm w ha hs
theorem evt_tuple (hg : Gl X "tuple") (hm : X.mg "tuple" = none) (w : VSeq Γ1 r (xs.map enc)) (ha : EV X Γ a r Γ1) (hs : starEach [a] X.env = (false, eval a X.env) :: starEach [] X.env := by rfl) : EV X Γ (.Call (.Name "tuple" p) [a] [] pos) (.dat (.tup (xs.map enc))) Γ1 := ev_tuple hg hm w ha hs
/-- the position of the first -/
def findI {α : Type} [DecidableEq α] (xs : List α) (x : α) : Int := ((xs.findIdx fun y => decide (y = x)) : Nat)
theorem evt_indexS {z : Str} {ns : List Str} (he : EV X Γ e re Γ1) (ha : EV X Γ1 a (.dat (.str z)) Γ1) (w : View Γ1 re (ns.map D.str)) (hm : z ∈ ns)
    (hbase : attributeBase e "index" X.env (eval e X.env) = eval e X.env := by rfl)
    (hfew : ((backTo pos (starEach [a] X.env)).all (fun x => !x.1) && (backToKw pos (keywordEach [] X.env)).all (fun x => x.1.isSome) && decide ([a].length + ([] : List Keyword).length + (if ([] : List Keyword).isEmpty then 0 else 1) < 30)) = true := by rfl)
    (hline : (apos.endLine == pos.line) = true := by rfl) (hs : starEach [a] X.env = (false, eval a X.env) :: starEach [] X.env := by rfl) :
    EV X Γ (.Call (.Attribute e "index" apos) [a] [] pos) (.dat (.int (findI ns z))) Γ1 := by
  have hlt : (ns.findIdx fun y => decide (y = z)) < ns.length := List.findIdx_lt_length_of_exists ⟨z, hm, by simp⟩
  refine ev_indexS he ha w ?_ (fun l hl h => ?_) hbase hfew hline hs
  · rw [List.getElem?_eq_getElem hlt]
    have := List.findIdx_getElem (w := hlt)
    simpa using this
  · have := List.not_of_lt_findIdx hl
    rw [List.getElem?_eq_getElem (by omega)] at h
    have h := Option.some.inj h
    simp [h] at this
/-- comprehensions without a state -/
theorem cp_map {B : Prop} {sh : Sh} {scope : Scope} {own : List (Str × Nat)} {Γ0 : Env'} (f : α → β) (hi : IV X Γ tg iter (xs.map enc) Γ1 B)
    (hix : ∀ n, n ∈ sh.ix → n ∈ own.map (·.2)) (w0 : Weak Γ1 Γ0) (hv : ∀ n, n ∈ own.map (·.2) → ∀ t, Γ0[n]? = some t → t = .any) (hB : B → xs.length ≤ sizeLine)
    (hb : B → ∀ x, x ∈ xs → ∃ Γa Γc, sh.set Γ0 (enc x) = some Γa ∧ (∀ s H C cl fp, EV (Bk X scope s H C cl fp) Γa elt (.dat (encb (f x))) Γc) ∧ Weak Γc Γ0) :
    CompOk X Γ elt tg iter [] scope own sh (.own (.lst ((xs.map f).map encb))) Γ0 := by
  have := cp_comp (X := X) (elt := elt) (scope := scope) (own := own) (sh := sh) (encb := encb) (Gs := fun _ : Unit => Γ0) (fun (_ : Unit) x => ((), some (f x))) (s0 := ()) (fun _ _ => True) hi hix w0 (fun _ => hv) trivial hB (fun hBt n s x hx _ => by
    obtain ⟨Γa, Γc, h1, h2, h3⟩ := hb hBt x (List.mem_of_getElem? hx)
    exact ⟨Γa, true, Γa, h1, fun _ _ _ _ _ => tts_nil, by rw [if_pos rfl]; exact ⟨f x, Γc, rfl, h2, h3⟩, trivial⟩)
  rwa [compL_map] at this
theorem cp_mapif {B : Prop} {sh : Sh} {scope : Scope} {own : List (Str × Nat)} {Γ0 : Env'} {cnd : Expr} (g : α → Bool) (f : α → β) (hi : IV X Γ tg iter (xs.map enc) Γ1 B)
    (hix : ∀ n, n ∈ sh.ix → n ∈ own.map (·.2)) (w0 : Weak Γ1 Γ0) (hv : ∀ n, n ∈ own.map (·.2) → ∀ t, Γ0[n]? = some t → t = .any) (hB : B → xs.length ≤ sizeLine)
    (hb : B → ∀ x, x ∈ xs → ∃ Γa Γb Γc, sh.set Γ0 (enc x) = some Γa ∧ (∀ s H C cl fp, TV (Bk X scope s H C cl fp) Γa cnd (g x) Γb) ∧ (g x = true → ∀ s H C cl fp, EV (Bk X scope s H C cl fp) Γb elt (.dat (encb (f x))) Γc) ∧ Weak Γb Γ0 ∧ Weak Γc Γ0) :
    CompOk X Γ elt tg iter [cnd] scope own sh (.own (.lst (((xs.filter g).map f).map encb))) Γ0 := by
  have := cp_comp (X := X) (elt := elt) (scope := scope) (own := own) (sh := sh) (encb := encb) (Gs := fun _ : Unit => Γ0) (fun (_ : Unit) x => ((), if g x then some (f x) else none)) (s0 := ()) (fun _ _ => True) hi hix w0 (fun _ => hv) trivial hB (fun hBt n s x hx _ => by
    obtain ⟨Γa, Γb, Γc, h1, h2, h3, h4, h5⟩ := hb hBt x (List.mem_of_getElem? hx)
    refine ⟨Γa, g x, Γb, h1, fun s H C cl fp => tts_one (h2 s H C cl fp), ?_, trivial⟩
    by_cases hgx : g x = true
    · rw [if_pos hgx]; exact ⟨f x, Γc, by simp [hgx], h3 hgx, h5⟩
    · rw [if_neg hgx]; exact ⟨by simp [hgx], h4⟩)
  rwa [compL_if] at this
/-- range -/
def rangeI (lo hi : Int) : List Int := (List.range (hi - lo).toNat).map fun i => lo + (i : Nat)
theorem rangeI_at {lo hi : Int} {n : Nat} {x : Int} (h : (rangeI lo hi)[n]? = some x) : lo ≤ x ∧ x < hi ∧ x = lo + n := by
  unfold rangeI at h
  rw [List.getElem?_map] at h
  cases e : (List.range (hi - lo).toNat)[n]? with
  | none => rw [e] at h; cases h
  | some m =>
    rw [e] at h
    obtain ⟨h1, h2⟩ := List.getElem?_eq_some_iff.mp e
    simp at h1 h2
    subst h2
    have h : lo + (n : Int) = x := Option.some.inj h
    omega
theorem rangeI_mem {lo hi x : Int} (h : x ∈ rangeI lo hi) : lo ≤ x ∧ x < hi := by
  obtain ⟨n, hn⟩ := List.mem_iff_getElem?.mp h
  have := rangeI_at hn
  omega
theorem rangeI_len (lo hi : Int) : (rangeI lo hi).length = (hi - lo).toNat := by unfold rangeI; simp
theorem ivt_range1 {n : Int} (hg : Gl X "range") (hm : X.mg "range" = none) (ha : EV X Γ a (.dat (.int n)) Γ1) (h1 : -(2 ^ 62) ≤ n ∧ n < 2 ^ 62) (hs : starEach [a] X.env = [(false, eval a X.env)] := by rfl) :
    IV X Γ tg (.Call (.Name "range" p) [a] [] pos) ((rangeI 0 n).map D.int) Γ1 True := by
  have := iv_range1 (tg := tg) (p := p) (pos := pos) hg hm ha h1.1 h1.2 hs
  unfold rangeI
  rw [List.map_map, Int.sub_zero]
  exact this
theorem ivt_range2 {n m : Int} (hg : Gl X "range") (hm : X.mg "range" = none) (ha : EV X Γ a (.dat (.int n)) Γ1) (hb : EV X Γ1 b (.dat (.int m)) Γ2) (h1 : -(2 ^ 62) ≤ n ∧ n < 2 ^ 62 ∧ -(2 ^ 62) ≤ m ∧ m < 2 ^ 62) (hs : starEach [a, b] X.env = [(false, eval a X.env), (false, eval b X.env)] := by rfl) (hs2 : starEach [b] X.env = [(false, eval b X.env)] := by rfl) :
    IV X Γ tg (.Call (.Name "range" p) [a, b] [] pos) ((rangeI n m).map D.int) Γ2 True := by
  have := iv_range2 (tg := tg) (p := p) (pos := pos) hg hm ha hb h1 hs hs2
  unfold rangeI
  rw [List.map_map]
  exact this
/-- sorted -/
structure EncOrd {α : Type} (enc : α → D) : Prop where
  al : ∀ a b, PySem.W.alike (enc a).py (enc b).py = true
  dep : ∀ a, (enc a).py.depth ≤ 50
  pl : ∀ a, (enc a).plain = true
def EncTop {α : Type} (enc : α → D) : Prop := (∀ a, ∃ x r, (enc a).py = .tuple (x :: r)) ∨ ∀ a, (enc a).py ≠ .none ∧ ∀ xs, (enc a).py ≠ .tuple xs
theorem evt_sorted (hu : X.A.units + 64 < cLine) (hg : Gl X "sorted") (hm : X.mg "sorted" = none) (ho : EncOrd enc) (ht : EncTop enc) (w : VSeq Γ1 r (xs.map enc)) (ha : EV X Γ a r Γ1) (hs : starEach [a] X.env = (false, eval a X.env) :: starEach [] X.env := by rfl) :
    EV X Γ (.Call (.Name "sorted" p) [a] [] pos) (.own (.lst ((xs.mergeSort (leT enc)).map enc))) Γ1 := by
  have := ev_sorted (p := p) (pos := pos) hu hg hm w (fun d hd e he => by
    simp only [List.map_map, List.mem_map, Function.comp] at hd he
    obtain ⟨x, _, rfl⟩ := hd
    obtain ⟨y, _, rfl⟩ := he
    exact ho.al x y) (by
    rcases ht with h | h
    · refine .inl fun d hd => ?_
      simp only [List.map_map, List.mem_map, Function.comp] at hd
      obtain ⟨x, _, rfl⟩ := hd
      exact h x
    · refine .inr fun d hd => ?_
      simp only [List.map_map, List.mem_map, Function.comp] at hd
      obtain ⟨x, _, rfl⟩ := hd
      exact h x) (fun d hd => by
    obtain ⟨x, _, rfl⟩ := List.mem_map.mp hd
    exact ho.dep x) (fun d hd => by
    obtain ⟨x, _, rfl⟩ := List.mem_map.mp hd
    exact ho.pl x) ha hs
  rwa [sorted_map] at this
theorem EncOrd.int : EncOrd D.int := ⟨fun _ _ => by simp [D.py, PySem.W.alike], fun _ => by simp [D.py, PyData.depth], fun _ => rfl⟩
theorem EncOrd.str : EncOrd D.str := ⟨fun _ _ => by simp [D.py, PySem.W.alike], fun _ => by simp [D.py, PyData.depth], fun _ => rfl⟩
theorem EncTop.int : EncTop D.int := .inr fun _ => ⟨by simp [D.py], fun _ => by simp [D.py]⟩
theorem EncTop.str : EncTop D.str := .inr fun _ => ⟨by simp [D.py], fun _ => by simp [D.py]⟩
theorem EncTop.pair {f : α → D} {g : β → D} : EncTop (eP f g) := .inl fun a => ⟨_, _, by simp only [D.py, D.pyL]; rfl⟩
theorem alikeAll_map (h : ∀ a b, PySem.W.alike (enc a).py (enc b).py = true) : ∀ xs ys : List α, PySem.W.alikeAll (D.pyL (xs.map enc)) (D.pyL (ys.map enc)) = true
  | [], _ => by simp [D.pyL, PySem.W.alikeAll]
  | _ :: _, [] => by simp [D.pyL, PySem.W.alikeAll]
  | x :: xs, y :: ys => by
    simp only [List.map_cons, D.pyL, PySem.W.alikeAll]
    rw [h x y, alikeAll_map h xs ys]; rfl
theorem depthAll_map {n : Nat} (h : ∀ a, (enc a).py.depth ≤ n) : ∀ xs : List α, PyData.depthAll (D.pyL (xs.map enc)) ≤ n
  | [] => by simp [D.pyL, PyData.depthAll]
  | x :: xs => by
    have h1 := h x
    have h2 := depthAll_map h xs
    simp only [List.map_cons, D.pyL, PyData.depthAll]
    omega
end
end PD
namespace PD
open PySem PySem.Spec PyProof.Rows L2
/-! ### what the printed walks use -/
def LO.get {S L R : Type} [Inhabited R] : LO S L R → R
  | .ret r => r
  | _ => default
theorem LO.IsRet.eq {S L R : Type} [Inhabited R] {o : LO S L R} (h : o.IsRet) : o = .ret o.get := by obtain ⟨r, rfl⟩ := h; rfl
theorem LO.isRet {S L R : Type} {o : LO S L R} {r : R} (h : o = .ret r) : o.IsRet := ⟨r, h⟩
section
variable {S S' L R α : Type}
theorem lob_ite {c : Bool} {a b : LO S L R} {k : S → LO S' L R} : (if c = true then a else b).bind k = if c = true then a.bind k else b.bind k := by cases c <;> rfl
theorem lob_next {s : S} {k : S → LO S' L R} : (LO.next s : LO S L R).bind k = k s := rfl
theorem lob_cnt {l : L} {k : S → LO S' L R} : (LO.cnt l : LO S L R).bind k = .cnt l := rfl
theorem lob_brk {l : L} {k : S → LO S' L R} : (LO.brk l : LO S L R).bind k = .brk l := rfl
theorem lob_ret {r : R} {k : S → LO S' L R} : (LO.ret r : LO S L R).bind k = .ret r := rfl
theorem lob_exc {y : Xd} {k : S → LO S' L R} : (LO.exc y : LO S L R).bind k = .exc y := rfl
theorem lob_bad {k : S → LO S' L R} : (LO.bad : LO S L R).bind k = .bad := rfl
theorem callX_ret {r : R} : (LO.ret r : LO Unit Unit R).callX (L := L) (R' := S) = .next r := rfl
theorem callX_exc {y : Xd} : (LO.exc y : LO Unit Unit R).callX (L := L) (R' := S) = .exc y := rfl
/-- a loop by an invariant -/
theorem forL_spec {step : S → α → LO S S R} (P : Nat → S → Prop) : ∀ {xs : List α} {n : Nat} {s : S}, P n s → (∀ i s x, xs[i]? = some x → P (n + i) s → ∃ s', (step s x = .next s' ∨ step s x = .cnt s') ∧ P (n + i + 1) s') → ∃ s', forL (L := L) step xs s = .next s' ∧ P (n + xs.length) s'
  | [], n, s, h, _ => ⟨s, rfl, h⟩
  | x :: xs, n, s, h, hs => by
    obtain ⟨s1, e, h1⟩ := hs 0 s x rfl h
    obtain ⟨s2, e2, h2⟩ := forL_spec P (xs := xs) (n := n + 1) h1 (fun i s y hy hp => by
      have := hs (i + 1) s y hy (by rw [show n + (i + 1) = n + 1 + i by omega]; exact hp)
      rwa [show n + (i + 1) + 1 = n + 1 + i + 1 by omega] at this)
    refine ⟨s2, ?_, by rwa [show n + (x :: xs).length = n + 1 + xs.length by simp; omega]⟩
    unfold forL
    rcases e with e | e <;> rw [e] <;> exact e2
theorem forL_next {step : S → α → LO S S R} {x : α} {xs : List α} {s s' : S} (h : step s x = .next s' ∨ step s x = .cnt s') : forL (L := L) step (x :: xs) s = forL step xs s' := by
  show (match step s x with | .next s' => forL step xs s' | .cnt s' => forL step xs s' | .brk s' => .next s' | .ret r => .ret r | .exc x => .exc x | .bad => .bad) = _
  rcases h with h | h <;> rw [h]
theorem forL_ret {step : S → α → LO S S R} {x : α} {xs : List α} {s : S} {r : R} (h : step s x = .ret r) : forL (L := L) step (x :: xs) s = .ret r := by
  show (match step s x with | .next s' => forL step xs s' | .cnt s' => forL step xs s' | .brk s' => .next s' | .ret r => .ret r | .exc x => .exc x | .bad => .bad) = _
  rw [h]
theorem forL_exc {step : S → α → LO S S R} {x : α} {xs : List α} {s : S} {y : Xd} (h : step s x = .exc y) : forL (L := L) step (x :: xs) s = .exc y := by
  show (match step s x with | .next s' => forL step xs s' | .cnt s' => forL step xs s' | .brk s' => .next s' | .ret r => .ret r | .exc x => .exc x | .bad => .bad) = _
  rw [h]
end
section
variable {X : Cx} {Γ Γ1 Γ2 Γ3 : Env'} {e a b c tg iter elt : Expr} {pos p px apos : Pos} {r ra rb rc rv : Rv} {d : D} {i j : Int} {α β : Type} {enc : α → D} {encb : β → D} {xs ys : List α} {x : Str} {k : Nat} {ao : Option Addr} {S S' L R : Type} {G : S → Env'} {G' : S' → Env'} {Lp : L → Env'} {Kr : R → Rv × Env'} {st : Stmt} {rest : List Stmt} {o : LO S L R}
theorem tEV_fz {K : KC} {oc : Oc} {σ : L2.St} {H : Hp} {Q : VK} (h : tEV K Γ (.dat oc.d) Γ1 σ H Q) : tEV K Γ (.own oc) Γ1 σ H Q := by
  obtain ⟨F, hH, q⟩ := h
  refine ⟨F, hH, fun F' H' v p ⟨x, ho, ev, h1, h2, h3, h4, h5⟩ => ?_⟩
  subst ev
  obtain ⟨l, hf⟩ := Post.freeze p.ok h1 h2 h4 (fun _ => True)
  refine q (upd F' x ho) H' _ ⟨⟨p.ext.mono.trans l, fun y u hy fy no => ?_, p.ext.there⟩, hf, p.sub⟩ ((h3.mono l).rep upd_same)
  obtain ⟨k1, k2⟩ := p.ext.keep y u hy fy no
  refine ⟨k1, ?_⟩
  have ne : y ≠ x := fun z => by
    subst z
    rcases h5 with z | z
    · exact no z
    · rw [hy] at z; cases z
  rw [upd_ne ne]; exact k2
theorem CompOk.fz {ifs : List Expr} {scope : Scope} {own : List (Str × Nat)} {sh : Sh} {oc : Oc} (h : CompOk X Γ elt tg iter ifs scope own sh (.own oc) Γ1) : CompOk X Γ elt tg iter ifs scope own sh (.dat oc.d) Γ1 := by
  obtain ⟨wi, tt, te, hi, ht, he, hw⟩ := h
  exact ⟨wi, tt, te, hi, ht, he, fun σ H Q h => hw σ H Q (tEV_fz h)⟩
theorem ev_ite {k : Bool} {u v : α} (hc : TV X Γ c k Γ1) (ha : k = true → EV X Γ1 a (.dat (enc u)) Γ2) (hb : k = false → EV X Γ1 b (.dat (enc v)) Γ2) : EV X Γ (.IfExp c a b pos) (.dat (enc (if k then u else v))) Γ2 := by
  cases k with
  | true => exact ev_ifT hc (ha rfl)
  | false => exact ev_ifF hc (hb rfl)
theorem range_small {n : Int} (h : n ≤ 1000000) : (rangeI 0 n).length ≤ sizeLine := by
  rw [rangeI_len, sizeLine_eq]; omega
theorem range_small2 {m n : Int} (h : n - m ≤ 1000000) : (rangeI m n).length ≤ sizeLine := by
  rw [rangeI_len, sizeLine_eq]; omega
theorem small_line {n : Nat} (h : n ≤ 16777216) : n ≤ sizeLine := by rw [sizeLine_eq]; exact h
theorem small_line' {n : Nat} (h : n < 16777216) : n < sizeLine := by rw [sizeLine_eq]; exact h
/-- an if that goes on has taken its other branch -/
theorem if_next1 {k : Bool} {r : R} {s s' : S} (h : (if k then (LO.ret r : LO S L R) else .next s) = .next s') : k = false ∧ s = s' := by
  cases k with
  | true => cases h
  | false => cases h; exact ⟨rfl, rfl⟩
theorem dec_t {P : Prop} [Decidable P] (h : decide P = true) : P := of_decide_eq_true h
theorem dec_f {P : Prop} [Decidable P] (h : decide P = false) : ¬ P := of_decide_eq_false h
end
/-- a text's sign -/
def strAt (z : Str) (i : Int) : Str := ⟨#[z.cps.toList.getD i.toNat 0]⟩
section
variable {X : Cx} {Γ Γ1 Γ2 Γ3 : Env'} {e a b c tg iter elt : Expr} {pos p px apos : Pos} {r ra rb rc rv : Rv} {d : D} {i j : Int} {α β : Type} {enc : α → D} {encb : β → D} {xs ys : List α}
theorem evt_ixS {z : Str} (ha : EV X Γ a (.dat (.str z)) Γ1) (hb : EV X Γ1 b (.dat (.int i)) Γ2) (hz : z.length ≤ sizeLine) (h0 : 0 ≤ i) (h1 : i < z.length) (hs : PlainIx b := by exact fun _ _ => rfl) : EV X Γ (.Subscript a b pos) (.dat (.str (strAt z i))) Γ2 := by
  obtain ⟨n, rfl⟩ := Int.eq_ofNat_of_zero_le h0
  have hn : n < z.cps.toList.length := by
    have : z.length = z.cps.toList.length := by simp [Str.length]
    omega
  refine ev_ixS ha hb hz (atI_nat ?_) hs
  rw [List.getElem?_eq_getElem hn, List.getD_eq_getElem?_getD]
  show some _ = some ((z.cps.toList[n]?).getD 0)
  rw [List.getElem?_eq_getElem hn]; rfl
theorem tv_list (w : View Γ1 r (xs.map enc)) (ha : EV X Γ a r Γ1) (he : ∀ whole, isTrue a X.env whole = (do let v ← whole; standAt a.pos; holding [v] (truthy v)) := by intro _; rfl) : TV X Γ a (!xs.isEmpty) Γ1 :=
  PT.weak (pt_truth ha he) fun σ H Q ⟨F, hH, q⟩ => ⟨F, hH, fun F1 H1 v p hv => by
    obtain ⟨x, vs, rfl, s, t⟩ := w.at p.ok hv
    refine ⟨!xs.isEmpty, .inl ⟨vs, s, ?_⟩, q F1 H1 p⟩
    have := t.length
    rw [List.length_map] at this
    cases vs <;> cases xs <;> simp_all⟩
end
/-- what a value is -/
def D.isB : D → Bool
  | .bl _ => true | _ => false
def D.isI : D → Bool
  | .int _ => true | .bl _ => true | _ => false
def D.isS : D → Bool
  | .str _ => true | _ => false
def D.isT : D → Bool
  | .tup _ => true | _ => false
def D.isL : D → Bool
  | .lst _ => true | _ => false
theorem kit_b : ∀ d : D, d.base = true → kitB d.ty "bool" = some d.isB
  | .non, _ => (by decide +kernel : kitB "NoneType" "bool" = some false)
  | .bl _, _ => (by decide +kernel : kitB "bool" "bool" = some true)
  | .int _, _ => (by decide +kernel : kitB "int" "bool" = some false)
  | .str _, _ => (by decide +kernel : kitB "str" "bool" = some false)
  | .tup _, _ => (by decide +kernel : kitB "tuple" "bool" = some false)
  | .lst _, _ => (by decide +kernel : kitB "list" "bool" = some false)
  | .dct _ _ _, h => nomatch h
  | .obj _ _ _, h => nomatch h
theorem kit_i : ∀ d : D, d.base = true → kitB d.ty "int" = some d.isI
  | .non, _ => (by decide +kernel : kitB "NoneType" "int" = some false)
  | .bl _, _ => (by decide +kernel : kitB "bool" "int" = some true)
  | .int _, _ => (by decide +kernel : kitB "int" "int" = some true)
  | .str _, _ => (by decide +kernel : kitB "str" "int" = some false)
  | .tup _, _ => (by decide +kernel : kitB "tuple" "int" = some false)
  | .lst _, _ => (by decide +kernel : kitB "list" "int" = some false)
  | .dct _ _ _, h => nomatch h
  | .obj _ _ _, h => nomatch h
theorem kit_s : ∀ d : D, d.base = true → kitB d.ty "str" = some d.isS
  | .non, _ => (by decide +kernel : kitB "NoneType" "str" = some false)
  | .bl _, _ => (by decide +kernel : kitB "bool" "str" = some false)
  | .int _, _ => (by decide +kernel : kitB "int" "str" = some false)
  | .str _, _ => (by decide +kernel : kitB "str" "str" = some true)
  | .tup _, _ => (by decide +kernel : kitB "tuple" "str" = some false)
  | .lst _, _ => (by decide +kernel : kitB "list" "str" = some false)
  | .dct _ _ _, h => nomatch h
  | .obj _ _ _, h => nomatch h
theorem kit_t : ∀ d : D, d.base = true → kitB d.ty "tuple" = some d.isT
  | .non, _ => (by decide +kernel : kitB "NoneType" "tuple" = some false)
  | .bl _, _ => (by decide +kernel : kitB "bool" "tuple" = some false)
  | .int _, _ => (by decide +kernel : kitB "int" "tuple" = some false)
  | .str _, _ => (by decide +kernel : kitB "str" "tuple" = some false)
  | .tup _, _ => (by decide +kernel : kitB "tuple" "tuple" = some true)
  | .lst _, _ => (by decide +kernel : kitB "list" "tuple" = some false)
  | .dct _ _ _, h => nomatch h
  | .obj _ _ _, h => nomatch h
theorem kit_l : ∀ d : D, d.base = true → kitB d.ty "list" = some d.isL
  | .non, _ => (by decide +kernel : kitB "NoneType" "list" = some false)
  | .bl _, _ => (by decide +kernel : kitB "bool" "list" = some false)
  | .int _, _ => (by decide +kernel : kitB "int" "list" = some false)
  | .str _, _ => (by decide +kernel : kitB "str" "list" = some false)
  | .tup _, _ => (by decide +kernel : kitB "tuple" "list" = some false)
  | .lst _, _ => (by decide +kernel : kitB "list" "list" = some true)
  | .dct _ _ _, h => nomatch h
  | .obj _ _ _, h => nomatch h
end PD
namespace PD
open PySem PySem.Spec PyProof.Rows L2
section
variable {X : Cx} {Γ Γ1 Γ2 Γ3 Γ' : Env'} {e a b c tg iter elt : Expr} {pos p px apos : Pos} {r ra rb rc rv : Rv} {d d1 d2 : D} {i j : Int} {α β : Type} {enc : α → D} {encb : β → D} {xs ys : List α} {k l : Bool} {rest : List Expr}
theorem EncOrd.vt (h : EncOrd enc) (hd : ∀ a, (enc a).py.depth ≤ 20) : EncOrd (eT enc) := ⟨fun a b => by
    simp only [D.py, PySem.W.alike]
    exact alikeAll_map h.al a b, fun a => by
    have := depthAll_map hd a
    simp only [D.py, PyData.depth]; omega, fun a => plainL_iff.mpr fun d hd => by
    obtain ⟨x, _, rfl⟩ := List.mem_map.mp hd
    exact h.pl x⟩
theorem EncOrd.pair {f : α → D} {g : β → D} (h : EncOrd f) (h2 : EncOrd g) (hd : ∀ a, (f a).py.depth ≤ 20) (hd2 : ∀ a, (g a).py.depth ≤ 20) : EncOrd (eP f g) := ⟨fun a b => by
    simp only [D.py, D.pyL, PySem.W.alike, PySem.W.alikeAll, h.al, h2.al, Bool.and_self], fun a => by
    have := hd a.1
    have := hd2 a.2
    simp only [D.py, D.pyL, PyData.depth, PyData.depthAll]; omega, fun a => by
    show (D.plain (f a.1) && (D.plain (g a.2) && true)) = true
    rw [h.pl, h2.pl]; rfl⟩
theorem dep_int : ∀ a, (D.int a).py.depth ≤ 1 := fun _ => by simp [D.py, PyData.depth]
theorem dep_str : ∀ a, (D.str a).py.depth ≤ 1 := fun _ => by simp [D.py, PyData.depth]
theorem dep_vt {n : Nat} (h : ∀ a, (enc a).py.depth ≤ n) : ∀ a, (eT enc a).py.depth ≤ n + 1 := fun a => by
  have := depthAll_map h a
  simp only [D.py, PyData.depth]; omega
theorem dep_pair {f : α → D} {g : β → D} {n : Nat} (h : ∀ a, (f a).py.depth ≤ n) (h2 : ∀ a, (g a).py.depth ≤ n) : ∀ a, (eP f g a).py.depth ≤ n + 1 := fun a => by
  have := h a.1
  have := h2 a.2
  simp only [D.py, D.pyL, PyData.depth, PyData.depthAll]; omega
theorem dep_le {n m : Nat} (h : ∀ a, (enc a).py.depth ≤ n) (hm : n ≤ m) : ∀ a, (enc a).py.depth ≤ m := fun a => Nat.le_trans (h a) hm
/-- a test that changes an owned list in its second part -/
theorem wv_andM (ha : TV X Γ a k Γ1) (hb : k = true → WV X Γ1 (.BoolOp .And (b :: rest) pos) l Γ2) (w1 : k = false → Weak Γ1 Γ') (w2 : k = true → Weak Γ2 Γ') : WV X Γ (.BoolOp .And (a :: b :: rest) pos) (k && l) Γ' := by
  cases k with
  | true => exact PW.weak (pw_and ha (hb rfl)) fun σ H Q ⟨F, hH, q⟩ => ⟨F, hH, fun F' H' p => iteT ⟨F', p.ok, fun F2 H2 p2 => q F2 H2 ((p.trans p2).weak (w2 rfl))⟩⟩
  | false => exact PW.weak (pw_and ha pw_no) fun σ H Q ⟨F, hH, q⟩ => ⟨F, hH, fun F' H' p => iteF (q F' H' (p.weak (w1 rfl)))⟩
theorem wv_orM (ha : TV X Γ a k Γ1) (hb : k = false → WV X Γ1 (.BoolOp .Or (b :: rest) pos) l Γ2) (w1 : k = true → Weak Γ1 Γ') (w2 : k = false → Weak Γ2 Γ') : WV X Γ (.BoolOp .Or (a :: b :: rest) pos) (k || l) Γ' := by
  cases k with
  | false => exact PW.weak (pw_or ha (hb rfl)) fun σ H Q ⟨F, hH, q⟩ => ⟨F, hH, fun F' H' p => iteF ⟨F', p.ok, fun F2 H2 p2 => q F2 H2 ((p.trans p2).weak (w2 rfl))⟩⟩
  | true => exact PW.weak (pw_or ha pw_no) fun σ H Q ⟨F, hH, q⟩ => ⟨F, hH, fun F' H' p => iteT (q F' H' (p.weak (w1 rfl)))⟩
/-- flat values of one kind -/
def sameK : D → D → Bool
  | .bl _, .bl _ => true
  | .int _, .int _ => true
  | .str _, .str _ => true
  | _, _ => false
def eqF : D → D → Bool
  | .bl a, .bl b => decide (a = b)
  | .int a, .int b => decide (a = b)
  | .str a, .str b => decide (a = b)
  | _, _ => false
theorem ev_eqF (h : sameK d1 d2 = true) (ha : EV X Γ a (.dat d1) Γ1) (hb : EV X Γ1 b (.dat d2) Γ2) : EV X Γ (.Compare a [.Eq] [b] pos) (.dat (.bl (eqF d1 d2))) Γ2 := by
  cases d1 <;> cases d2 <;> simp only [sameK] at h <;> first | exact ev_eqB ha hb | exact ev_eqI ha hb | exact ev_eqS ha hb | cases h
theorem tv_eqF (h : sameK d1 d2 = true) (ha : EV X Γ a (.dat d1) Γ1) (hb : EV X Γ1 b (.dat d2) Γ2) : TV X Γ (.Compare a [.Eq] [b] pos) (eqF d1 d2) Γ2 := by
  cases d1 <;> cases d2 <;> simp only [sameK] at h <;> first | exact tv_eqB ha hb | exact tv_eqI ha hb | exact tv_eqS ha hb | cases h
/-- what a tuple or a list holds -/
def D.items : D → List D
  | .tup ds => ds
  | .lst ds => ds
  | _ => []
def D.isQ : D → Bool
  | .tup _ => true
  | .lst _ => true
  | _ => false
theorem ev_lenD (hg : Gl X "len") (hm : X.mg "len" = none) (h : d.isQ = true) (ha : EV X Γ a (.dat d) Γ1) (hs : starEach [a] X.env = (false, eval a X.env) :: starEach [] X.env := by rfl) : EV X Γ (.Call (.Name "len" p) [a] [] pos) (.dat (.int (d.items.length : Nat))) Γ1 := by
  cases d with
  | tup ds => exact ev_len hg hm .t ha hs
  | lst ds => exact ev_len hg hm (.l .dat) ha hs
  | _ => cases h
theorem at_items {ds : List D} (h0 : 0 ≤ i) (h1 : i < ds.length) : atI ds i = some (ds.getD i.toNat default) := by
  have := at_map (enc := eD) (xs := ds) h0 h1
  rwa [List.map_id'] at this
theorem ev_ixD (h : d.isQ = true) (h0 : 0 ≤ i) (h1 : i < d.items.length) (ha : EV X Γ a (.dat d) Γ1) (hb : EV X Γ1 b (.dat (.int i)) Γ2) (hs : PlainIx b := by exact fun _ _ => rfl) : EV X Γ (.Subscript a b pos) (.dat (d.items.getD i.toNat default)) Γ2 := by
  cases d with
  | tup ds => exact ev_ixT ha hb (at_items h0 h1) hs
  | lst ds => exact ev_ixL ha hb .dat (at_items h0 h1) hs
  | _ => cases h
end
end PD
namespace PD
open PySem PySem.Spec PyProof.Rows L2
section
variable {Γ Γ' : Env'} {rs : List Rv} {ars : List Ar} {d : D} {n : Nat} {ao : Option Addr} {c c' : Oc}
def noBor (n : Nat) (rs : List Rv) : Bool := rs.all fun r => match r with | .bor m => m != n | _ => true
def noOwn (rs : List Rv) : Bool := rs.all fun r => match r with | .own _ => false | _ => true
theorem noBor_at (h : noBor n rs = true) (i : Nat) : rs[i]? ≠ some (.bor n) := fun e => by
  have := List.all_eq_true.mp h _ (List.mem_of_getElem? e)
  simp at this
theorem noOwn_at (h : noOwn rs = true) (i : Nat) (c : Oc) : rs[i]? ≠ some (.own c) := fun e => by
  have := List.all_eq_true.mp h _ (List.mem_of_getElem? e)
  simp at this
theorem mt_nil : MtOk Γ [] [] Γ := ⟨rfl, rfl, fun j s e => .inl ⟨e, (fun i h => by cases h)⟩, (fun i r a h => by cases h), (fun i i' j h => by cases h), (fun i i' c c' h => by cases h)⟩
theorem mt_cdat (m : MtOk Γ rs ars Γ') : MtOk Γ (.dat d :: rs) (.dat d :: ars) Γ' := by
  refine ⟨m.lenΓ, by simp [m.len], fun j s e => ?_, fun i r a h1 h2 => ?_, fun i i' j h h' => ?_, fun i i' c c' h h' => ?_⟩
  · rcases m.at' j s e with ⟨h1, h2⟩ | ⟨i, ao, c, c', h1, h2, h3, h4⟩
    · refine .inl ⟨h1, fun i => ?_⟩
      cases i with
      | zero => intro z; cases z
      | succ i => exact h2 i
    · exact .inr ⟨i + 1, ao, c, c', h1, h2, h3, h4⟩
  · cases i with
    | zero => cases h1; cases h2; exact .inl ⟨d, rfl, rfl⟩
    | succ i => exact m.arg i r a h1 h2
  · cases i with
    | zero => cases h
    | succ i =>
      cases i' with
      | zero => cases h'
      | succ i' => rw [m.inj i i' j h h']
  · cases i with
    | zero => cases h
    | succ i =>
      cases i' with
      | zero => cases h'
      | succ i' => rw [m.tmp i i' c c' h h']
theorem mt_cbor (hn : Γ[n]? = some (.own ao c)) (nb : noBor n rs = true) (m : MtOk Γ rs ars Γ') : MtOk Γ (.bor n :: rs) (.mu c c' :: ars) (Γ'.set n (.own ao c')) := by
  have hlt : n < Γ.length := (List.getElem?_eq_some_iff.mp hn).1
  refine ⟨by simp [m.lenΓ], by simp [m.len], fun j s e => ?_, fun i r a h1 h2 => ?_, fun i i' j h h' => ?_, fun i i' d d' h h' => ?_⟩
  · by_cases z : j = n
    · subst z
      rw [List.getElem?_set_self (by rw [m.lenΓ]; exact hlt)] at e
      cases e
      exact .inr ⟨0, ao, c, c', rfl, rfl, hn, rfl⟩
    · rw [List.getElem?_set_ne (Ne.symm z)] at e
      rcases m.at' j s e with ⟨h1, h2⟩ | ⟨i, ao, c, c', h1, h2, h3, h4⟩
      · refine .inl ⟨h1, fun i => ?_⟩
        cases i with
        | zero => intro y; cases y; exact z rfl
        | succ i => exact h2 i
      · exact .inr ⟨i + 1, ao, c, c', h1, h2, h3, h4⟩
  · cases i with
    | zero => cases h1; cases h2; exact .inr (.inr ⟨n, ao, c, c', rfl, rfl, hn⟩)
    | succ i => exact m.arg i r a h1 h2
  · cases i with
    | zero =>
      cases h
      cases i' with
      | zero => rfl
      | succ i' => exact (noBor_at nb i' h').elim
    | succ i =>
      cases i' with
      | zero => cases h'; exact (noBor_at nb i h).elim
      | succ i' => rw [m.inj i i' j h h']
  · cases i with
    | zero => cases h
    | succ i =>
      cases i' with
      | zero => cases h'
      | succ i' => rw [m.tmp i i' d d' h h']
theorem mt_cown (nb : noOwn rs = true) (m : MtOk Γ rs ars Γ') : MtOk Γ (.own c :: rs) (.mu c c' :: ars) Γ' := by
  refine ⟨m.lenΓ, by simp [m.len], fun j s e => ?_, fun i r a h1 h2 => ?_, fun i i' j h h' => ?_, fun i i' d d' h h' => ?_⟩
  · rcases m.at' j s e with ⟨h1, h2⟩ | ⟨i, ao, c, c', h1, h2, h3, h4⟩
    · refine .inl ⟨h1, fun i => ?_⟩
      cases i with
      | zero => intro z; cases z
      | succ i => exact h2 i
    · exact .inr ⟨i + 1, ao, c, c', h1, h2, h3, h4⟩
  · cases i with
    | zero => cases h1; cases h2; exact .inr (.inl ⟨c, c', rfl, rfl⟩)
    | succ i => exact m.arg i r a h1 h2
  · cases i with
    | zero => cases h
    | succ i =>
      cases i' with
      | zero => cases h'
      | succ i' => rw [m.inj i i' j h h']
  · cases i with
    | zero =>
      cases i' with
      | zero => rfl
      | succ i' => exact (noOwn_at nb i' d' h').elim
    | succ i =>
      cases i' with
      | zero => exact (noOwn_at nb i d h).elim
      | succ i' => rw [m.tmp i i' d d' h h']
end
def relS (scope sc : Scope) : Scope := { scope with names := scope.names.map fun (n, k) => if (k == .free && sc.kind == .function && sc.names.lookup n == some .cell) then (n, .cell) else (n, k) }
theorem bk_sc {scope : Scope} {cl : List (Str × Addr)} {C : Addr} {env : Env} : (compEnvC scope cl C env).scope = relS scope env.scope := rfl
theorem cx_N {CX : CXT} {P : Program} {w : World} {K : PySem.W.Frag} {mg : Str → Option Value} {base : Heap} {N : List Str} {qual : Str} {scope : Scope} {f : Addr} {cd : Value} {A : Around} {outer : List Env} {s : Shared} {H : Hp} {E : XK} : (cxOf CX P w K mg base N qual scope f cd A outer s H E).N = N := rfl
theorem cx_sc {CX : CXT} {P : Program} {w : World} {K : PySem.W.Frag} {mg : Str → Option Value} {base : Heap} {N : List Str} {qual : Str} {scope : Scope} {f : Addr} {cd : Value} {A : Around} {outer : List Env} {s : Shared} {H : Hp} {E : XK} : (cxOf CX P w K mg base N qual scope f cd A outer s H E).env.scope = scope := rfl
/-- a slot gives up its object -/
theorem EV.give {X : Cx} {Γ Γ1 : Env'} {e : Expr} {i : Nat} {oc : Oc} (h : EV X Γ e (.bor i) Γ1) (hi : Γ1[i]? = some (.own none oc)) : EV X Γ e (.own oc) (Γ1.set i .any) :=
  PE.weak h fun σ H Q ⟨F, hH, q⟩ => ⟨F, hH, fun F' H' v p hv => by
    have hlt : i < Γ1.length := (List.getElem?_eq_some_iff.mp hi).1
    have w : Weak Γ1 (Γ1.set i .any) := ⟨by simp, fun j s e => by
      by_cases z : j = i
      · subst z; rw [List.getElem?_set_self hlt] at e; cases e; exact .inl rfl
      · rw [List.getElem?_set_ne (Ne.symm z)] at e; exact .inr e⟩
    have hv : σ[i]? = some (some v) := hv
    obtain ⟨a, ho, e1, _, h1, h2, h3⟩ := p.ok.sl i _ hi
    rw [hv] at e1
    cases e1
    refine q F' H' _ (p.weak w) ⟨a, ho, rfl, h1, h2, h3, fun ⟨j, aj, cj, ej, sj⟩ => ?_, p.sub a ⟨i, _, _, hi, hv⟩⟩
    by_cases z : j = i
    · subst z; rw [List.getElem?_set_self hlt] at ej; cases ej
    · rw [List.getElem?_set_ne (Ne.symm z)] at ej
      exact z (p.ok.dis j i aj none cj oc a ej hi sj hv)⟩
abbrev eH {α β : Type} (f : α → D) (g : β → D) (p : α × β) : D := .lst [f p.1, g p.2]
abbrev eH3 {α β γ : Type} (f : α → D) (g : β → D) (h : γ → D) (p : α × β × γ) : D := .lst [f p.1, g p.2.1, h p.2.2]
end PD
namespace PD
open PySem PySem.Spec PyProof.Rows L2
theorem isQ_of {d : D} (h : d.isT = true ∨ d.isL = true) : d.isQ = true := by
  cases d <;> simp [D.isT, D.isL, D.isQ] at *
theorem isQ_two {d e : D} (h : e.isT = true ∨ e.isL = true) (h2 : d.isT = e.isT ∧ d.isL = e.isL) : d.isQ = true := by
  refine isQ_of ?_
  rw [h2.1, h2.2]; exact h
theorem strAt_len (z : Str) (i : Int) : (strAt z i).length = 1 := rfl
theorem strRep_le {x : Str} {n : Int} {k m : Nat} (h1 : x.length ≤ k) (h2 : n ≤ m) : (strRep x n).length ≤ m * k := by
  rw [strRep_len]
  exact Nat.mul_le_mul (by omega) h1
theorem sameK_b {d e : D} (h1 : e.isB = true) (h2 : d.isB = true) : sameK d e = true := by
  cases d <;> simp [D.isB] at h2 <;> cases e <;> simp [D.isB] at h1 <;> rfl
theorem sameK_i {d e : D} (h : e.isB = false ∧ d.isB = false) (h1 : e.isI = true) (h2 : d.isI = true) : sameK d e = true := by
  cases d <;> simp [D.isB, D.isI] at h h2 <;> cases e <;> simp [D.isB, D.isI] at h h1 <;> rfl
theorem sameK_s {d e : D} (h1 : e.isS = true) (h2 : d.isS = true) : sameK d e = true := by
  cases d <;> simp [D.isS] at h2 <;> cases e <;> simp [D.isS] at h1 <;> rfl
/-- a loop whose states are known -/
theorem forL_fun {S L R α : Type} {step : S → α → LO S S R} (g : Nat → S) : ∀ {xs : List α} {n : Nat}, (∀ i x, xs[i]? = some x → step (g (n + i)) x = .next (g (n + i + 1))) → forL (L := L) step xs (g n) = .next (g (n + xs.length))
  | [], n, _ => rfl
  | x :: xs, n, h => by
    have h0 := h 0 x rfl
    rw [Nat.add_zero] at h0
    unfold forL
    rw [h0]
    have := forL_fun (step := step) (L := L) g (xs := xs) (n := n + 1) (fun i y hy => by
      have := h (i + 1) y hy
      rwa [show n + (i + 1) = n + 1 + i by omega] at this)
    simp only [List.length_cons]
    rw [this, show n + 1 + xs.length = n + (xs.length + 1) by omega]
/-! ### like -/
mutual
def D.nodes : D → Nat
  | .tup ds => 1 + D.nodesL ds
  | .lst ds => 1 + D.nodesL ds
  | _ => 1
def D.nodesL : List D → Nat
  | [] => 0
  | d :: ds => D.nodes d + D.nodesL ds
end
theorem D.nodes_pos (d : D) : 1 ≤ d.nodes := by cases d <;> simp only [D.nodes] <;> omega
theorem D.nodesL_append : ∀ a b : List D, D.nodesL (a ++ b) = D.nodesL a + D.nodesL b
  | [], b => by simp [D.nodesL]
  | x :: a, b => by
    show D.nodes x + D.nodesL (a ++ b) = D.nodes x + D.nodesL a + D.nodesL b
    rw [D.nodesL_append a b]; omega
theorem D.nodesL_len : ∀ a : List D, a.length ≤ D.nodesL a
  | [] => Nat.le_refl 0
  | x :: a => by
    have := D.nodesL_len a
    have := D.nodes_pos x
    simp only [List.length_cons, D.nodesL]; omega
theorem D.nodes_q {d : D} (h : d.isQ = true) : d.nodes = 1 + D.nodesL d.items := by
  cases d <;> simp [D.isQ, D.nodes, D.items] at *
theorem D.ext_q {d e : D} (h : e.isT = true ∨ e.isL = true) (h2 : d.isT = e.isT ∧ d.isL = e.isL) : d = e ↔ d.items = e.items := by
  cases e <;> simp [D.isT, D.isL] at h <;> cases d <;> simp [D.isT, D.isL, D.items] at *
theorem D.ne_q {d e : D} (h2 : ¬ (d.isT = e.isT ∧ d.isL = e.isL)) : d ≠ e := fun z => h2 (by rw [z]; exact ⟨rfl, rfl⟩)
/-- the pairs of two lists, by their places -/
theorem pairs_at (a b : List D) (h : a.length = b.length) : (rangeI 0 (b.length : Int)).map (fun n => (a.getD n.toNat default, b.getD n.toNat default)) = a.zip b := by
  unfold rangeI
  rw [List.map_map]
  apply List.ext_getElem
  · simp [h]
  · intro i h1 h2
    simp at h1 h2
    have h3 : i < a.length := by omega
    simp [List.getD_eq_getElem?_getD, h1, h3]
theorem zip_eq : ∀ (a b : List D), a.length = b.length → ((∀ p ∈ a.zip b, p.1 = p.2) ↔ a = b)
  | [], [], _ => by simp
  | x :: a, y :: b, h => by
    have ih := zip_eq a b (by simpa using h)
    simp only [List.zip_cons_cons, List.mem_cons, forall_eq_or_imp, ih, List.cons.injEq]
theorem zip_nodes : ∀ (a b : List D), a.length = b.length → D.nodesL ((a.zip b).map (·.2)) = D.nodesL b
  | [], [], _ => rfl
  | x :: a, y :: b, h => by
    have ih := zip_nodes a b (by simpa using h)
    simp only [List.zip_cons_cons, List.map_cons, D.nodesL, ih]
theorem pop_nodes : ∀ (ps : List (D × D)), 0 < ps.length → D.nodesL (ps.dropLast.map (·.2)) + (ps.getLastD default).2.nodes = D.nodesL (ps.map (·.2)) := by
  intro ps h
  obtain ⟨ys, y, rfl⟩ : ∃ ys y, ps = ys ++ [y] := ⟨ps.dropLast, ps.getLast (by intro z; rw [z] at h; cases h), (List.dropLast_concat_getLast _).symm⟩
  simp [D.nodesL_append, D.nodesL]
theorem alike_len {ps : List (D × D)} {o : D} {i B : Nat} (hq : o.isT = true ∨ o.isL = true) (hw : D.nodesL (ps.dropLast.map (·.2)) + o.nodes = D.nodesL (ps.map (·.2))) (hP : D.nodesL (ps.map (·.2)) + i ≤ B) : ps.dropLast.length + o.items.length ≤ B := by
  have h1 := D.nodes_q (isQ_of hq)
  have h2 := D.nodesL_len o.items
  have h3 := D.nodesL_len (ps.dropLast.map (·.2))
  rw [List.length_map] at h3
  omega
/-- a loop that only goes on -/
theorem forL_foldM {S L R α : Type} {step : S → α → LO S S R} (f : S → α → S) : ∀ {xs : List α} {s : S}, (∀ x ∈ xs, ∀ s, step s x = .next (f s x)) → forL (L := L) step xs s = .next (xs.foldl f s)
  | [], s, _ => rfl
  | x :: xs, s, h => by
    unfold forL
    rw [h x (.head _) s]
    exact forL_foldM f (fun y hy s => h y (.tail _ hy) s)
theorem foldl_snoc {α β : Type} (f : α → β) : ∀ (xs : List α) (t : List β), xs.foldl (fun t x => t ++ [f x]) t = t ++ xs.map f
  | [], t => by simp
  | x :: xs, t => by rw [List.foldl_cons, foldl_snoc f xs]; simp
/-- a list of constants, by its bounds -/
theorem lit_le {xs : List Int} (lo hi : Int) (h : (xs.all fun x => decide (lo ≤ x) && decide (x ≤ hi)) = true) (h0 : lo ≤ 0 ∧ 0 ≤ hi) (i : Nat) : lo ≤ xs.getD i default ∧ xs.getD i default ≤ hi := by
  rw [List.getD_eq_getElem?_getD]
  cases e : xs[i]? with
  | none => exact h0
  | some x =>
    have := List.all_eq_true.mp h x (List.mem_of_getElem? e)
    simpa using this
theorem cutL_from {α : Type} {xs : List α} {t : Int} (h : 0 ≤ t) : cutL xs (some t) none = xs.drop t.toNat := by
  obtain ⟨n, rfl⟩ := Int.eq_ofNat_of_zero_le h
  unfold cutL
  rw [HT.sIx_nat, HT.sIx_none, Int.toNat_natCast]
  by_cases k : n ≤ xs.length
  · rw [Nat.min_eq_left k, List.take_of_length_le (by simp)]
  · rw [Nat.min_eq_right (by omega), List.drop_of_length_le (by omega), List.drop_of_length_le (by omega)]; simp
theorem cutL_to {α : Type} {xs : List α} {t : Int} (h : 0 ≤ t) : cutL xs none (some t) = xs.take t.toNat := by
  obtain ⟨n, rfl⟩ := Int.eq_ofNat_of_zero_le h
  unfold cutL
  rw [HT.sIx_nat, HT.sIx_none, Int.toNat_natCast, List.drop_zero, Nat.sub_zero]
  by_cases k : n ≤ xs.length
  · rw [Nat.min_eq_left k]
  · rw [Nat.min_eq_right (by omega), List.take_of_length_le (Nat.le_refl _), List.take_of_length_le (by omega)]
theorem cutL_sub {α : Type} {xs : List α} {a b : Option Int} : (cutL xs a b).Sublist xs := (List.take_sublist _ _).trans (List.drop_sublist _ _)
end PD
namespace PD
open PySem PySem.Spec PyProof.Rows L2
theorem repL_intsF {K : KC} {F : Hp} : ∀ (ns : List Int), RepL K F (ns.map V.int) (ns.map D.int) := repL_ints
/-- the law's own end -/
theorem law_sp {P : Program} {w : World} {K : PySem.W.Frag} {H : Hp} {a : Addr} {ns : List Int} {Rel : List Ar → Out → Prop} (h : Rel [.dat (eL D.int ns)] (.val (.dat (.bl true)))) (hS : SqL K H a (ns.map V.int)) : spR ⟨K, P, w⟩ Rel [.ref a] H (fun v _ => v = .bl true) (fun _ _ _ => False) := by
  refine ⟨_, _, H, h, ⟨Le.refl H, .cons (.lst hS (repL_ints ns)) .nil, fun i j ci ci' cj cj' b e => ?_⟩, fun F' H' v _ ha => ?_⟩
  · cases i with
    | zero => cases e
    | succ i => cases e
  · have : Rep ⟨K, P, w⟩ F' v (.bl true) := ha
    cases this
    rfl
end PD
namespace PD
open PySem PySem.Spec PyProof.Rows L2
/-! ### instances of own classes -/
/-- an attribute of an instance, by its name -/
def fldOf (ns : List Str) (vs : List D) (f : Str) : Option D := (ns.zip vs).lookup f
theorem fld_at {K : KC} {F : Hp} {f : Str} {d : D} : ∀ {fs : List (Str × V)} {ns : List Str} {vs : List D}, fs.map (·.1) = ns → RepL K F (fs.map (·.2)) vs → fldOf ns vs f = some d → ∃ v, fs.lookup f = some v ∧ Rep K F v d
  | [], ns, vs, e, r, h => by cases r; subst e; cases h
  | (g, x) :: fs, ns, vs, e, r, h => by
    subst e
    cases r with
    | @cons _ _ d0 ds r t =>
      have h : ((g, d0) :: (fs.map (·.1)).zip ds).lookup f = some d := h
      show ∃ v, ((g, x) :: fs).lookup f = some v ∧ Rep K F v d
      rw [List.lookup_cons] at h ⊢
      cases hb : f == g with
      | true => rw [hb] at h; cases h; exact ⟨x, rfl, r⟩
      | false => rw [hb] at h; exact fld_at rfl t h
theorem putF_new {f : Str} {v : V} : ∀ {fs : List (Str × V)}, f ∉ fs.map (·.1) → putF f v fs = fs ++ [(f, v)]
  | [], _ => rfl
  | (g, x) :: fs, h => by
    have h1 : g ≠ f := fun e => h (by rw [e]; exact .head _)
    show (if g = f then (g, v) :: fs else (g, x) :: putF f v fs) = _
    rw [if_neg h1, putF_new fun z => h (.tail _ z)]; rfl
/-- a result that is an instance -/
inductive VIns (Γ : Env') : Rv → Addr → List Str → List D → Prop
  | dat {C ns vs} : VIns Γ (.dat (.obj C ns vs)) C ns vs
  | own {C ns vs} : VIns Γ (.own (.ins C ns vs)) C ns vs
  | bor {i : Nat} {ao C ns vs} : Γ[i]? = some (.own ao (.ins C ns vs)) → VIns Γ (.bor i) C ns vs
section
variable {X : Cx} {Xe Γ Γ1 Γ2 Γ3 : Env'} {e a b c o : Expr} {pos p px apos : Pos} {r ra rb rc rv : Rv} {d : D} {ds es : List D} {i j : Int} {C g : Addr} {ns : List Str} {vs : List D} {f x m : Str} {rs : List Rv} {ars : List Ar} {rr : Rr} {Rel : List Ar → Out → Prop} {el : List Expr} {k : Nat} {ao : Option Addr} {oc : Oc}
theorem VIns.at {A : Addr → Prop} {F H : Hp} {σ : L2.St} {v : V} (w : VIns Γ r C ns vs) (hH : Holds (kc X) F Γ σ H) (h : RvOk (kc X) F Γ σ H A v r) : ∃ x dx fs, v = .ref x ∧ H x = some (.ins C dx fs) ∧ fs.map (·.1) = ns ∧ RepL (kc X) F (fs.map (·.2)) vs := by
  cases w with
  | dat =>
    cases h with
    | obj e e2 t => exact ⟨_, _, _, rfl, hH.le _ _ e, e2, t⟩
  | own =>
    obtain ⟨x, ho, e, h1, _, ⟨dx, fs, rfl, e2, t⟩, _⟩ := h
    exact ⟨x, dx, fs, e, h1, e2, t⟩
  | bor hi =>
    obtain ⟨x, ho, e, _, h1, _, dx, fs, rfl, e2, t⟩ := hH.own hi
    have h : σ[_]? = some (some v) := h
    rw [h] at e; cases e
    exact ⟨x, dx, fs, rfl, h1, e2, t⟩
/-- o.f -/
theorem ev_fld (ho : EV X Γ o r Γ1) (w : VIns Γ1 r C ns vs) (c : Cls X.K C) (n : NoAttr X.K C f) (hf : fldOf ns vs f = some d) (hb : attributeBase o f X.env (eval o X.env) = eval o X.env := by rfl) : EV X Γ (.Attribute o f pos) (.dat d) Γ1 :=
  PE.weak (pe_fld ho hb) fun σ H Q ⟨F, hH, q⟩ => ⟨F, hH, fun F1 H1 v p1 hv => by
    obtain ⟨x, dx, fs, rfl, h1, e2, t⟩ := w.at p1.ok hv
    obtain ⟨u, l, ru⟩ := fld_at e2 t hf
    exact ⟨x, C, dx, fs, u, rfl, h1, c, n, l, q F1 H1 u p1 ru⟩⟩
/-- self.f = e, a new attribute -/
theorem st_fld {S L R : Type} {G : S → Env'} {Lp : L → Env'} {Kr : R → Rv × Env'} {s : S} {p' : Pos} (hv : PE X (.Name x px) (tVar k)) (he : EV X Γ e (.dat d) Γ1) (hk : Γ1[k]? = some (.own ao (.ins C ns vs))) (c : Cls X.K C) (n : NoAttr X.K C f) (hn : f ∉ ns) (hl : ns.length < 1000)
    (w : Weak (Γ1.set k (.own ao (.ins C (ns ++ [f]) (vs ++ [d])))) (G s)) (hs : swapsWith e (some (.Attribute (.Name x px) f p')) pos.line X.env = pure false := by rfl) : ST X Xe Γ (.Assign [.Attribute (.Name x px) f p'] e pos) G Lp Kr (.next s) :=
  PS.weak (ps_fld hv he hs) fun D σ H ⟨F, hH, q⟩ => ⟨F, hH, fun F1 H1 y p1 hy => by
    obtain ⟨x0, ho0, f1, f2, f3, f4, dx, fs, rfl, e2, t⟩ := p1.ok.own hk
    have hnf : f ∉ fs.map (·.1) := by rw [e2]; exact hn
    refine ⟨_, f1, x0, C, dx, fs, rfl, f3, c, n, by have := congrArg List.length e2; rw [List.length_map] at this; omega, ?_⟩
    rw [putF_new hnf]
    have p2 := Post.write p1.ok hk f1 (c' := .ins C (ns ++ [f]) (vs ++ [d])) (o := .ins C dx (fs ++ [(f, y)])) ⟨dx, _, rfl, by rw [List.map_append, e2]; rfl, by rw [List.map_append]; exact RepL.append t (.one hy)⟩
    exact q F1 _ σ ((p1.trans p2).weak w)⟩
/-! ### methods -/
/-- a method of the class at C, with what it promises of self and its arguments -/
structure Mle (P : Program) (w : World) (K : PySem.W.Frag) (mg : Str → Option Value) (base : Heap) (k : Nat) (C : Addr) (m : Str) (Rel : List Ar → Out → Prop) : Prop where
  ex : ∃ (f : Addr) (fd : FuncData) (ps : List Str), FnOk P w K mg base (L2.CX P w) k f fd ps (spR ⟨K, P, w⟩ Rel) ∧ Meth K C m f ∧ Binds K fd ps []
theorem lk_none {fs : List (Str × V)} {m : Str} (h : m ∉ fs.map (·.1)) : fs.lookup m = none := by
  induction fs with
  | nil => rfl
  | cons p fs ih =>
    obtain ⟨g, x⟩ := p
    rw [List.lookup_cons, beq_eq_false_iff_ne.mpr (fun e : m = g => h (by rw [e]; exact .head _))]
    exact ih fun z => h (.tail _ z)
/-- o.m(..), o is data -/
theorem ev_meth {pl : Sem Bool} (M : Mle X.prog X.w X.K X.mg X.base k C m Rel) (hr : Room k X.A) (c : Cls X.K C) (hn : m ∉ ns) (ho : EV X Γ o (.dat (.obj C ns vs)) Γ1) (hR : Rel (.dat (.obj C ns vs) :: ars) (.val rr)) (mt : MtOk Γ2 rs ars Γ3) (ha : AV X Γ1 (e :: el) rs Γ2)
    (hst : starEach (e :: el) X.env = (false, eval e X.env) :: starEach el X.env := by rfl) (hpl : (backTo pos (starEach el X.env)).any (·.1) = false := by rfl)
    (ht : eval (.Call (.Attribute o m apos) (e :: el) [] pos) X.env = (eval o X.env >>= fun ov => standAt apos.atName >>= fun _ => holding [ov] (getMethod ov m pl) >>= fun q => callWith pos q.1 q.2 (backTo pos (starEach (e :: el) X.env)) (backToKw pos (keywordEach [] X.env))) := by rfl) :
    EV X Γ (.Call (.Attribute o m apos) (e :: el) [] pos) rr.rv Γ3 := by
  obtain ⟨f, fd, ps, hF, hm, hb⟩ := M.ex
  refine PE.weak (pe_meth (pl := pl) (E := E0) ho c hm hF hr hb .nil passL ha hst hpl ht) fun σ H Q ⟨F, hH, q⟩ => ⟨F, hH, fun F1 H1 v p1 hv => ?_⟩
  cases hv with
  | @obj x dx _ fs _ _ e1 e2 t =>
    refine ⟨x, dx, fs, rfl, p1.ok.le _ _ e1, lk_none (by rw [e2]; exact hn), F1, p1.ok, fun F2 H2 us p2 hus => ?_⟩
    have p12 := p1.trans p2
    have hus' : Paired (fun v r => RvOk (kc X) F2 Γ2 σ H2 (NewAt Γ1 σ H1) v r) (.ref x :: us) (.dat (.obj C ns vs) :: rs) := .cons (.obj (p2.ext.mono _ _ e1) e2 (t.mono p2.ext.mono)) hus
    exact call_read (E := E0) (o := .val rr) (Q := Q) hR p1.ok p2 hus' (mt_cdat mt) fun F' H' v p h => q F' H' v (p1.trans p) (h.at fun _ z => NewAt.back p1 z)
theorem ev_meth0 {pl : Sem Bool} (M : Mle X.prog X.w X.K X.mg X.base k C m Rel) (hr : Room k X.A) (c : Cls X.K C) (hn : m ∉ ns) (ho : EV X Γ o (.dat (.obj C ns vs)) Γ1) (hR : Rel [.dat (.obj C ns vs)] (.val rr))
    (ht : eval (.Call (.Attribute o m apos) [] [] pos) X.env = (eval o X.env >>= fun ov => standAt apos.atName >>= fun _ => holding [ov] (getMethod ov m pl) >>= fun q => callWith pos q.1 q.2 (backTo pos (starEach [] X.env)) (backToKw pos (keywordEach [] X.env))) := by rfl) :
    EV X Γ (.Call (.Attribute o m apos) [] [] pos) rr.rv Γ1 := by
  obtain ⟨f, fd, ps, hF, hm, hb⟩ := M.ex
  refine PE.weak (pe_meth0 (pl := pl) (E := E0) ho c hm hF hr hb .nil passL ht) fun σ H Q ⟨F, hH, q⟩ => ⟨F, hH, fun F1 H1 v p1 hv => ?_⟩
  cases hv with
  | @obj x dx _ fs _ _ e1 e2 t =>
    refine ⟨x, dx, fs, rfl, p1.ok.le _ _ e1, lk_none (by rw [e2]; exact hn), ?_⟩
    have hus' : Paired (fun v r => RvOk (kc X) F1 Γ1 σ H1 (NewAt Γ1 σ H1) v r) [.ref x] [.dat (.obj C ns vs)] := .cons (.obj e1 e2 t) .nil
    exact call_read (E := E0) (o := .val rr) (Q := Q) hR p1.ok (.refl p1.ok) hus' (mt_cdat mt_nil) fun F' H' v p h => q F' H' v (p1.trans p) (h.at fun _ z => NewAt.back p1 z)
end
end PD
namespace PD
open PySem PySem.Spec PyProof.Rows L2
/-! ### a new instance by its own __init__ -/
section
variable {X : Cx} {Xe Γ Γ1 Γ2 Γ3 : Env'} {e a b c o : Expr} {pos p px apos : Pos} {r ra rb rc rv : Rv} {d : D} {C f : Addr} {fd : FuncData} {ps : List Str} {x : Str} {rs : List Rv} {ars : List Ar} {rr : Rr} {Rel : List Ar → Out → Prop} {el : List Expr} {k : Nat} {sp : Sp} {E : L2.St → XK} {t : TA}
theorem make_run {pins : List (Addr × Obj)} {σ : L2.St} {H : Hp} {s : Shared} {Q : VK} {us : List Value} {vs : List V} (M : Mk X.K C f) (F : FnOk X.prog X.w X.K X.mg X.base (L2.CX X.prog X.w) k f fd ps sp) (hr : Room (k + 1) X.A) (hb : Binds X.K fd ps []) (hx : PassesAt (L2.CX X.prog X.w) X σ (E σ))
    (I : Inv X pins σ H s) (r : Vals vs us) (h : ∀ n dn, H n = none → H dn = none → dn ≠ n → sp (.ref n :: vs) (upd (upd H dn (.own n)) n (.ins C dn [])) (fun v H2 => v = .non ∧ Q (.ref n) H2) (E σ)) :
    wpAny (model X.prog X.w) X.A (call (.ref C) us) (EP X pins σ Q) X.xe s := by
  have hh := h (s.heap.objs.size + 1) s.heap.objs.size (I.hok.fresh (Nat.le_succ _)) (I.hok.fresh (Nat.le_refl _)) (Nat.ne_of_lt (Nat.lt_succ_self _))
  have J := Inv.made (C := C) I
  have rv : Vals (V.ref (s.heap.objs.size + 1) :: vs) (Value.ref (s.heap.objs.size + 1) :: us) := .cons rfl r
  have ln : (Value.ref (s.heap.objs.size + 1) :: us ++ ([] : List Value)).length = ps.length := by
    have z := rv.length
    rw [F.len _ _ _ _ hh] at z
    rw [List.append_nil]; exact z.symm
  have bt := hb _ (Value.ref (s.heap.objs.size + 1) :: us) J.kIn ln
  rw [List.append_nil] at bt
  refine wpAny_call (make_map (f := f) I.kIn M.makes M.init (beq_iff_eq.mp M.fn) (codeAny_mono (F.run _ X.stack _ _ ⟨Value.ref (s.heap.objs.size + 1) :: us, []⟩ _ _ _ (E σ) (hr.make C us []) (J.env0.make C us []) bt rv hh) fun q s2 hq2 => ?_))
  cases q with
  | error z => exact hx pins _ _ z s2 J hq2
  | ok fl =>
    cases fl with
    | ret u =>
      obtain ⟨v, H3, I3, rv3, ev3, q3⟩ := J.after hq2
      subst ev3
      exact ⟨rv3, ⟨V.ref (s.heap.objs.size + 1), H3, I3, rfl, q3⟩⟩
    | next => exact hq2.elim
    | brk => exact hq2.elim
    | cont => exact hq2.elim
def tMakeS (C : Addr) (sp : Sp) (E : L2.St → XK) (t : TA) : TE := fun σ H Q => t σ H fun vs H1 => ∀ n dn, H1 n = none → H1 dn = none → dn ≠ n → sp (.ref n :: vs) (upd (upd H1 dn (.own n)) n (.ins C dn [])) (fun v H2 => v = .non ∧ Q (.ref n) H2) (E σ)
theorem pe_makeS (M : Mk X.K C f) (F : FnOk X.prog X.w X.K X.mg X.base (L2.CX X.prog X.w) k f fd ps sp) (hr : Room (k + 1) X.A) (hg : Gl X x) (hm : X.mg x = some (.ref C)) (hb : Binds X.K fd ps []) (hx : ∀ σ, PassesAt (L2.CX X.prog X.w) X σ (E σ))
    (ha : PA X (e :: el) t) (hdb : (x == ("__debug__" : Str)) = false := by decide) (he : starEach (e :: el) X.env = (false, eval e X.env) :: starEach el X.env := by rfl) (hpl : (backTo pos (starEach el X.env)).any (·.1) = false := by rfl) :
    PE X (.Call (.Name x p) (e :: el) [] pos) (tMakeS C sp E t) :=
  ⟨fun pins s σ H Q I h => wpAny_Call_Name_kw (ld_glob I hg hm (PySem.W.callWith_K (h₀ := X.base) I.ok.mod.kin M.kp (thn (ha.run pos pins s σ H _ I h) fun us s1 ⟨vs, H1, I1, r, q⟩ => ⟨I1.kIn, make_run M F hr hb (hx σ) I1 r q⟩) he hpl) hdb)⟩
/-- a class that may be called by its name -/
structure Kle (P : Program) (w : World) (K : PySem.W.Frag) (mg : Str → Option Value) (base : Heap) (k : Nat) (x : Str) (C : Addr) (Rel : List Ar → Out → Prop) : Prop where
  ex : ∃ (f : Addr) (fd : FuncData) (ps : List Str), FnOk P w K mg base (L2.CX P w) k f fd ps (spR ⟨K, P, w⟩ Rel) ∧ Mk K C f ∧ mg x = some (.ref C) ∧ Binds K fd ps []
theorem before_new {K : KC} {F H : Hp} {vs : List V} {n dn : Addr} {c' : Oc} (b : Before K F H vs ars) (h1 : H n = none) (h2 : H dn = none) (ne : dn ≠ n) : Before K F (upd (upd H dn (.own n)) n (.ins C dn [])) (.ref n :: vs) (.mu (.ins C [] []) c' :: ars) := by
  have st : ∀ y o, H y = some o → upd (upd H dn (.own n)) n (.ins C dn []) y = some o := fun y o e => by
    rw [upd_ne (ne_of_none e h1), upd_ne (ne_of_none e h2)]; exact e
  have fn : F n = none := by
    cases q : F n with
    | none => rfl
    | some o => rw [b.le n o q] at h1; cases h1
  refine ⟨fun y o e => st y o (b.le y o e), .cons ⟨n, _, rfl, upd_same, fn, dn, [], rfl, rfl, .nil⟩ (paired_mk (Paired.length b.ok) fun i v a e1 e2 => ?_), fun i j ci ci' cj cj' y e1 e2 e3 e4 => ?_⟩
  · obtain ⟨a', h, ok⟩ := paired_getL b.ok e1
    rw [e2] at h; cases h
    cases a with
    | dat d => exact ok
    | mu c1 c2 => obtain ⟨y, ho, e, g1, g2, g3⟩ := ok; exact ⟨y, ho, e, st y ho g1, g2, g3⟩
  · have notn : ∀ (i : Nat) ci ci', ars[i]? = some (.mu ci ci') → vs[i]? = some (.ref y) → y ≠ n := fun i ci ci' e1 e3 => by
      obtain ⟨a', h, ok⟩ := paired_getL b.ok e3
      rw [e1] at h; cases h
      obtain ⟨y', ho, e, g1, _⟩ := ok
      cases e
      exact ne_of_none g1 h1
    cases i with
    | zero =>
      cases j with
      | zero => rfl
      | succ j => cases e3; exact absurd rfl (notn j _ _ e2 e4)
    | succ i =>
      cases j with
      | zero => cases e4; exact absurd rfl (notn i _ _ e1 e3)
      | succ j => rw [b.dis i j ci ci' cj cj' y e1 e2 e3 e4]
theorem mid_new {K : KC} {F H F' H' : Hp} {vs : List V} {n dn : Addr} {c' : Oc} (h1 : H n = none) (h2 : H dn = none) (ne : dn ≠ n) (m : Mid K F (upd (upd H dn (.own n)) n (.ins C dn [])) (.ref n :: vs) (.mu (.ins C [] []) c' :: ars) F' H') :
    Mid K F H vs ars F' H' ∧ ∃ ho, H' n = some ho ∧ F' n = none ∧ OcOk K F' n ho c' := by
  refine ⟨⟨⟨m.ext.mono, fun y o e f nm => m.ext.keep y o ?_ f fun ⟨i, c1, c2, q1, q2⟩ => ?_, fun y o e => m.ext.there y o ?_⟩, m.le, fun i c1 c2 y q1 q2 => m.mus (i + 1) c1 c2 y q1 q2⟩, m.mus 0 _ c' n rfl rfl⟩
  · rw [upd_ne (ne_of_none e h1), upd_ne (ne_of_none e h2)]; exact e
  · cases i with
    | zero => cases q2; rw [h1] at e; cases e
    | succ i => exact nm ⟨i, c1, c2, q1, q2⟩
  · rw [upd_ne (ne_of_none e h1), upd_ne (ne_of_none e h2)]; exact e
/-- C(..) -/
theorem cv_make {R : Type} {o : LO Unit Unit R} {cf : R → Oc} {Γ' : R → Env'} {arf : R → List Ar} {arx : List Ar} {cx : Oc} (M : Kle X.prog X.w X.K X.mg X.base k x C Rel) (hr : Room (k + 1) X.A) (hg : Gl X x) (hR : ∀ r, o = .ret r → Rel (.mu (.ins C [] []) (cf r) :: arf r) (.val (.dat .non))) (hX : ∀ y, o = .exc y → Rel (.mu (.ins C [] []) cx :: arx) (.exc y))
    (m : ∀ r, MtOk Γ1 rs (arf r) (Γ' r)) (mX : MtOk Γ1 rs arx Xe) (ha : AV X Γ (e :: el) rs Γ1)
    (hdb : (x == ("__debug__" : Str)) = false := by decide) (he : starEach (e :: el) X.env = (false, eval e X.env) :: starEach el X.env := by rfl) (hpl : (backTo pos (starEach el X.env)).any (·.1) = false := by rfl) :
    CV X Xe Γ (.Call (.Name x p) (e :: el) [] pos) (fun r => .own (cf r)) Γ' o := by
  obtain ⟨f, fd, ps, hF, hM, hm, hb⟩ := M.ex
  refine PE.weak (pe_makeS hM hF hr hg hm hb (fun σ => passAt takes_st σ) ha hdb he hpl) fun σ H Q ⟨F, hH, q⟩ => ⟨F, hH, fun F1 H1 vs p1 hv => fun n dn hn hdn ne => ?_⟩
  have own2 : ∀ {G : Env'} {as : List Ar}, MtOk Γ1 rs as G → ∀ y, Owned G σ y → Owned Γ1 σ y := fun {G as} mm y ⟨j, ao, c, e1, e2⟩ => by
    rcases mm.at' j _ e1 with ⟨z, _⟩ | ⟨i, ao', c1, c1', _, _, z, e⟩
    · exact ⟨j, ao, c, z, e2⟩
    · exact ⟨j, ao', c1, z, e2⟩
  cases o with
  | ret r =>
    have cp := fun (F' H' : Hp) => call_post (rr := .dat .non) (F' := F') (H' := H') (v := .non) hH p1 hv (m r)
    refine ⟨_, .val (.dat .non), F1, hR r rfl, before_new (cp F1 H1).1 hn hdn ne, fun F' H' v md hres => ⟨by cases hres; rfl, ?_⟩⟩
    obtain ⟨md2, ho, g1, g2, g3⟩ := mid_new hn hdn ne md
    exact q F' H' (.ref n) ((cp F' H').2 md2).1 ⟨n, ho, rfl, g1, g2, g3, fun z => p1.ok.notOwned hn (own2 (m r) n z), .inr (p1.ext.fresh hn)⟩
  | exc y =>
    have cp := fun (F' H' : Hp) => call_post (rr := .dat .non) (F' := F') (H' := H') (v := .non) hH p1 hv mX
    refine ⟨_, .exc y, F1, hX y rfl, before_new (cp F1 H1).1 hn hdn ne, fun F' H' cls d md hx => ?_⟩
    obtain ⟨md2, _⟩ := mid_new hn hdn ne md
    exact q F' H' cls d ((cp F' H').2 md2).1 hx
  | _ => exact q.elim
end
end PD
namespace PD
open PySem PySem.Spec PyProof.Rows L2
/-! ### dicts whose keys are tuples -/
def EntOk (K : KC) (F : Hp) (e : D × D) (x : NestedKey × Addr × V) : Prop := e.1.isKey = true ∧ x.1 = e.1.nk ∧ Rep K F (.ref x.2.1) e.1 ∧ Rep K F x.2.2 e.2
def RawOk (x : NestedKey × Addr × V) (q : NestedKey × Addr × Value) : Prop := x.1 = q.1 ∧ x.2.1 = q.2.1 ∧ RelV x.2.2 q.2.2
section
variable {K : KC} {F : Hp}
theorem EntOk.mono {G : Hp} {e : D × D} {x : NestedKey × Addr × V} (l : Le F G) (h : EntOk K F e x) : EntOk K G e x := ⟨h.1, h.2.1, h.2.2.1.mono l, h.2.2.2.mono l⟩
theorem ents_of : ∀ {es : List (D × D)} {xs : List (NestedKey × Addr × V)}, (∀ k ∈ es.map (·.1), k.isKey = true) → xs.map (·.1) = (es.map (·.1)).map D.nk → RepL K F (xs.map fun x => .ref x.2.1) (es.map (·.1)) → RepL K F (xs.map (·.2.2)) (es.map (·.2)) → Paired (EntOk K F) es xs
  | [], [], _, _, _, _ => .nil
  | [], _ :: _, _, e, _, _ => by cases e
  | _ :: _, [], _, e, _, _ => by cases e
  | e :: es, x :: xs, h, h2, r, r2 => by
    cases r with | cons a b =>
    cases r2 with | cons c d =>
    have h2 := List.cons.inj h2
    exact .cons ⟨h _ (.head _), h2.1, a, c⟩ (ents_of (fun k hk => h k (.tail _ hk)) h2.2 b d)
theorem ents_to : ∀ {es : List (D × D)} {xs : List (NestedKey × Addr × V)}, Paired (EntOk K F) es xs → (∀ k ∈ es.map (·.1), k.isKey = true) ∧ xs.map (·.1) = (es.map (·.1)).map D.nk ∧ RepL K F (xs.map fun x => .ref x.2.1) (es.map (·.1)) ∧ RepL K F (xs.map (·.2.2)) (es.map (·.2))
  | _, _, .nil => ⟨(fun k h => nomatch h), rfl, .nil, .nil⟩
  | _, _, .cons (a := e) h t => by
    obtain ⟨h1, h2, h3, h4⟩ := ents_to t
    refine ⟨fun k hk => ?_, ?_, .cons h.2.2.1 h3, .cons h.2.2.2 h4⟩
    · rcases List.mem_cons.mp hk with z | z
      · rw [z]; exact h.1
      · exact h1 k z
    · simp only [List.map_cons, h2, h.2.1]
theorem split_ents : ∀ (ks vs : List D), ks.length = vs.length → ∃ es : List (D × D), ks = es.map (·.1) ∧ vs = es.map (·.2)
  | [], [], _ => ⟨[], rfl, rfl⟩
  | k :: ks, v :: vs, h => by
    obtain ⟨es, h1, h2⟩ := split_ents ks vs (by simpa using h)
    exact ⟨(k, v) :: es, by rw [h1]; rfl, by rw [h2]; rfl⟩
end
theorem paired_app {α β : Type} {R : α → β → Prop} : ∀ {l : List α} {m : List β} {l2 : List α} {m2 : List β}, Paired R l m → Paired R l2 m2 → Paired R (l ++ l2) (m ++ m2)
  | _, _, _, _, .nil, h => h
  | _, _, _, _, .cons a t, h => .cons a (paired_app t h)
def dGetD (es : List (D × D)) (n : NestedKey) : Option D := (es.find? fun e => decide (e.1.nk = n)).map (·.2)
def dPutD (es : List (D × D)) (k v : D) : List (D × D) := if (dGetD es k.nk).isSome then es.map (fun e => if e.1.nk = k.nk then (e.1, v) else e) else es ++ [(k, v)]
/-- a result that is such a dict -/
inductive VDn (Γ : Env') : Rv → List (D × D) → Prop
  | dat {es} : VDn Γ (.dat (.dct true (es.map (·.1)) (es.map (·.2)))) es
  | own {es} : VDn Γ (.own (.dN (es.map (·.1)) (es.map (·.2)))) es
  | bor {i : Nat} {ao es} : Γ[i]? = some (.own ao (.dN (es.map (·.1)) (es.map (·.2)))) → VDn Γ (.bor i) es
section
variable {X : Cx} {Xe Γ Γ1 Γ2 Γ3 : Env'} {e a b c o : Expr} {pos p px apos : Pos} {r ra rb rc rv : Rv} {d kd : D} {es : List (D × D)} {pins : List (Addr × Obj)} {σ : L2.St} {H F : Hp} {s : Shared} {y : Addr} {xs : List (NestedKey × Addr × V)} {raw : List (NestedKey × Addr × Value)}
mutual
theorem Rep.nkIs (I : Inv X pins σ H s) (l : Le F H) : ∀ {d : D} {v : V} {u : Value}, d.keyable = true → Rep (kc X) F v d → RelV v u → NestedIs s.heap d.nk u
  | .non, _, u, _, .non, r => by cases (show u = Value.none from r); exact .none
  | .bl b, _, u, _, .bl _, r => by cases (show u = Value.bool b from r); exact .bool rfl
  | .int i, _, u, _, .int _, r => by obtain ⟨t, rfl⟩ := (show ∃ t, u = Value.int i t from r); exact .int i t
  | .str x, _, u, _, .str _ _, r => by obtain ⟨t, rfl⟩ := (show ∃ t, u = Value.str x t from r); exact .text x t
  | .tup ds, _, u, hk, .tup (a := a) hs t, r => by
    cases (show u = Value.ref a from r)
    obtain ⟨its, rv, ⟨o, e, hc, n, hd⟩, _⟩ := I.tuple (l.seqT hs)
    exact .tup e hc hd (RepL.nkAll I l hk t rv)
  | .lst _, _, _, hk, _, _ => nomatch hk
  | .dct _ _ _, _, _, hk, _, _ => nomatch hk
  | .obj _ _ _, _, _, hk, _, _ => nomatch hk
theorem RepL.nkAll (I : Inv X pins σ H s) (l : Le F H) : ∀ {ds : List D} {vs : List V} {us : List Value}, D.keyableL ds = true → RepL (kc X) F vs ds → Vals vs us → NestedAll s.heap (D.nkL ds) us
  | [], _, _, _, .nil, r => by cases r; exact .nil
  | d :: ds, _, _, hk, .cons a t, r => by
    cases r with
    | cons r1 r2 => exact .cons (Rep.nkIs I l (Bool.and_eq_true_iff.mp hk).1 a r1) (RepL.nkAll I l (Bool.and_eq_true_iff.mp hk).2 t r2)
end
theorem key_is (I : Inv X pins σ H s) (l : Le F H) (hk : kd.isKey = true) (h : Rep (kc X) F (.ref y) kd) : (nestedKind X.prog X.w).is s.heap kd.nk y := by
  cases kd with
  | tup ds =>
    have hk := Bool.and_eq_true_iff.mp hk
    exact ⟨Rep.nkIs I l (d := .tup ds) hk.1 h rfl, of_decide_eq_true hk.2⟩
  | _ => cases hk
theorem dn_raw (I : Inv X pins σ H s) (l : Le F H) (e : H y = some (dctO X.prog X.w y xs)) (pe : Paired (EntOk (kc X) F) es xs) : ∃ raw, Paired RawOk xs raw ∧ xs.length ≤ sizeLine ∧ (y == sysModules) = false ∧ s.heap.DictOfH (nestedKind X.prog X.w) y raw := by
  obtain ⟨⟨hz, hd, raw, pr, o, es', ep, h1, h2, h3, h4, h5⟩, _⟩ := (show ObjOk X.prog X.w H s.heap y (dctO X.prog X.w y xs) from I.hok y _ e)
  refine ⟨raw, pr, hz, hd, o, es', ep, h1, h2, h3, h4, ?_, h5⟩
  have all : ∀ {es : List (D × D)} {xs : List (NestedKey × Addr × V)} {raw : List (NestedKey × Addr × Value)}, Paired (EntOk (kc X) F) es xs → Paired RawOk xs raw → ∀ q ∈ raw, (nestedKind X.prog X.w).is s.heap q.1 q.2.1 := by
    intro es xs raw pe
    induction pe generalizing raw with
    | nil => intro pr q hq; cases pr; cases hq
    | cons h t ih =>
      intro pr q hq
      cases pr with
      | cons g t2 =>
        rcases List.mem_cons.mp hq with z | z
        · subst z
          rw [← g.1, ← g.2.1, h.2.1]
          exact key_is I l h.1 h.2.2.1
        · exact ih t2 q z
  exact all pe pr
theorem dn_find {n : NestedKey} : ∀ {es : List (D × D)} {xs : List (NestedKey × Addr × V)} {raw : List (NestedKey × Addr × Value)}, Paired (EntOk (kc X) F) es xs → Paired RawOk xs raw →
    (atKey raw n = none ∧ dGetD es n = none) ∨ ∃ p d v, atKey raw n = some p ∧ dGetD es n = some d ∧ RelV v p.2 ∧ Rep (kc X) F v d := by
  intro es xs raw pe
  induction pe generalizing raw with
  | nil => intro pr; cases pr; exact .inl ⟨rfl, rfl⟩
  | @cons e x es xs h t ih =>
    intro pr
    cases pr with
    | @cons _ q _ raw g t2 =>
      have e1 : q.1 = e.1.nk := by rw [← g.1, h.2.1]
      unfold atKey dGetD
      rw [List.find?_cons, List.find?_cons, e1]
      by_cases k : e.1.nk = n
      · rw [decide_eq_true k]
        exact .inr ⟨q.2, e.2, x.2.2, rfl, rfl, g.2.2, h.2.2.2⟩
      · rw [decide_eq_false k]
        exact ih t2
theorem dn_put {u : Value} {v : V} {b : Addr} (hk : kd.isKey = true) (hb : Rep (kc X) F (.ref b) kd) (hv : Rep (kc X) F v d) (hu : RelV v u) (pe : Paired (EntOk (kc X) F) es xs) (pr : Paired RawOk xs raw) :
    ∃ xs', Paired (EntOk (kc X) F) (dPutD es kd d) xs' ∧ Paired RawOk xs' (storedH raw kd.nk b u) ∧ xs'.length ≤ xs.length + 1 := by
  unfold dPutD
  rcases dn_find (n := kd.nk) pe pr with ⟨h1, h2⟩ | ⟨p, d0, v0, h1, h2, _, _⟩
  · rw [h2, storedH_new h1]
    refine ⟨xs ++ [(kd.nk, b, v)], ?_, ?_, by simp⟩
    · exact paired_app pe (.cons ⟨hk, rfl, hb, hv⟩ .nil)
    · exact paired_app pr (.cons ⟨rfl, rfl, hu⟩ .nil)
  · rw [h2, storedH_old h1]
    refine ⟨xs.map fun x => if x.1 = kd.nk then (x.1, x.2.1, v) else x, ?_, ?_, by simp⟩
    · show Paired _ (es.map _) _
      clear h1 h2 pr
      induction pe with
      | nil => exact .nil
      | @cons e x es xs h t ih =>
        refine .cons ?_ ih
        show EntOk (kc X) F (if e.1.nk = kd.nk then (e.1, d) else e) (if x.1 = kd.nk then (x.1, x.2.1, v) else x)
        by_cases k : e.1.nk = kd.nk
        · rw [if_pos k, if_pos (by rw [h.2.1]; exact k)]
          exact ⟨h.1, h.2.1, h.2.2.1, hv⟩
        · rw [if_neg k, if_neg (by rw [h.2.1]; exact k)]
          exact h
    · clear h1 h2 pe
      induction pr with
      | nil => exact .nil
      | @cons x q xs raw g t ih =>
        refine .cons ?_ ih
        show RawOk (if x.1 = kd.nk then (x.1, x.2.1, v) else x) (if q.1 = kd.nk then (q.1, q.2.1, u) else q)
        by_cases k : x.1 = kd.nk
        · rw [if_pos k, if_pos (by rw [← g.1]; exact k)]
          exact ⟨g.1, g.2.1, hu⟩
        · rw [if_neg k, if_neg (by rw [← g.1]; exact k)]
          exact g
theorem VDn.at {A : Addr → Prop} {v : V} (w : VDn Γ r es) (hH : Holds (kc X) F Γ σ H) (h : RvOk (kc X) F Γ σ H A v r) : ∃ y xs, v = .ref y ∧ H y = some (dctO X.prog X.w y xs) ∧ Paired (EntOk (kc X) F) es xs := by
  cases w with
  | dat =>
    have h : Rep (kc X) F v (.dct true (es.map (·.1)) (es.map (·.2))) := h
    cases h with
    | dctN e h1 h2 r r2 => exact ⟨_, _, rfl, hH.le _ _ e, ents_of h1 h2 r r2⟩
  | own =>
    obtain ⟨x, ho, e, h1, _, ⟨xs, rfl, k1, k2, r, r2⟩, _⟩ := h
    exact ⟨x, xs, e, h1, ents_of k1 k2 r r2⟩
  | bor hi =>
    obtain ⟨x, ho, e, _, h1, _, xs, rfl, k1, k2, r, r2⟩ := hH.own hi
    have h : σ[_]? = some (some v) := h
    rw [h] at e; cases e
    exact ⟨x, xs, rfl, h1, ents_of k1 k2 r r2⟩
/-- k in d -/
def rInN (X : Cx) (neg : Bool) : R2 := fun x z H Q => ∃ F b y es xs kd, x = .ref b ∧ z = .ref y ∧ Le F H ∧ H y = some (dctO X.prog X.w y xs) ∧ Paired (EntOk (kc X) F) es xs ∧ kd.isKey = true ∧ Rep (kc X) F (.ref b) kd ∧ Q (.bl (if neg then !(dGetD es kd.nk).isSome else (dGetD es kd.nk).isSome)) H
theorem op_inN (hu : X.A.units + 9 < cLine) : OpR X (compareOp .In) (rInN X false) := by
  intro pins s σ H x z v u Q I rx rz h
  obtain ⟨F, b, y, es, xs, kd, rfl, rfl, l, e, pe, hk, hb, q⟩ := h
  cases (show v = Value.ref b from rx)
  cases (show u = Value.ref y from rz)
  obtain ⟨raw, pr, hz, hd, dd⟩ := dn_raw I l e pe
  refine wpAny_in_heap (by show X.A.units + 1 + 8 < cLine; omega) (key_is I l hk hb) hd dd ⟨.bl _, H, I.tok _, ?_, q⟩
  show Value.bool _ = Value.bool _
  rcases dn_find (n := kd.nk) pe pr with ⟨h1, h2⟩ | ⟨p, d0, v0, h1, h2, _, _⟩ <;> rw [h1, h2] <;> rfl
theorem op_ninN (hu : X.A.units + 9 < cLine) : OpR X (compareOp .NotIn) (rInN X true) := by
  intro pins s σ H x z v u Q I rx rz h
  obtain ⟨F, b, y, es, xs, kd, rfl, rfl, l, e, pe, hk, hb, q⟩ := h
  cases (show v = Value.ref b from rx)
  cases (show u = Value.ref y from rz)
  obtain ⟨raw, pr, hz, hd, dd⟩ := dn_raw I l e pe
  refine wpAny_notIn_heap (by show X.A.units + 1 + 8 < cLine; omega) (key_is I l hk hb) hd dd ⟨.bl _, H, I.tok _, ?_, q⟩
  show Value.bool _ = Value.bool _
  rcases dn_find (n := kd.nk) pe pr with ⟨h1, h2⟩ | ⟨p, d0, v0, h1, h2, _, _⟩ <;> rw [h1, h2] <;> rfl
theorem o2inN {neg : Bool} (w : VDn Γ2 rb es) (hk : kd.isKey = true) : Op2 (kc X) Γ2 (.dat kd) rb (.dat (.bl (if neg then !(dGetD es kd.nk).isSome else (dGetD es kd.nk).isSome))) (rInN X neg) :=
  fun F σ H A x z Q hH hx hz q => by
    obtain ⟨y, xs, rfl, e, pe⟩ := w.at hH hz
    cases kd with
    | tup ds =>
      obtain ⟨b, vs, rfl, s, t⟩ := Rep.tup_at hx
      exact ⟨F, b, y, es, xs, _, rfl, rfl, hH.le, e, pe, hk, hx, q F H _ (.refl hH) (.bl _)⟩
    | _ => cases hk
theorem ev_inN (hu : X.A.units + 9 < cLine) (hk : kd.isKey = true) (ha : EV X Γ a (.dat kd) Γ1) (hb : EV X Γ1 b rb Γ2) (w : VDn Γ2 rb es) (hm : behindInMarks .In b = false := by rfl) : EV X Γ (.Compare a [.In] [b] pos) (.dat (.bl (dGetD es kd.nk).isSome)) Γ2 := ev_cmp (op_inN hu) hm (o2inN (neg := false) w hk) ha hb
theorem tv_inN (hu : X.A.units + 9 < cLine) (hk : kd.isKey = true) (ha : EV X Γ a (.dat kd) Γ1) (hb : EV X Γ1 b rb Γ2) (w : VDn Γ2 rb es) (hm : behindInMarks .In b = false := by rfl) : TV X Γ (.Compare a [.In] [b] pos) (dGetD es kd.nk).isSome Γ2 := tv_cmp (op_inN hu) hm (o2inN (neg := false) w hk) ha hb
theorem ev_ninN (hu : X.A.units + 9 < cLine) (hk : kd.isKey = true) (ha : EV X Γ a (.dat kd) Γ1) (hb : EV X Γ1 b rb Γ2) (w : VDn Γ2 rb es) (hm : behindInMarks .NotIn b = false := by rfl) : EV X Γ (.Compare a [.NotIn] [b] pos) (.dat (.bl (!(dGetD es kd.nk).isSome))) Γ2 := ev_cmp (op_ninN hu) hm (o2inN (neg := true) w hk) ha hb
theorem tv_ninN (hu : X.A.units + 9 < cLine) (hk : kd.isKey = true) (ha : EV X Γ a (.dat kd) Γ1) (hb : EV X Γ1 b rb Γ2) (w : VDn Γ2 rb es) (hm : behindInMarks .NotIn b = false := by rfl) : TV X Γ (.Compare a [.NotIn] [b] pos) (!(dGetD es kd.nk).isSome) Γ2 := tv_cmp (op_ninN hu) hm (o2inN (neg := true) w hk) ha hb
/-- a store into such a dict -/
theorem dn_store {A : Around} {E : Value → Shared → Prop} {kv : Addr} {v : V} {u : Value} {Q : Unit → Shared → Prop} (hu : A.units + 9 < cLine) (I : Inv X pins σ H s) (l : Le F H) (fy : F y = none) (e : H y = some (dctO X.prog X.w y xs)) (pe : Paired (EntOk (kc X) F) es xs) (hk : kd.isKey = true) (hb : Rep (kc X) F (.ref kv) kd) (hv : Rep (kc X) F v d) (ru : RelV v u) (hz : xs.length < sizeLine)
    (h : ∀ s' xs', Paired (EntOk (kc X) F) (dPutD es kd d) xs' → Inv X pins σ (upd H y (dctO X.prog X.w y xs')) s' → Q () s') : wpAny (model X.prog X.w) A (setItem (.ref y) (.ref kv) u) Q E s := by
  obtain ⟨raw, pr, hz', hd, dd⟩ := dn_raw I l e pe
  obtain ⟨xs', k1, k2, k3⟩ := dn_put hk hb hv ru pe pr
  have hz2 : raw.length ≤ sizeLine := by rw [← Paired.length pr]; omega
  refine wpAny_setItem_heap (hsz := hz2) (by show A.units + 1 + 8 < cLine; omega) (key_is I l hk hb) dd fun h' dd' hs => h _ xs' k1 ?_
  obtain ⟨o, es', ep, g1, g2, g3, g4, _, g5⟩ := dd'
  refine d_write I (by rw [e]; exact True.intro) hs ⟨o, g1⟩ ⟨⟨by omega, hd, _, k2, o, es', ep, g1, g2, g3, g4, g5⟩, ⟨o, g1⟩, fun h1 h2 hh st => ?_⟩
  obtain ⟨q1, q2, q3, q4, o2, e2, p2, g1, g2⟩ := hh
  exact ⟨q1, q2, q3, q4, o2, e2, p2, st _ g1, g2⟩
/-- d[k] = v, d in a slot of its own -/
theorem st_putN {S L R : Type} {G : S → Env'} {Lp : L → Env'} {Kr : R → Rv × Env'} {st : S} {x : Str} {k : Nat} {ao : Option Addr} {i : Expr} {p' : Pos} (hu : X.A.units + 9 < cLine) (hv : PE X (.Name x px) (tVar k)) (he : EV X Γ e (.dat d) Γ1) (hi : EV X Γ1 i (.dat kd) Γ2) (hk1 : Γ1[k]? = some (.own ao (.dN (es.map (·.1)) (es.map (·.2))))) (hk2 : Γ2[k]? = some (.own ao (.dN (es.map (·.1)) (es.map (·.2))))) (hk : kd.isKey = true) (hz : es.length < sizeLine)
    (w : Weak (Γ2.set k (.own ao (.dN ((dPutD es kd d).map (·.1)) ((dPutD es kd d).map (·.2))))) (G st)) (hs : swapsWith e (some (.Subscript (.Name x px) i p')) pos.line X.env = pure false := by rfl) : ST X Xe Γ (.Assign [.Subscript (.Name x px) i p'] e pos) G Lp Kr (.next st) := by
  refine ⟨fun pins s σ H D I ⟨F, hH, q⟩ => ?_⟩
  refine wpAny_Assign_Subscript (thn (he.run pins s σ H (fun v H1 => ∃ F1, Post (kc X) Γ σ F H Γ1 σ F1 H1 ∧ Rep (kc X) F1 v d) I ⟨F, hH, fun F1 H1 v p1 hv => ⟨F1, p1, hv⟩⟩) fun r s1 ⟨v, H1, I1, rv, F1, p1, v1⟩ => ?_) hs
  obtain ⟨y0, ho0, f1, f2, f3, f4, f5⟩ := p1.ok.own hk1
  refine thn (hv.run pins s1 σ H1 (fun v' H2 => v' = .ref y0 ∧ H2 = H1) I1 ⟨_, f1, rfl, rfl⟩) fun u2 s2 ⟨v2, H2, I2, rv2, e1, e2⟩ => ?_
  subst e1 e2
  cases (show u2 = Value.ref y0 from rv2)
  refine thn (hi.run pins s2 σ H2 (fun z H3 => ∃ F3, Post (kc X) Γ1 σ F1 H2 Γ2 σ F3 H3 ∧ Rep (kc X) F3 z kd) I2 ⟨F1, p1.ok, fun F3 H3 z p3 hz => ⟨F3, p3, hz⟩⟩) fun u3 s3 ⟨z, H3, I3, rz, F3, p3, z3⟩ => ?_
  obtain ⟨y1, ho1, g1, g2, g3, g4, xs, rfl, h1, h2, r1, r2⟩ := p3.ok.own hk2
  rw [f1] at g1; cases g1
  cases kd with
  | tup ds =>
    obtain ⟨kv, vs, rfl, _, _⟩ := Rep.tup_at z3
    cases (show u3 = Value.ref kv from rz)
    have pe := ents_of h1 h2 r1 r2
    refine dn_store hu I3 p3.ok.le g4 g3 pe hk z3 (v1.mono p3.ext.mono) rv (by rw [← Paired.length pe]; exact hz) fun s4 xs' k1 I4 => ⟨σ, _, I4, ?_⟩
    obtain ⟨e1, e2, e3, e4⟩ := ents_to k1
    have p4 := Post.write p3.ok hk2 f1 (c' := .dN ((dPutD es (.tup ds) d).map (·.1)) ((dPutD es (.tup ds) d).map (·.2))) (o := dctO X.prog X.w y0 xs') ⟨xs', rfl, e1, e2, e3, e4⟩
    exact q F3 _ σ (((p1.trans p3).trans p4).weak w)
  | _ => cases hk
/-- {} whose keys will be tuples -/
theorem ev_newN : EV X Γ (.Dict [] [] pos) (.own (.dN [] [])) Γ := by
  refine ⟨fun pins s σ H Q I ⟨F, hH, q⟩ => wpAny_Dict_empty ⟨.ref s.heap.objs.size, upd H s.heap.objs.size (dctO X.prog X.w s.heap.objs.size []), ?_, rfl, ?_⟩⟩
  · have e1 : (s.heap.push ({ cls := .type "dict", data := .dict #[] } : Obj)).get? s.heap.objs.size = some { cls := .type "dict", data := .dict #[] } := Heap.get?_push_size _ rfl
    obtain ⟨o, es', ep, g1, g2, g3, g4, _, g5⟩ := Heap.DictOfH.new (knd := nestedKind X.prog X.w) s.heap
    refine I.laid (a := s.heap.objs.size) (t' := s.toks) (fun _ _ q => Heap.get?_push_of_some _ q) (Nat.le_refl _) ⟨⟨Nat.zero_le _, ?_, [], .nil, o, es', ep, g1, g2, g3, g4, g5⟩, ⟨_, e1⟩, fun h1 h2 hh st => ?_⟩
    · exact beq_eq_false_iff_ne.mpr (Nat.ne_of_gt I.big)
    · obtain ⟨q1, q2, q3, q4, o2, e2, p2, g1, g2⟩ := hh
      exact ⟨q1, q2, q3, q4, o2, e2, p2, st _ g1, g2⟩
  · have hn : H s.heap.objs.size = none := I.hok.fresh (Nat.le_refl _)
    have p1 := Post.new hH hn (dctO X.prog X.w s.heap.objs.size [])
    exact q F _ _ p1 ⟨_, _, rfl, upd_same, hH.free hn, ⟨[], rfl, (fun k h => nomatch h), rfl, .nil, .nil⟩, fun z => hH.notOwned hn z, .inr hn⟩
end
end PD
namespace PD
open PySem PySem.Spec PyProof.Rows L2
/-! ### sorted(d), list(d), tuple(d) of a dict whose keys are tuples -/
section
variable {X : Cx} {Xe Γ Γ1 Γ2 Γ3 : Env'} {e a b c o : Expr} {pos p px apos : Pos} {r ra rb rc rv : Rv} {d kd : D} {es : List (D × D)} {pins : List (Addr × Obj)} {σ : L2.St} {H F : Hp} {s : Shared} {y : Addr} {xs : List (NestedKey × Addr × V)} {raw : List (NestedKey × Addr × Value)}
open PySem.W in
/-- what the keys read as -/
theorem dn_each (I : Inv X pins σ H s) (l : Le F H) (e : H y = some (dctO X.prog X.w y xs)) (pe : Paired (EntOk (kc X) F) es xs) {A : Around} {E : Value → Shared → Prop} {R : List Value → Shared → Prop} (hh : A.handled = none)
    (h : ∀ (h' : Heap) (tk : Nat) (its : List Value), (∀ b o, s.heap.get? b = some o → h'.get? b = some o) → EachIs (fun u d => ∃ v, RelV v u ∧ Rep (kc X) F v d) its (es.map (·.1)) → its.length ≤ sizeLine → R its { s with heap := h', toks := tk }) :
    wpAny (model X.prog X.w) A (collect (.ref y)) R E s := by
  obtain ⟨raw, pr, hz, hd, dd⟩ := dn_raw I l e pe
  obtain ⟨o, es', ep, g1, g2, g3, g4, _, g5⟩ := dd
  have hraw : s.heap.DictRaw y es' ep := ⟨o, g1, g2, g3⟩
  have hl : es'.size = xs.length := by
    rw [← Array.length_toList, g4, List.length_map, Paired.length pr]
  refine PySem.W.kdu_collect (KdlSrc.rawDict (es := es') (ep := ep) hd) hh hraw (by omega) fun h' tk acc hk hacc => ?_
  refine h h' tk acc.toList hk ?_ (by rw [Array.length_toList, hacc.1]; omega)
  -- the keys' tuples
  have hkeys : acc.toList = xs.map fun x => Value.ref x.2.1 := by
    apply List.ext_getElem
    · rw [Array.length_toList, hacc.1, List.length_map]; exact hl
    · intro i h1 h2
      obtain ⟨hi, e1⟩ := hacc.2 i acc.toList[i] (by rw [← Array.getElem?_toList]; exact List.getElem?_eq_getElem h1)
      rw [e1]
      have e2 : es'.toList[i]? = some es'[i] := by rw [Array.getElem?_toList]; exact Array.getElem?_eq_getElem hi
      rw [g4, List.getElem?_map] at e2
      have h3 : i < xs.length := by simpa using h2
      obtain ⟨q, hq, rq⟩ := paired_getL pr (List.getElem?_eq_getElem h3)
      rw [hq] at e2
      have e2 := Option.some.inj e2
      rw [← e2, List.getElem_map]
      show Value.ref q.2.1 = _
      rw [← rq.2.1]
  rw [hkeys]
  clear hkeys hacc g4 hl hz pr hraw e h
  induction pe with
  | nil => exact .nil
  | @cons e x es xs g t ih => exact .cons ⟨.ref x.2.1, rfl, g.2.2.1⟩ ih
open PySem.W in
/-- sorted of anything whose items are collected so -/
theorem sort_tail (hu : X.A.units + 64 < cLine) {v : Value} {ds : List D} {Q : VK} (I : Inv X pins σ H s) (hF : Le F H) (hal : PySem.W.AllAlike (ds.map D.py)) (hk : PySem.W.Sortable (ds.map D.py)) (hdep : ∀ d ∈ ds, d.py.depth ≤ 50) (hpl : ∀ d ∈ ds, d.plain = true)
    (q : ∀ l ws, H l = none → RepL (kc X) F ws (ds.mergeSort leD) → Q (.ref l) (upd H l (.lst ws)))
    (hcol : ∀ {A : Around} {E : Value → Shared → Prop} {R : List Value → Shared → Prop}, A.handled = X.A.handled → (∀ (h' : Heap) (tk : Nat) (its : List Value), (∀ b o, s.heap.get? b = some o → h'.get? b = some o) → EachIs (fun u d => ∃ v, RelV v u ∧ Rep (kc X) F v d) its ds → its.length ≤ sizeLine → R its { s with heap := h', toks := tk }) → wpAny (model X.prog X.w) A (collect v) R E s) :
    wpAny (model X.prog X.w) X.A (call (.builtin "sorted") [v]) (EP X pins σ Q) X.xe s := by
  refine Calls.call_function_entry kind_sorted plain_sorted entry_sorted (args_sorted1 _) ?_
  unfold Builtin.«sorted»
  refine wpAny_bind (m := checkCount "sorted" 1 1 _) (wpAny_pure ?_)
  refine wpAny_bind (hcol rfl fun h' tk its kh e0 hz' => ?_)
  refine wpAny_bind (wpAny_newList ?_ hz')
  have I1 : Inv X pins σ H { s with heap := h', toks := tk } := I.kept (t' := tk) kh
  have hoL : (h'.push (seqObj "list" its.toArray 0)).get? h'.objs.size = some (seqObj "list" its.toArray 0) := Heap.get?_push_size _ rfl
  have kp : ∀ b ob, s.heap.get? b = some ob → (h'.push (seqObj "list" its.toArray 0)).get? b = some ob := fun b ob e => Heap.get?_push_of_some _ (kh b ob e)
  show wpAny _ _ _ _ _ { s with heap := h'.push (seqObj "list" its.toArray 0), toks := tk }
  have er : EachIs (fun u d => ∃ as, Reads s.heap u (D.py d) as) its ds := (PySem.W.each_mem e0).mono fun u d ⟨⟨v, r1, r2⟩, hd⟩ => Dp.reads I _ v u (Rep.dp hF (hpl d hd) r2) r1
  have er' : EachIs (fun u d => ∃ as, Reads (sortingHeap (h'.push (seqObj "list" its.toArray 0)) h'.objs.size its) u (D.py d) as) its ds := er.mono fun u d ⟨as, rr⟩ => ⟨as, PyProof.Rows.Reads.keeps (fun b ob e => by
    have hb : b ≠ h'.objs.size := Nat.ne_of_lt (Heap.lt_size (kh b ob e))
    exact sortingHeap_old hb (kp b ob e)) rr⟩
  refine wpAny_bind (wpAny_holding (wpAny_call_entry slot_list_sort ⟨_, hoL, rfl⟩ entry_list_sort (list_sort_vals (κ := PySem.W.dataKind (sortingHeap (h'.push (seqObj "list" its.toArray 0)) h'.objs.size its) (ds.map D.py)) hoL
    (SortsAt.data (s := { s with heap := sortingHeap (h'.push (seqObj "list" its.toArray 0)) h'.objs.size its, toks := tk }) (PySem.W.each_map (R := fun v d => ∃ as, Reads (sortingHeap (h'.push (seqObj "list" its.toArray 0)) h'.objs.size its) v d as) D.py er') hal hk (fun d hd => ?_)) hz' ⟨_, rfl, ?_⟩) (args_list_sort _)))
  · obtain ⟨b, hb, rfl⟩ := List.mem_map.mp hd
    have := hdep b hb
    show X.A.units + 1 + 1 + b.py.depth < cLine
    omega
  refine wpAny_pure ⟨_, rfl, ?_⟩
  have out := PySem.W.sortVals_data (h' := sortingHeap (h'.push (seqObj "list" its.toArray 0)) h'.objs.size its) false e0 er' hal
  have hsrt : PySem.W.dataLe false D.py = leD := by funext a b; rfl
  rw [hsrt] at out
  generalize hov : sortVals (PySem.W.dataKind (sortingHeap (h'.push (seqObj "list" its.toArray 0)) h'.objs.size its) (ds.map D.py)) false its its = ov at out
  have hlen : ov.length = its.length := by rw [← hov]; exact PySem.W.sortVals_length false rfl
  have back : ∀ {us : List Value} {es : List D}, EachIs (fun u d => ∃ v, RelV v u ∧ Rep (kc X) F v d) us es → ∃ ws, Vals ws us ∧ RepL (kc X) F ws es := by
    intro us es h
    induction h with
    | nil => exact ⟨[], .nil, .nil⟩
    | cons h1 _ ih =>
      obtain ⟨v, r1, r2⟩ := h1
      obtain ⟨ws, h1, h2⟩ := ih
      exact ⟨v :: ws, .cons r1 h1, .cons r2 h2⟩
  obtain ⟨ws, w1, w2⟩ := back out
  obtain ⟨ep, hat⟩ := sortedHeap_at (out := ov.toArray) hoL
  refine ⟨.ref h'.objs.size, _, I1.laid (t' := tk) (o := .lst ws) (fun b ob e => ?_) (Nat.le_refl _) ?_, rfl, q h'.objs.size ws (I1.hok.fresh (Nat.le_refl _)) w2⟩
  · have hb : b < h'.objs.size := Heap.lt_size e
    exact (sortedHeap_old (Nat.ne_of_lt hb) (by rw [size_push']; exact Nat.lt_succ_of_lt hb)).trans (Heap.get?_push_of_some _ e)
  · exact ⟨by rw [w1.length, hlen]; exact hz', ov, ep, w1, hat⟩
/-- sorted(d) -/
def rSortN (X : Cx) : List V → Hp → VK → Prop := fun ws H Q => ∃ y F es xs, ws = [.ref y] ∧ Le F H ∧ H y = some (dctO X.prog X.w y xs) ∧ Paired (EntOk (kc X) F) es xs ∧ PySem.W.AllAlike ((es.map (·.1)).map D.py) ∧ PySem.W.Sortable ((es.map (·.1)).map D.py) ∧ (∀ d ∈ es.map (·.1), d.py.depth ≤ 50) ∧ (∀ d ∈ es.map (·.1), d.plain = true) ∧
  ∀ l ws, H l = none → RepL (kc X) F ws ((es.map (·.1)).mergeSort leD) → Q (.ref l) (upd H l (.lst ws))
theorem call_sortN (hu : X.A.units + 64 < cLine) (hc : X.calm = true) : CallR X (.builtin "sorted") (rSortN X) := by
  intro pins s σ H ws us Q I r ⟨y, F, es, xs, e0, l, e, pe, hal, hk, hdep, hpl, q⟩
  subst e0
  obtain ⟨u, eu, rx⟩ := vals1 r
  subst eu
  cases (show u = Value.ref y from rx)
  exact sort_tail hu I l hal hk hdep hpl q fun hA h => dn_each I l e pe (hA.trans (I.ok.hd hc)) h
theorem ev_sortedN (hu : X.A.units + 64 < cLine) (hc : X.calm = true) (hg : Gl X "sorted") (hm : X.mg "sorted" = none) (w : VDn Γ1 r es) (hal : PySem.W.AllAlike ((es.map (·.1)).map D.py)) (hk : PySem.W.Sortable ((es.map (·.1)).map D.py)) (hdep : ∀ d ∈ es.map (·.1), d.py.depth ≤ 50) (hpl : ∀ d ∈ es.map (·.1), d.plain = true) (ha : EV X Γ a r Γ1)
    (hs : starEach [a] X.env = (false, eval a X.env) :: starEach [] X.env := by rfl) : EV X Γ (.Call (.Name "sorted" p) [a] [] pos) (.own (.lst ((es.map (·.1)).mergeSort leD))) Γ1 :=
  ev_callB (call_sortN hu hc) hg hm (by decide +kernel) (fun F σ H A vs Q hH hv q => by
    cases hv with
    | cons h t =>
      cases t
      obtain ⟨y, xs, rfl, e, pe⟩ := w.at hH h
      exact ⟨y, F, es, xs, rfl, hH.le, e, pe, hal, hk, hdep, hpl, fun l ws' hl rw' => new_list (.refl hH) rw' hl q⟩) (av_cons ha av_nil hs) (by decide) (by decide) hs rfl
end
end PD
namespace PD
open PySem PySem.Spec PyProof.Rows L2
/-! ### a dict comprehension whose keys are tuples -/
section
variable {X : Cx} {pins : List (Addr × Obj)} {σ : L2.St} {H F : Hp} {s : Shared} {y : Addr} {xs : List (NestedKey × Addr × V)} {es : List (D × D)} {kd d : D}
theorem dctO_new (I : Inv X pins σ H s) (h : Heap) (hb : s.heap.objs.size ≤ h.objs.size) : ObjOk X.prog X.w H (h.push { cls := .type "dict", data := .dict #[] }) h.objs.size (dctO X.prog X.w h.objs.size []) := by
  obtain ⟨o, es', ep, g1, g2, g3, g4, _, g5⟩ := Heap.DictOfH.new (knd := nestedKind X.prog X.w) h
  refine ⟨⟨Nat.zero_le _, beq_eq_false_iff_ne.mpr (Nat.ne_of_gt (Nat.lt_of_lt_of_le I.big hb)), [], .nil, o, es', ep, g1, g2, g3, g4, g5⟩, ⟨o, g1⟩, fun h1 h2 hh st => ?_⟩
  obtain ⟨q1, q2, q3, q4, o2, e2, p2, k1, k2⟩ := hh
  exact ⟨q1, q2, q3, q4, o2, e2, p2, st _ k1, k2⟩
theorem dn_set {E : Value → Shared → Prop} {kv : Addr} {v : V} {u : Value} {Q : Unit → Shared → Prop} (hu : X.A.units + 9 < cLine) (I : Inv X pins σ H s) (l : Le F H) (e : H y = some (dctO X.prog X.w y xs)) (pe : Paired (EntOk (kc X) F) es xs) (hk : kd.isKey = true) (hb : Rep (kc X) F (.ref kv) kd) (hv : Rep (kc X) F v d) (ru : RelV v u) (hz : xs.length < sizeLine)
    (h : ∀ s' xs', Paired (EntOk (kc X) F) (dPutD es kd d) xs' → Inv X pins σ (upd H y (dctO X.prog X.w y xs')) s' → Q () s') : wpAny (model X.prog X.w) X.A (dictSet y (.ref kv) u) Q E s := by
  obtain ⟨raw, pr, hz', hd, dd⟩ := dn_raw I l e pe
  obtain ⟨xs', k1, k2, k3⟩ := dn_put hk hb hv ru pe pr
  refine wpAny_dictSet_heap (hsz := by rw [← Paired.length pr]; omega) (by show X.A.units + 8 < cLine; omega) (key_is I l hk hb) dd fun h' dd' hs => h _ xs' k1 ?_
  obtain ⟨o, es', ep, g1, g2, g3, g4, _, g5⟩ := dd'
  refine d_write I (by rw [e]; exact True.intro) hs ⟨o, g1⟩ ⟨⟨by omega, hd, _, k2, o, es', ep, g1, g2, g3, g4, g5⟩, ⟨o, g1⟩, fun h1 h2 hh st => ?_⟩
  obtain ⟨q1, q2, q3, q4, o2, e2, p2, k1, k2⟩ := hh
  exact ⟨q1, q2, q3, q4, o2, e2, p2, st _ k1, k2⟩
/-- {k: v for target in iter if ..}: n the new dict -/
def tDn (X : Cx) (wi : TI) (g : TG) (tt : TT) (tk tv : TE) (vs : List Nat) : TE := fun σ H Q => wi σ H fun J H1 => ∀ n, H1 n = none → ∃ W : Nat → Nat → Hp → Prop, (∃ m, W 0 m (upd H1 n (dctO X.prog X.w n []))) ∧ ∀ i m H, W i m H →
  (J.stop i H ∧ Q (.ref n) H) ∨ (J.go i H ∧ ∃ Nx : Hp → Prop, (∀ H', Nx H' → ∃ m', m' < m ∧ W (i + 1) m' H') ∧ ∀ x H', J.yld i H x H' → g x (wipe σ vs) H' fun σ2 H2 => wipe σ2 vs = wipe σ vs ∧ tt σ2 H2 fun b H3 =>
    if b = true then tk σ2 H3 fun z H4 => tv σ2 H4 fun v H5 => ∃ F kv kd d es xs, z = .ref kv ∧ Le F H5 ∧ H5 n = some (dctO X.prog X.w n xs) ∧ Paired (EntOk (kc X) F) es xs ∧ kd.isKey = true ∧ Rep (kc X) F (.ref kv) kd ∧ Rep (kc X) F v d ∧ xs.length < sizeLine ∧
      ∀ xs', Paired (EntOk (kc X) F) (dPutD es kd d) xs' → Nx (upd H5 n (dctO X.prog X.w n xs')) else Nx H3)
theorem dcn_core {Q : VK} {kx vx tg iter : Expr} {ifs : List Expr} {scope : Scope} {own : List (Str × Nat)} {pos pos' : Pos} {wi : TI} {g : TG} {tt : TT} {tk tv : TE} {use : Option (Value → Sem Unit)} {Qf : Value → Shared → Prop}
    (hu : X.A.units + 9 < cLine) (hc : X.calm = true) (hN : X.N.Nodup) (I : Inv X pins σ H s) (hi : PI X tg iter wi) (ok : BlkOk X.N X.env.scope scope own)
    (hg : ∀ s H C cl fp, PG (X.blk s H scope (compEnvC scope cl C X.env) fp) tg g) (ht : ∀ s H C cl fp, PTs (X.blk s H scope (compEnvC scope cl C X.env) fp) ifs tt) (hk : ∀ s H C cl fp, PE (X.blk s H scope (compEnvC scope cl C X.env) fp) kx tk) (he : ∀ s H C cl fp, PE (X.blk s H scope (compEnvC scope cl C X.env) fp) vx tv) (hs : ∀ x, foldedSetIterable iter X.env x = pure x)
    (h : tDn X wi g tt tk tv (own.map (·.2)) σ H Q)
    (hRR : ∀ n C s' m H', Inv X pins σ H' s' → Q (.ref n) H' → s'.heap.Ns C m → FpOk X pins H' C → compPost (model X.prog X.w) X.A X.xe use Qf (.ref n) C (.ok .next) s') :
    wpAny (model X.prog X.w) X.A (comprehension (.DictComp kx vx [⟨tg, iter, ifs, 0⟩] scope pos) scope X.env pos' newDict false (eval iter X.env) use) Qf X.xe s := by
  have free : ∀ y ∈ scope.names, y.2 = .free → ∃ c, X.env.cells.lookup y.1 = some c := fun y hy e => (ok.free y hy e).elim (fun k => I.ok.has _ (.inl k)) fun k => I.ok.has _ (.inr k)
  refine wpAny_comprehension_free (use := use) rfl hs (closure_ok free) ok.kind (fun y hy e => by rw [ok.uniq y hy, e]) (thn (hi.run pins s σ H _ I h) fun xv sa hx => thn hx fun itv sb hb2 => ?_)
  obtain ⟨it, fp, tn, J, Hb, e, Ib, T, stb, fb, q⟩ := hb2
  subst e
  refine wpAny_newObj_type (newEnv_comp ?_)
  generalize hn : sb.heap.objs.size = n
  have nn : Hb n = none := Ib.hok.fresh (Nat.le_of_eq hn)
  obtain ⟨W, ⟨m0, w0⟩, turn⟩ := q n nn
  -- the new dict
  generalize hsc : ({ sb with heap := sb.heap.push { cls := .type "dict", data := .dict #[] } } : Shared) = sc
  have Ic : Inv X pins σ (upd Hb n (dctO X.prog X.w n [])) sc := by
    rw [← hsc]
    refine Ib.laid (t' := sb.toks) (fun b o e => Heap.get?_push_of_some _ e) (Nat.le_of_eq hn) ?_
    rw [← hn]
    exact dctO_new Ib sb.heap (Nat.le_refl _)
  have ec : sc.heap = sb.heap.push { cls := .type "dict", data := .dict #[] } := by rw [← hsc]
  have old : ∀ b ∈ fp, b < sb.heap.objs.size := fun b hb => by
    obtain ⟨o, e, _⟩ := T.obj _ _ stb b hb
    exact Heap.lt_size e
  have fc : ∀ b ∈ fp, FpOk X pins (upd Hb n (dctO X.prog X.w n [])) b ∧ b < sc.heap.objs.size := fun b hb => by
    have lt := old b hb
    refine ⟨⟨?_, (fb b hb).2⟩, by rw [ec, Heap.size_push]; exact Nat.lt_succ_of_lt lt⟩
    rw [upd_ne (by rw [← hn]; exact Nat.ne_of_lt lt)]
    exact (fb b hb).1
  have stc : tn 0 sc.heap := T.keep _ _ _ stb fun b _ o e => by rw [ec]; exact Heap.get?_push_of_some _ e
  have Id := block_start Ic ok hN fc
  have pg := hg sc (upd Hb n (dctO X.prog X.w n [])) sc.heap.objs.size (cellsFrom (sc.heap.objs.size + 1) scope.names (cloFrom X.env.cells scope.names [])) fp
  have pt := ht sc (upd Hb n (dctO X.prog X.w n [])) sc.heap.objs.size (cellsFrom (sc.heap.objs.size + 1) scope.names (cloFrom X.env.cells scope.names [])) fp
  have pk := hk sc (upd Hb n (dctO X.prog X.w n [])) sc.heap.objs.size (cellsFrom (sc.heap.objs.size + 1) scope.names (cloFrom X.env.cells scope.names [])) fp
  have pv := he sc (upd Hb n (dctO X.prog X.w n [])) sc.heap.objs.size (cellsFrom (sc.heap.objs.size + 1) scope.names (cloFrom X.env.cells scope.names [])) fp
  show codeAny _ _ (.compStart (.DictComp kx vx [⟨tg, iter, ifs, 0⟩] scope pos) 0 (.ref it) (.ref n) (compEnvC scope (cellsFrom (sc.heap.objs.size + 1) scope.names (cloFrom X.env.cells scope.names [])) sc.heap.objs.size X.env)) (compPost (model X.prog X.w) X.A X.xe use Qf (.ref n) sc.heap.objs.size) { sc with heap := pushCells (sc.heap.push { cls := .type "dict", data := .dict #[] }) scope.names }
  have nfp : ∀ b ∈ fp, (upd Hb n (dctO X.prog X.w n [])) b = none := fun b hb => (fc b hb).1.1
  generalize hce : compEnvC scope (cellsFrom (sc.heap.objs.size + 1) scope.names (cloFrom X.env.cells scope.names [])) sc.heap.objs.size X.env = ce at Id pg pt pk pv ⊢
  have cL : ce.locals = sc.heap.objs.size := by subst hce; rfl
  generalize hHc : upd Hb n (dctO X.prog X.w n []) = Hc at Ic Id pg pt pk pv w0 nfp fc
  generalize hsd : ({ sc with heap := pushCells (sc.heap.push { cls := .type "dict", data := .dict #[] }) scope.names } : Shared) = sd at Id ⊢
  have std : tn 0 sd.heap := T.keep _ _ _ stc fun b _ o e => by rw [← hsd]; exact pushCells_keeps _ _ _ _ (Heap.get?_push_of_some _ e)
  have stat : ∀ {τ : L2.St} {H' : Hp} {s' : Shared}, Inv (X.blk sc Hc scope ce fp) [] τ H' s' → (∀ b ∈ fp, H' b = none) → ∀ b ∈ fp, FpOk (X.blk sc Hc scope ce fp) [] H' b := fun {τ H' s'} I' hn b hb =>
    ⟨hn b hb, (I'.ok.exf b hb).1, I'.ok.exfs b hb, .inl hb, fun x c e => (I'.ok.exf b hb).2 x c e, fun p hp => nomatch (show p ∈ ([] : List (Addr × Obj)) ++ [] from hp)⟩
  have loop : codeAny (model X.prog X.w) X.A (.compLoop (.DictComp kx vx [⟨tg, iter, ifs, 0⟩] scope pos) 0 (.ref it) (.ref n) ce) (compPost (model X.prog X.w) X.A X.xe use Qf (.ref n) sc.heap.objs.size) sd := by
    refine compLoop_anyD (fun j s' => ∃ i H', Inv (X.blk sc Hc scope ce fp) [] (wipe σ (own.map (·.2))) H' s' ∧ tn i s'.heap ∧ (∀ b ∈ fp, H' b = none) ∧ W i j H') ?_ m0 ⟨0, Hc, Id, std, nfp, w0⟩
    rintro j s5 ⟨i, H5, I5, st5, n5, w5⟩
    rcases turn i j H5 w5 with ⟨stop, qq⟩ | ⟨go, Nx, hNx, step⟩
    · refine thnF (T.done (X.blk sc Hc scope ce fp) rfl rfl rfl hc i [] s5 _ H5 (fun _ _ => False) I5 (stat I5 n5) st5 stop) fun r s6 ⟨hr, I6⟩ => ?_
      subst hr
      have I7 : Inv X pins σ H5 s6 := Ic.call' (ch := fp) I6.os I6.base I6.hok I6.bare fun b hb => ⟨(fc b hb).1.2.2.2.1, (fc b hb).1.2.1, (fc b hb).1.2.2.2.2.1, (fc b hb).1.2.2.2.2.2⟩
      have nC : H5 sc.heap.objs.size = none := by
        have z : H5 ce.locals = none := I6.free
        rwa [cL] at z
      obtain ⟨m, hn, _⟩ := I6.loc
      have hn : s6.heap.Ns ce.locals m := hn
      rw [cL] at hn
      exact hRR n sc.heap.objs.size s6 m H5 I7 qq hn (Ic.fpOk (Nat.le_refl _) nC)
    · refine thnF (T.item (X.blk sc Hc scope ce fp) rfl rfl rfl hc i [] s5 _ H5 (fun _ _ => False) I5 (stat I5 n5) st5 go) fun r s6 ⟨u, hr, h6⟩ => ?_
      subst hr
      refine thnF h6 fun _ s7 ⟨x, H7, I7, r7, y7, st7, n7⟩ => ?_
      refine thnF (pg.run _ s7 _ H7 x u _ (I7.pinned (stat I7 n7) (T.obj _ _ st7)) r7 (step x H7 y7)) fun _ s8 ⟨τ, H8, I8, hw8, q8⟩ => ?_
      refine thnF (pt.run _ s8 τ H8 _ I8 q8) fun b s9 ⟨H9, I9, q9⟩ => ?_
      -- the turn's end
      have fin : ∀ {s' : Shared} {H' : Hp}, Inv (X.blk sc Hc scope ce fp) ([] ++ pinsAt fp s7.heap) τ H' s' → Nx H' → ∃ m, m < j ∧ ∃ i H', Inv (X.blk sc Hc scope ce fp) [] (wipe σ (own.map (·.2))) H' s' ∧ tn i s'.heap ∧ (∀ b ∈ fp, H' b = none) ∧ W i m H' := fun {s' H'} I' nx => by
        obtain ⟨m', hm, w'⟩ := hNx H' nx
        have pin' : ∀ b ∈ fp, ∀ o, s7.heap.get? b = some o → s'.heap.get? b = some o ∧ H' b = none := fun b hb o e => by
          have z := I'.pin (b, o) (List.mem_append_right _ (List.mem_append_right _ (mem_pinsAt hb e)))
          exact ⟨z.1, z.2.1⟩
        refine ⟨m', hm, i + 1, H', (I'.unpinned (pins := [])).weak (by rw [← hw8, wipe_length]) (fun j v e => ?_), T.keep _ _ _ st7 fun b hb o e => (pin' b hb o e).1, fun b hb => ?_, w'⟩
        · rw [← hw8] at e
          exact (wipe_some e).1
        · obtain ⟨o, e, _⟩ := T.obj _ _ st7 b hb
          exact (pin' b hb o e).2
      cases b with
      | false => exact fin I9 q9
      | true =>
        have q9 := (if_pos rfl).mp q9
        show wpAny _ _ _ _ _ _
        refine thnF (pk.run _ s9 τ H9 _ I9 q9) fun z s10 ⟨yk, H10, I10, r10, q10⟩ => ?_
        refine thnF (pv.run _ s10 τ H10 _ I10 q10) fun z2 s11 ⟨yv, H11, I11, r11, F, kv, kd, d, es, xs, ek, l11, hD11, pe, hkd, rk, rv, hz11, nx⟩ => ?_
        subst ek
        cases (show z = Value.ref kv from r10)
        exact dn_set (X := X.blk sc Hc scope ce fp) (F := F) (es := es) (kd := kd) (d := d) hu I11 l11 hD11 pe hkd rk rv r11 hz11 fun s12 xs' k1 I12 => fin I12 (nx xs' k1)
  exact codeAny_compStart_dict loop (T.self X.A 0 _ _ _ std loop)
theorem pe_dcn {kx vx tg iter : Expr} {ifs : List Expr} {scope : Scope} {own : List (Str × Nat)} {pos : Pos} {wi : TI} {g : TG} {tt : TT} {tk tv : TE} (hu : X.A.units + 9 < cLine) (hc : X.calm = true) (hN : X.N.Nodup) (hi : PI X tg iter wi) (ok : BlkOk X.N X.env.scope scope own)
    (hg : ∀ s H C cl fp, PG (X.blk s H scope (compEnvC scope cl C X.env) fp) tg g) (ht : ∀ s H C cl fp, PTs (X.blk s H scope (compEnvC scope cl C X.env) fp) ifs tt) (hk : ∀ s H C cl fp, PE (X.blk s H scope (compEnvC scope cl C X.env) fp) kx tk) (he : ∀ s H C cl fp, PE (X.blk s H scope (compEnvC scope cl C X.env) fp) vx tv) (hs : ∀ x, foldedSetIterable iter X.env x = pure x := by intro _; rfl) :
    PE X (.DictComp kx vx [⟨tg, iter, ifs, 0⟩] scope pos) (tDn X wi g tt tk tv (own.map (·.2))) := by
  refine ⟨fun pins s σ H Q I h => ?_⟩
  rw [arm_eval_DictComp]
  refine dcn_core hu hc hN I hi ok hg ht hk he hs h fun n C s' m H' I' q hn f => ⟨m, hn, fun h'' sb => ?_⟩
  obtain ⟨f0, f1, f2, f3, f4, f5⟩ := f
  exact ⟨.ref n, H', I'.turned (t' := s'.toks) (fun b o hb e => (sb.2 b hb).trans e) f0 f1 f3 f4 f5, rfl, q⟩
end
end PD
namespace PD
open PySem PySem.Spec PyProof.Rows L2
section
variable {X : Cx} {Xe Γ Γ0 Γ1 Γ2 Γ3 : Env'} {e a b c tg iter kx vx : Expr} {pos p px apos : Pos} {r ra rb rc rv : Rv} {d : D} {α : Type} {enc : α → D} {sh : Sh} {B : Prop} {scope : Scope} {own : List (Str × Nat)}
theorem paired_imp {α β : Type} {R R' : α → β → Prop} (h : ∀ a b, R a b → R' a b) : ∀ {l : List α} {m : List β}, Paired R l m → Paired R' l m
  | _, _, .nil => .nil
  | _, _, .cons a t => .cons (h _ _ a) (paired_imp h t)
theorem dPutD_len (es : List (D × D)) (k v : D) : (dPutD es k v).length ≤ es.length + 1 := by
  unfold dPutD
  split <;> simp
theorem ev_dcn (f g : α → D) {xs : List α} (hu : X.A.units + 9 < cLine) (hc : X.calm = true) (hN : X.N.Nodup) (ok : BlkOk X.N X.env.scope scope own) (hg : ∀ s H C cl fp, PG (Bk X scope s H C cl fp) tg (sh.g (kc X)))
    (hi : IV X Γ tg iter (xs.map enc) Γ1 B) (hix : ∀ n, n ∈ sh.ix → n ∈ own.map (·.2)) (w0 : Weak Γ1 Γ0) (hv : ∀ n, n ∈ own.map (·.2) → ∀ t, Γ0[n]? = some t → t = .any) (hB : B → xs.length ≤ sizeLine)
    (hb : B → ∀ x, x ∈ xs → (f x).isKey = true ∧ ∃ Γa Γb Γc, sh.set Γ0 (enc x) = some Γa ∧ (∀ s H C cl fp, EV (Bk X scope s H C cl fp) Γa kx (.dat (f x)) Γb) ∧ (∀ s H C cl fp, EV (Bk X scope s H C cl fp) Γb vx (.dat (g x)) Γc) ∧ Weak Γc Γ0)
    (hs : ∀ x, foldedSetIterable iter X.env x = pure x := by intro _; rfl) :
    EV X Γ (.DictComp kx vx [⟨tg, iter, [], 0⟩] scope pos) (.own (.dN ((xs.foldl (fun es x => dPutD es (f x) (g x)) []).map (·.1)) ((xs.foldl (fun es x => dPutD es (f x) (g x)) []).map (·.2)))) Γ0 := by
  obtain ⟨wi, hi, hw⟩ := hi
  have hk : ∀ s H C cl fp, PE (Bk X scope s H C cl fp) kx (fun σ H Q => ∃ Γa d Γb, (∀ s H C cl fp, EV (Bk X scope s H C cl fp) Γa kx (.dat d) Γb) ∧ tEV (kc X) Γa (.dat d) Γb σ H Q) :=
    fun s H C cl fp => ⟨fun pins s' σ H' Q I ⟨Γa, d, Γb, h1, h2⟩ => (h1 s H C cl fp).run pins s' σ H' Q I h2⟩
  have he : ∀ s H C cl fp, PE (Bk X scope s H C cl fp) vx (fun σ H Q => ∃ Γa d Γb, (∀ s H C cl fp, EV (Bk X scope s H C cl fp) Γa vx (.dat d) Γb) ∧ tEV (kc X) Γa (.dat d) Γb σ H Q) :=
    fun s H C cl fp => ⟨fun pins s' σ H' Q I ⟨Γa, d, Γb, h1, h2⟩ => (h1 s H C cl fp).run pins s' σ H' Q I h2⟩
  refine PE.weak (pe_dcn (own := own) hu hc hN hi ok hg (fun _ _ _ _ _ => pts_nil) hk he hs) fun σ H Q ⟨F, hH, q⟩ => ?_
  refine hw σ H _ F hH fun F1 H1 J p1 jok hBv => fun n hn => ?_
  have fD : F1 n = none := p1.ok.free hn
  have nD : H n = none := p1.ext.fresh hn
  have pw := p1.wiped w0 hv
  refine ⟨fun i m H' => ∃ F' es ys, m = xs.length - i ∧ i ≤ xs.length ∧ Post (kc X) Γ σ F H Γ0 (wipe σ (own.map (·.2))) F' H' ∧ Le F1 F' ∧ es.length ≤ i ∧ H' n = some (dctO X.prog X.w n ys) ∧ F' n = none ∧ ¬ Owned Γ0 (wipe σ (own.map (·.2))) n ∧ Paired (EntOk (kc X) F') es ys ∧
      (xs.drop i).foldl (fun es x => dPutD es (f x) (g x)) es = xs.foldl (fun es x => dPutD es (f x) (g x)) [], ⟨xs.length, F1, [], [], rfl, Nat.zero_le _, pw.upd nD fD (pw.ok.notOwned hn), Le.refl _, Nat.le_refl _, upd_same, fD, pw.ok.notOwned hn, .nil, rfl⟩, ?_⟩
  rintro i m H' ⟨F', es, ys, rfl, hin, p', l', hl, hD', fD', oD', rD', e1⟩
  by_cases hlt : i < xs.length
  · have hx : xs[i]? = some xs[i] := List.getElem?_eq_getElem hlt
    have hdx : (xs.map enc)[i]? = some (enc xs[i]) := by rw [List.getElem?_map, hx]; rfl
    obtain ⟨go, yl⟩ := jok.go F' H' l' p'.ok.le i _ hdx
    obtain ⟨hkey, Γa, Γb, Γc, hset, hek, hev, hwk⟩ := hb hBv xs[i] (List.getElem_mem hlt)
    have hd : xs.drop i = xs[i] :: xs.drop (i + 1) := List.drop_eq_getElem_cons hlt
    rw [hd, List.foldl_cons] at e1
    refine .inr ⟨go, fun H2 => ∃ F2 es ys, Post (kc X) Γ σ F H Γ0 (wipe σ (own.map (·.2))) F2 H2 ∧ Le F1 F2 ∧ es.length ≤ i + 1 ∧ H2 n = some (dctO X.prog X.w n ys) ∧ F2 n = none ∧ ¬ Owned Γ0 (wipe σ (own.map (·.2))) n ∧ Paired (EntOk (kc X) F2) es ys ∧
      (xs.drop (i + 1)).foldl (fun es x => dPutD es (f x) (g x)) es = xs.foldl (fun es x => dPutD es (f x) (g x)) [], fun H2 ⟨F2, es, ys, a1, a2, a3, a4, a5, a6, a7, a8⟩ => ⟨xs.length - (i + 1), by omega, F2, es, ys, rfl, hlt, a1, a2, a3, a4, a5, a6, a7, a8⟩, fun x H2 hy => ?_⟩
    obtain ⟨F2, x2, l2, r2⟩ := yl x H2 hy
    have p2 := Post.grow p'.ok x2 l2
    obtain ⟨d2, fd2⟩ := p2.ext.keep n _ hD' fD' oD'
    refine Sh.run sh hset p2.ok r2 fun σ3 p3 k3 l3 => ⟨wipe_ext_of l3 (fun n hn => k3 n fun z => hn (hix n z)), ?_⟩
    dsimp only [tYes]
    rw [if_pos rfl]
    refine ⟨Γa, _, Γb, hek, F2, p3.ok, fun F4 H4 z p4 hz => ⟨Γb, _, Γc, hev, F4, p4.ok, fun F5 H5 v p5 hv5 => ?_⟩⟩
    have pt := (p3.trans p4).trans p5
    have pb : Post (kc X) Γ0 (wipe σ (own.map (·.2))) F2 H2 Γ0 (wipe σ (own.map (·.2))) F5 H5 := by
      have := pt.wiped' hwk hv
      rw [show wipe σ3 (own.map (·.2)) = wipe (wipe σ (own.map (·.2))) (own.map (·.2)) from wipe_ext l3 (fun n hn => k3 n fun z => hn (hix n z)), wipe_idem] at this
      exact this
    obtain ⟨d5, fd5⟩ := pb.ext.keep n _ d2 fd2 oD'
    have oD5 : ¬ Owned Γ0 (wipe σ (own.map (·.2))) n := oD'
    have rD5 : Paired (EntOk (kc X) F5) es ys := paired_imp (fun _ _ h => h.mono (p2.ext.mono.trans pb.ext.mono)) rD'
    have hz5 : Rep (kc X) F5 z (f xs[i]) := Rep.mono p5.ext.mono hz
    have hlen := Paired.length rD5
    generalize hkd : f xs[i] = kd at *
    cases kd with
    | tup ds =>
      obtain ⟨kv, ws, rfl, _, _⟩ := Rep.tup_at hz5
      refine ⟨F5, kv, .tup ds, g xs[i], es, ys, rfl, pb.ok.le, d5, rD5, hkey, hz5, hv5, by rw [← hlen]; exact Nat.lt_of_le_of_lt hl (Nat.lt_of_lt_of_le hlt (hB hBv)), fun ys' k1 => ?_⟩
      refine ⟨F5, _, ys', ((p'.trans p2).trans pb).upd nD fd5 oD5, (l'.trans p2.ext.mono).trans pb.ext.mono, Nat.le_trans (dPutD_len _ _ _) (Nat.succ_le_succ hl), upd_same, fd5, oD5, k1, e1⟩
    | _ => cases hkey
  · have e : i = xs.length := by omega
    subst e
    refine .inl ⟨by have := jok.stop F' H' l' p'.ok.le; rwa [List.length_map] at this, ?_⟩
    rw [List.drop_length] at e1
    have e1 : es = xs.foldl (fun es x => dPutD es (f x) (g x)) [] := e1
    rw [← e1] at q
    obtain ⟨k1, k2, k3, k4⟩ := ents_to rD'
    refine q F' H' _ (p'.unwiped hv) ⟨n, _, rfl, hD', fD', ⟨ys, rfl, k1, k2, k3, k4⟩, fun z => oD' ?_, .inr nD⟩
    obtain ⟨j, ao, c, g1, g2⟩ := z
    exact ⟨j, ao, c, g1, by rw [wipe_off (fun hn => nomatch (hv _ hn _ g1))]; exact g2⟩
end
end PD
namespace PD
open PySem PySem.Spec PyProof.Rows L2
/-! ### ==, !=, in by an own def of the class -/
section
variable {X : Cx} {Xe Γ Γ1 Γ2 Γ3 : Env'} {e a b c o : Expr} {pos p px apos : Pos} {r ra rb rc rv : Rv} {d kd : D} {C f : Addr} {fd : FuncData} {ps : List Str} {ns ms : List Str} {vs us : List D} {k : Nat} {sp : Sp} {Rel : List Ar → Out → Prop} {pins : List (Addr × Obj)} {σ : L2.St} {H : Hp} {s : Shared} {A : Around}
/-- the callee, run where A stands around -/
theorem fn_at {Q : VK} {zs : List Value} {ws : List V} (F : FnOk X.prog X.w X.K X.mg X.base (L2.CX X.prog X.w) k f fd ps sp) (hr : Room k A) (hA : A.frames = X.A.frames) (hb : Binds X.K fd ps []) (I : Inv X pins σ H s) (r : Vals ws zs) (h : sp ws H Q E0) :
    wpAny (model X.prog X.w) A (call (.ref f) zs) (EP X pins σ Q) X.xe s := by
  have hl := F.len _ _ _ _ h
  have e0 : Env0 X.prog X.w X.K X.mg X.base A X.stack s H := by
    have e := I.env0
    exact ⟨by rw [hA]; exact e.frames, e.mod, e.bs, e.bsz, e.funs, e.frf, e.hok, e.bare⟩
  have bt := hb s zs I.kIn (by rw [List.append_nil, ← r.length]; exact hl)
  rw [List.append_nil] at bt
  refine wpAny_call (codeAny_mono (F.run A X.stack s H ⟨zs, []⟩ zs ws _ E0 hr e0 bt r h) fun q s' hq => ?_)
  cases q with
  | error z => exact passL pins σ H s z s' I hq
  | ok fl =>
    cases fl with
    | ret u => exact I.after hq
    | next => exact hq.elim
    | brk => exact hq.elim
    | cont => exact hq.elim
def rInO (C : Addr) (sp : Sp) : R2 := fun z o H Q => ∃ a dx fs, o = .ref a ∧ H a = some (.ins C dx fs) ∧ sp [o, z] H (fun v H' => ∃ b, v = .bl b ∧ Q (.bl b) H') E0
theorem op_inO (F : FnOk X.prog X.w X.K X.mg X.base (L2.CX X.prog X.w) k f fd ps sp) (hr : Room k X.A) (hs : PySem.W.findIn X.K (.ref C) "__contains__" = some (some (.ref f))) (hf : PySem.W.isFn X.K (.ref f) = true) (hb : Binds X.K fd ps []) : OpR X (compareOp .In) (rInO C sp) := by
  intro pins s σ H z o zv ov Q I rz ro ⟨a, dx, fs, eo, ha, q⟩
  subst eo
  cases (show ov = Value.ref a from ro)
  obtain ⟨mA, J, _⟩ := ins_get I.hok ha
  obtain ⟨od, J, _⟩ := J.look
  obtain ⟨m, hF⟩ := I.fr
  refine PySem.W.in_K hF I.ok.mod.kin J hs hf (wpAny_mono (fn_at F hr rfl hb I (.cons (show RelV (.ref a) (.ref a) from rfl) (.cons rz .nil)) q) (fun v s' hv => ?_) fun _ _ x => x)
  obtain ⟨v', H', I', rv, b, rfl, q'⟩ := hv
  cases (show v = Value.bool b from rv)
  exact wpAny_truthy_bool ⟨.bl b, H', I', rfl, q'⟩
def rEqO (C : Addr) (sp : Sp) (neg : Bool) : R2 := fun x y H Q => ∃ a b dx dy fs gs, x = .ref a ∧ y = .ref b ∧ H a = some (.ins C dx fs) ∧ H b = some (.ins C dy gs) ∧ sp [x, y] H (fun v H' => ∃ k, v = .bl k ∧ Q (.bl (if neg then !k else k)) H') E0
theorem op_eqO (F : FnOk X.prog X.w X.K X.mg X.base (L2.CX X.prog X.w) k f fd ps sp) (hr : Room k X.A) (hs : PySem.W.findIn X.K (.ref C) "__eq__" = some (some (.ref f))) (hf : PySem.W.isFn X.K (.ref f) = true) (hb : Binds X.K fd ps []) : OpR X (compareOp .Eq) (rEqO C sp false) := by
  intro pins s σ H x y xv yv Q I rx ry ⟨a, b, dx, dy, fs, gs, ex, ey, ha, hb', q⟩
  subst ex ey
  cases (show xv = Value.ref a from rx)
  cases (show yv = Value.ref b from ry)
  obtain ⟨mA, J, _⟩ := ins_get I.hok ha
  obtain ⟨mB, J', _⟩ := ins_get I.hok hb'
  obtain ⟨od, J, _⟩ := J.look
  obtain ⟨od', J', _⟩ := J'.look
  obtain ⟨m, hF⟩ := I.fr
  show wpAny (model X.prog X.w) X.A (richCompare .Eq (.ref a) (.ref b)) (EP X pins σ Q) X.xe s
  refine PySem.W.cmp_K (op := .Eq) (tb := .ref C) hr.units0 hF I.ok.mod.kin J J'.type (by simp [PySem.W.notFirst]) hs hf (wpAny_mono (fn_at F hr rfl hb I (.cons (show RelV (.ref a) (.ref a) from rfl) (.cons (show RelV (.ref b) (.ref b) from rfl) .nil)) q) (fun v s' hv => ?_) fun _ _ x => x)
  obtain ⟨v', H', I', rv, k, rfl, q'⟩ := hv
  cases (show v = Value.bool k from rv)
  exact ⟨.bl k, H', I', rfl, q'⟩
theorem bound_ne {M : Model} {E : Value → Shared → Prop} {K : PySem.W.Frag} {x : Addr} {ox : Obj} {od : Option Obj} {args : List Value} {Q : Option Value → Shared → Prop} (hk : K.In s.heap) (I : PySem.W.InstAt s.heap x ox C od) (hs : PySem.W.findIn K (.ref C) "__ne__" = some (some (.builtin "object.__ne__")))
    (h : wpAny M A (call (.builtin "object.__ne__") (.ref x :: args)) (fun v => Q (some v)) E s) : wpAny M A (callSpecialIfBound? (.ref x) "__ne__" args) Q E s := by
  have fin : wpAny M A (call (.builtin "object.__ne__") ([.ref x] ++ args) >>= fun v => pure (some v)) Q E s := wpAny_bind (wpAny_mono h (fun v s' z => wpAny_pure z) fun _ _ z => z)
  simp only [callSpecialIfBound?, bindSpecialIfBound?]
  refine wpAny_holding (wpAny_bind (wpAny_bind (wpAny_bind (I.type.here ((PySem.W.looks_findIn hk hs).here ?_)))))
  refine wpAny_bind (wpAny_askSetting (wpAny_ite ?_))
  split
  · exact wpAny_bind (wpAny_of_eq (PySem.F.cmp_object.ne.bind _) (wpAny_pure (by exact fin)))
  · exact wpAny_tryCatch (wpAny_bind (wpAny_of_eq (PySem.F.cmp_object.ne.bind _) (wpAny_pure (by exact fin))))
theorem ne_body {E : Value → Shared → Prop} {prog : Program} {w : World} {K : PySem.W.Frag} {x y : Addr} {ox : Obj} {od : Option Obj} {Q : Fin → Shared → Prop} (hk : K.In s.heap) (I : PySem.W.InstAt s.heap x ox C od) (hs : PySem.W.findIn K (.ref C) "__eq__" = some (some (.ref f))) (hf : PySem.W.isFn K (.ref f) = true) (hu : A.units < cLine)
    (h : wpAny (model prog w) A (call (.ref f) [.ref x, .ref y]) (fun v s' => ∃ b, v = .bool b ∧ Q (.done (.ret (.bool (!b)))) s') E s) : wpAny (model prog w) A (Builtin.«object.__ne__» ⟨[.ref x, .ref y], []⟩) Q E s := by
  unfold Builtin.«object.__ne__»
  repeat (first
    | with_reducible refine wpAny_cRoomFor hu ?_
    | (refine wpAny_bind (m := callSpecialIfBound? (.ref x) (Str.ofString "__eq__") [.ref y]) (PySem.W.ifBound_K hk I hs hf (wpAny_mono h (fun v s' hr => by
          obtain ⟨b, rfl, hq⟩ := hr
          repeat (first | exact hq | exact wpAny_pure hq | exact wpAny_truthy_bool hq | (refine wpAny_bind (m := truthy (.bool _)) (wpAny_truthy_bool ?_)) | wp_step)) fun _ _ e => e)))
    | wp_step)
theorem op_neO (F : FnOk X.prog X.w X.K X.mg X.base (L2.CX X.prog X.w) k f fd ps sp) (hr : Room (k + 1) X.A) (hs : PySem.W.findIn X.K (.ref C) "__eq__" = some (some (.ref f))) (hn : PySem.W.findIn X.K (.ref C) "__ne__" = some (some (.builtin "object.__ne__"))) (hm : PySem.W.mroIn X.K C (.type "object") = some true) (hf : PySem.W.isFn X.K (.ref f) = true) (hb : Binds X.K fd ps []) : OpR X (compareOp .NotEq) (rEqO C sp true) := by
  intro pins s σ H x y xv yv Q I rx ry ⟨a, b, dx, dy, fs, gs, ex, ey, ha, hb', q⟩
  subst ex ey
  cases (show xv = Value.ref a from rx)
  cases (show yv = Value.ref b from ry)
  obtain ⟨mA, J, _⟩ := ins_get I.hok ha
  obtain ⟨mB, J', _⟩ := ins_get I.hok hb'
  obtain ⟨od, J, _⟩ := J.look
  obtain ⟨od', J', _⟩ := J'.look
  show wpAny (model X.prog X.w) X.A (richCompare .NotEq (.ref a) (.ref b)) (EP X pins σ Q) X.xe s
  -- object.__ne__ asks the own ==
  have own : wpAny (model X.prog X.w) X.A.in1 (call (.ref f) [.ref a, .ref b]) (fun v s' => ∃ k, v = .bool k ∧ EP X pins σ Q (.bool (!k)) s') X.xe s :=
    wpAny_mono (fn_at F hr.in1 rfl hb I (.cons (show RelV (.ref a) (.ref a) from rfl) (.cons (show RelV (.ref b) (.ref b) from rfl) .nil)) q) (fun v s' hv => by
      obtain ⟨v', H', I', rv, k, rfl, q'⟩ := hv
      cases (show v = Value.bool k from rv)
      exact ⟨k, rfl, .bl (!k), H', I', rfl, q'⟩) fun _ _ x => x
  have obj : wpAny (model X.prog X.w) X.A (call (.builtin "object.__ne__") [.ref a, .ref b]) (fun v s' => ∃ k, v = .bool k ∧ EP X pins σ Q (.bool k) s') X.xe s := by
    refine wpAny_call (codeAny_call_builtin PySem.F.cmp_object.ne.plain PySem.F.cmpEntry_ne (PySem.W.check_slot PySem.F.cmpKind_ne PySem.F.cmpSplit_ne (J.type.andThen (PySem.W.looks_mroIn I.kIn hm)) (PySem.F.cmpArgs_ne _ _) ?_))
    refine ne_body I.kIn J hs hf hr.in1.units0 (wpAny_mono own (fun v s' hv => ?_) fun _ _ x => x)
    obtain ⟨k, rfl, q'⟩ := hv
    exact ⟨k, rfl, !k, rfl, q'⟩
  unfold richCompare
  simp only [oneThing_ref]
  refine wpAny_holding (wpAny_bind (wpAny_cRoomFor (by have := hr.units0; show X.A.units < cLine; omega) ?_))
  rw [cmpInfo_NotEq]
  dsimp only
  refine wpAny_bind (J.type.here (wpAny_bind (J'.type.here ?_)))
  rw [show (Value.ref C != Value.ref C) = false from by simp]
  simp only [Bool.false_eq_true, if_false]
  refine wpAny_bind (wpAny_pure ?_)
  simp only [Bool.false_eq_true, if_false]
  unfold tryCompare
  refine wpAny_bind (wpAny_bind (bound_ne I.kIn J hn (wpAny_mono obj (fun v s' hv => ?_) fun _ _ x => x)))
  obtain ⟨k, rfl, q'⟩ := hv
  exact wpAny_pure (wpAny_pure q')
/-- what an own def promises of two pieces of data -/
theorem two_read {F : Hp} {x y : V} {b : Bool} {Q : V → Hp → Prop} (hR : Rel [.dat d, .dat kd] (.val (.dat (.bl b)))) (hH : Holds (kc X) F Γ σ H) (hx : Rep (kc X) F x d) (hy : Rep (kc X) F y kd) (q : ∀ F' H', Post (kc X) Γ σ F H Γ σ F' H' → Q (.bl b) H') : spR (kc X) Rel [x, y] H Q E0 :=
  call_read (E := E0) (o := .val (.dat (.bl b))) (rs := [.dat d, .dat kd]) (vs := [x, y]) hR hH (.refl hH) (.cons hx (.cons hy .nil)) (mt_cdat (mt_cdat mt_nil)) fun F' H' v p h => by
    have h : Rep (kc X) F' v (.bl b) := h
    cases h
    exact q F' H' p
variable {k2 : Bool}
theorem ev_inO (M : Mle X.prog X.w X.K X.mg X.base k C "__contains__" Rel) (hr : Room k X.A) (ha : EV X Γ a (.dat kd) Γ1) (hb : EV X Γ1 b (.dat (.obj C ns vs)) Γ2) (hR : Rel [.dat (.obj C ns vs), .dat kd] (.val (.dat (.bl k2)))) (hm : behindInMarks .In b = false := by rfl) : EV X Γ (.Compare a [.In] [b] pos) (.dat (.bl k2)) Γ2 := by
  obtain ⟨f, fd, ps, hF, hM, hB⟩ := M.ex
  exact ev_cmp (op_inO hF hr hM.at_ hM.fn hB) hm (fun F σ H A x z Q hH hx hz q => by
    cases hz with
    | @obj y dx _ fs _ _ e1 e2 t => exact ⟨y, dx, fs, rfl, hH.le _ _ e1, two_read hR hH (.obj e1 e2 t) hx fun F' H' p => ⟨k2, rfl, q F' H' _ p (.bl k2)⟩⟩) ha hb
theorem tv_inO (M : Mle X.prog X.w X.K X.mg X.base k C "__contains__" Rel) (hr : Room k X.A) (ha : EV X Γ a (.dat kd) Γ1) (hb : EV X Γ1 b (.dat (.obj C ns vs)) Γ2) (hR : Rel [.dat (.obj C ns vs), .dat kd] (.val (.dat (.bl k2)))) (hm : behindInMarks .In b = false := by rfl) : TV X Γ (.Compare a [.In] [b] pos) k2 Γ2 := by
  obtain ⟨f, fd, ps, hF, hM, hB⟩ := M.ex
  exact tv_cmp (op_inO hF hr hM.at_ hM.fn hB) hm (fun F σ H A x z Q hH hx hz q => by
    cases hz with
    | @obj y dx _ fs _ _ e1 e2 t => exact ⟨y, dx, fs, rfl, hH.le _ _ e1, two_read hR hH (.obj e1 e2 t) hx fun F' H' p => ⟨k2, rfl, q F' H' _ p (.bl k2)⟩⟩) ha hb
theorem o2eqO {K : KC} (neg : Bool) (hK : K = kc X) (hR : Rel [.dat (.obj C ns vs), .dat (.obj C ms us)] (.val (.dat (.bl k2)))) : Op2 (kc X) Γ2 (.dat (.obj C ns vs)) (.dat (.obj C ms us)) (.dat (.bl (if neg then !k2 else k2))) (rEqO C (spR (kc X) Rel) neg) :=
  fun F σ H A x z Q hH hx hz q => by
    cases hx with
    | @obj y dx _ fs _ _ e1 e2 t =>
      cases hz with
      | @obj y' dx' _ fs' _ _ g1 g2 t' => exact ⟨y, y', dx, dx', fs, fs', rfl, rfl, hH.le _ _ e1, hH.le _ _ g1, two_read hR hH (.obj e1 e2 t) (.obj g1 g2 t') fun F' H' p => ⟨k2, rfl, q F' H' _ p (.bl _)⟩⟩
theorem ev_eqO (M : Mle X.prog X.w X.K X.mg X.base k C "__eq__" Rel) (hr : Room k X.A) (ha : EV X Γ a (.dat (.obj C ns vs)) Γ1) (hb : EV X Γ1 b (.dat (.obj C ms us)) Γ2) (hR : Rel [.dat (.obj C ns vs), .dat (.obj C ms us)] (.val (.dat (.bl k2)))) : EV X Γ (.Compare a [.Eq] [b] pos) (.dat (.bl k2)) Γ2 := by
  obtain ⟨f, fd, ps, hF, hM, hB⟩ := M.ex
  exact ev_cmp (op_eqO hF hr hM.at_ hM.fn hB) (nomark _) (o2eqO false rfl hR) ha hb
theorem tv_eqO (M : Mle X.prog X.w X.K X.mg X.base k C "__eq__" Rel) (hr : Room k X.A) (ha : EV X Γ a (.dat (.obj C ns vs)) Γ1) (hb : EV X Γ1 b (.dat (.obj C ms us)) Γ2) (hR : Rel [.dat (.obj C ns vs), .dat (.obj C ms us)] (.val (.dat (.bl k2)))) : TV X Γ (.Compare a [.Eq] [b] pos) k2 Γ2 := by
  obtain ⟨f, fd, ps, hF, hM, hB⟩ := M.ex
  exact tv_cmp (op_eqO hF hr hM.at_ hM.fn hB) (nomark _) (o2eqO false rfl hR) ha hb
theorem ev_neO (M : Mle X.prog X.w X.K X.mg X.base k C "__eq__" Rel) (hr : Room (k + 1) X.A) (hn : PySem.W.findIn X.K (.ref C) "__ne__" = some (some (.builtin "object.__ne__"))) (hm : PySem.W.mroIn X.K C (.type "object") = some true) (ha : EV X Γ a (.dat (.obj C ns vs)) Γ1) (hb : EV X Γ1 b (.dat (.obj C ms us)) Γ2) (hR : Rel [.dat (.obj C ns vs), .dat (.obj C ms us)] (.val (.dat (.bl k2)))) : EV X Γ (.Compare a [.NotEq] [b] pos) (.dat (.bl (!k2))) Γ2 := by
  obtain ⟨f, fd, ps, hF, hM, hB⟩ := M.ex
  exact ev_cmp (op_neO hF hr hM.at_ hn hm hM.fn hB) (nomark _) (o2eqO true rfl hR) ha hb
theorem tv_neO (M : Mle X.prog X.w X.K X.mg X.base k C "__eq__" Rel) (hr : Room (k + 1) X.A) (hn : PySem.W.findIn X.K (.ref C) "__ne__" = some (some (.builtin "object.__ne__"))) (hm : PySem.W.mroIn X.K C (.type "object") = some true) (ha : EV X Γ a (.dat (.obj C ns vs)) Γ1) (hb : EV X Γ1 b (.dat (.obj C ms us)) Γ2) (hR : Rel [.dat (.obj C ns vs), .dat (.obj C ms us)] (.val (.dat (.bl k2)))) : TV X Γ (.Compare a [.NotEq] [b] pos) (!k2) Γ2 := by
  obtain ⟨f, fd, ps, hF, hM, hB⟩ := M.ex
  exact tv_cmp (op_neO hF hr hM.at_ hn hm hM.fn hB) (nomark _) (o2eqO true rfl hR) ha hb
end
end PD
namespace PD
open PySem PySem.Spec PyProof.Rows L2
/-! ### ==, !=, <, in of data at any depth -/
mutual
theorem Rep.lay {K : KC} {F : Hp} : ∀ {d : D} {v : V}, d.plain = true → Rep K F v d → d.py.canLay0 = true
  | .non, _, _, .non => rfl
  | .bl _, _, _, .bl b => rfl
  | .int _, _, _, .int i => rfl
  | .str _, _, _, .str x h => h
  | .tup _, _, hp, .tup s r => RepL.lay hp r
  | .lst _, _, hp, .lst s r => RepL.lay hp r
  | .dct _ _ _, _, hp, _ => nomatch hp
  | .obj _ _ _, _, hp, _ => nomatch hp
theorem RepL.lay {K : KC} {F : Hp} : ∀ {ds : List D} {vs : List V}, D.plainL ds = true → RepL K F vs ds → PyData.canLayAll0 (D.pyL ds) = true
  | [], _, _, .nil => rfl
  | _ :: _, _, hp, .cons a b => Bool.and_eq_true_iff.mpr ⟨Rep.lay (Bool.and_eq_true_iff.mp hp).1 a, RepL.lay (Bool.and_eq_true_iff.mp hp).2 b⟩
end
theorem Rep.shaped {K : KC} {F : Hp} {d : D} {v : V} (hp : d.plain = true) (hd : d.py.depth ≤ 64) (h : Rep K F v d) : SeqAt.shaped d.py = true := Bool.and_eq_true_iff.mpr ⟨Rep.lay hp h, decide_eq_true hd⟩
/-- an encoding by which == is equality -/
structure EncEq {α : Type} [DecidableEq α] (enc : α → D) : Prop where
  pl : ∀ a, (enc a).plain = true
  dep : ∀ a, (enc a).py.depth ≤ 40
  eq : ∀ a b, PyData.eqv (enc a).py (enc b).py = decide (a = b)
section
variable {α β γ : Type} [DecidableEq α] [DecidableEq β] [DecidableEq γ] {enc : α → D} {encb : β → D} {encc : γ → D}
theorem EncEq.int : EncEq D.int := ⟨fun _ => rfl, fun _ => by simp [D.py, PyData.depth], fun a b => by simp only [D.py, PyData.eqv]; rw [Bool.eq_iff_iff]; simp⟩
theorem EncEq.str : EncEq D.str := ⟨fun _ => rfl, fun _ => by simp [D.py, PyData.depth], fun a b => by simp only [D.py, PyData.eqv]; rw [Bool.eq_iff_iff]; simp⟩
theorem EncEq.bl : EncEq D.bl := ⟨fun _ => rfl, fun _ => by simp [D.py, PyData.depth], fun a b => by simp only [D.py, PyData.eqv]; rw [Bool.eq_iff_iff]; simp⟩
theorem eqvAll_map (h : EncEq enc) : ∀ as bs : List α, PyData.eqvAll (D.pyL (as.map enc)) (D.pyL (bs.map enc)) = decide (as = bs)
  | [], [] => rfl
  | [], _ :: _ => by simp [D.pyL, PyData.eqvAll]
  | _ :: _, [] => by simp [D.pyL, PyData.eqvAll]
  | a :: as, b :: bs => by
    simp only [List.map_cons, D.pyL, PyData.eqvAll, h.eq, eqvAll_map h as bs]
    rw [Bool.eq_iff_iff]; simp
theorem plainL_map (h : ∀ a, (enc a).plain = true) (as : List α) : D.plainL (as.map enc) = true := plainL_iff.mpr fun d hd => by
  obtain ⟨x, _, rfl⟩ := List.mem_map.mp hd
  exact h x
theorem EncEq.vt (h : EncEq enc) (n : Nat) (hd : ∀ a, (enc a).py.depth ≤ n) (hn : n ≤ 39) : EncEq (eT enc) := ⟨fun a => plainL_map h.pl a, fun a => by
    have := depthAll_map hd a
    simp only [D.py, PyData.depth]; omega, fun a b => by simp only [D.py, PyData.eqv]; exact eqvAll_map h a b⟩
theorem EncEq.lst (h : EncEq enc) (n : Nat) (hd : ∀ a, (enc a).py.depth ≤ n) (hn : n ≤ 39) : EncEq (eL enc) := ⟨fun a => plainL_map h.pl a, fun a => by
    have := depthAll_map hd a
    simp only [D.py, PyData.depth]; omega, fun a b => by simp only [D.py, PyData.eqv]; exact eqvAll_map h a b⟩
theorem EncEq.pair (h : EncEq enc) (h2 : EncEq encb) (n : Nat) (hd : ∀ a, (enc a).py.depth ≤ n) (hd2 : ∀ a, (encb a).py.depth ≤ n) (hn : n ≤ 39) : EncEq (eP enc encb) := ⟨fun a => by
    show (D.plain (enc a.1) && (D.plain (encb a.2) && true)) = true
    rw [h.pl, h2.pl]; rfl, fun a => by
    have := hd a.1
    have := hd2 a.2
    simp only [D.py, D.pyL, PyData.depth, PyData.depthAll]; omega, fun a b => by
    simp only [D.py, D.pyL, PyData.eqv, PyData.eqvAll, h.eq, h2.eq]
    obtain ⟨a1, a2⟩ := a
    obtain ⟨b1, b2⟩ := b
    rw [Bool.eq_iff_iff]; simp⟩
theorem dep_lst {n : Nat} (h : ∀ a, (enc a).py.depth ≤ n) : ∀ a, (eL enc a).py.depth ≤ n + 1 := fun a => by
  have := depthAll_map h a
  simp only [D.py, PyData.depth]; omega
/-- None, or a tuple -/
theorem EncEq.opt (h : EncEq enc) (ht : ∀ a, ∃ xs, (enc a).py = .tuple xs) : EncEq (eO enc) := ⟨fun a => by
    cases a with
    | none => rfl
    | some a => exact h.pl a, fun a => by
    cases a with
    | none => exact (by decide : (0 : Nat) ≤ 40)
    | some a => exact h.dep a, fun a b => by
    cases a with
    | none =>
      cases b with
      | none => rfl
      | some b => obtain ⟨xs, e⟩ := ht b; show PyData.eqv .none (enc b).py = _; rw [e]; rfl
    | some a =>
      cases b with
      | none => obtain ⟨xs, e⟩ := ht a; show PyData.eqv (enc a).py .none = _; rw [e]; rfl
      | some b =>
        show PyData.eqv (enc a).py (enc b).py = _
        rw [h.eq, Bool.eq_iff_iff]; simp⟩
variable {X : Cx} {Xe Γ Γ1 Γ2 Γ3 : Env'} {e a b c o : Expr} {pos p px apos : Pos} {r ra rb rc rv : Rv} {d kd : D} {u v : α} {xs : List α}
theorem o2eqT (h : EncEq enc) : Op2 (kc X) Γ2 (.dat (enc u)) (.dat (enc v)) (.dat (.bl (decide (u = v)))) (rEqD X.K) := fun F σ H A x y Q hH hx hy q => by
  refine ⟨_, _, Rep.dp hH.le (h.pl u) hx, Rep.dp hH.le (h.pl v) hy, Rep.shaped (h.pl u) (Nat.le_trans (h.dep u) (by decide)) hx, Rep.shaped (h.pl v) (Nat.le_trans (h.dep v) (by decide)) hy, ?_⟩
  rw [h.eq]
  exact q F H _ (.refl hH) (.bl _)
theorem o2neT (h : EncEq enc) : Op2 (kc X) Γ2 (.dat (enc u)) (.dat (enc v)) (.dat (.bl (!decide (u = v)))) (rNeD X.K) := fun F σ H A x y Q hH hx hy q => by
  refine ⟨_, _, Rep.dp hH.le (h.pl u) hx, Rep.dp hH.le (h.pl v) hy, Rep.shaped (h.pl u) (Nat.le_trans (h.dep u) (by decide)) hx, Rep.shaped (h.pl v) (Nat.le_trans (h.dep v) (by decide)) hy, ?_⟩
  rw [h.eq]
  exact q F H _ (.refl hH) (.bl _)
theorem ev_eqT (hu : X.A.units + 64 < cLine) (h : EncEq enc) (ha : EV X Γ a (.dat (enc u)) Γ1) (hb : EV X Γ1 b (.dat (enc v)) Γ2) : EV X Γ (.Compare a [.Eq] [b] pos) (.dat (.bl (decide (u = v)))) Γ2 := ev_cmp (op_eqD hu) (nomark _) (o2eqT h) ha hb
theorem tv_eqT (hu : X.A.units + 64 < cLine) (h : EncEq enc) (ha : EV X Γ a (.dat (enc u)) Γ1) (hb : EV X Γ1 b (.dat (enc v)) Γ2) : TV X Γ (.Compare a [.Eq] [b] pos) (decide (u = v)) Γ2 := tv_cmp (op_eqD hu) (nomark _) (o2eqT h) ha hb
theorem ev_neT (hu : X.A.units + 64 < cLine) (h : EncEq enc) (ha : EV X Γ a (.dat (enc u)) Γ1) (hb : EV X Γ1 b (.dat (enc v)) Γ2) : EV X Γ (.Compare a [.NotEq] [b] pos) (.dat (.bl (!decide (u = v)))) Γ2 := ev_cmp (op_neD hu) (nomark _) (o2neT h) ha hb
theorem tv_neT (hu : X.A.units + 64 < cLine) (h : EncEq enc) (ha : EV X Γ a (.dat (enc u)) Γ1) (hb : EV X Γ1 b (.dat (enc v)) Γ2) : TV X Γ (.Compare a [.NotEq] [b] pos) (!decide (u = v)) Γ2 := tv_cmp (op_neD hu) (nomark _) (o2neT h) ha hb
/-- < -/
def ltT (enc : α → D) (u v : α) : Bool := PySem.W.dataLt (enc u).py (enc v).py
theorem o2ltT (h : EncOrd enc) (hn : ∀ a, (enc a).py ≠ .none) : Op2 (kc X) Γ2 (.dat (enc u)) (.dat (enc v)) (.dat (.bl (ltT enc u v))) (rLtD (kc X)) := fun F σ H A x y Q hH hx hy q =>
  ⟨_, _, Rep.dp hH.le (h.pl u) hx, Rep.dp hH.le (h.pl v) hy, h.al u v, hn u, Nat.le_trans (h.dep u) (by decide), q F H _ (.refl hH) (.bl _)⟩
theorem ev_ltT (hu : X.A.units + 64 < cLine) (h : EncOrd enc) (hn : ∀ a, (enc a).py ≠ .none) (ha : EV X Γ a (.dat (enc u)) Γ1) (hb : EV X Γ1 b (.dat (enc v)) Γ2) : EV X Γ (.Compare a [.Lt] [b] pos) (.dat (.bl (ltT enc u v))) Γ2 := ev_cmp (op_ltD hu) (nomark _) (o2ltT h hn) ha hb
theorem tv_ltT (hu : X.A.units + 64 < cLine) (h : EncOrd enc) (hn : ∀ a, (enc a).py ≠ .none) (ha : EV X Γ a (.dat (enc u)) Γ1) (hb : EV X Γ1 b (.dat (enc v)) Γ2) : TV X Γ (.Compare a [.Lt] [b] pos) (ltT enc u v) Γ2 := tv_cmp (op_ltD hu) (nomark _) (o2ltT h hn) ha hb
/-- in a tuple, in a list -/
def rInDT (K : PySem.W.Frag) (neg : Bool) : R2 := fun x y H Q => ∃ d ds, Dp K H x d ∧ (Dp K H y (.tuple ds) ∨ Dp K H y (.list ds)) ∧ SeqAt.shaped d = true ∧ PyData.canLayAll0 ds = true ∧ Q (.bl (if neg then !ds.any fun z => PyData.eqv z d else ds.any fun z => PyData.eqv z d)) H
theorem op_inDT (hu : X.A.units + 65 < cLine) : OpR X (compareOp .In) (rInDT X.K false) := by
  intro pins s σ H x y v u Q I rx ry ⟨d, ds, hd, he, sd, se, q⟩
  obtain ⟨as, r1⟩ := Dp.reads I d x v hd rx
  rcases he with he | he <;> obtain ⟨bs, r2⟩ := Dp.reads I _ y u he ry
  · exact SeqAt.in_tuple_reads r2 r1 se (SeqAt.canLay_of_shaped sd) (room_in_shaped sd hu) ⟨.bl _, H, I, rfl, q⟩
  · exact SeqAt.in_list_reads r2 r1 se (SeqAt.canLay_of_shaped sd) (room_in_shaped sd hu) ⟨.bl _, H, I, rfl, q⟩
theorem op_ninDT (hu : X.A.units + 65 < cLine) : OpR X (compareOp .NotIn) (rInDT X.K true) := by
  intro pins s σ H x y v u Q I rx ry ⟨d, ds, hd, he, sd, se, q⟩
  obtain ⟨as, r1⟩ := Dp.reads I d x v hd rx
  rcases he with he | he <;> obtain ⟨bs, r2⟩ := Dp.reads I _ y u he ry
  · exact SeqAt.notIn_tuple_reads r2 r1 se (SeqAt.canLay_of_shaped sd) (room_in_shaped sd hu) ⟨.bl _, H, I, rfl, q⟩
  · exact SeqAt.notIn_list_reads r2 r1 se (SeqAt.canLay_of_shaped sd) (room_in_shaped sd hu) ⟨.bl _, H, I, rfl, q⟩
theorem any_eqv (h : EncEq enc) (u : α) : ∀ xs : List α, ((D.pyL (xs.map enc)).any fun z => PyData.eqv z (enc u).py) = decide (u ∈ xs)
  | [] => rfl
  | x :: xs => by
    have ih := any_eqv h u xs
    show (PyData.eqv (enc x).py (enc u).py || (D.pyL (xs.map enc)).any fun z => PyData.eqv z (enc u).py) = _
    rw [h.eq, ih, Bool.eq_iff_iff, Bool.or_eq_true, decide_eq_true_eq, decide_eq_true_eq, decide_eq_true_eq, List.mem_cons]
    exact or_congr_left ⟨fun e => e.symm, fun e => e.symm⟩
theorem o2inT {neg : Bool} (h : EncEq enc) (w : VSeq Γ2 rb (xs.map enc)) : Op2 (kc X) Γ2 (.dat (enc u)) rb (.dat (.bl (if neg then !decide (u ∈ xs) else decide (u ∈ xs)))) (rInDT X.K neg) := fun F σ H A x y Q hH hx hy q => by
  obtain ⟨p, vs, rfl, s, t⟩ := w.at hH hy
  refine ⟨_, D.pyL (xs.map enc), Rep.dp hH.le (h.pl u) hx, ?_, Rep.shaped (h.pl u) (Nat.le_trans (h.dep u) (by decide)) hx, RepL.lay (plainL_map h.pl xs) t, ?_⟩
  · have dp := RepL.dp hH.le (plainL_map h.pl xs) t
    rcases s with s | s
    · exact .inr (.lst s dp)
    · exact .inl (.tup s dp)
  · rw [any_eqv h u xs]
    exact q F H _ (.refl hH) (.bl _)
theorem ev_inT (hu : X.A.units + 65 < cLine) (h : EncEq enc) (ha : EV X Γ a (.dat (enc u)) Γ1) (hb : EV X Γ1 b rb Γ2) (w : VSeq Γ2 rb (xs.map enc)) (hm : behindInMarks .In b = false := by rfl) : EV X Γ (.Compare a [.In] [b] pos) (.dat (.bl (decide (u ∈ xs)))) Γ2 := ev_cmp (op_inDT hu) hm (o2inT (neg := false) h w) ha hb
theorem tv_inT (hu : X.A.units + 65 < cLine) (h : EncEq enc) (ha : EV X Γ a (.dat (enc u)) Γ1) (hb : EV X Γ1 b rb Γ2) (w : VSeq Γ2 rb (xs.map enc)) (hm : behindInMarks .In b = false := by rfl) : TV X Γ (.Compare a [.In] [b] pos) (decide (u ∈ xs)) Γ2 := tv_cmp (op_inDT hu) hm (o2inT (neg := false) h w) ha hb
theorem ev_ninT (hu : X.A.units + 65 < cLine) (h : EncEq enc) (ha : EV X Γ a (.dat (enc u)) Γ1) (hb : EV X Γ1 b rb Γ2) (w : VSeq Γ2 rb (xs.map enc)) (hm : behindInMarks .NotIn b = false := by rfl) : EV X Γ (.Compare a [.NotIn] [b] pos) (.dat (.bl (!decide (u ∈ xs)))) Γ2 := ev_cmp (op_ninDT hu) hm (o2inT (neg := true) h w) ha hb
theorem tv_ninT (hu : X.A.units + 65 < cLine) (h : EncEq enc) (ha : EV X Γ a (.dat (enc u)) Γ1) (hb : EV X Γ1 b rb Γ2) (w : VSeq Γ2 rb (xs.map enc)) (hm : behindInMarks .NotIn b = false := by rfl) : TV X Γ (.Compare a [.NotIn] [b] pos) (!decide (u ∈ xs)) Γ2 := tv_cmp (op_ninDT hu) hm (o2inT (neg := true) h w) ha hb
end
end PD
namespace PD
open PySem PySem.Spec PyProof.Rows L2
/-! ### enumerate(tuple) -/
set_option maxHeartbeats 1000000 in
theorem enum_newT (t : Addr) (items : Array Value) :
    Meets (Builtin.«enumerate.__new__» ⟨[.type "enumerate", .ref t], []⟩) (fun _ R s => s.heap.IsTuple t items ∧
      R (.ok (.ret (.ref (s.heap.push { cls := .type "tuple_iterator", data := .fields #[.ref t, .int 0 0] }).objs.size)))
        { s with heap := (s.heap.push { cls := .type "tuple_iterator", data := .fields #[.ref t, .int 0 0] }).push { cls := .type "enumerate", data := .fields #[.none, .bool false, .ref s.heap.objs.size, rawInt 0, .none, .none] } }) :=
  .of_wp fun prog w A R s h => by
    obtain ⟨hp, g, d, tk, os⟩ := s; obtain ⟨hl, h⟩ := h
    have hsub := sub_enumerate
    have q1 : ∀ {A' : Around} {E : Value → Shared → Prop} {Q : Value → Shared → Prop}, Q (.ref hp.objs.size) ⟨hp.push { cls := .type "tuple_iterator", data := .fields #[.ref t, .int 0 0] }, g, d, tk, os⟩ → wpAny (model prog w) A' (pyIter (.ref t)) Q E ⟨hp, g, d, tk, os⟩ :=
      fun q => (begins_tuple t items).iter prog w _ _ ⟨hp, g, d, tk, os⟩ _ hl q
    wp_walk using q1
    refine wpAny_stack_any fun st => wpAny_pure ?_
    split
    · rename_i c _ _ _ _ _
      cases (c == Value.type "enumerate")
      · wp_walk using q1
        exact ⟨_, rfl, h⟩
      · wp_walk using q1
        exact ⟨_, rfl, h⟩
    · wp_walk using q1
      exact ⟨_, rfl, h⟩
theorem enum_callT {prog : Program} {w : World} {A : Around} {E : Value → Shared → Prop} {s : Shared} {t : Addr} {items : Array Value} {Q : Value → Shared → Prop} (ht : s.heap.IsTuple t items)
    (h : ∀ h', IsEnum h' (s.heap.objs.size + 1) s.heap.objs.size 0 .none → h'.IsTupleIter s.heap.objs.size t 0 → (∀ b o, s.heap.get? b = some o → h'.get? b = some o) → Q (.ref (s.heap.objs.size + 1)) { s with heap := h' }) :
    wpAny (model prog w) A (call (.type "enumerate") [.ref t]) Q E s := by
  refine callType_new F.called_enumerate (by decide) (F.typeCall_enumerate_1 _) (F.newCall_enumerate_1 _) (fun obj => F.args_object_init_2 obj _) F.entry_enumerate_new (enum_newT t items) ⟨ht, ?_⟩
  have hz : (s.heap.push { cls := .type "tuple_iterator", data := .fields #[.ref t, .int 0 0] }).objs.size = s.heap.objs.size + 1 := Heap.size_push ..
  show _ ∧ _
  rw [hz]
  have he : IsEnum ((s.heap.push { cls := .type "tuple_iterator", data := .fields #[.ref t, .int 0 0] }).push { cls := .type "enumerate", data := .fields #[.none, .bool false, .ref s.heap.objs.size, rawInt 0, .none, .none] }) (s.heap.objs.size + 1) s.heap.objs.size 0 .none := by
    have := Heap.get?_push_size (s.heap.push { cls := .type "tuple_iterator", data := .fields #[.ref t, .int 0 0] }) (o := { cls := .type "enumerate", data := .fields #[.none, .bool false, .ref s.heap.objs.size, rawInt 0, .none, .none] }) rfl
    rw [hz] at this; exact this
  exact ⟨⟨_, he, rfl⟩, h _ he ⟨_, Heap.get?_push_of_some _ (Heap.get?_push_size _ rfl), rfl, rfl⟩ fun b o x => Heap.get?_push_of_some _ (Heap.get?_push_of_some _ x)⟩
/-- the tuple at a, each item in a new pair -/
def Jte (K : PySem.W.Frag) (a : Addr) : It :=
  ⟨fun i H => ∃ (xs : List V) (x : V), SqT K H a xs ∧ xs[i]? = some x, fun i H v H' => ∃ T x, v = .ref T ∧ H T = none ∧ H' = upd H T (.tup [.int (i : Nat), x]) ∧ ∀ xs, SqT K H a xs → xs[i]? = some x, fun i H => ∃ xs : List V, SqT K H a xs ∧ xs.length = i⟩
theorem enum_turnT {P : Program} {w : World} {K : PySem.W.Frag} {elts : List Expr} {kk : Nat} {tpos : Pos} (a e it : Addr) :
    Turn P w K (.Tuple elts kk tpos) (Jte K a) [e, it] e (fun i h => (∃ old, IsEnum h e it ((i : Nat) : Int) old) ∧ h.IsTupleIter it a i ∧ e ≠ it) where
  mem := by simp
  obj := fun i h st b hb => by
    obtain ⟨⟨old, he⟩, ⟨o, ho, hc, hd⟩, _⟩ := st
    rcases (show b = e ∨ b = it by simpa using hb) with z | z
    · rw [z]; exact ⟨_, he, fun v q => nomatch q⟩
    · rw [z]; exact ⟨o, ho, fun v q => by rw [hd] at q; cases q⟩
  keep := fun i h h' st k => let ⟨⟨old, he⟩, hi, hne⟩ := st; ⟨⟨old, k e (by simp) _ he⟩, hi.at fun o q => k it (by simp) o q, hne⟩
  item := by
    intro X hP hw hK hc i pins s σ H E I hf st hg
    subst hP hw hK
    obtain ⟨⟨old, he⟩, hit, hne⟩ := st
    obtain ⟨xs, x, hq, hx⟩ := hg
    obtain ⟨its, rv, ⟨o, ho, hcl, n, hd⟩, hz⟩ := I.tuple hq
    have hT : s.heap.IsTuple a its.toArray := ⟨o, ho, hcl, n, hd⟩
    obtain ⟨u, hu, ru⟩ := rv.get hx
    have hel : e < s.heap.objs.size := Heap.lt_size he
    have hil : it < s.heap.objs.size := by obtain ⟨_, q, _⟩ := hit; exact Heap.lt_size q
    have hai : a ≠ it := fun z => by
      obtain ⟨o2, q1, q2, _⟩ := hit
      rw [← z, ho] at q1; cases q1
      rw [hcl] at q2
      exact absurd (Value.type.inj q2) (by decide)
    have hae : e ≠ a := fun z => by
      have he : s.heap.get? e = _ := he
      rw [z, ho] at he
      have := congrArg Obj.cls (Option.some.inj he)
      rw [hcl] at this
      exact absurd (Value.type.inj this) (by decide)
    have hlt : i < its.toArray.size := by
      rw [List.size_toArray]
      exact (List.getElem?_eq_some_iff.mp hu).1
    refine wpAny_pyNext_enum_itemD (Draws.tuple (A := X.A.in1) (I.ok.hd hc) it a hai its.toArray) he ⟨hit, hT⟩ hlt hne (by simp [hne, hae]) fun x' h' tk hx' ho' st' hT' hsz hk => ?_
    have ex : x' = u := by
      have : its.toArray[i]? = some x' := hx'
      rw [List.getElem?_toArray, hu] at this
      exact (Option.some.inj this).symm
    subst ex
    refine ⟨_, rfl, wpAny_letOwnedTupleGo_enum (s := { s with heap := h', toks := tk + 1 }) ho' fun h'' he' sb => ?_⟩
    have hT2 : h''.get? s.heap.objs.size = some { cls := .type "tuple", data := .seq #[.int i tk, x'] } := (sb.2 _ (Nat.ne_of_gt hel)).trans hT'
    have new : ObjOk X.prog X.w (upd H s.heap.objs.size (.tup [.int (i : Nat), x])) h'' s.heap.objs.size (.tup [.int (i : Nat), x]) :=
      ⟨by show 2 ≤ sizeLine; decide, [.int i tk, x'], .cons ⟨_, rfl⟩ (.cons ru .nil), ⟨_, hT2, rfl, _, rfl⟩⟩
    have I1 : Inv X pins σ (upd H s.heap.objs.size (.tup [.int (i : Nat), x])) { s with heap := h'', toks := tk + 1 } :=
      I.turnedNew (ch := [e, it]) (fun b ob hb q => (sb.2 b (fun z => hb (by simp [z]))).trans (hk b ob (fun z => hb (by simp [z])) (fun z => hb (by simp [z])) q)) hf (Nat.le_refl _) new
    refine ⟨.ref s.heap.objs.size, _, I1, rfl, ⟨_, x, rfl, I.hok.fresh (Nat.le_refl _), rfl, fun ys hy => by rw [I.tuple_inj hy hq]; exact hx⟩, ⟨⟨x', ?_⟩, st'.1.at fun o q => (sb.2 it (Ne.symm hne)).trans q, hne⟩, fun b hb => ?_⟩
    · rw [show ((i + 1 : Nat) : Int) = (i : Int) + 1 by omega]; exact he'
    · have hb' : b < s.heap.objs.size := by
        rcases (show b = e ∨ b = it by simpa using hb) with z | z
        · rw [z]; exact hel
        · rw [z]; exact hil
      rw [upd_ne (Nat.ne_of_lt hb')]
      exact (hf b hb).1
  done := by
    intro X hP hw hK hc i pins s σ H E I hf st hg
    subst hP hw hK
    obtain ⟨⟨old, he⟩, hit, hne⟩ := st
    obtain ⟨xs, hq, hx⟩ := hg
    obtain ⟨its, rv, ⟨o, ho, hcl, n, hd⟩, hz⟩ := I.tuple hq
    have hT : s.heap.IsTuple a its.toArray := ⟨o, ho, hcl, n, hd⟩
    obtain ⟨f0, f1, f2, f3, f4, f5⟩ := hf it (by simp)
    have hl := rv.length
    have hai : a ≠ it := fun z => by
      obtain ⟨o2, q1, q2, _⟩ := hit
      rw [← z, ho] at q1; cases q1
      rw [hcl] at q2
      exact absurd (Value.type.inj q2) (by decide)
    have hn : its.toArray.size = i := by rw [List.size_toArray, ← hl]; exact hx
    exact wpAny_pyNext_enum_endD (Draws.tuple (A := X.A.in1) (I.ok.hd hc) it a hai its.toArray) he (by rw [hn]; exact ⟨hit, hT⟩) fun h' eb => ⟨rfl, I.turned (t' := s.toks) (fun b o hb q => eb b o hb q) f0 f1 f3 f4 f5⟩
  self := fun A i s Q E st h => let ⟨⟨_, he⟩, _⟩ := st; wpAny_pyIter_enum he h
def jEnum (K : PySem.W.Frag) (ta : TA) : TI := fun σ H R => ta σ H fun vs H1 => ∃ a xs, vs = [.ref a] ∧ SqT K H1 a xs ∧ R (Jte K a) H1
theorem pi_enumT {X : Cx} {e : Expr} {ta : TA} {p pos tpos : Pos} {elts : List Expr} {kk : Nat} (hg : Gl X "enumerate") (hm : X.mg "enumerate" = none) (ha : PA X [e] ta) (hs : starEach [e] X.env = [(false, eval e X.env)] := by rfl) :
    PI X (.Tuple elts kk tpos) (.Call (.Name "enumerate" p) [e] [] pos) (jEnum X.K ta) := by
  refine ⟨fun pins s σ H R I h => ?_⟩
  refine Call_ (ld_blt I hg hm boot_enumerate (PyProof.Rows.callWith_type1 (thn (ha.run pos pins s σ H _ I h) fun us s1 ⟨vs, H1, I1, r1, a, xs, ex, hq, q⟩ => ?_) hs rfl))
  subst ex
  cases r1 with
  | @cons _ u _ us r rr =>
    cases rr
    cases (show u = Value.ref a from r)
    obtain ⟨its, rv, ⟨o, ho, hcl, n, hd⟩, hz⟩ := I1.tuple hq
    refine enum_callT (items := its.toArray) ⟨o, ho, hcl, n, hd⟩ fun h' he hit hk => wpAny_pyIter_enum he ?_
    refine ⟨s1.heap.objs.size + 1, [s1.heap.objs.size + 1, s1.heap.objs.size], _, _, H1, rfl, I1.kept (t' := s1.toks) hk, enum_turnT a (s1.heap.objs.size + 1) s1.heap.objs.size, ⟨⟨.none, he⟩, hit, Nat.succ_ne_self _⟩, fun b hb => ?_, q⟩
    have hle : s1.heap.objs.size ≤ b := by
      rcases (show b = s1.heap.objs.size + 1 ∨ b = s1.heap.objs.size by simpa using hb) with z | z
      · rw [z]; exact Nat.le_add_right _ _
      · rw [z]; exact Nat.le_refl _
    exact I1.fpOk hle (I1.hok.fresh hle)
section
variable {X : Cx} {Γ Γ1 : Env'} {e : Expr} {p pos tpos : Pos} {ds : List D} {elts : List Expr} {kk : Nat} {α : Type} {enc : α → D} {xs : List α}
/-- the places and the items -/
def enumL {α : Type} (xs : List α) : List (Int × α) := (rangeI 0 xs.length).zip xs
theorem enumL_at {α : Type} {xs : List α} {i : Nat} {q : Int × α} : (enumL xs)[i]? = some q ↔ q.1 = i ∧ xs[i]? = some q.2 := by
  unfold enumL
  rw [List.getElem?_zip_eq_some]
  constructor
  · rintro ⟨h1, h2⟩
    have := rangeI_at h1
    exact ⟨by omega, h2⟩
  · rintro ⟨h1, h2⟩
    have hlt := (List.getElem?_eq_some_iff.mp h2).1
    refine ⟨?_, h2⟩
    unfold rangeI
    rw [List.getElem?_map, List.getElem?_range (by omega), h1]
    simp
theorem enumL_len {α : Type} (xs : List α) : (enumL xs).length = xs.length := by
  unfold enumL
  rw [List.length_zip, rangeI_len]; omega
/-- for (i, x) in enumerate(t) -/
theorem iv_enumT (hg : Gl X "enumerate") (hm : X.mg "enumerate" = none) (h : EV X Γ e (.dat (.tup (xs.map enc))) Γ1) (hs : starEach [e] X.env = [(false, eval e X.env)] := by rfl) : IV X Γ (.Tuple elts kk tpos) (.Call (.Name "enumerate" p) [e] [] pos) ((enumL xs).map (eP D.int enc)) Γ1 ((enumL xs).length ≤ sizeLine) :=
  ⟨_, PD.PI.sz (pi_enumT hg hm (pa_cons h pa_nil hs) hs), fun σ H R F hH q => ⟨F, hH, fun F1 H1 v p hv => by
    have hv : Rep (kc X) F1 v (.tup (xs.map enc)) := hv
    cases hv with
    | @tup a vs _ s t =>
      have hl := t.length
      rw [List.length_map] at hl
      refine ⟨a, vs, rfl, p.ok.le.seqT s, fun z => q F1 H1 _ p ⟨fun F' H' l1 l2 i d hd => ?_, fun F' H' l1 l2 => ⟨vs, (l1.trans l2).seqT s, by rw [List.length_map, enumL_len]; exact hl⟩⟩ (by rw [enumL_len, ← hl]; exact z.2 _ _ (p.ok.le.seqT s))⟩
      rw [List.getElem?_map] at hd
      cases hq : (enumL xs)[i]? with
      | none => rw [hq] at hd; cases hd
      | some w =>
        rw [hq] at hd
        cases hd
        obtain ⟨e1, e2⟩ := enumL_at.mp hq
        obtain ⟨x, hx, rx⟩ := t.get (show (xs.map enc)[i]? = some (enc w.2) by rw [List.getElem?_map, e2]; rfl)
        refine ⟨⟨vs, x, (l1.trans l2).seqT s, hx⟩, fun y H2 ⟨T, x', ey, nT, eH, hx'⟩ => ?_⟩
        subst ey eH
        have := hx' _ ((l1.trans l2).seqT s)
        rw [hx] at this; cases this
        have fT : F' T = none := by
          cases q : F' T with
          | none => rfl
          | some o => rw [l2 T o q] at nT; cases nT
        refine ⟨upd F' T (.tup [.int (i : Nat), x]), ⟨fun b o hb => by rw [upd_ne (ne_of_none hb fT)]; exact hb, fun b o hb hf _ => ⟨by rw [upd_ne (ne_of_none hb nT)]; exact hb, by rw [upd_ne (ne_of_none hb nT)]; exact hf⟩, fun b o hb => ⟨o, by rw [upd_ne (ne_of_none hb nT)]; exact hb⟩⟩, fun b o hb => ?_, ?_⟩
        · by_cases z : b = T
          · subst z; rw [upd_same] at hb ⊢; exact hb
          · rw [upd_ne z] at hb ⊢; exact l2 b o hb
        · refine .tup (.inl (.inl upd_same)) (.cons ?_ (.cons ((rx.mono l1).mono fun b o hb => by rw [upd_ne (ne_of_none hb fT)]; exact hb) .nil))
          rw [e1]; exact .int _⟩⟩
end
end PD
namespace PD
open PySem PySem.Spec PyProof.Rows L2
/-! ### typed dicts whose keys are tuples -/
structure EncKey {α : Type} (enc : α → D) : Prop where
  key : ∀ a, (enc a).isKey = true
  inj : ∀ a b, (enc a).nk = (enc b).nk → a = b
section
variable {α β γ : Type} [DecidableEq α] {enc : α → D} {encb : β → D}
def dGet (es : List (α × β)) (k : α) : Option β := (es.find? fun e => decide (e.1 = k)).map (·.2)
def dHas (es : List (α × β)) (k : α) : Bool := es.any fun e => decide (e.1 = k)
def dPut (es : List (α × β)) (k : α) (v : β) : List (α × β) := if dHas es k then es.map (fun e => if e.1 = k then (e.1, v) else e) else es ++ [(k, v)]
/-- the entries as data -/
abbrev eEs (enc : α → D) (encb : β → D) (es : List (α × β)) : List (D × D) := es.map fun e => (enc e.1, encb e.2)
abbrev eN (enc : α → D) (encb : β → D) (es : List (α × β)) : D := .dct true ((eEs enc encb es).map (·.1)) ((eEs enc encb es).map (·.2))
abbrev oN (enc : α → D) (encb : β → D) (es : List (α × β)) : Oc := .dN ((eEs enc encb es).map (·.1)) ((eEs enc encb es).map (·.2))
theorem dGet_enc (h : EncKey enc) (k : α) : ∀ es : List (α × β), dGetD (eEs enc encb es) (enc k).nk = (dGet es k).map encb
  | [] => rfl
  | e :: es => by
    have ih := dGet_enc h k es
    unfold dGetD dGet at *
    show Option.map (fun x => x.2) (List.find? (fun e => decide (e.1.nk = (enc k).nk)) ((enc e.1, encb e.2) :: eEs enc encb es)) = _
    rw [List.find?_cons, List.find?_cons]
    by_cases q : e.1 = k
    · rw [decide_eq_true q, decide_eq_true (by rw [q])]; rfl
    · rw [decide_eq_false q, decide_eq_false fun z => q (h.inj _ _ z)]; exact ih
theorem dHas_get (k : α) : ∀ es : List (α × β), dHas es k = (dGet es k).isSome
  | [] => rfl
  | e :: es => by
    have ih := dHas_get k es
    unfold dHas dGet at *
    rw [List.any_cons, List.find?_cons, ih]
    by_cases q : e.1 = k
    · rw [decide_eq_true q]; rfl
    · rw [decide_eq_false q]; rfl
theorem dHas_enc (h : EncKey enc) (k : α) (es : List (α × β)) : (dGetD (eEs enc encb es) (enc k).nk).isSome = dHas es k := by
  rw [dGet_enc h, dHas_get]; cases dGet es k <;> rfl
theorem dPut_enc (h : EncKey enc) (k : α) (v : β) (es : List (α × β)) : dPutD (eEs enc encb es) (enc k) (encb v) = eEs enc encb (dPut es k v) := by
  unfold dPutD dPut
  rw [dHas_enc h]
  cases dHas es k with
  | true =>
    rw [if_pos rfl, if_pos rfl]
    show (es.map _).map _ = (es.map _).map _
    rw [List.map_map, List.map_map]
    refine List.map_congr_left fun e _ => ?_
    show (if (enc e.1).nk = (enc k).nk then (enc e.1, encb v) else (enc e.1, encb e.2)) = (fun e : α × β => (enc e.1, encb e.2)) (if e.1 = k then (e.1, v) else e)
    by_cases q : e.1 = k
    · rw [if_pos q, if_pos (by rw [q])]
    · rw [if_neg q, if_neg fun z => q (h.inj _ _ z)]
  | false =>
    rw [if_neg Bool.false_ne_true, if_neg Bool.false_ne_true]
    show _ = (es ++ [(k, v)]).map _
    rw [List.map_append]; rfl
theorem dHas_mem {es : List (α × β)} {k : α} : dHas es k = true ↔ k ∈ es.map (·.1) := by
  unfold dHas
  simp
variable {X : Cx} {Xe Γ Γ0 Γ1 Γ2 Γ3 : Env'} {e a b c o tg iter kx vx : Expr} {pos p px apos : Pos} {r ra rb rc rv : Rv} {u : α} {v : β} {es : List (α × β)}
inductive VDt {α β : Type} (Γ : Env') (enc : α → D) (encb : β → D) : Rv → List (α × β) → Prop
  | dat {es : List (α × β)} : VDt Γ enc encb (.dat (eN enc encb es)) es
  | own {es : List (α × β)} : VDt Γ enc encb (.own (oN enc encb es)) es
  | bor {i : Nat} {ao : Option Addr} {es : List (α × β)} : Γ[i]? = some (.own ao (oN enc encb es)) → VDt Γ enc encb (.bor i) es
theorem VDt.n (w : VDt Γ enc encb r es) : VDn Γ r (eEs enc encb es) := by
  cases w with
  | dat => exact .dat
  | own => exact .own
  | bor h => exact .bor h
theorem evt_newN : EV X Γ (.Dict [] [] pos) (.own (oN enc encb ([] : List (α × β)))) Γ := ev_newN
theorem evt_inN (hu : X.A.units + 9 < cLine) (h : EncKey enc) (ha : EV X Γ a (.dat (enc u)) Γ1) (hb : EV X Γ1 b rb Γ2) (w : VDt Γ2 enc encb rb es) (hm : behindInMarks .In b = false := by rfl) : EV X Γ (.Compare a [.In] [b] pos) (.dat (.bl (dHas es u))) Γ2 := by
  have := ev_inN (pos := pos) hu (h.key u) ha hb w.n hm
  rwa [dHas_enc h] at this
theorem tvt_inN (hu : X.A.units + 9 < cLine) (h : EncKey enc) (ha : EV X Γ a (.dat (enc u)) Γ1) (hb : EV X Γ1 b rb Γ2) (w : VDt Γ2 enc encb rb es) (hm : behindInMarks .In b = false := by rfl) : TV X Γ (.Compare a [.In] [b] pos) (dHas es u) Γ2 := by
  have := tv_inN (pos := pos) hu (h.key u) ha hb w.n hm
  rwa [dHas_enc h] at this
theorem evt_ninN (hu : X.A.units + 9 < cLine) (h : EncKey enc) (ha : EV X Γ a (.dat (enc u)) Γ1) (hb : EV X Γ1 b rb Γ2) (w : VDt Γ2 enc encb rb es) (hm : behindInMarks .NotIn b = false := by rfl) : EV X Γ (.Compare a [.NotIn] [b] pos) (.dat (.bl (!dHas es u))) Γ2 := by
  have := ev_ninN (pos := pos) hu (h.key u) ha hb w.n hm
  rwa [dHas_enc h] at this
theorem tvt_ninN (hu : X.A.units + 9 < cLine) (h : EncKey enc) (ha : EV X Γ a (.dat (enc u)) Γ1) (hb : EV X Γ1 b rb Γ2) (w : VDt Γ2 enc encb rb es) (hm : behindInMarks .NotIn b = false := by rfl) : TV X Γ (.Compare a [.NotIn] [b] pos) (!dHas es u) Γ2 := by
  have := tv_ninN (pos := pos) hu (h.key u) ha hb w.n hm
  rwa [dHas_enc h] at this
theorem stt_putN {S L R : Type} {G : S → Env'} {Lp : L → Env'} {Kr : R → Rv × Env'} {st : S} {x : Str} {k : Nat} {ao : Option Addr} {i : Expr} {p' : Pos} (hu : X.A.units + 9 < cLine) (h : EncKey enc) (hv : PE X (.Name x px) (tVar k)) (he : EV X Γ e (.dat (encb v)) Γ1) (hi : EV X Γ1 i (.dat (enc u)) Γ2) (hk1 : Γ1[k]? = some (.own ao (oN enc encb es))) (hk2 : Γ2[k]? = some (.own ao (oN enc encb es))) (hz : es.length < sizeLine)
    (w : Weak (Γ2.set k (.own ao (oN enc encb (dPut es u v)))) (G st)) (hs : swapsWith e (some (.Subscript (.Name x px) i p')) pos.line X.env = pure false := by rfl) : ST X Xe Γ (.Assign [.Subscript (.Name x px) i p'] e pos) G Lp Kr (.next st) :=
  st_putN (es := eEs enc encb es) hu hv he hi hk1 hk2 (h.key u) (by rw [List.length_map]; exact hz) (by rw [dPut_enc h]; exact w) hs
theorem keys_enc (es : List (α × β)) : (eEs enc encb es).map (·.1) = (es.map (·.1)).map enc := by rw [List.map_map, List.map_map]; rfl
theorem evt_sortedN (hu : X.A.units + 64 < cLine) (hc : X.calm = true) (hg : Gl X "sorted") (hm : X.mg "sorted" = none) (ho : EncOrd enc) (ht : EncTop enc) (w : VDt Γ1 enc encb r es) (ha : EV X Γ a r Γ1)
    (hs : starEach [a] X.env = (false, eval a X.env) :: starEach [] X.env := by rfl) : EV X Γ (.Call (.Name "sorted" p) [a] [] pos) (.own (.lst (((es.map (·.1)).mergeSort (leT enc)).map enc))) Γ1 := by
  have := ev_sortedN (p := p) (pos := pos) (es := eEs enc encb es) hu hc hg hm w.n (fun d hd e he => by
    rw [keys_enc] at hd he
    simp only [List.map_map, List.mem_map, Function.comp] at hd he
    obtain ⟨x, _, rfl⟩ := hd
    obtain ⟨y, _, rfl⟩ := he
    exact ho.al _ _) (by
    rw [keys_enc]
    rcases ht with h | h
    · refine .inl fun d hd => ?_
      simp only [List.map_map, List.mem_map, Function.comp] at hd
      obtain ⟨x, _, rfl⟩ := hd
      exact h _
    · refine .inr fun d hd => ?_
      simp only [List.map_map, List.mem_map, Function.comp] at hd
      obtain ⟨x, _, rfl⟩ := hd
      exact h _) (fun d hd => by
    rw [keys_enc] at hd
    obtain ⟨x, _, rfl⟩ := List.mem_map.mp hd
    exact ho.dep x) (fun d hd => by
    rw [keys_enc] at hd
    obtain ⟨x, _, rfl⟩ := List.mem_map.mp hd
    exact ho.pl x) ha hs
  rw [keys_enc, sorted_map] at this
  exact this
/-- {k: v for .. in ..} -/
def dOf (f : γ → α) (g : γ → β) (xs : List γ) : List (α × β) := xs.foldl (fun es x => dPut es (f x) (g x)) []
theorem dOf_enc (h : EncKey enc) (f : γ → α) (g : γ → β) : ∀ (xs : List γ) (es : List (α × β)), xs.foldl (fun es x => dPutD es (enc (f x)) (encb (g x))) (eEs enc encb es) = eEs enc encb (xs.foldl (fun es x => dPut es (f x) (g x)) es)
  | [], es => rfl
  | x :: xs, es => by rw [List.foldl_cons, List.foldl_cons, dPut_enc h, dOf_enc h f g xs]
theorem evt_dcn {encc : γ → D} {sh : Sh} {B : Prop} {scope : Scope} {own : List (Str × Nat)} (f : γ → α) (g : γ → β) {xs : List γ} (hu : X.A.units + 9 < cLine) (hc : X.calm = true) (hN : X.N.Nodup) (ok : BlkOk X.N X.env.scope scope own) (hg : ∀ s H C cl fp, PG (Bk X scope s H C cl fp) tg (sh.g (kc X)))
    (h : EncKey enc) (hi : IV X Γ tg iter (xs.map encc) Γ1 B) (hix : ∀ n, n ∈ sh.ix → n ∈ own.map (·.2)) (w0 : Weak Γ1 Γ0) (hv : ∀ n, n ∈ own.map (·.2) → ∀ t, Γ0[n]? = some t → t = .any) (hB : B → xs.length ≤ sizeLine)
    (hb : B → ∀ x, x ∈ xs → ∃ Γa Γb Γc, sh.set Γ0 (encc x) = some Γa ∧ (∀ s H C cl fp, EV (Bk X scope s H C cl fp) Γa kx (.dat (enc (f x))) Γb) ∧ (∀ s H C cl fp, EV (Bk X scope s H C cl fp) Γb vx (.dat (encb (g x))) Γc) ∧ Weak Γc Γ0)
    (hs : ∀ x, foldedSetIterable iter X.env x = pure x := by intro _; rfl) : EV X Γ (.DictComp kx vx [⟨tg, iter, [], 0⟩] scope pos) (.own (oN enc encb (dOf f g xs))) Γ0 := by
  have := ev_dcn (pos := pos) (fun x => enc (f x)) (fun x => encb (g x)) hu hc hN ok hg hi hix w0 hv hB (fun hBv x hx => ⟨h.key _, hb hBv x hx⟩) hs
  have e := dOf_enc (encb := encb) h f g xs []
  rw [show eEs enc encb ([] : List (α × β)) = [] from rfl] at e
  rwa [e] at this
end
end PD
set_option maxHeartbeats 1000000
namespace PD
open PySem PySem.Spec PyProof.Rows L2 NdefX
/-! ### the __init__ of an own exception: super().__init__(text), then its attributes -/
/-- a def over its class, in K -/
structure FunC (P : Program) (K : PySem.W.Frag) (x qual : Str) (st : Stmt) (D f : Addr) (fd : FuncData) (cc cda : Addr) : Prop where
  fn : ∃ (oc : Value) (od : Option Addr) (kV doc pm : Value) (an : Option Addr) (ct : Value) (osl : Array (Option Value)), fd = PySem.W.ksFn x qual (defArgs st) (defBody st) (defScope st) .none kV doc pm an (.ref cda) ct cc ∧ K.lookup f = some ⟨oc, od, .func fd, osl⟩
  cd : PySem.W.codeIn K (.ref cda) qual = true
  code : ∃ (ccl : Value) (cdd : Option Addr) (vs : Array Value) (ccs : Array (Option Value)) (file : Str) (tf : Tok), K.lookup cda = some ⟨ccl, cdd, .fields vs, ccs⟩ ∧ vs[2]? = some (.str file tf) ∧ ((P.main.file : Str) == file) = true
  cell : ∃ (cl : Value) (cld : Option Addr) (csl : Array (Option Value)), K.lookup cc = some ⟨cl, cld, .cell (some (.ref D)), csl⟩
  top : (P.main.scope.names.lookup ("super" : Str)).isSome = false
/-- the class D of exceptions, over ValueError -/
structure ExD (K : PySem.W.Frag) (D : Addr) : Prop where
  op : PySem.W.nsIn K cStatics "thirdparty.any" = some none
  su : PySem.W.ks_superIn K D D "__init__" = some (some (.builtin "ValueError.__init__"))
  sv : PySem.W.subIn K (.ref D) (.type "ValueError") = some true
  md : PySem.W.mroIn K D (.ref D) = some true
  T : OexC K D
section
variable {X : Cx} {pins : List (Addr × Obj)} {σ : L2.St} {H : Hp} {s : Shared}
theorem pin_new {u : Addr} {o : Obj} (I : Inv X pins σ H s) (I2 : Inv X pins σ H { s with heap := s.heap.push o }) (hu : u = s.heap.objs.size) (hd : ∀ v, o.data ≠ .cell v) (ho : (s.heap.push o).get? u = some o) : Inv X ((u, o) :: pins) σ H { s with heap := s.heap.push o } := by
  subst hu
  refine I2.pins_of fun p hp => ?_
  rcases List.mem_cons.mp hp with rfl | hp
  · refine ⟨ho, I.hok.fresh (Nat.le_refl _), fun z => ?_, fun hb => ?_, hd⟩
    · obtain ⟨m, ⟨oL, es, ep, e, _⟩, _⟩ := I.loc
      have z : s.heap.objs.size = X.env.locals := z
      rw [← z] at e
      exact absurd (Heap.lt_size e) (Nat.lt_irrefl _)
    · obtain ⟨_, o', e', _⟩ := I.ok.funs.mem hb
      obtain ⟨o2, e2⟩ := I.base.there _ _ e' (fun z => I.ok.exfs _ z hb)
      exact absurd (Heap.lt_size e2) (Nat.lt_irrefl _)
  · exact I2.pin p (List.mem_append_right _ hp)
/-- the wrapper called: the args are laid anew -/
theorem mw_call {A : Around} {E : Value → Shared → Prop} {Q : Value → Shared → Prop} {a D u : Addr} {rest : List Value} (T : OexC X.K D) (I : Inv X pins σ H s) (e : H a = some (exo a D none)) (hu : s.heap.get? u = some (PySem.W.kxs_mw "ValueError.__init__" a)) (hz : rest.length ≤ sizeLine)
    (h : ∀ s', Inv X pins σ H s' → Q .none s') : wpAny (model X.prog X.w) A (call (.ref u) rest) Q E s := by
  obtain ⟨nm, q, N, bs, bm, sn, sub, ab, col, dd, k0, k1, k2, k3, k5, hC, hbm⟩ := T.cls
  obtain ⟨t1, ho⟩ := exo_at I.hok e
  have hC' := I.kIn _ _ hC
  have fin : ∀ h' t2, (∀ b o, b ≠ a → s.heap.get? b = some o → h'.get? b = some o) → h'.get? a = some ({ cls := .ref D, dict := none, data := .fields #[.ref t2, .none, .none, .none, .bool false, .none] } : Obj) → Q .none { s with heap := h' } := fun h' t2 k hx => by
    have J := I.write (t' := s.toks) (x := a) (e := a) (o := exo a D none) (by rw [e]; exact True.intro) (.inl rfl) k ⟨_, hx⟩ (exo_ok hx)
    have eu : upd H a (exo a D none) = H := by
      funext b
      by_cases hb : b = a
      · rw [hb, upd_same, e]
      · rw [upd_ne hb]
    rw [eu] at J
    exact h _ J
  obtain ⟨hh, g, d, tk, os⟩ := s
  refine wpAny_call (codeAny_of_tree ?_)
  show wpAny _ A.in1 (callAny (.ref u) ⟨rest, []⟩) _ _ _
  simp only [callAny]
  refine wpAny_bind (wpAny_load hu ?_)
  simp only [PySem.W.kxs_mw, show (Value.type "method-wrapper" == Value.type "method" || Value.type "method-wrapper" == Value.type "builtin_function_or_method" || Value.type "method-wrapper" == Value.type "method-wrapper") = true by decide, if_true]
  refine PySem.W.KFB.if_so (by decide) ?_
  refine wpAny_bind (PySem.W.check_bound_init F.excBase_ValueError.toExcCallFacts hC' ho rfl ?_)
  refine wpAny_bind (wpAny_pure (wpAny_pure ?_))
  refine ⟨plainId_quiet F.excBase_ValueError.init.plain _, codeAny_builtin F.excBase_ValueError.initEntry ?_⟩
  exact PySem.W.exc_init_tree (cls := .ref D) (t0 := t1) (dv := none) (c2 := .none) (c3 := .none) (b4 := .bool false) ho hz fun h' k h1 h2 => fin h' _ k h1
/-- super().__init__(e0) -/
theorem super_call {P : Program} {K : PySem.W.Frag} {x qual : Str} {st : Stmt} {a D f cc cda L : Addr} {fd : FuncData} {body : List Stmt} {ar : Arg} {e0 : Expr} {p0 p1 ap pos : Pos} {t0 : TE} {Q : Value → Shared → Prop} {pl : Sem Bool} (hP : X.prog = P) (hK : X.K = K)
    (FC : FunC P K x qual st D f fd cc cda) (ED : ExD K D) (henv : X.env = PySem.W.ksEnv qual (defScope st) L f (.ref cda) cc)
    (hp : ((defArgs st).posonlyargs ++ (defArgs st).args).head? = some ar) (hks : (defScope st).names.lookup ("super" : Str) = some .globalImplicit) (hkc : (defScope st).names.lookup ("__class__" : Str) = some .free) (hka : (defScope st).names.lookup ar.arg = some .local)
    (hm : X.mg "super" = none) (hN : X.N[0]? = some ar.arg) (I : Inv X pins σ H s) (h0 : σ[0]? = some (some (.ref a))) (e : H a = some (exo a D none)) (he : PE X e0 t0)
    (ht : ∀ R : VK, (∀ y : Str, R (.str y) H) → t0 σ H R) (h : ∀ s', Inv X pins σ H s' → Q .none s')
    (hev : eval (.Call (.Attribute (.Call (.Name "super" p0) [] [] p1) "__init__" ap) [e0] [] pos) X.env = (do
      let ov ← attributeBase (.Call (.Name "super" p0) [] [] p1) "__init__" X.env (eval (.Call (.Name "super" p0) [] [] p1) X.env)
      standAt ap.atName
      let (f, first) ← holding [ov] (getMethod ov "__init__" pl)
      callWith pos f first (backTo pos (starEach [e0] X.env)) []))
    (hs : starEach [e0] X.env = (false, eval e0 X.env) :: starEach [] X.env) :
    PySem.wpAt (model X.prog X.w) X.A (.func body X.env) (eval (.Call (.Attribute (.Call (.Name "super" p0) [] [] p1) "__init__" ap) [e0] [] pos) X.env) Q X.xe s := by
  subst hP hK
  obtain ⟨oc, od, kV, doc, pm, an, ct, osl, hfd, hf⟩ := FC.fn
  obtain ⟨ccl, cdd, vs, ccs, file, tf, hcode, hvs, hfile⟩ := FC.code
  obtain ⟨cl, cld, csl, hcell⟩ := FC.cell
  have KX := I.kIn
  have ok := I.ok
  obtain ⟨m, hns, hlk⟩ := id I.loc
  obtain ⟨u, ru, lu⟩ := hlk 0 ar.arg (.ref a) hN h0 (.inl (by rw [henv]; exact hka))
  obtain rfl : u = Value.ref a := ru
  have hma : m ar.arg = some (.ref a) := by
    rcases lu with ⟨_, z⟩ | ⟨hk, _⟩
    · exact z
    · have kl : X.env.kindOf ar.arg = some .local := by rw [henv]; exact hka
      rcases hk with hk | hk <;> · rw [kl] at hk; cases hk
  refine PySem.ks_wpAt_MethodCall (pl := pl) ?_ hev
  have kS : X.env.kindOf "super" = some .globalImplicit := by rw [henv]; exact hks
  have kC : X.env.kindOf "__class__" = some .free := by rw [henv]; exact hkc
  have kA : X.env.kindOf ar.arg = some .local := by rw [henv]; exact hka
  refine PySem.ks_wpAt_super_base (attr := "__init__") kS kC (by decide) (by rw [henv]) (KX _ _ hf) rfl (by rw [hfd]; exact hp) (by rw [henv]) (KX _ _ hcode) rfl hvs hfile FC.top ?_
  obtain ⟨mb, b1, b2⟩ := ok.mod.blt
  refine PySem.W.ks_loadName_global ok.kind kS (Calls.loadGlobal_builtin (by rw [ok.glob]; exact ok.mod.glob.keeps I.bk) hm (by rw [ok.blt]; exact b1.keeps I.bk) ((b2 "super" (by decide)).trans (by decide +kernel)) ⟨rfl, ?_⟩)
  refine wpAny_loadName_free ok.kind kC (by rw [henv]; rfl) ⟨_, KX _ _ hcell, rfl⟩ ?_
  refine wpAny_loadName_local ok.kind kA hns hma ?_
  obtain ⟨nm, q, N, bs, bm, sn, sub, ab, col, dd, k0, k1, k2, k3, k5, hC, hbm⟩ := ED.T.cls
  obtain ⟨t1, ho⟩ := exo_at I.hok e
  have hcl : PySem.W.clsIn X.K D = some { name := nm, bases := bs, mro := .ref D :: bm, ns := N, qualname := q, hasDict := true, slotNames := sn, subclasses := sub, abstract := ab, collection := col, hasDel := false } := by unfold PySem.W.clsIn; rw [hC] <;> rfl
  have hC' := KX _ _ hC
  refine PySem.ks_wpAny_isType_cls hC' rfl ⟨rfl, ?_⟩
  obtain ⟨hh, g, d, tk, os⟩ := s
  refine PySem.ks_wpAny_call_super hC' rfl ho rfl (fun c z => by cases z) (PySem.W.looks_mroIn KX ED.md) (fun h1 hso k1' => ?_)
  have I1 : Inv X pins σ H ⟨h1, g, d, tk, os⟩ := I.kept (t' := tk) k1'
  have ho1 := k1' _ _ ho
  have su := ED.su
  unfold PySem.W.ks_superIn at su
  rw [hcl] at su
  have JI : PySem.W.InstAt h1 a { cls := .ref D, dict := none, data := .fields #[.ref t1, .none, .none, .none, .bool false, .none] } D none := ⟨ho1, rfl, rfl, trivial⟩
  refine PySem.W.kxs_getMethod PySem.W.kxs_ValueError hso (PySem.W.looks_opaque I1.kIn ED.op) ((PySem.W.looks_clsIn I1.kIn hcl).andThen .now) rfl I1.kIn su (JI.type.andThen (PySem.W.looks_subIn I1.kIn ED.sv)) (PySem.W.ks_ne I1.kIn JI hcl) (by decide) ?_
  have kp : ∀ b o, h1.get? b = some o → (h1.push (PySem.W.kxs_mw "ValueError.__init__" a)).get? b = some o := fun b o e => Heap.get?_push_of_some _ e
  have I2 : Inv X pins σ H ⟨h1.push (PySem.W.kxs_mw "ValueError.__init__" a), g, d, tk, os⟩ := I1.kept (t' := tk) kp
  have I3 := (pin_new I1 I2 rfl (fun v z => by cases z) (Heap.get?_push_size h1 rfl)).tok (tk + 1)
  rw [hs]
  refine PySem.W.kxs_callWith (i := "ValueError.__init__") (x := a) (by first | rfl | simp [starEach]) (Calls.evalArgs_plain ?_)
  have pa : PA X [e0] (tCons t0 tNil) := pa_cons he pa_nil hs
  have run := pa.run pos _ _ σ H (fun vs H' => vs.length = 1 ∧ H' = H) I3 (by
    refine ht _ fun y => ?_
    exact ⟨rfl, rfl⟩)
  rw [hs] at run
  refine thn run fun us s2 ⟨vs', H2, I4, r4, hl, hH⟩ => ?_
  subst hH
  obtain ⟨pu, _⟩ := I4.pin (h1.objs.size, PySem.W.kxs_mw "ValueError.__init__" a) (List.mem_append_right _ (List.mem_cons_self ..))
  refine ⟨pu, ?_⟩
  refine mw_call ED.T I4 e pu (by have := r4.length; rw [sizeLine_eq]; simp; omega) fun s' J => ?_
  exact h s' (J.pins_of fun p hp => J.pin p (List.mem_append_right _ (List.mem_cons_of_mem _ hp)))
end
/-- what D's own __init__ does: its attributes ns are told -/
def spX (D : Addr) (ns : List Str) (ok : List V → Prop) : Sp := fun vs H Q _ => ∃ (a : Addr) (us : List V), vs = .ref a :: us ∧ us.length = ns.length ∧ H a = some (exo a D none) ∧ ok us ∧
  ∀ (dx : Addr) (H' : Hp) (fs : List (Str × V)), H dx = none → dx ≠ a → H' a = some (exo a D (some dx)) → H' dx = some (exd dx fs) → (∀ (i : Nat) n u, ns[i]? = some n → us[i]? = some u → fs.lookup n = some u) → (∀ b, b ≠ a → b ≠ dx → H' b = H b) → Q .non H'
abbrev xF (x qual : Str) (st : Stmt) (cc cda : Addr) : NF := ⟨x, qual, defArgs st, defBody st, defScope st, [("__class__", cc)], cda⟩
section
variable {P : Program} {w : World} {K : PySem.W.Frag} {mg : Str → Option Value} {base : Heap}
theorem exc_fn {k : Nat} {x qual : Str} {st : Stmt} {D f cc cda : Addr} {fd : FuncData} {N ps ns : List Str} {ok : List V → Prop} {e0 : Expr} {rest : List Stmt} {p0 p1 ap pos pos' : Pos} {ar : Arg}
    (FC : FunC P K x qual st D f fd cc cda) (ED : ExD K D) (S : NScope N ps ["__class__"] (defScope st)) (hm : mg "super" = none) (hlen : ps.length = ns.length + 1)
    (hb : defBody st = .Expr (.Call (.Attribute (.Call (.Name "super" p0) [] [] p1) "__init__" ap) [e0] [] pos) pos' :: rest)
    (hp : ((defArgs st).posonlyargs ++ (defArgs st).args).head? = some ar) (hp0 : N[0]? = some ar.arg) (hks : (defScope st).names.lookup ("super" : Str) = some .globalImplicit) (hkc : (defScope st).names.lookup ("__class__" : Str) = some .free) (hka : (defScope st).names.lookup ar.arg = some .local)
    (body : ∀ (A : Around) (outer : List Env) (s : Shared) (H : Hp) (E : XK) (a : Addr) (us : List V), ok us → us.length = ns.length → H a = some (exo a D none) →
      ∃ (t0 : TE) (t1 : TS) (pl : Sem Bool), PE (ncx (L2.CX P w) P w K mg base N (xF x qual st cc cda) f A outer s H E) e0 t0 ∧ (∀ R : VK, (∀ y : Str, R (.str y) H) → t0 (startF N (.ref a :: us) [none]) H R) ∧
        eval (.Call (.Attribute (.Call (.Name "super" p0) [] [] p1) "__init__" ap) [e0] [] pos) (envF (xF x qual st cc cda) f s.heap.objs.size) = (do
          let ov ← attributeBase (.Call (.Name "super" p0) [] [] p1) "__init__" (envF (xF x qual st cc cda) f s.heap.objs.size) (eval (.Call (.Name "super" p0) [] [] p1) (envF (xF x qual st cc cda) f s.heap.objs.size))
          standAt ap.atName
          let (f', first) ← holding [ov] (getMethod ov "__init__" pl)
          callWith pos f' first (backTo pos (starEach [e0] (envF (xF x qual st cc cda) f s.heap.objs.size))) []) ∧
        starEach [e0] (envF (xF x qual st cc cda) f s.heap.objs.size) = (false, eval e0 (envF (xF x qual st cc cda) f s.heap.objs.size)) :: starEach [] (envF (xF x qual st cc cda) f s.heap.objs.size) ∧
        swapsWith (.Call (.Attribute (.Call (.Name "super" p0) [] [] p1) "__init__" ap) [e0] [] pos) none pos'.line (envF (xF x qual st cc cda) f s.heap.objs.size) = pure false ∧
        PSs (ncx (L2.CX P w) P w K mg base N (xF x qual st cc cda) f A outer s H E) rest t1 ∧
        ∀ Dn : Ends, (∀ (dx : Addr) (H' : Hp) (fs : List (Str × V)), H dx = none → dx ≠ a → H' a = some (exo a D (some dx)) → H' dx = some (exd dx fs) → (∀ (i : Nat) n u, ns[i]? = some n → us[i]? = some u → fs.lookup n = some u) → (∀ b, b ≠ a → b ≠ dx → H' b = H b) → Dn.nx (startF N (.ref a :: us) [none]) H') →
          t1 Dn (startF N (.ref a :: us) [none]) H) :
    FnOk P w K mg base (L2.CX P w) (k + 1) f fd ps (spX D ns ok) := by
  refine ⟨fun vs H Q E ⟨a, us, e, hl, _⟩ => by rw [e, List.length_cons, hl, hlen], fun A outer s H args us vs Q E hr e0' hbind r hsp => ?_⟩
  obtain ⟨a, ws, rfl, hl, ha, hok, hq⟩ := hsp
  obtain ⟨oc, od, kV, doc, pm, an, ct, osl, rfl, hf⟩ := FC.fn
  have KX : K.In s.heap := e0'.mod.kin.keeps fun b o e => (e0'.bs b o e).1
  have lim : s.heap.NoLimit := e0'.mod.nolimit.keeps fun b o e => (e0'.bs b o e).1
  obtain ⟨cl, cld, csl, hcell⟩ := FC.cell
  have hcn : H cc = none := (e0'.bs _ _ (e0'.mod.kin _ _ hcell)).2
  have C : CellsAt [(("__class__" : Str), cc)] ["__class__"] [none] s.heap H := by
    have lk : ∀ y c, List.lookup y [(("__class__" : Str), cc)] = some c → y = "__class__" ∧ c = cc := fun y c e => by
      rw [List.lookup_cons] at e
      split at e
      · rename_i z
        cases e
        exact ⟨by simpa using z, rfl⟩
      · cases e
    refine ⟨rfl, fun y c e => ?_, fun y z c e1 e2 => (lk y c e1).1.trans (lk z c e2).1.symm, fun i y e => ?_⟩
    · obtain ⟨_, rfl⟩ := lk y c e
      exact ⟨hcn, _, _, KX _ _ hcell, rfl⟩
    · cases i with
      | zero => cases e; exact ⟨cc, by simp [List.lookup], fun v z => by cases z⟩
      | succ i => cases e
  have hl2 : (V.ref a :: ws).length = ps.length := by rw [List.length_cons, hl, hlen]
  refine PySem.ks_codeAny_call_defAt (binds := ps.zip us) hr.depth (KX _ _ hf) rfl lim (PySem.W.codeRec_of KX FC.cd) rfl hbind S.nocell (fun y hy => S.par y.1 (List.of_mem_zip hy).1) (fun h₁ hns kp => ?_) S.co S.gen S.kind
  have I : Inv (ncx (L2.CX P w) P w K mg base N (xF x qual st cc cda) f A outer s H E) [] (startF N (.ref a :: ws) [none]) H { s with heap := h₁, toks := s.toks + (ps.zip us).length } := inv_startN (F := xF x qual st cc cda) S hr.hd e0' hl2 r C hns kp
  obtain ⟨t0, t1, pl, h0, hr0, hev, hs, hsw, h1, hr1⟩ := body A outer s H E a ws hok hl ha
  have key : PySem.wpAt (model P w) (A.deeper (envF (xF x qual st cc cda) f s.heap.objs.size)) (.func (defBody st) (envF (xF x qual st cc cda) f s.heap.objs.size)) (execs (defBody st) (envF (xF x qual st cc cda) f s.heap.objs.size))
      (fun fl s' => SP (ncx (L2.CX P w) P w K mg base N (xF x qual st cc cda) f A outer s H E) [] { nx := fun _ H' => Q .non H', rt := Q } fl s') (ncx (L2.CX P w) P w K mg base N (xF x qual st cc cda) f A outer s H E).xe { s with heap := h₁, toks := s.toks + (ps.zip us).length } := by
    rw [show execs (defBody st) (envF (xF x qual st cc cda) f s.heap.objs.size) = execs (.Expr (.Call (.Attribute (.Call (.Name "super" p0) [] [] p1) "__init__" ap) [e0] [] pos) pos' :: rest) (envF (xF x qual st cc cda) f s.heap.objs.size) by rw [hb]]
    refine PySem.ks_wpAt_execs_cons (PySem.ks_wpAt_Expr_any (super_call (X := ncx (L2.CX P w) P w K mg base N (xF x qual st cc cda) f A outer s H E) (t0 := t0) rfl rfl FC ED rfl hp hks hkc hka hm hp0 I ?_ ha h0 hr0 (fun s' J => ?_) hev hs) (by unfold interactive; simp [S.kind]) hsw)
    · rfl
    · exact wpAt_of_wpAny (h1.run [] s' _ H { nx := fun _ H' => Q .non H', rt := Q } J (hr1 _ hq))
  refine PySem.ks_wpAt_mono key (fun fl s' hs' => ?_) fun e s' h => h
  have fin : ∀ {σ' : L2.St} {H' : Hp} {v : V} {u : Value}, Inv (ncx (L2.CX P w) P w K mg base N (xF x qual st cc cda) f A outer s H E) [] σ' H' s' → L2.RelV v u → Q v H' → CE outer P w H s Q u s' :=
    fun {σ' H' v u} J rv q => ⟨v, H', J.os, J.bare, J.base, J.hok, rv, q⟩
  cases fl with
  | ret u =>
    obtain ⟨v, σ', H', J, rv, q⟩ := hs'
    exact fin J rv q
  | next =>
    obtain ⟨σ', H', J, q⟩ := hs'
    exact fin (v := V.non) (u := Value.none) J rfl q
  | brk =>
    obtain ⟨_, _, _, q⟩ := hs'
    exact False.elim q
  | cont =>
    obtain ⟨_, _, _, q⟩ := hs'
    exact False.elim q
end
end PD
set_option maxHeartbeats 1000000
namespace PD
open PySem PySem.Spec PyProof.Rows L2 NdefX
/-! ### raise D(..) -/
structure Xle (P : Program) (w : World) (K : PySem.W.Frag) (mg : Str → Option Value) (base : Heap) (k : Nat) (x : Str) (D : Addr) (ns : List Str) (ok : List V → Prop) : Prop where
  ex : ∃ (fI : Addr) (fd : FuncData) (ps : List Str), FnOk P w K mg base (L2.CX P w) k fI fd ps (spX D ns ok) ∧ PySem.W.findIn K (.ref D) "__init__" = some (some (.ref fI)) ∧ PySem.W.typeIn K (.ref fI) = some (.type "function") ∧ mg x = some (.ref D) ∧ Binds K fd ps []
  T : OexC K D
section
variable {X : Cx} {Xe Γ Γ1 Γ2 Γ3 : Env'} {e a b c o : Expr} {pos p px apos : Pos} {d : D} {ds : List D} {D : Addr} {ns : List Str} {ok : List V → Prop} {k : Nat} {x : Str} {el : List Expr} {S S' L R : Type} {G : S → Env'} {Lp : L → Env'} {Kr : R → Rv × Env'}
theorem st_raise {pos' : Pos} (M : Xle X.prog X.w X.K X.mg X.base k x D ns ok) (hr : Room (k + 1) X.A) (hg : Gl X x) (hc : X.calm = true) (ha : AV X Γ (e :: el) (ds.map Rv.dat) Γ1) (hl : ds.length = ns.length) (hn : ns.length ≤ 1000) (hok : ∀ F us, RepL (kc X) F us ds → ok us) (w : Weak Γ1 Xe)
    (hdb : (x == ("__debug__" : Str)) = false := by decide) (he : starEach (e :: el) X.env = (false, eval e X.env) :: starEach el X.env := by rfl) (hpl : (backTo pos' (starEach el X.env)).any (·.1) = false := by rfl) :
    ST X Xe Γ (.Raise (some (.Call (.Name x p) (e :: el) [] pos')) none pos) G Lp Kr (.exc ⟨D, ns, ds⟩ : LO S L R) := by
  obtain ⟨fI, fd, ps, hF, iC, tI, hm, hb⟩ := M.ex
  refine PS.weak (ps_raise hc takes_st (pmk_oex M.T iC tI hF hr hb .nil (passes_call (E := fun _ _ _ => False) takes_st fun _ _ _ _ z => z.elim) hg hm ha hdb he hpl)) fun Dn σ H ⟨F, hH, q⟩ => ⟨F, hH, fun F1 H1 vs p1 hv => ?_⟩
  have rl := repL_of hv
  have lv := rl.length
  refine ⟨by omega, fun a0 ha0 => ?_⟩
  rw [List.append_nil]
  refine ⟨a0, vs, rfl, by omega, upd_same, hok F1 vs rl, fun dx H' fs hdx hne h1 h2 h3 h4 => ⟨rfl, dx, fs, h1, h2, ?_, ?_⟩⟩
  · rw [upd_ne hne] at hdx; exact hdx
  · rw [upd_ne hne] at hdx
    have eH : upd (del H' a0) dx (.xd fs) = upd H1 dx (.xd fs) := by
      funext b
      by_cases hb : b = dx
      · subst hb; rw [upd_same, upd_same]
      · rw [upd_ne hb, upd_ne hb]
        by_cases hb2 : b = a0
        · subst hb2; rw [del_same, ha0]
        · rw [del_ne hb2, h4 b hb2 hb, upd_ne hb2]
    rw [eH]
    have p2 := Post.newF p1.ok hdx (.xd fs)
    exact q _ _ σ (.ref D) (some dx) ((p1.trans p2).weak w) ⟨rfl, .inr ⟨dx, fs, rfl, upd_same, fun i n v e1 e2 => by
      obtain ⟨u, g1, g2⟩ := rl.get e2
      exact ⟨u, h3 i n u e1 g1, g2.mono p2.ext.mono⟩⟩⟩
end

/-! ### the texts of errors -/
def fmtOk : V → Prop
  | .str y => y.length ≤ 100000
  | .int i => i.natAbs.log2 < 1920
  | _ => False
def okV (us : List V) : Prop := ∀ u ∈ us, fmtOk u
def PrtOk (X : Cx) (σ : L2.St) (H : Hp) (e : Expr) : Prop := ∃ t, PE X e t ∧ ∀ R : VK, (∀ y : Str, y.length ≤ 100000 → R (.str y) H) → t σ H R
section
variable {X : Cx} {σ : L2.St} {H : Hp}
theorem prt_str {z : Str} {j : Nat} {pos : Pos} (h : z.length ≤ 100000) : PrtOk X σ H (.Constant (.str z) j pos) := ⟨_, pe_str, fun R q => q z h⟩
theorem prt_var {i : Nat} {x : Str} {u : V} {p pos : Pos} (hN : X.N[i]? = some x) (hv : Vis X.env.scope x) (hs : σ[i]? = some (some u)) (hu : fmtOk u) (hd : (x == ("__debug__" : Str)) = false) (hcd : (x == ("__classdict__" : Str)) = false) : PrtOk X σ H (.FormattedValue (.Name x p) (-1) none pos) :=
  ⟨_, pe_fmt (pe_var hN hv hd hcd), fun R q => ⟨u, hs, by
    cases u with
    | str y => exact .inl ⟨y, rfl, Nat.le_trans hu (by rw [sizeLine_eq]; decide), q y hu⟩
    | int i =>
      have z := int_text_len_1921 hu
      exact .inr ⟨i, rfl, hu, q _ (by exact Nat.le_trans z (by decide))⟩
    | _ => exact hu.elim⟩⟩
theorem tJs_ok {Q : Str → Hp → Prop} : ∀ (ts : List TE) (acc : Str), (∀ t ∈ ts, ∀ R : VK, (∀ y : Str, y.length ≤ 100000 → R (.str y) H) → t σ H R) → acc.length + 100000 * ts.length ≤ 16000000 → (∀ y, Q y H) → tJs ts acc σ H Q
  | [], acc, _, _, q => q acc
  | t :: ts, acc, h, hl, q => h t (.head _) _ fun y hy => by
    rw [List.length_cons] at hl
    have ha : (acc ++ y).length = acc.length + y.length := strLen_append ..
    exact ⟨y, rfl, by rw [ha, sizeLine_eq]; omega, tJs_ok ts (acc ++ y) (fun t' ht => h t' (.tail _ ht)) (by rw [ha]; omega) q⟩
theorem prts : ∀ {es : List Expr}, (∀ e ∈ es, PrtOk X σ H e) → ∃ ts, PJ X es ts ∧ ts.length = es.length ∧ ∀ t ∈ ts, ∀ R : VK, (∀ y : Str, y.length ≤ 100000 → R (.str y) H) → t σ H R
  | [], _ => ⟨[], .nil, rfl, fun _ z => nomatch z⟩
  | e :: es, h => by
    obtain ⟨t, h1, h2⟩ := h e (.head _)
    obtain ⟨ts, g1, g2, g3⟩ := prts (es := es) fun e he => h e (.tail _ he)
    exact ⟨t :: ts, .cons h1 g1, congrArg (· + 1) g2, fun t' ht => by
      rcases List.mem_cons.mp ht with rfl | ht
      · exact h2
      · exact g3 t' ht⟩
theorem joined_ok {v1 v2 : Expr} {rest : List Expr} {pos : Pos} (h : ∀ e ∈ v1 :: v2 :: rest, PrtOk X σ H e) (hl : rest.length ≤ 100) : ∃ t, PE X (.JoinedStr (v1 :: v2 :: rest) pos) t ∧ ∀ R : VK, (∀ y : Str, R (.str y) H) → t σ H R := by
  obtain ⟨ts, g1, g2, g3⟩ := prts h
  exact ⟨_, pe_joined g1, fun R q => tJs_ok ts Str.empty g3 (by rw [g2]; simp only [List.length_cons]; show 0 + _ ≤ _; omega) fun y => q y⟩
/-- the shape of a part -/
def prtB (ns : List Str) : Expr → Bool
  | .Constant (.str z) _ _ => decide (z.length ≤ 100000)
  | .FormattedValue (.Name y _) k none _ => k == -1 && ns.contains y && y != "__debug__" && y != "__classdict__"
  | _ => false
theorem prt_of {ns : List Str} {us : List V} {e : Expr} (hN : ∀ (i : Nat) y, ns[i]? = some y → X.N[i + 1]? = some y ∧ Vis X.env.scope y) (hs : ∀ (i : Nat) u, us[i]? = some u → σ[i + 1]? = some (some u)) (hl : us.length = ns.length) (hok : okV us) (h : prtB ns e = true) : PrtOk X σ H e := by
  unfold prtB at h
  split at h
  · exact prt_str (of_decide_eq_true h)
  · rename_i y _ k _
    simp only [Bool.and_eq_true, bne_iff_ne, beq_iff_eq] at h
    obtain ⟨⟨⟨hk, hc⟩, hd⟩, hcd⟩ := h
    subst hk
    have hc : y ∈ ns := by simpa using hc
    obtain ⟨i, hi⟩ := List.mem_iff_getElem?.mp hc
    obtain ⟨h1, h2⟩ := hN i y hi
    have hlt : i < us.length := by have := (List.getElem?_eq_some_iff.mp hi).1; omega
    exact prt_var h1 h2 (hs i us[i] (List.getElem?_eq_getElem hlt)) (hok _ (List.getElem_mem hlt)) (beq_eq_false_iff_ne.mpr hd) (beq_eq_false_iff_ne.mpr hcd)
  · cases h
end
end PD
set_option maxHeartbeats 1000000
namespace PD
open PySem PySem.Spec PyProof.Rows L2 NdefX
theorem startF_0 {N : List Str} {v : V} {us : List V} {ws : List (Option V)} : (startF N (v :: us) ws)[0]? = some (some v) := by unfold startF; simp
theorem startF_s {N : List Str} {v u : V} {us : List V} {ws : List (Option V)} {i : Nat} (h : us[i]? = some u) : (startF N (v :: us) ws)[i + 1]? = some (some u) := by
  unfold startF
  have hl := (List.getElem?_eq_some_iff.mp h).1
  rw [List.getElem?_append_left (by simp; omega), List.getElem?_map, List.getElem?_cons_succ, h]; rfl
section
variable {P : Program} {w : World} {K : PySem.W.Frag} {mg : Str → Option Value} {base : Heap} {k : Nat} {x qual : Str} {st : Stmt} {D f cc cda : Addr} {fd : FuncData} {f1 f2 : Str} {v1 v2 : Expr} {parts : List Expr} {p0 p1 ap pj pos pos' q1 q2 q3 q4 r1 r2 r3 r4 : Pos} {ar : Arg}
theorem exc_fn2 (FC : FunC P K x qual st D f fd cc cda) (ED : ExD K D) (hm : mg "super" = none)
    (hb : defBody st = [.Expr (.Call (.Attribute (.Call (.Name "super" p0) [] [] p1) "__init__" ap) [.JoinedStr (v1 :: v2 :: parts) pj] [] pos) pos', .Assign [.Attribute (.Name "self" q1) f1 q2] (.Name f1 q3) q4, .Assign [.Attribute (.Name "self" r1) f2 r2] (.Name f2 r3) r4])
    (hp : ((defArgs st).posonlyargs ++ (defArgs st).args).head? = some ar) (har : ar.arg = "self") (S : NScope ["self", f1, f2, "__class__"] ["self", f1, f2] ["__class__"] (defScope st)) (hks : (defScope st).names.lookup ("super" : Str) = some .globalImplicit)
    (hpr : (v1 :: v2 :: parts).all (prtB [f1, f2]) = true) (hpl : parts.length ≤ 100) (n1 : PySem.W.findIn K (.ref D) f1 = some none) (n2 : PySem.W.findIn K (.ref D) f2 = some none)
    (hev : ∀ env : Env, ∃ pl : Sem Bool, eval (.Call (.Attribute (.Call (.Name "super" p0) [] [] p1) "__init__" ap) [.JoinedStr (v1 :: v2 :: parts) pj] [] pos) env = (do
          let ov ← attributeBase (.Call (.Name "super" p0) [] [] p1) "__init__" env (eval (.Call (.Name "super" p0) [] [] p1) env)
          standAt ap.atName
          let (f', first) ← holding [ov] (getMethod ov "__init__" pl)
          callWith pos f' first (backTo pos (starEach [.JoinedStr (v1 :: v2 :: parts) pj] env)) []))
    (d1 : (f1 == ("__debug__" : Str)) = false := by decide) (d2 : (f2 == ("__debug__" : Str)) = false := by decide) (c1 : (f1 == ("__classdict__" : Str)) = false := by decide) (c2 : (f2 == ("__classdict__" : Str)) = false := by decide) :
    FnOk P w K mg base (L2.CX P w) (k + 1) f fd ["self", f1, f2] (spX D [f1, f2] okV) := by
  have hkc := S.frk "__class__" (.head _)
  have k0 := S.par "self" (.head _)
  have kf1 := S.par f1 (.tail _ (.head _))
  have kf2 := S.par f2 (.tail _ (.tail _ (.head _)))
  have nd := S.nd
  have n12 : f2 ≠ f1 := fun e => by subst e; simp at nd
  refine exc_fn (k := k) FC ED S hm rfl hb hp (by rw [har]; rfl) hks hkc (by rw [har]; exact k0) fun A outer s H E a us hok hl ha => ?_
  obtain ⟨u1, u2, rfl⟩ : ∃ u1 u2, us = [u1, u2] := by
    match us, hl with
    | [u1, u2], _ => exact ⟨u1, u2, rfl⟩
  obtain ⟨t0, ht0, hr0⟩ := joined_ok (X := ncx (L2.CX P w) P w K mg base ["self", f1, f2, "__class__"] (xF x qual st cc cda) f A outer s H E) (σ := startF ["self", f1, f2, "__class__"] (.ref a :: [u1, u2]) [none]) (H := H) (v1 := v1) (v2 := v2) (rest := parts) (pos := pj) (fun e he =>
    prt_of (ns := [f1, f2]) (us := [u1, u2]) (fun i y e => by
      match i, e with
      | 0, e => cases e; exact ⟨rfl, .inl kf1⟩
      | 1, e => cases e; exact ⟨rfl, .inl kf2⟩
      | _ + 2, e => cases e) (fun i u e => startF_s e) rfl hok (List.all_eq_true.mp hpr e he)) hpl
  obtain ⟨pl, he⟩ := hev (envF (xF x qual st cc cda) f s.heap.objs.size)
  refine ⟨t0, _, pl, ht0, hr0, he, rfl, rfl, pss_cons (ps_ost (pe_var (i := 0) rfl (.inl k0)) (pe_var (i := 1) rfl (.inl kf1) d1 c1) rfl) (pss_cons (ps_ost (pe_var (i := 0) rfl (.inl k0)) (pe_var (i := 2) rfl (.inl kf2) d2 c2) rfl) pss_nil), fun Dn q => ?_⟩
  refine ⟨u1, rfl, .ref a, rfl, a, D, rfl, ED.T, n1, .inl ⟨ha, fun dx hdx hne => ?_⟩⟩
  refine ⟨u2, rfl, .ref a, rfl, a, D, rfl, ED.T, n2, .inr ⟨dx, [(f1, u1)], upd_same, ?_, Nat.le_of_ble_eq_true rfl, ?_⟩⟩
  · rw [upd_ne hne, upd_same]
  · refine q dx _ [(f2, u2), (f1, u1)] hdx hne ?_ upd_same (fun i n u e1 e2 => ?_) fun b hb1 hb2 => ?_
    · rw [upd_ne (Ne.symm hne), upd_same]
    · match i, e1, e2 with
      | 0, e1, e2 => cases e1; cases e2; rw [lookup_put, if_neg (Ne.symm n12), lookup_put, if_pos rfl]
      | 1, e1, e2 => cases e1; cases e2; rw [lookup_put, if_pos rfl]
      | _ + 2, e1, e2 => cases e1
    · rw [upd_ne hb2, upd_ne hb1, upd_ne hb2]
theorem exc_fn1 (FC : FunC P K x qual st D f fd cc cda) (ED : ExD K D) (hm : mg "super" = none)
    (hb : defBody st = [.Expr (.Call (.Attribute (.Call (.Name "super" p0) [] [] p1) "__init__" ap) [.JoinedStr (v1 :: v2 :: parts) pj] [] pos) pos', .Assign [.Attribute (.Name "self" q1) f1 q2] (.Name f1 q3) q4])
    (hp : ((defArgs st).posonlyargs ++ (defArgs st).args).head? = some ar) (har : ar.arg = "self") (S : NScope ["self", f1, "__class__"] ["self", f1] ["__class__"] (defScope st)) (hks : (defScope st).names.lookup ("super" : Str) = some .globalImplicit)
    (hpr : (v1 :: v2 :: parts).all (prtB [f1]) = true) (hpl : parts.length ≤ 100) (n1 : PySem.W.findIn K (.ref D) f1 = some none)
    (hev : ∀ env : Env, ∃ pl : Sem Bool, eval (.Call (.Attribute (.Call (.Name "super" p0) [] [] p1) "__init__" ap) [.JoinedStr (v1 :: v2 :: parts) pj] [] pos) env = (do
          let ov ← attributeBase (.Call (.Name "super" p0) [] [] p1) "__init__" env (eval (.Call (.Name "super" p0) [] [] p1) env)
          standAt ap.atName
          let (f', first) ← holding [ov] (getMethod ov "__init__" pl)
          callWith pos f' first (backTo pos (starEach [.JoinedStr (v1 :: v2 :: parts) pj] env)) []))
    (d1 : (f1 == ("__debug__" : Str)) = false := by decide) (c1 : (f1 == ("__classdict__" : Str)) = false := by decide) :
    FnOk P w K mg base (L2.CX P w) (k + 1) f fd ["self", f1] (spX D [f1] okV) := by
  have hkc := S.frk "__class__" (.head _)
  have k0 := S.par "self" (.head _)
  have kf1 := S.par f1 (.tail _ (.head _))
  refine exc_fn (k := k) FC ED S hm rfl hb hp (by rw [har]; rfl) hks hkc (by rw [har]; exact k0) fun A outer s H E a us hok hl ha => ?_
  obtain ⟨u1, rfl⟩ : ∃ u1, us = [u1] := by
    match us, hl with
    | [u1], _ => exact ⟨u1, rfl⟩
  obtain ⟨t0, ht0, hr0⟩ := joined_ok (X := ncx (L2.CX P w) P w K mg base ["self", f1, "__class__"] (xF x qual st cc cda) f A outer s H E) (σ := startF ["self", f1, "__class__"] (.ref a :: [u1]) [none]) (H := H) (v1 := v1) (v2 := v2) (rest := parts) (pos := pj) (fun e he =>
    prt_of (ns := [f1]) (us := [u1]) (fun i y e => by
      match i, e with
      | 0, e => cases e; exact ⟨rfl, .inl kf1⟩
      | _ + 1, e => cases e) (fun i u e => startF_s e) rfl hok (List.all_eq_true.mp hpr e he)) hpl
  obtain ⟨pl, he⟩ := hev (envF (xF x qual st cc cda) f s.heap.objs.size)
  refine ⟨t0, _, pl, ht0, hr0, he, rfl, rfl, pss_cons (ps_ost (pe_var (i := 0) rfl (.inl k0)) (pe_var (i := 1) rfl (.inl kf1) d1 c1) rfl) pss_nil, fun Dn q => ?_⟩
  refine ⟨u1, rfl, .ref a, rfl, a, D, rfl, ED.T, n1, .inl ⟨ha, fun dx hdx hne => ?_⟩⟩
  refine q dx _ [(f1, u1)] hdx hne upd_same ?_ (fun i n u e1 e2 => ?_) fun b hb1 hb2 => ?_
  · rw [upd_ne hne, upd_same]
  · match i, e1, e2 with
    | 0, e1, e2 => cases e1; cases e2; rw [lookup_put, if_pos rfl]
    | _ + 1, e1, e2 => cases e1
  · rw [upd_ne hb1, upd_ne hb2]
end
end PD
set_option maxHeartbeats 1000000
namespace PD
open PySem PySem.Spec PyProof.Rows L2
/-! ### try: .. except C as e: .. -/
def LO.quiet {S L R : Type} : LO S L R → LO S L R
  | .exc _ => .bad
  | o => o
def LO.catch {S L R : Type} (o : LO S L R) (h : Xd → LO S L R) : LO S L R := match o with
  | .exc y => (h y).quiet
  | o => o
theorem catch_exc {S L R : Type} {y : Xd} {h : Xd → LO S L R} : (LO.exc y : LO S L R).catch h = (h y).quiet := rfl
theorem catch_next {S L R : Type} {s : S} {h : Xd → LO S L R} : (LO.next s : LO S L R).catch h = .next s := rfl
theorem catch_ret {S L R : Type} {s : R} {h : Xd → LO S L R} : (LO.ret s : LO S L R).catch h = .ret s := rfl
theorem quiet_ne {S L R : Type} {o : LO S L R} {z : Xd} : o.quiet ≠ .exc z := by cases o <;> exact fun h => nomatch h
theorem XRep.xat {K : KC} {F : Hp} {cls : Value} {d : Option Addr} {x : Xd} (h : XRep K F cls d x) : XAt K F d x := h.2
section
variable {X : Cx} {Xe Xb Xs Γ Γ1 Γ2 Γ3 : Env'} {e a b c o : Expr} {pos p px apos pos' np : Pos} {d : D} {ds : List D} {k i : Nat} {x n : Str} {el : List Expr} {S S' L R : Type} {G : S → Env'} {Lp : L → Env'} {Kr : R → Rv × Env'} {cv : Value} {b₀ : Stmt} {suite body : List Stmt}
theorem Post.unset {K : KC} {F H F2 H2 : Hp} {σ σ2 : L2.St} (p : Post K Γ σ F H Γ2 σ2 F2 H2) (hi : Γ2[i]? = some .any) : Post K Γ σ F H Γ2 (σ2.set i none) F2 H2 := by
  have off : ∀ (j : Nat) (ao : Option Addr) (c : Oc), Γ2[j]? = some (.own ao c) → (σ2.set i none)[j]? = σ2[j]? := fun j ao c e => List.getElem?_set_ne fun z => by subst z; rw [hi] at e; cases e
  refine ⟨p.ext, ⟨p.ok.le, by rw [List.length_set]; exact p.ok.len, fun j s e => ?_, fun j l aj al cj cl y ej el sj sl => ?_⟩, fun y ⟨j, ao, c, e, s⟩ => ?_⟩
  · by_cases hj : i = j
    · subst hj; rw [hi] at e; cases e; trivial
    · rw [List.getElem?_set_ne hj]; exact p.ok.sl j s e
  · rw [off j aj cj ej] at sj
    rw [off l al cl el] at sl
    exact p.ok.dis j l aj al cj cl y ej el sj sl
  · rw [off j ao c e] at s
    exact p.sub y ⟨j, ao, c, e, s⟩
theorem st_try {o : LO S L R} {h : Xd → LO S L R} (hs : X.stack = X.env :: X.outer) (hf : X.env.frame = some X.env.locals) (hN : X.N.Nodup) (hi : X.N[i]? = some n) (hln : X.env.kindOf n = some .local) (hc : Names X x cv)
    (hb : ∀ pn xe, PassesOwn (model X.prog X.w) X.A X.env xe → SS (X.tr pn xe) Xb Γ body G Lp Kr o) (hx : ∀ y, o = .exc y → PySem.W.exmOne X.K (.ref y.C) cv = some true)
    (hsu : ∀ y, o = .exc y → ∀ a oe d pn, Zc (.ref y.C) d oe → (∃ vs, oe.data = .fields vs) → SS (X.suite a ((a, oe) :: pn)) Xs (Xb.set i (.err a d y)) (b₀ :: suite) G Lp Kr (h y))
    (hG : ∀ s, (G s)[i]? = some .any) (hL : ∀ l, (Lp l)[i]? = some .any) : ST X Xe Γ (.Try body [.ExceptHandler (some (.Name x np)) (some n) (b₀ :: suite) pos'] [] [] pos) G Lp Kr (o.catch h) := by
  by_cases hex : ∃ y, o = .exc y
  · obtain ⟨y, rfl⟩ := hex
    have hb' : ∀ (W : WX) (pn : List (Addr × Obj)) (xe : Value → Shared → Prop), Takes (X.tr pn xe) W → PassesOwn (model X.prog X.w) X.A X.env xe → PSs (X.tr pn xe) body
        (fun D σ H => ∃ F, Holds (kc X) F Γ σ H ∧ ∀ F' H' σ' cls d, Post (kc X) Γ σ F H Xb σ' F' H' → XRep (kc X) F' cls d y → W cls d σ' H') := fun W pn xe t po => by
      refine PSs.weak (hb pn xe po) fun D σ H ⟨F, hH, q⟩ => ⟨F, hH, fun F' H' σ' cls d p xr => wst_of t (q F' H' σ' cls d p xr)⟩
    have hsu' : ∀ (a : Addr) (oe : Obj) (cls : Value) (d : Option Addr) (pn : List (Addr × Obj)), Zc cls d oe → (∃ vs, oe.data = .fields vs) → PSs (X.suite a ((a, oe) :: pn)) (b₀ :: suite)
        (fun D σ H => cls = .ref y.C ∧ tST X Xs (Xb.set i (.err a d y)) G Lp Kr (h y).quiet D σ H) := fun a oe cls d pn z hv => by
      by_cases hcl : cls = .ref y.C
      · subst hcl
        refine PSs.weak (hsu y rfl a oe d pn z hv) fun D σ H ⟨_, F, hH, q⟩ => ⟨F, hH, ?_⟩
        revert q
        cases h y with
        | exc z => exact fun q => q.elim
        | next _ => exact fun q => q
        | cnt _ => exact fun q => q
        | brk _ => exact fun q => q
        | ret _ => exact fun q => q
        | bad => exact fun q => q
      · exact PSs.weak pss_never fun D σ H ⟨z, _⟩ => (hcl z).elim
    refine PS.weak (ps_try_as (i := i) (np := np) (pos := pos) (pos' := pos') (Wout := Wst X) hs hf hN hi hln hc takes_st hb' hsu') fun D σ H ⟨F, hH, q⟩ => ⟨F, hH, fun F' H' σ' cls d p xr => ?_⟩
    refine ⟨true, by rw [xr.1]; exact hx y rfl, fun _ a ha => ⟨xr.1, F', ?_⟩, fun z => nomatch z⟩
    obtain ⟨h1, h2⟩ := Post.store (H1 := H') p.ok (i := i) (v := .ref a) (s := .err a d y) ⟨rfl, xr.xat⟩ (fun _ _ _ z => nomatch z) (fun _ _ _ z => nomatch z)
    have pa : Post (kc X) Γ σ F H (Xb.set i (.err a d y)) (σ'.set i (some (.ref a))) F' H' := p.trans ⟨.refl, h1, h2⟩
    refine ⟨h1, ?_⟩
    have q : qST X Xe Γ G Lp Kr D σ F H (h y).quiet := q
    have nq : ∀ z, (h y).quiet ≠ .exc z := fun z => quiet_ne
    revert q nq
    cases (h y).quiet with
    | next s => exact fun q _ F2 H2 σ2 p2 => q F2 H2 _ ((pa.trans p2).unset (hG s))
    | cnt l => exact fun q _ F2 H2 σ2 p2 => q F2 H2 _ ((pa.trans p2).unset (hL l))
    | brk l => exact fun q _ F2 H2 σ2 p2 => q F2 H2 _ ((pa.trans p2).unset (hL l))
    | ret r => exact fun q _ F2 H2 σ2 v p2 hv => q F2 H2 σ2 v (pa.trans p2) (hv.at fun _ z => NewAt.back pa z)
    | exc z => exact fun _ nq => (nq z rfl).elim
    | bad => exact fun q _ => q
  · have eo : o.catch h = o := by
      cases o with
      | exc y => exact (hex ⟨y, rfl⟩).elim
      | _ => rfl
    rw [eo]
    have hb' : ∀ (W : WX) (pn : List (Addr × Obj)) (xe : Value → Shared → Prop), Takes (X.tr pn xe) W → PassesOwn (model X.prog X.w) X.A X.env xe → PSs (X.tr pn xe) body (tST X Xe Γ G Lp Kr o) := fun W pn xe t po => by
      refine PSs.weak (hb pn xe po) fun D σ H ⟨F, hH, q⟩ => ⟨F, hH, ?_⟩
      cases o with
      | exc y => exact (hex ⟨y, rfl⟩).elim
      | _ => exact q
    exact PS.weak (ps_try_as (i := i) (np := np) (pos := pos) (pos' := pos') (Wout := Wst X) (ts := fun _ _ _ _ _ _ => False) hs hf hN hi hln hc takes_st hb' fun _ _ _ _ _ _ _ => PSs.weak pss_never fun _ _ _ z => z) fun D σ H z => z
/-! ### the caught error -/
theorem fldOf_ix {f : Str} {d : D} : ∀ {ns : List Str} {vs : List D}, fldOf ns vs f = some d → ∃ i : Nat, ns[i]? = some f ∧ vs[i]? = some d
  | [], vs, h => by cases h
  | n :: ns, [], h => by cases h
  | n :: ns, v :: vs, h => by
    have h : ((n, v) :: ns.zip vs).lookup f = some d := h
    by_cases z : f = n
    · subst z
      rw [List.lookup_cons, beq_self_eq_true] at h
      cases h
      exact ⟨0, rfl, rfl⟩
    · rw [List.lookup_cons, beq_eq_false_iff_ne.mpr z] at h
      obtain ⟨i, h1, h2⟩ := fldOf_ix (ns := ns) (vs := vs) h
      exact ⟨i + 1, h1, h2⟩
variable {aE : Addr} {oe : Obj} {dE : Option Addr} {pn : List (Addr × Obj)} {y : Xd} {f : Str} {dd : D}
/-- e.f -/
theorem ev_xfld (T : XfC X.K y.C) (hno : PySem.W.findIn X.K (.ref y.C) f = some none) (hz : Zc (.ref y.C) dE oe) (hf : ∃ vs, oe.data = .fields vs) (hv : PE (X.suite aE ((aE, oe) :: pn)) (.Name n px) (tVar i)) (hi : Γ[i]? = some (.err aE dE y)) (hy : fldOf y.ns y.vs f = some dd)
    (hb : attributeBase (.Name n px) f X.env (eval (.Name n px) X.env) = eval (.Name n px) X.env := by rfl) : EV (X.suite aE ((aE, oe) :: pn)) Γ (.Attribute (.Name n px) f pos) (.dat dd) Γ :=
  PE.weak (pe_xf T hno hz hf hv hb) fun σ H Q ⟨F, hH, q⟩ => by
    obtain ⟨e1, xa⟩ := hH.slot hi
    obtain ⟨j, h1, h2⟩ := fldOf_ix hy
    rcases xa with xa | ⟨d0, fs, e2, e3, xa⟩
    · rw [xa] at h1; cases h1
    · obtain ⟨u, g1, g2⟩ := xa j f dd h1 h2
      exact ⟨.ref aE, join_some e1, rfl, rfl, d0, fs, u, e2, hH.le _ _ e3, g1, q F H u (.refl hH) g2⟩
/-- what the class must say for isinstance -/
structure ExI (K : PySem.W.Frag) (D : Addr) : Prop where
  hcl : (PySem.W.clsIn K D).isSome = true
  hga : PySem.W.findIn K (.ref D) "__getattribute__" = some (some (.builtin "BaseException.__getattribute__"))
  hgt : PySem.W.findIn K (.ref D) "__getattr__" = some none
  hsub : PySem.W.subIn K (.ref D) (.type "BaseException") = some true
  ha : PySem.W.findIn K (.ref D) "__class__" = some (some (.builtin "object.__class__"))
  hn : PySem.W.specialIn K (.builtin "object.__class__") "__get__" = some (some (.builtin "getset_descriptor.__get__"))
  htk : PySem.W.takesIn K (.builtin "object.__class__") = some true
  hm : PySem.W.mroIn K D (.type "object") = some true
def rIsX (K : PySem.W.Frag) (D a : Addr) (dE : Option Addr) : List V → Hp → VK → Prop := fun xs H Q => ∃ (c : V) (cv : Value) (b : Bool), xs = [.ref a, c] ∧ (∀ u, RelV c u → u = cv) ∧ PySem.W.kitOne K (.ref D) cv = some b ∧ (∃ d0 fs, dE = some d0 ∧ H d0 = some (.xd fs)) ∧ Q (.bl b) H
theorem call_isX {a D : Addr} (C : ExI X.K D) (hz : Zc (.ref D) dE oe) (hf : ∃ vs, oe.data = .fields vs) : CallR (X.suite a ((a, oe) :: pn)) (.builtin "isinstance") (rIsX X.K D a dE) := by
  intro pins s σ H xs us Q I r h
  obtain ⟨c, cv, b, rfl, hcv, e, ⟨d0, fs, rfl, hd0⟩, q⟩ := h
  cases r with
  | cons rx rr =>
    cases rr with
    | cons rt rr =>
      cases rr
      cases rx
      have ec := hcv _ rt
      subst ec
      obtain ⟨hget, _⟩ := I.pin (a, oe) (List.mem_append.mpr (.inl List.mem_cons_self))
      obtain ⟨vs, hv⟩ := hf
      obtain ⟨mA, ⟨od, _, _, ho, _⟩, _⟩ := (show ObjOk X.prog X.w H s.heap d0 (.xd fs) from I.hok d0 _ hd0)
      have J : PySem.W.InstAt s.heap a oe D (some od) := by
        obtain ⟨oc, od', oda, osl⟩ := oe
        obtain ⟨h1, h2⟩ := hz
        dsimp only at h1 h2 hv
        subst h1 h2 hv
        exact ⟨hget, rfl, rfl, ho⟩
      exact PySem.W.kia_one (PySem.W.kitx_exc C.hcl C.hga C.hgt C.hsub C.ha C.hn C.htk C.hm) I.kIn J e (fun z => nomatch z) fun tk => ⟨.bl b, H, I.kept (t' := tk) fun _ _ z => z, rfl, q⟩
/-- isinstance(e, c) -/
theorem ev_isX {T : Expr} {c : V} {u : Value} {b : Bool} (hg : Gl X "isinstance") (hm : X.mg "isinstance" = none) (C : ExI X.K y.C) (hz : Zc (.ref y.C) dE oe) (hf : ∃ vs, oe.data = .fields vs) (hv : PE (X.suite aE ((aE, oe) :: pn)) (.Name n px) (tVar i)) (hi : Γ[i]? = some (.err aE dE y)) (hy : y.ns ≠ [])
    (hT : PE (X.suite aE ((aE, oe) :: pn)) T (tC c)) (hc : ClsV c u) (hk : PySem.W.kitOne X.K (.ref y.C) u = some b)
    (hs2 : starEach (.Name n px :: [T]) X.env = (false, eval (.Name n px) X.env) :: starEach [T] X.env := by rfl) (hs3 : starEach [T] X.env = (false, eval T X.env) :: starEach [] X.env := by rfl)
    (hpl : (backTo pos (starEach [T] X.env)).any (·.1) = false := by rfl) : EV (X.suite aE ((aE, oe) :: pn)) Γ (.Call (.Name "isinstance" p) [.Name n px, T] [] pos) (.dat (.bl b)) Γ :=
  PE.weak (pe_callB (X := X.suite aE ((aE, oe) :: pn)) (call_isX C hz hf) hg hm (by decide +kernel) (pa_cons hv (pa_cons hT pa_nil hs3) hs2) (by decide) (by decide) hs2 hpl) fun σ H Q ⟨F, hH, q⟩ => by
    obtain ⟨e1, xa⟩ := hH.slot hi
    rcases xa with xa | ⟨d0, fs, e2, e3, xa⟩
    · exact (hy xa).elim
    · exact ⟨.ref aE, join_some e1, c, u, b, rfl, fun w r => hc.eq r, hk, ⟨d0, fs, e2, hH.le _ _ e3⟩, q F H _ (.refl hH) (.bl b)⟩
/-- isinstance(o, c), o an instance -/
structure OwI (K : PySem.W.Frag) (C : Addr) : Prop where
  cl : Cls K C
  ha : PySem.W.findIn K (.ref C) "__class__" = some (some (.builtin "object.__class__"))
  hn : PySem.W.specialIn K (.builtin "object.__class__") "__get__" = some (some (.builtin "getset_descriptor.__get__"))
  htk : PySem.W.takesIn K (.builtin "object.__class__") = some true
  hm : PySem.W.mroIn K C (.type "object") = some true
theorem ev_isO {T : Expr} {c : V} {u : Value} {b : Bool} {C : Addr} {ns : List Str} {vs : List D} {r : Rv} (hg : Gl X "isinstance") (hm : X.mg "isinstance" = none) (O : OwI X.K C) (ha : EV X Γ a r Γ1) (w : VIns Γ1 r C ns vs)
    (hT : PE X T (tC c)) (hc : ClsV c u) (hk : PySem.W.kitOne X.K (.ref C) u = some b)
    (hs2 : starEach (a :: [T]) X.env = (false, eval a X.env) :: starEach [T] X.env := by rfl) (hs3 : starEach [T] X.env = (false, eval T X.env) :: starEach [] X.env := by rfl)
    (hpl : (backTo pos (starEach [T] X.env)).any (·.1) = false := by rfl) : EV X Γ (.Call (.Name "isinstance" p) [a, T] [] pos) (.dat (.bl b)) Γ1 :=
  PE.weak (pe_callB call_isi hg hm (by decide +kernel) (pa_cons ha (pa_cons hT pa_nil hs3) hs2) (by decide) (by decide) hs2 hpl) fun σ H Q ⟨F, hH, q⟩ => ⟨F, hH, fun F1 H1 v p1 hv => by
    obtain ⟨x, dx, fs, rfl, h1, _⟩ := w.at p1.ok hv
    exact ⟨.ref x, c, .ref C, u, b, rfl, hc, .base (.ins h1 O.cl O.ha O.hn O.htk O.hm), hk, q F1 H1 _ p1 (.bl b)⟩⟩
end
end PD
set_option maxHeartbeats 1000000
namespace PD
open PySem PySem.Spec PyProof.Rows L2
/-! ### list(o), o's own __iter__ returning iter(self.f), a tuple -/
def TiO (t it : Addr) (i : Nat) : HO := .ext fun h => h.IsTupleIter it t i
section
variable {X : Cx} {pins : List (Addr × Obj)} {σ : L2.St} {H : Hp} {s : Shared} {t it : Addr} {i : Nat}
theorem tiO_ok {P : Program} {w : World} {H : Hp} {h : Heap} (e : h.IsTupleIter it t i) : ObjOk P w H h it (TiO t it i) := by
  obtain ⟨o, ho, r⟩ := id e
  exact ⟨e, ⟨o, ho⟩, fun h1 h2 q k => Heap.IsTupleIter.at q fun o z => k o z⟩
theorem tiO_get (I : Inv X pins σ H s) (e : H it = some (TiO t it i)) : s.heap.IsTupleIter it t i := (I.hok it _ e).1
def rIterT (K : PySem.W.Frag) : List V → Hp → VK → Prop := fun xs H Q => ∃ (l : Addr) (zs : List V), xs = [.ref l] ∧ SqT K H l zs ∧ ∀ it, H it = none → (∀ b o, H b = some o → b < it) → Q (.ref it) (upd H it (TiO l it 0))
theorem call_iterT : CallR X (.builtin "iter") (rIterT X.K) := by
  intro pins s σ H xs us Q I r h
  obtain ⟨l, zs, rfl, hq, q⟩ := h
  obtain rfl := Vals.ref1 r
  obtain ⟨its, rv, pl, hz⟩ := I.tuple hq
  refine Calls.call_function_entry (by decide +kernel) (by decide +kernel) PySem.W.kdk_entry_iter (PySem.W.kdk_args_iter _) ?_
  unfold Builtin.«iter»
  refine wpAny_bind (m := someArgs "iter" 1 2 _) (wpAny_of_eq (a := [Value.ref l]) (by first | rfl | kernel_rfl!) ?_)
  show wpAny _ _ (pyIter (.ref l) >>= _) _ _ _
  refine wpAny_bind (wpAny_pyIter_tuple (show s.heap.IsTuple l its.toArray from pl) ?_)
  exact wpAny_pure ⟨_, rfl, .ref s.heap.objs.size, _, I.laid (t' := s.toks) (fun b u e => Heap.get?_push_of_some _ e) (Nat.le_refl _) (tiO_ok ⟨_, Heap.get?_push_size _ rfl, rfl, rfl⟩), rfl, q _ (I.hok.fresh (Nat.le_refl _)) fun b o e => by
    obtain ⟨u, hu⟩ := objOk_get (I.hok b o e)
    exact Heap.lt_size hu⟩
end
/-- what such an __iter__ promises -/
def spIt (K : PySem.W.Frag) (C : Addr) (f : Str) : Sp := fun vs H Q _ => ∃ (a dx : Addr) (fs : List (Str × V)) (t : Addr) (zs : List V), vs = [.ref a] ∧ H a = some (.ins C dx fs) ∧ fs.lookup f = some (.ref t) ∧ SqT K H t zs ∧ ∀ it, H it = none → (∀ b o, H b = some o → b < it) → Q (.ref it) (upd H it (TiO t it 0))
theorem it_fn {P : Program} {w : World} {K : PySem.W.Frag} {mg : Str → Option Value} {base : Heap} {k : Nat} {x qual : Str} {st : Stmt} {f C : Addr} {fd : FuncData} {g : Str} {p1 p2 p3 p4 p5 : Pos} (hF : Fun K x qual st f fd) (hS : FnScope ["self"] ["self"] (defScope st))
    (hb : defBody st = [.Return (some (.Call (.Name "iter" p1) [.Attribute (.Name "self" p2) g p3] [] p4)) p5]) (hm : mg "iter" = none) (hg : (defScope st).names.lookup ("iter" : Str) = some .globalImplicit) (c : Cls K C) (n : NoAttr K C g) (hk : (defScope st).names.lookup ("self" : Str) = some .local) :
    FnOk P w K mg base (L2.CX P w) (k + 1) f fd ["self"] (spIt K C g) := by
  refine hF.okX hS (fun vs H Q E ⟨a, dx, fs, t, zs, e, _⟩ => by rw [e]; rfl) fun cdv A outer s H vs Q E hr ⟨a, dx, fs, t, zs, e, h1, h2, h3, q⟩ => ?_
  subst e
  rw [hb]
  refine ⟨_, pss_one (ps_ret (pe_callB call_iterT hg hm (by decide +kernel) (pa_cons (pe_fld (pe_var (i := 0) rfl (.inl hk)) rfl) pa_nil rfl) (by decide) (by decide) rfl rfl)), ?_⟩
  exact ⟨.ref a, rfl, a, C, dx, fs, .ref t, rfl, h1, c, n, h2, t, zs, rfl, h3, q⟩
/-- what the class must say -/
structure ItK (K : PySem.W.Frag) (C fi : Addr) : Prop where
  it : PySem.W.findIn K (.ref C) "__iter__" = some (some (.ref fi))
  itF : PySem.W.isFn K (.ref fi) = true
  nolen : PySem.W.findIn K (.ref C) "__len__" = some none
  nohint : PySem.W.findIn K (.ref C) "__length_hint__" = some none
section
variable {X : Cx} {pins : List (Addr × Obj)} {σ : L2.St} {H : Hp} {s : Shared} {t it : Addr} {i : Nat}
theorem hint_none {M : Model} {A : Around} {E : Value → Shared → Prop} {Q : Bool → Shared → Prop} {K : PySem.W.Frag} {a C fi : Addr} {ox : Obj} {od : Option Obj} (hc : ItK K C fi) (hK : K.In s.heap) (J : PySem.W.InstAt s.heap a ox C od) (h : Q true s) :
    wpAny M A (Builtin.List.listLengthHint (.ref a)) Q E s := by
  unfold Builtin.List.listLengthHint
  refine wpAny_bind (wpAny_bind (J.type.here ((PySem.W.looks_findIn hK hc.nolen).here ?_)))
  refine PySem.W.KFB.if_not rfl ?_
  refine PySem.W.KFB.if_not rfl ?_
  refine wpAny_bind (wpAny_bind (J.type.here ((PySem.W.looks_findIn hK hc.nohint).here ?_)))
  exact wpAny_pure h
theorem pin_at {u : Addr} {o : Obj} {h2 : Heap} {t' : Nat} (I : Inv X pins σ H s) (I2 : Inv X pins σ H { s with heap := h2, toks := t' }) (hu : s.heap.objs.size ≤ u) (hd : ∀ v, o.data ≠ .cell v) (ho : h2.get? u = some o) : Inv X ((u, o) :: pins) σ H { s with heap := h2, toks := t' } := by
  obtain ⟨f1, f2, f3, _⟩ := I.fpOk (H' := H) hu (I.hok.fresh hu)
  refine I2.pins_of fun p hp => ?_
  rcases List.mem_cons.mp hp with rfl | hp
  · exact ⟨ho, f1, f2, f3, hd⟩
  · exact I2.pin p (List.mem_append_right _ hp)
theorem items_eq {items acc : Array Value} (h : ItemsOf (fun i v => items[i]? = some v) acc items.size) : acc = items := by
  obtain ⟨h1, h2⟩ := h
  apply Array.ext h1
  intro i hi1 hi2
  have this : items[i]? = some acc[i] := h2 i acc[i] (by simp [hi1])
  rw [Array.getElem?_eq_getElem hi2] at this
  exact (Option.some.inj this).symm
def rLiO (K : PySem.W.Frag) (C : Addr) (g : Str) : List V → Hp → VK → Prop := fun xs H Q => ∃ (a dx : Addr) (fs : List (Str × V)) (t : Addr) (zs : List V), xs = [.ref a] ∧ H a = some (.ins C dx fs) ∧ fs.lookup g = some (.ref t) ∧ SqT K H t zs ∧ ∀ p, H p = none → Q (.ref p) (upd H p (.lst zs))
theorem call_listIt {C fi : Addr} {fdI : FuncData} {g : Str} {n : Nat} (hcalm : X.calm = true) (hc : ItK X.K C fi) (FI : FnOk X.prog X.w X.K X.mg X.base (L2.CX X.prog X.w) n fi fdI ["self"] (spIt X.K C g)) (bI : Binds X.K fdI ["self"] []) (hr : Room (n + 2) X.A) : CallR X (.type "list") (rLiO X.K C g) := by
  intro pins s σ H xs us Q I rv h
  obtain ⟨a, dx, fs, t, zs, rfl, ha, hf, ht, q⟩ := h
  obtain rfl := Vals.ref1 rv
  refine callType_codes (Q₁ := fun obj s₁ => obj = .ref s.heap.objs.size ∧ s₁ = { s with heap := s.heap.push { cls := .type "list", data := .seq #[] } }) PySem.F.called_list (PySem.F.typeCall_list_1 _) PySem.F.entry_list_init
    (code_list_new _ ⟨rfl, rfl⟩) fun obj s₁ h₁ => ?_
  obtain ⟨rfl, rfl⟩ := h₁
  have hS : (s.heap.push { cls := .type "list", data := .seq #[] }).get? s.heap.objs.size = some { cls := .type "list", data := .seq #[] } := Heap.get?_push_size _ rfl
  refine ⟨⟨_, hS, rfl⟩, PySem.F.args_list_init_2 _ _, ?_⟩
  show wpAny _ _ (do let old ← Builtin.List.listItems (.ref s.heap.objs.size); Builtin.List.listUpdate (.ref s.heap.objs.size) (fun _ => #[]); letGo old.toList.reverse; Builtin.List.listExtendWith (.ref s.heap.objs.size) (.ref a) .none) _ _ _
  refine wpAny_bind ?_
  unfold Builtin.List.listItems
  refine wpAny_bind (wpAny_seqItems hS rfl (wpAny_pure ?_))
  show wpAny _ _ (updateSeq s.heap.objs.size (fun _ => #[]) >>= fun _ => letGo (#[] : Array Value).toList.reverse >>= fun _ => Builtin.List.listExtendWith (.ref s.heap.objs.size) (.ref a) .none) _ _ _
  refine wpAny_bind (wpAny_updateSeq hS rfl ?_)
  have hS₂ := Heap.get?_update_self (Obj.mapSeq (fun _ => (#[] : Array Value))) hS rfl
  refine wpAny_bind (wpAny_letGo ?_)
  have hn0 : H s.heap.objs.size = none := I.hok.fresh (Nat.le_refl _)
  have I1 : Inv X pins σ (upd H s.heap.objs.size (.lst [])) { s with heap := s.heap.push { cls := .type "list", data := .seq #[] } } := I.lnew (its := []) (t' := s.toks) .nil (Nat.zero_le _)
  have I2 := I1.lset (f := fun _ => #[]) (its := []) (its' := []) (ys := []) (t' := s.toks) upd_same hS rfl .nil (Nat.zero_le _)
  rw [upd_upd] at I2
  have ha2 : upd H s.heap.objs.size (.lst []) a = some (.ins C dx fs) := by rw [upd_ne (ne_of_none ha hn0)]; exact ha
  have hne : s.heap.objs.size ≠ a := fun z => by rw [z, ha] at hn0; cases hn0
  have hq2 : upd H s.heap.objs.size (.lst []) s.heap.objs.size = some (.lst []) := upd_same
  have ht2 : SqT X.K (upd H s.heap.objs.size (.lst [])) t zs := by
    rcases ht with (ht | ⟨o, ht⟩) | ht
    · exact .inl (.inl (by rw [upd_ne (ne_of_none ht hn0)]; exact ht))
    · exact .inl (.inr ⟨o, by rw [upd_ne (ne_of_none ht hn0)]; exact ht⟩)
    · exact .inr ht
  have hsz := I.sz
  generalize hqq : s.heap.objs.size = q0 at *
  generalize hs2 : ({ s with heap := (s.heap.push { cls := .type "list", data := .seq #[] }).update q0 (Obj.mapSeq (fun _ => (#[] : Array Value))) } : Shared) = s2 at I2
  obtain ⟨mA, J, _⟩ := ins_get I2.hok ha2
  obtain ⟨od, J, _⟩ := J.look
  obtain ⟨m0, hF⟩ := I2.fr
  unfold Builtin.List.listExtendWith
  refine wpAny_bind (J.type.here ?_)
  have h1 : Builtin.List.listSameRef (.ref q0) (.ref a) = false := by simp [Builtin.List.listSameRef, hne]
  have h2 : (Value.ref C == Value.type "list") = false := rfl
  have h3 : (Value.ref C == Value.type "tuple") = false := rfl
  simp only [h1, h2, h3, Bool.or_false, Bool.false_eq_true, if_false]
  refine wpAny_bind (PySem.W.owit_iter hF I2.ok.mod.kin J hc.it hc.itF ?_)
  have sb : Sub X n X.A.in1.in1 := (Sub.in1 (Sub.in1 (⟨hr, rfl⟩ : Sub X (n + 2) X.A)))
  have e0 : Env0 X.prog X.w X.K X.mg X.base X.A.in1.in1 X.stack s2 (upd H q0 (.lst [])) := by
    have e := I2.env0
    exact ⟨by rw [sb.fr]; exact e.frames, e.mod, e.bs, e.bsz, e.funs, e.frf, e.hok, e.bare⟩
  have hspI : spIt X.K C g [.ref a] (upd H q0 (.lst [])) (fun v H' => ∃ it, v = .ref it ∧ q0 < it ∧ upd H q0 (.lst []) it = none ∧ H' = upd (upd H q0 (.lst [])) it (TiO t it 0)) E0 := ⟨a, dx, fs, t, zs, rfl, ha2, hf, ht2, fun it hit hlt => ⟨it, rfl, hlt q0 _ upd_same, hit, rfl⟩⟩
  have r2 : Vals [V.ref a] [Value.ref a] := .cons rfl .nil
  refine wpAny_call (codeAny_mono (FI.run X.A.in1.in1 X.stack s2 _ ⟨[.ref a], []⟩ [.ref a] [.ref a] _ E0 sb.room e0 (by
    have := bI s2 [.ref a] I2.kIn rfl
    simpa using this) r2 hspI) fun r s' hq' => ?_)
  cases r with
  | error e => exact passL _ σ _ s2 e s' I2 hq'
  | ok fl =>
    cases fl with
    | next => exact False.elim hq'
    | brk => exact False.elim hq'
    | cont => exact False.elim hq'
    | ret u =>
      obtain ⟨v, H', I', rv', it, rfl, hlt, hit, rfl⟩ := I2.after hq'
      obtain rfl : u = Value.ref it := rv'
      have hti := tiO_get I' upd_same
      have hfp := ItX.inv_fp I' (upd_same) (Nat.le_trans hsz (Nat.le_of_lt hlt))
      have Id := ItX.inv_drop I' (show _ = some (.ext fun h => h.IsTupleIter it t 0) from upd_same)
      rw [ItX.dropH_upd hit] at Id hfp
      obtain ⟨mA', J', _⟩ := ins_get Id.hok ha2
      obtain ⟨od', J', _⟩ := J'.look
      refine wpAny_specialOf hti.typeIs F.slot_tuple_iterator_next.lookup ?_
      refine wpAny_bind (wpAny_holding (hint_none hc Id.kIn J' ?_))
      obtain ⟨z, its0, kk, r3, hl3, e3⟩ := Id.lstM hq2
      cases r3
      obtain ⟨its, rz, pl, hz⟩ := Id.tuple ht2
      have hte : t ≠ it := fun z => by
        obtain ⟨o, ho, hcl, _⟩ := pl
        obtain ⟨o2, g1, g2, _⟩ := hti
        rw [← z, ho] at g1; cases g1
        rw [hcl] at g2
        exact absurd (Value.type.inj g2) (by decide)
      have hqt : q0 ≠ t := fun z => by
        obtain ⟨o, ho, hcl, _⟩ := pl
        rw [← z, e3] at ho; cases ho
        exact absurd (Value.type.inj hcl) (by decide)
      have hqi : q0 ≠ it := Nat.ne_of_lt hlt
      have W := (Walks.tuple (prog := X.prog) (w := X.w) (A := X.A.in1.in1) (I.ok.hd hcalm) it t hte its.toArray).toS
      have loop : ∀ (s3 : Shared) (c3 : Nat), (∀ b o, b ≠ q0 → s'.heap.get? b = some o → s3.heap.get? b = some o) → s3.os = s'.os → s3.gens = s'.gens → s3.heap.get? q0 = some { cls := .type "list", dict := none, data := .seq #[] c3, slots := #[] } →
          codeAny (model X.prog X.w) X.A.in1 (.builtin "list.extend.loop" ⟨[.ref q0, .ref it, .none], []⟩) (wants (fun r s₂ => r = .none ∧ EP X pins σ Q (.ref q0) s₂) X.xe) s3 := fun s3 c3 hk ho hg e => by
        refine codeAny_extend_loopS W (by rw [List.size_toArray, ← rz.length]; exact hz) q0 (by simp [hqi, hqt]) .none _ 0 s3 #[] c3 rfl (Nat.zero_le _) ⟨hti.at fun o q => hk it o (Ne.symm hqi) q, ?_⟩ e (ItemsOf.nil _) fun s4 acc c4 hm hS4 hacc => ?_
        · obtain ⟨o, ho, hcl⟩ := pl
          exact ⟨o, hk t o (Ne.symm hqt) ho, hcl⟩
        · have ea := items_eq hacc
          subst ea
          refine ⟨rfl, .ref q0, upd H q0 (.lst zs), ?_, rfl, q q0 hn0⟩
          have k4 : ∀ b o, b ≠ q0 → b ≠ it → s'.heap.get? b = some o → s4.heap.get? b = some o := fun b o h1 h2 e => hm.heap b o (by simp [h1, h2]) (hk b o h1 e)
          have n1 : ∀ {b : Addr}, upd H q0 (.lst []) b = none → b ≠ q0 ∧ H b = none := fun {b} e => by
            have : b ≠ q0 := fun z => by rw [z, upd_same] at e; cases e
            exact ⟨this, by rw [upd_ne this] at e; exact e⟩
          have un : Un (frs X.stack) [it] (upd H q0 (.lst [])) (upd H q0 (.lst zs)) s'.heap s4.heap := {
            keep := fun b o e n hf hx => k4 b o (n1 n).1 (by simpa using hx) e
            slot := fun b o e n hf hx => ⟨o.slots, k4 b o (n1 n).1 (by simpa using hx) e⟩
            free := fun b o e n hx => by rw [upd_ne (n1 n).1]; exact (n1 n).2
            there := fun b o e hx => by
              by_cases hb : b = q0
              · exact ⟨_, by rw [hb]; exact hS4⟩
              · exact ⟨o, k4 b o hb (by simpa using hx) e⟩
            tups := fun b xs e => by
              have hb : b ≠ q0 := fun z => by rw [z, upd_same] at e; cases e
              rw [upd_ne hb] at e ⊢; exact e
            frzs := fun b o u e => by
              have hb : b ≠ q0 := fun z => by rw [z, upd_same] at e; cases e
              rw [upd_ne hb] at e ⊢; exact e
            tbls := fun b ps e => by
              have hb : b ≠ q0 := fun z => by rw [z, upd_same] at e; cases e
              rw [upd_ne hb] at e ⊢
              exact ⟨#[], by rw [e]; simp⟩ }
          have hok : HOk X.prog X.w (upd H q0 (.lst zs)) s4.heap := fun b o e => by
            by_cases hb : b = q0
            · subst hb
              rw [upd_same] at e; cases e
              exact ⟨hz, its, c4, rz, hS4⟩
            · have e1 : upd H q0 (.lst []) b = some o := by rw [upd_ne hb] at e ⊢; exact e
              have nit : ∀ {c : Addr} {u : HO}, upd H q0 (.lst []) c = some u → c ≠ it := fun {c u} e z => by rw [z, hit] at e; cases e
              rw [upd_ne hb] at e
              refine (Id.hok b o e1).stay (fun c v hc y => k4 c v ?_ ?_ y) (fun c hc => ?_) fun c xs hc => ?_
              · rcases hc with hc | hc
                · rw [hc]; exact hb
                · intro z; rw [z, upd_same] at hc; cases hc
              · rcases hc with hc | hc
                · rw [hc]; exact nit e1
                · exact nit hc
              · have : c ≠ q0 := fun z => by rw [z, upd_same] at hc; cases hc
                rw [upd_ne this] at hc ⊢; exact hc
              · have : c ≠ q0 := fun z => by rw [z, upd_same] at hc; cases hc
                rw [upd_ne this] at hc ⊢; exact hc
          exact Id.call' (ch := [it]) (hm.os.trans ho) un hok (by have this : s4.gens = s3.gens := hm.gens; rw [this, hg]; exact Id.bare) fun b hb => by
            obtain rfl : b = it := by simpa using hb
            exact ⟨hfp.2.2.2.1, hfp.2.1, hfp.2.2.2.2.1, hfp.2.2.2.2.2⟩
      refine wpAny_ite_split (fun _ => ?_) (fun _ => wpAny_pure ⟨plainId_quiet PySem.F.plain_extend_loop _, loop s' _ (fun b o _ e => e) rfl rfl e3⟩)
      refine wpAny_bind (wpAny_rule ?_)
      refine wpAny_bind ?_
      show wpAny _ _ (updateSeq q0 (·.push .none) >>= fun _ => updateSeq q0 (·.pop)) _ _ _
      refine wpAny_bind (wpAny_updateSeq e3 rfl ?_)
      have e4 := Heap.get?_update_self (Obj.mapSeq (·.push Value.none)) e3 rfl
      refine wpAny_updateSeq e4 rfl ?_ (by show 1 ≤ sizeLine; rw [sizeLine_eq]; decide) (by show 0 ≤ sizeLine + 1; exact Nat.zero_le _)
      refine wpAny_pure ⟨plainId_quiet PySem.F.plain_extend_loop _, loop _ _ (fun b o hb e => (Heap.get?_update_other _ _ (Ne.symm hb)).trans ((Heap.get?_update_other _ _ (Ne.symm hb)).trans e)) rfl rfl (Heap.get?_update_self _ e4 rfl)⟩
end
end PD
set_option maxHeartbeats 1000000
namespace PD
open PySem PySem.Spec PyProof.Rows L2
section
variable {X : Cx} {Xe Γ Γ1 Γ2 Γ3 : Env'} {e a b c o : Expr} {pos p px apos : Pos} {r ra rb rc rv : Rv} {d : D} {ds : List D} {i j k : Int} {C : Addr} {ns : List Str} {vs : List D} {n : Nat} {g : Str}
/-! ### list(o) -/
structure Itl (P : Program) (w : World) (K : PySem.W.Frag) (mg : Str → Option Value) (base : Heap) (k : Nat) (C : Addr) (g : Str) : Prop where
  ex : ∃ (fi : Addr) (fdI : FuncData), ItK K C fi ∧ FnOk P w K mg base (L2.CX P w) k fi fdI ["self"] (spIt K C g) ∧ Binds K fdI ["self"] []
theorem ev_listO (M : Itl X.prog X.w X.K X.mg X.base n C g) (hr : Room (n + 2) X.A) (hc : X.calm = true) (hg : Gl X "list") (hm : X.mg "list" = none) (w : VIns Γ1 r C ns vs) (hf : fldOf ns vs g = some (.tup ds)) (ha : EV X Γ a r Γ1) (hs : starEach [a] X.env = (false, eval a X.env) :: starEach [] X.env := by rfl) : EV X Γ (.Call (.Name "list" p) [a] [] pos) (.own (.lst ds)) Γ1 := by
  obtain ⟨fi, fdI, hI, hF, hB⟩ := M.ex
  exact ev_callTy (call_listIt hc hI hF hB hr) hg hm (by decide +kernel) (fun F σ H A us Q hH hv q => by
    cases hv with
    | cons h t =>
      cases t
      obtain ⟨x, dx, fs, rfl, h1, e2, t2⟩ := w.at hH h
      obtain ⟨u, l, ru⟩ := fld_at e2 t2 hf
      obtain ⟨ta, zs, rfl, s3, t3⟩ := Rep.tup_at ru
      exact ⟨x, dx, fs, ta, zs, rfl, h1, l, hH.le.seqT s3, fun l hl => new_list (.refl hH) t3 hl q⟩) (av_cons ha av_nil hs) (by decide) (by decide) hs rfl
/-! ### min, max -/
theorem ev_max2 (hc : X.calm = true) (hg : Gl X "max") (hm : X.mg "max" = none) (ha : EV X Γ a (.dat (.int i)) Γ1) (hb : EV X Γ1 b (.dat (.int j)) Γ2) (hs : starEach [a, b] X.env = (false, eval a X.env) :: starEach [b] X.env := by rfl) (hs2 : starEach [b] X.env = (false, eval b X.env) :: starEach [] X.env := by rfl)
    (hpl : (backTo pos (starEach [b] X.env)).any (·.1) = false := by rfl) : EV X Γ (.Call (.Name "max" p) [a, b] [] pos) (.dat (.int (max i j))) Γ2 :=
  ev_callB (call_max2 hc) hg hm (by decide +kernel) (fun F σ H A us Q hH hv q => by
    cases hv with
    | cons h t =>
      cases t with
      | cons h2 t =>
        cases t
        cases h; cases h2
        refine ⟨i, j, rfl, ?_⟩
        have e : (if j > i then j else i) = max i j := by split <;> omega
        rw [e]
        exact q F H _ (.refl hH) (.int _)) (av_cons ha (av_cons hb av_nil hs2) hs) (by decide) (by decide) hs hpl
theorem ev_min2 (hc : X.calm = true) (hg : Gl X "min") (hm : X.mg "min" = none) (ha : EV X Γ a (.dat (.int i)) Γ1) (hb : EV X Γ1 b (.dat (.int j)) Γ2) (hs : starEach [a, b] X.env = (false, eval a X.env) :: starEach [b] X.env := by rfl) (hs2 : starEach [b] X.env = (false, eval b X.env) :: starEach [] X.env := by rfl)
    (hpl : (backTo pos (starEach [b] X.env)).any (·.1) = false := by rfl) : EV X Γ (.Call (.Name "min" p) [a, b] [] pos) (.dat (.int (min i j))) Γ2 :=
  ev_callB (call_min2 hc) hg hm (by decide +kernel) (fun F σ H A us Q hH hv q => by
    cases hv with
    | cons h t =>
      cases t with
      | cons h2 t =>
        cases t
        cases h; cases h2
        refine ⟨i, j, rfl, ?_⟩
        have e : (if j < i then j else i) = min i j := by split <;> omega
        rw [e]
        exact q F H _ (.refl hH) (.int _)) (av_cons ha (av_cons hb av_nil hs2) hs) (by decide) (by decide) hs hpl
/-- the greatest of some ints -/
def maxI : List Int → Int
  | [] => 0
  | [x] => x
  | x :: y :: r => max x (maxI (y :: r))
theorem maxI_mem : ∀ {ns : List Int}, 0 < ns.length → maxI ns ∈ ns
  | [x], _ => .head _
  | x :: y :: r, _ => by
    have ih := maxI_mem (ns := y :: r) (by simp)
    show max x (maxI (y :: r)) ∈ _
    by_cases h : x ≤ maxI (y :: r)
    · rw [Int.max_eq_right h]; exact .tail _ ih
    · rw [Int.max_eq_left (by omega)]; exact .head _
theorem maxI_le : ∀ {ns : List Int} {y : Int}, y ∈ ns → y ≤ maxI ns
  | [x], y, h => by
    cases List.mem_singleton.mp h
    exact Int.le_refl _
  | x :: z :: r, y, h => by
    show y ≤ max x (maxI (z :: r))
    rcases List.mem_cons.mp h with rfl | h
    · exact Int.le_max_left ..
    · exact Int.le_trans (maxI_le h) (Int.le_max_right ..)
theorem evt_maxL {ns : List Int} (hc : X.calm = true) (hg : Gl X "max") (hm : X.mg "max" = none) (w : View Γ1 r (ns.map D.int)) (hn : 0 < ns.length) (ha : EV X Γ a r Γ1) (hs : starEach [a] X.env = (false, eval a X.env) :: starEach [] X.env := by rfl) : EV X Γ (.Call (.Name "max" p) [a] [] pos) (.dat (.int (maxI ns))) Γ1 :=
  ev_callB (cr_max hc) hg hm (by decide +kernel) (fun F σ H A us Q hH hv q => by
    cases hv with
    | cons h t =>
      cases t
      obtain ⟨x, ws, rfl, s, t⟩ := w.at hH h
      have := t.ints
      subst this
      refine ⟨x, ns, rfl, s, hn, fun m h1 h2 => ?_⟩
      have e : m = maxI ns := Int.le_antisymm (maxI_le h1) (h2 _ (maxI_mem hn))
      subst e
      exact q F H _ (.refl hH) (.int _)) (av_cons ha av_nil hs) (by decide) (by decide) hs rfl
/-! ### list(range(a, b)) -/
theorem call_list_rng (hc : X.calm = true) : CallR X (.type "list") (fun xs H Q => ∃ r lo hi, xs = [.ref r] ∧ H r = some (.rng lo hi) ∧ -(2 ^ 62) ≤ lo ∧ lo < 2 ^ 62 ∧ -(2 ^ 62) ≤ hi ∧ hi < 2 ^ 62 ∧ (hi - lo).toNat ≤ 2 ^ 24 ∧
    ∀ l, H l = none → Q (.ref l) (upd H l (.lst ((List.range (hi - lo).toNat).map fun (i : Nat) => V.int (lo + (i : Int)))))) := by
  intro pins s σ H xs us Q I rv h
  obtain ⟨r, lo, hi, rfl, hr, h1, h2, h3, h4, hn, q⟩ := h
  obtain rfl := Vals.ref1 rv
  obtain ⟨t, u, v, ho⟩ := (show ObjOk X.prog X.w H s.heap r (.rng lo hi) from I.hok r _ hr)
  have en : Builtin.Range.rangeSize lo hi 1 = ((hi - lo).toNat : Nat) := by rw [rangeSize_one]; split <;> omega
  refine call_list_range (I.ok.hd hc) ho (small_one h1 h2 h3 h4) en hn fun h' tk acc' c' k e hi' => ?_
  have hz : acc'.size = (hi - lo).toNat := hi'.1
  refine ⟨.ref s.heap.objs.size, _, I.laid (t' := tk) k (Nat.le_refl _) (show ObjOk X.prog X.w _ h' _ (.lst ((List.range (hi - lo).toNat).map fun (i : Nat) => V.int (lo + (i : Int)))) from ⟨?_, acc'.toList, c', ?_, by simpa using e⟩), rfl, q _ (I.hok.fresh (Nat.le_refl _))⟩
  · rw [List.length_map, List.length_range, sizeLine_eq]; omega
  · refine paired_mk (by simp [hz]) fun i v u e1 e2 => ?_
    rw [List.getElem?_map] at e1
    cases q1 : (List.range (hi - lo).toNat)[i]? with
    | none => rw [q1] at e1; cases e1
    | some m =>
      rw [q1] at e1
      obtain ⟨g1, g2⟩ := List.getElem?_eq_some_iff.mp q1
      simp at g1 g2
      subst g2
      cases e1
      obtain ⟨t2, rfl⟩ := hi'.2 i u (by simpa using e2)
      exact ⟨t2, by simp⟩
theorem evt_listR2 {p' pos' : Pos} (hc : X.calm = true) (hg : Gl X "list") (hm : X.mg "list" = none) (hg2 : Gl X "range") (hm2 : X.mg "range" = none) (h1 : -(2 ^ 62) ≤ i ∧ i < 2 ^ 62 ∧ -(2 ^ 62) ≤ j ∧ j < 2 ^ 62 ∧ j - i ≤ 16777216) (ha : EV X Γ a (.dat (.int i)) Γ1) (hb : EV X Γ1 b (.dat (.int j)) Γ2)
    (hs : starEach [.Call (.Name "range" p') [a, b] [] pos'] X.env = (false, eval (.Call (.Name "range" p') [a, b] [] pos') X.env) :: starEach [] X.env := by rfl)
    (hs1 : starEach [a, b] X.env = (false, eval a X.env) :: starEach [b] X.env := by rfl) (hs2 : starEach [b] X.env = (false, eval b X.env) :: starEach [] X.env := by rfl) (hpl : (backTo pos' (starEach [b] X.env)).any (·.1) = false := by rfl) :
    EV X Γ (.Call (.Name "list" p) [.Call (.Name "range" p') [a, b] [] pos'] [] pos) (.own (.lst ((rangeI i j).map D.int))) Γ2 :=
  PE.weak (pe_callTy (call_list_rng hc) hg hm (by decide +kernel) (pa_cons (pe_callTy cr_range2 hg2 hm2 (by decide +kernel) (pa_cons ha (pa_cons hb pa_nil hs2) hs1) (by decide) (by decide) hs1 hpl) pa_nil hs) (by decide) (by decide) hs rfl) fun σ H Q ⟨F, hH, q⟩ =>
    ⟨F, hH, fun F1 H1 v p1 hv => ⟨F1, p1.ok, fun F2 H2 u p2 hu => by
      cases hv; cases hu
      refine ⟨i, j, rfl, fun x hx => ?_⟩
      have p3 := Post.new p2.ok hx (.rng i j)
      refine ⟨x, i, j, rfl, upd_same, h1.1, h1.2.1, h1.2.2.1, h1.2.2.2.1, by omega, fun l hl => ?_⟩
      have rl : RepL (kc X) F2 ((List.range (j - i).toNat).map fun (n : Nat) => V.int (i + (n : Int))) ((rangeI i j).map D.int) := by
        unfold rangeI
        have e : ((List.range (j - i).toNat).map fun (n : Nat) => V.int (i + (n : Int))) = ((List.range (j - i).toNat).map fun (n : Nat) => i + (n : Int)).map V.int := by rw [List.map_map]; rfl
        rw [e]
        exact repL_ints _
      exact new_list ((p1.trans p2).trans p3) rl hl q⟩⟩
/-! ### chains -/
theorem chain_run {f f' : Int → Int → Bool} (hH0 : True) {σ : L2.St} {H : Hp} {Q : VK} {u : Bool} (hu : u = (f i j && f' j k)) (h : ∃ F, Holds (kc X) F Γ σ H ∧ ∀ F' H', Post (kc X) Γ σ F H Γ2 σ F' H' → Q (.bl u) H') :
    tChain (rI0 fun i j => .bl (f i j)) (rI0 fun i j => .bl (f' i j)) (tEV (kc X) Γ (.dat (.int i)) Γ1) (tEV (kc X) Γ1 (.dat (.int j)) Γ2) (tEV (kc X) Γ2 (.dat (.int k)) Γ2) σ H Q := by
  obtain ⟨F, hH, q⟩ := h
  refine ⟨F, hH, fun F1 H1 x p1 hx => ⟨F1, p1.ok, fun F2 H2 y p2 hy => ?_⟩⟩
  cases hx; cases hy
  refine ⟨i, j, rfl, rfl, f i j, rfl, ?_⟩
  cases e : f i j with
  | true =>
    refine iteT ⟨F2, p2.ok, fun F3 H3 z p3 hz => ?_⟩
    cases hz
    refine ⟨j, k, rfl, rfl, ?_⟩
    rw [e, Bool.true_and] at hu
    subst hu
    exact q F3 H3 ((p1.trans p2).trans p3)
  | false =>
    rw [e, Bool.false_and] at hu
    subst hu
    exact iteF (q F2 H2 (p1.trans p2))
theorem tv_chainII {op op' : CmpOp} {f f' : Int → Int → Bool} (ho : OpR X (compareOp op) (rI0 fun i j => .bl (f i j))) (ho' : OpR X (compareOp op') (rI0 fun i j => .bl (f' i j))) (ha : EV X Γ a (.dat (.int i)) Γ1) (hb : EV X Γ1 b (.dat (.int j)) Γ2) (hc : EV X Γ2 c (.dat (.int k)) Γ2)
    (hm : lastMarks [op, op'] [b, c] = false := by with_unfolding_all rfl) : TV X Γ (.Compare a [op, op'] [b, c] pos) (f i j && f' j k) Γ2 :=
  PT.weak (pt_chain ho ho' ha hb hc hm) fun σ H Q ⟨F, hH, q⟩ => chain_run (u := f i j && f' j k) trivial rfl ⟨F, hH, fun F' H' p => ⟨_, rfl, q F' H' p⟩⟩
theorem ev_chainII {op op' : CmpOp} {f f' : Int → Int → Bool} (ho : OpR X (compareOp op) (rI0 fun i j => .bl (f i j))) (ho' : OpR X (compareOp op') (rI0 fun i j => .bl (f' i j))) (ha : EV X Γ a (.dat (.int i)) Γ1) (hb : EV X Γ1 b (.dat (.int j)) Γ2) (hc : EV X Γ2 c (.dat (.int k)) Γ2)
    (hm : lastMarks [op, op'] [b, c] = false := by with_unfolding_all rfl) : EV X Γ (.Compare a [op, op'] [b, c] pos) (.dat (.bl (f i j && f' j k))) Γ2 :=
  PE.weak (pe_chain ho ho' ha hb hc hm) fun σ H Q ⟨F, hH, q⟩ => chain_run (u := f i j && f' j k) trivial rfl ⟨F, hH, fun F' H' p => q F' H' _ p (.bl _)⟩
theorem tv_leLe (ha : EV X Γ a (.dat (.int i)) Γ1) (hb : EV X Γ1 b (.dat (.int j)) Γ2) (hc : EV X Γ2 c (.dat (.int k)) Γ2) (hm : lastMarks [.LtE, .LtE] [b, c] = false := by with_unfolding_all rfl) : TV X Γ (.Compare a [.LtE, .LtE] [b, c] pos) (decide (i ≤ j) && decide (j ≤ k)) Γ2 := tv_chainII (f := fun i j => decide (i ≤ j)) (f' := fun i j => decide (i ≤ j)) op_le op_le ha hb hc hm
theorem ev_leLe (ha : EV X Γ a (.dat (.int i)) Γ1) (hb : EV X Γ1 b (.dat (.int j)) Γ2) (hc : EV X Γ2 c (.dat (.int k)) Γ2) (hm : lastMarks [.LtE, .LtE] [b, c] = false := by with_unfolding_all rfl) : EV X Γ (.Compare a [.LtE, .LtE] [b, c] pos) (.dat (.bl (decide (i ≤ j) && decide (j ≤ k)))) Γ2 := ev_chainII (f := fun i j => decide (i ≤ j)) (f' := fun i j => decide (i ≤ j)) op_le op_le ha hb hc hm
theorem tv_leLt (ha : EV X Γ a (.dat (.int i)) Γ1) (hb : EV X Γ1 b (.dat (.int j)) Γ2) (hc : EV X Γ2 c (.dat (.int k)) Γ2) (hm : lastMarks [.LtE, .Lt] [b, c] = false := by with_unfolding_all rfl) : TV X Γ (.Compare a [.LtE, .Lt] [b, c] pos) (decide (i ≤ j) && decide (j < k)) Γ2 := tv_chainII (f := fun i j => decide (i ≤ j)) (f' := fun i j => decide (i < j)) op_le op_lt ha hb hc hm
theorem ev_leLt (ha : EV X Γ a (.dat (.int i)) Γ1) (hb : EV X Γ1 b (.dat (.int j)) Γ2) (hc : EV X Γ2 c (.dat (.int k)) Γ2) (hm : lastMarks [.LtE, .Lt] [b, c] = false := by with_unfolding_all rfl) : EV X Γ (.Compare a [.LtE, .Lt] [b, c] pos) (.dat (.bl (decide (i ≤ j) && decide (j < k)))) Γ2 := ev_chainII (f := fun i j => decide (i ≤ j)) (f' := fun i j => decide (i < j)) op_le op_lt ha hb hc hm
end
end PD
set_option maxHeartbeats 1000000
namespace PD
open PySem PySem.Spec PyProof.Rows L2
/-! ### what the second printer's lines use -/
theorem rng1 {n : Int} (h : -1000000 ≤ n ∧ n ≤ 1000000) : -(2 ^ 62) ≤ n ∧ n < 2 ^ 62 := ⟨by omega, by omega⟩
theorem rng2 {n m : Int} (h : (-1000000 ≤ n ∧ n ≤ 1000000) ∧ (-1000000 ≤ m ∧ m ≤ 1000000)) : -(2 ^ 62) ≤ n ∧ n < 2 ^ 62 ∧ -(2 ^ 62) ≤ m ∧ m < 2 ^ 62 := ⟨by omega, by omega, by omega, by omega⟩
theorem rng2s {n m : Int} (h : (-1000000 ≤ n ∧ n ≤ 1000000) ∧ (-1000000 ≤ m ∧ m ≤ 1000000)) : -(2 ^ 62) ≤ n ∧ n < 2 ^ 62 ∧ -(2 ^ 62) ≤ m ∧ m < 2 ^ 62 ∧ m - n ≤ 16777216 := ⟨by omega, by omega, by omega, by omega, by omega⟩
theorem rsm1 {n : Int} (h : -1000000 ≤ n ∧ n ≤ 1000000) : (rangeI 0 n).length ≤ sizeLine := range_small h.2
theorem rsm2 {n m : Int} (h : (-1000000 ≤ n ∧ n ≤ 1000000) ∧ (-1000000 ≤ m ∧ m ≤ 1000000)) : (rangeI n m).length ≤ sizeLine := by rw [rangeI_len, sizeLine_eq]; omega
theorem cmul {i j : Int} (h : (-10000000000000000000 < i ∧ i < 10000000000000000000) ∨ (-10000000000000000000 < j ∧ j < 10000000000000000000)) : CMul i j := h.imp (fun h => ⟨by omega, by omega⟩) fun h => ⟨by omega, by omega⟩
theorem cdiv {i j : Int} (h : 0 < j ∧ j < 1000000000) : CDiv i j := ⟨h.1, by omega⟩
/-- keys -/
structure EncNk {α : Type} (enc : α → D) (n : Nat) : Prop where
  key : ∀ a, (enc a).keyable = true
  inj : ∀ a b, (enc a).nk = (enc b).nk → a = b
  dep : ∀ a, (enc a).nk.depth ≤ n
section
variable {α β : Type} {enc : α → D} {encb : β → D} {n m : Nat}
theorem EncNk.int : EncNk D.int 1 := ⟨fun _ => rfl, fun a b h => by
  have h : NestedKey.num a = NestedKey.num b := h
  exact NestedKey.num.inj h, fun _ => by simp [D.nk, NestedKey.depth]⟩
theorem EncNk.str : EncNk D.str 1 := ⟨fun _ => rfl, fun a b h => by
  have h : NestedKey.text a = NestedKey.text b := h
  exact NestedKey.text.inj h, fun _ => by simp [D.nk, NestedKey.depth]⟩
theorem nkL_inj (h : EncNk enc n) : ∀ {as bs : List α}, D.nkL (as.map enc) = D.nkL (bs.map enc) → as = bs
  | [], [], _ => rfl
  | [], _ :: _, e => by simp [D.nkL] at e
  | _ :: _, [], e => by simp [D.nkL] at e
  | a :: as, b :: bs, e => by
    simp only [List.map_cons, D.nkL, List.cons.injEq] at e
    rw [h.inj a b e.1, nkL_inj h e.2]
theorem keyL (h : EncNk enc n) : ∀ as : List α, D.keyableL (as.map enc) = true
  | [] => rfl
  | a :: as => Bool.and_eq_true_iff.mpr ⟨h.key a, keyL h as⟩
theorem depL {k : Nat} (h : ∀ a, (enc a).nk.depth ≤ k) : ∀ as : List α, NestedKey.depthAll (D.nkL (as.map enc)) ≤ k
  | [] => by simp [D.nkL, NestedKey.depthAll]
  | a :: as => by
    have h1 := h a
    have h2 := depL h as
    simp only [List.map_cons, D.nkL, NestedKey.depthAll]
    omega
theorem EncNk.vt (h : EncNk enc n) : EncNk (eT enc) (n + 1) := ⟨fun a => keyL h a, fun a b e => by
    have e : NestedKey.tup (D.nkL (a.map enc)) = NestedKey.tup (D.nkL (b.map enc)) := e
    exact nkL_inj h (NestedKey.tup.inj e), fun a => by
    have := depL h.dep a
    show NestedKey.depth (.tup (D.nkL (a.map enc))) ≤ _
    simp only [NestedKey.depth]
    omega⟩
theorem EncNk.pair (h : EncNk enc n) (h2 : EncNk encb m) (hm : m ≤ n) : EncNk (eP enc encb) (n + 1) := ⟨fun a => by
    show (D.keyable (enc a.1) && (D.keyable (encb a.2) && true)) = true
    rw [h.key, h2.key]; rfl, fun a b e => by
    have e : NestedKey.tup [(enc a.1).nk, (encb a.2).nk] = NestedKey.tup [(enc b.1).nk, (encb b.2).nk] := e
    have e := NestedKey.tup.inj e
    simp only [List.cons.injEq, and_true] at e
    exact Prod.ext (h.inj _ _ e.1) (h2.inj _ _ e.2), fun a => by
    have h3 := h.dep a.1
    have h4 := h2.dep a.2
    show NestedKey.depth (.tup [(enc a.1).nk, (encb a.2).nk]) ≤ _
    simp only [NestedKey.depth, NestedKey.depthAll]
    omega⟩
theorem EncNk.pairR (h : EncNk enc n) (h2 : EncNk encb m) (hm : n ≤ m) : EncNk (eP enc encb) (m + 1) := ⟨fun a => by
    show (D.keyable (enc a.1) && (D.keyable (encb a.2) && true)) = true
    rw [h.key, h2.key]; rfl, fun a b e => by
    have e : NestedKey.tup [(enc a.1).nk, (encb a.2).nk] = NestedKey.tup [(enc b.1).nk, (encb b.2).nk] := e
    have e := NestedKey.tup.inj e
    simp only [List.cons.injEq, and_true] at e
    exact Prod.ext (h.inj _ _ e.1) (h2.inj _ _ e.2), fun a => by
    have h3 := h.dep a.1
    have h4 := h2.dep a.2
    show NestedKey.depth (.tup [(enc a.1).nk, (encb a.2).nk]) ≤ _
    simp only [NestedKey.depth, NestedKey.depthAll]
    omega⟩
theorem EncNk.isKeyV (h : EncNk (eT enc) n) (hn : n ≤ 8) : EncKey (eT enc) := ⟨fun a => Bool.and_eq_true_iff.mpr ⟨h.key a, decide_eq_true (Nat.le_trans (h.dep a) hn)⟩, h.inj⟩
theorem EncNk.isKeyP (h : EncNk (eP enc encb) n) (hn : n ≤ 8) : EncKey (eP enc encb) := ⟨fun a => Bool.and_eq_true_iff.mpr ⟨h.key a, decide_eq_true (Nat.le_trans (h.dep a) hn)⟩, h.inj⟩
end
/-! ### None or a value -/
section
variable {X : Cx} {Xe Xb Xs Γ Γ1 Γ2 Γ3 : Env'} {e a b c o : Expr} {pos p px apos pos' np : Pos} {α β : Type} {enc : α → D} {v : Option α} {S S' L R : Type} {G : S → Env'} {Lp : L → Env'} {Kr : R → Rv × Env'}
theorem eO_isNon (h : ∀ a, (enc a).isNon = false) : (eO enc v).isNon = v.isNone := by
  cases v with
  | none => rfl
  | some a => exact h a
theorem ev_isNO {j} {pos'} (h : ∀ a, (enc a).isNon = false) (ha : EV X Γ a (.dat (eO enc v)) Γ1) : EV X Γ (.Compare a [.Is] [.Constant .none j pos'] pos) (.dat (.bl v.isNone)) Γ1 := by
  have := ev_isN (j := j) (pos' := pos') (pos := pos) ha
  rwa [eO_isNon h] at this
theorem ev_notNO {j} {pos'} (h : ∀ a, (enc a).isNon = false) (ha : EV X Γ a (.dat (eO enc v)) Γ1) : EV X Γ (.Compare a [.IsNot] [.Constant .none j pos'] pos) (.dat (.bl (!v.isNone))) Γ1 := by
  have := ev_notN (j := j) (pos' := pos') (pos := pos) ha
  rwa [eO_isNon h] at this
theorem tv_isNO {j} {pos'} (h : ∀ a, (enc a).isNon = false) (ha : EV X Γ a (.dat (eO enc v)) Γ1) : TV X Γ (.Compare a [.Is] [.Constant .none j pos'] pos) v.isNone Γ1 := by
  have := tv_isN (j := j) (pos' := pos') (pos := pos) ha
  rwa [eO_isNon h] at this
theorem tv_notNO {j} {pos'} (h : ∀ a, (enc a).isNon = false) (ha : EV X Γ a (.dat (eO enc v)) Γ1) : TV X Γ (.Compare a [.IsNot] [.Constant .none j pos'] pos) (!v.isNone) Γ1 := by
  have := tv_notN (j := j) (pos' := pos') (pos := pos) ha
  rwa [eO_isNon h] at this
theorem EV.some [Inhabited α] (h : v.isSome = true) (ha : EV X Γ a (.dat (eO enc v)) Γ1) : EV X Γ a (.dat (enc (v.getD default))) Γ1 := by
  cases v with
  | none => cases h
  | some x => exact ha
/-! ### raise -/
def okDs : List D → Prop
  | [] => True
  | .str y :: r => y.length ≤ 100000 ∧ okDs r
  | .int i :: r => i.natAbs.log2 < 1920 ∧ okDs r
  | _ => False
theorem okV_of {K : KC} {F : Hp} : ∀ {ds : List D} {us : List V}, okDs ds → RepL K F us ds → okV us
  | [], _, _, .nil => fun _ h => nomatch h
  | d :: ds, u :: us, h, .cons r t => by
    have key : fmtOk u ∧ okDs ds := by
      cases r with
      | str y _ => exact h
      | int i => exact h
      | _ => exact h.elim
    intro z hz
    rcases List.mem_cons.mp hz with rfl | hz
    · exact key.1
    · exact okV_of key.2 t z hz
/-! ### a def that hands nothing back, as one that hands back what it leaves -/
def LO.asRet {S L R : Type} : LO S L R → LO Unit Unit S
  | .next s => .ret s
  | .exc y => .exc y
  | _ => .bad
theorem asRet_eq {S L R : Type} [Inhabited S] {o : LO S L R} (h : o.asRet.IsRet) : o = .next o.asRet.get := by
  obtain ⟨r, e⟩ := h
  cases o with
  | next s => rfl
  | _ => cases e
theorem asRet_exc {S L R : Type} {o : LO S L R} {y : Xd} (h : o.asRet = .exc y) : o = .exc y := by
  cases o with
  | exc z => cases h; rfl
  | _ => cases h
theorem asRet_next {S L R : Type} {s : S} : (LO.next s : LO S L R).asRet = .ret s := rfl
/-! ### try: .. except C as e: .., the error of one class -/
def LO.catchT {S L R α : Type} (o : LO S L R) (dec : Xd → Option α) (h : α → LO S L R) : LO S L R := o.catch fun y => match dec y with
  | some a => h a
  | none => .bad
theorem st_tryT {i : Nat} {n x : Str} {cv : Value} {b₀ : Stmt} {suite body : List Stmt} {o : LO S L R} {dec : Xd → Option α} {eX : α → Xd} {h : α → LO S L R} {C : Addr} (hd : ∀ y a, dec y = some a → y = eX a) (hC : ∀ a, (eX a).C = C)
    (hs : X.stack = X.env :: X.outer) (hf : X.env.frame = some X.env.locals) (hN : X.N.Nodup) (hi : X.N[i]? = some n) (hln : X.env.kindOf n = some .local) (hc : Names X x cv)
    (hxC : PySem.W.exmOne X.K (.ref C) cv = some true)
    (hb : ∀ pn xe, PassesOwn (model X.prog X.w) X.A X.env xe → SS (X.tr pn xe) Xb Γ body G Lp Kr o)
    (hsu : ∀ v aE oe d pn, Zc (.ref C) d oe → (∃ vs, oe.data = .fields vs) → SS (X.suite aE ((aE, oe) :: pn)) Xs (Xb.set i (.err aE d (eX v))) (b₀ :: suite) G Lp Kr (h v))
    (hG : ∀ s, (G s)[i]? = some .any) (hL : ∀ l, (Lp l)[i]? = some .any) : ST X Xe Γ (.Try body [.ExceptHandler (some (.Name x np)) (some n) (b₀ :: suite) pos'] [] [] pos) G Lp Kr (o.catchT dec h) := by
  by_cases hex : ∃ y, o = .exc y ∧ dec y = none
  · obtain ⟨y, rfl, hy⟩ := hex
    have e : (LO.exc y : LO S L R).catchT dec h = .bad := by
      show (match dec y with | some a => h a | none => LO.bad).quiet = .bad
      rw [hy]; rfl
    rw [e]
    exact st_bad
  · refine st_try (Xs := Xs) hs hf hN hi hln hc hb (fun y e => ?_) (fun y e aE oe d pn z hv => ?_) hG hL
    · cases q : dec y with
      | none => exact (hex ⟨y, e, q⟩).elim
      | some a => rw [hd y a q, hC a]; exact hxC
    · cases q : dec y with
      | none => exact ss_bad
      | some a =>
        have := hd y a q
        subst this
        rw [hC a] at z
        exact hsu a aE oe d pn z hv
/-- an error of two attributes, a text and an int -/
def eXsi (C : Addr) (n1 n2 : Str) (a : Str × Int) : Xd := ⟨C, [n1, n2], [.str a.1, .int a.2]⟩
open Classical in
noncomputable def dXsi (C : Addr) (n1 n2 : Str) : Xd → Option (Str × Int)
  | ⟨D, ns, [.str a, .int b]⟩ => if D = C ∧ ns = [n1, n2] then some (a, b) else none
  | _ => none
theorem dXsi_eq {C : Addr} {n1 n2 : Str} (y : Xd) (a : Str × Int) (h : dXsi C n1 n2 y = some a) : y = eXsi C n1 n2 a := by
  unfold dXsi at h
  split at h
  · split at h
    · rename_i q
      obtain ⟨rfl, rfl⟩ := q
      cases h
      rfl
    · cases h
  · cases h
theorem dXsi_ok {C : Addr} {n1 n2 : Str} {a : Str × Int} : dXsi C n1 n2 (eXsi C n1 n2 a) = some a := by
  show (if C = C ∧ [n1, n2] = [n1, n2] then some (a.1, a.2) else none) = some a
  rw [if_pos ⟨rfl, rfl⟩]
end
section
variable {X : Cx} {Xe Γ Γ1 Γ2 Γ3 : Env'} {e a b c o : Expr} {pos p px : Pos} {α : Type} {enc : α → D}
theorem EV.fzL {ds : List D} (h : EV X Γ e (.own (.lst ds)) Γ1) : EV X Γ e (.dat (.lst ds)) Γ1 := EV.fz h
theorem EV.fzN {ks vs : List D} (h : EV X Γ e (.own (.dN ks vs)) Γ1) : EV X Γ e (.dat (.dct true ks vs)) Γ1 := EV.fz h
theorem EV.fzI {C : Addr} {ns : List Str} {vs : List D} (h : EV X Γ e (.own (.ins C ns vs)) Γ1) : EV X Γ e (.dat (.obj C ns vs)) Γ1 := EV.fz h
/-- membership, by a test that needs no instance -/
def memB {α : Type} [DecidableEq α] (u : α) (xs : List α) : Bool := decide (u ∈ xs)
variable [DecidableEq α] {rb : Rv} (u : α) (xs : List α)
theorem ev_inM (enc : α → D) (u : α) (xs : List α) (hu : X.A.units + 65 < cLine) (h : EncEq enc) (ha : EV X Γ a (.dat (enc u)) Γ1) (hb : EV X Γ1 b rb Γ2) (w : VSeq Γ2 rb (xs.map enc)) (hm : behindInMarks .In b = false := by rfl) : EV X Γ (.Compare a [.In] [b] pos) (.dat (.bl (memB u xs))) Γ2 := ev_inT hu h ha hb w hm
theorem tv_inM (enc : α → D) (u : α) (xs : List α) (hu : X.A.units + 65 < cLine) (h : EncEq enc) (ha : EV X Γ a (.dat (enc u)) Γ1) (hb : EV X Γ1 b rb Γ2) (w : VSeq Γ2 rb (xs.map enc)) (hm : behindInMarks .In b = false := by rfl) : TV X Γ (.Compare a [.In] [b] pos) (memB u xs) Γ2 := tv_inT hu h ha hb w hm
theorem ev_ninM (enc : α → D) (u : α) (xs : List α) (hu : X.A.units + 65 < cLine) (h : EncEq enc) (ha : EV X Γ a (.dat (enc u)) Γ1) (hb : EV X Γ1 b rb Γ2) (w : VSeq Γ2 rb (xs.map enc)) (hm : behindInMarks .NotIn b = false := by rfl) : EV X Γ (.Compare a [.NotIn] [b] pos) (.dat (.bl (!memB u xs))) Γ2 := ev_ninT hu h ha hb w hm
theorem tv_ninM (enc : α → D) (u : α) (xs : List α) (hu : X.A.units + 65 < cLine) (h : EncEq enc) (ha : EV X Γ a (.dat (enc u)) Γ1) (hb : EV X Γ1 b rb Γ2) (w : VSeq Γ2 rb (xs.map enc)) (hm : behindInMarks .NotIn b = false := by rfl) : TV X Γ (.Compare a [.NotIn] [b] pos) (!memB u xs) Γ2 := tv_ninT hu h ha hb w hm
/-- C(..), known to answer -/
theorem ev_make {x : Str} {C : Addr} {k : Nat} {Rel : List Ar → Out → Prop} {el : List Expr} {rs : List Rv} {ars : List Ar} {oc : Oc} (M : Kle X.prog X.w X.K X.mg X.base k x C Rel) (hr : Room (k + 1) X.A) (hg : Gl X x) (hR : Rel (.mu (.ins C [] []) oc :: ars) (.val (.dat .non)))
    (m : MtOk Γ1 rs ars Γ2) (ha : AV X Γ (e :: el) rs Γ1)
    (hdb : (x == ("__debug__" : Str)) = false := by decide) (he : starEach (e :: el) X.env = (false, eval e X.env) :: starEach el X.env := by rfl) (hpl : (backTo pos (starEach el X.env)).any (·.1) = false := by rfl) :
    EV X Γ (.Call (.Name x p) (e :: el) [] pos) (.own oc) Γ2 :=
  (cv_make (R := Unit) (o := .ret ()) (cf := fun _ => oc) (arf := fun _ => ars) (Γ' := fun _ => Γ2) (arx := ars) (cx := oc) (Xe := Γ2) M hr hg (fun _ _ => hR) (fun y e => nomatch e) (fun _ => m) m ha hdb he hpl).ev
theorem ev_negc {n : Int} {k} {p' : Pos} : EV X Γ (.UnaryOp .USub (.Constant (.int n) k p') pos) (.dat (.int (-n))) Γ :=
  EV.of (pe_un un_neg pe_int) fun σ H Q ⟨F, hH, q⟩ => ⟨n, rfl, q F H _ (.refl hH) (.int _)⟩
end
theorem _root_.L2.Room.u65 {k : Nat} {A : Around} (r : Room k A) : A.units + 65 < cLine := by have := r.un; omega
theorem _root_.L2.Room.u9 {k : Nat} {A : Around} (r : Room k A) : A.units + 9 < cLine := by have := r.un; omega
/-- the j-th def of a class's body -/
def mth : Stmt → Nat → Stmt
  | .ClassDef _ _ _ b _ _ _ _ _ _ _, j => b.getD j (.Pass ⟨0, 0, 0, 0⟩)
  | s, _ => s
end PD
set_option maxHeartbeats 1000000
namespace PD
open PySem PySem.Spec PyProof.Rows L2
/-! ### what a mirror's outcome is, by rules -/
/-- the mirror goes on with n, or hands back what q tells -/
def LO.wp {S L R : Type} (o : LO S L R) (n : S → Prop) (q : R → Prop) : Prop := match o with
  | .next s => n s
  | .ret r => q r
  | _ => False
section
variable {S S' L R α : Type} {n : S → Prop} {n' : S' → Prop} {q q' : R → Prop}
theorem wp_grd {c : Prop} {o : LO S L R} (h : c) (w : o.wp n q) : (grd c o).wp n q := by rw [grd_pos h]; exact w
theorem wp_set {s : S} {k : S → LO S' L R} (h : (k s).wp n' q) : ((LO.next s : LO S L R).bind k).wp n' q := h
theorem wp_bind {o : LO S L R} {k : S → LO S' L R} (h : o.wp (fun s => (k s).wp n' q) q) : (o.bind k).wp n' q := by
  cases o <;> first | exact h | exact h.elim
theorem wp_seq (m : S → Prop) {o : LO S L R} {k : S → LO S' L R} (h : o.wp m q) (hk : ∀ s, m s → (k s).wp n' q) : (o.bind k).wp n' q := by
  cases o <;> first | exact hk _ h | exact h | exact h.elim
theorem wp_next {s : S} (h : n s) : (LO.next s : LO S L R).wp n q := h
theorem wp_ret {r : R} (h : q r) : (LO.ret r : LO S L R).wp n q := h
theorem wp_if {c : Bool} {a b : LO S L R} (h1 : c = true → a.wp n q) (h2 : c = false → b.wp n q) : (if c = true then a else b : LO S L R).wp n q := by
  cases c with
  | true => exact h1 rfl
  | false => exact h2 rfl
theorem wp_weak {o : LO S L R} {m : S → Prop} (h : o.wp n q) (hn : ∀ s, n s → m s) (hq : ∀ r, q r → q' r) : o.wp m q' := by
  cases o <;> first | exact hn _ h | exact hq _ h | exact h.elim
theorem wp_forA {step : S → α → LO S S R} (I : List α → S → Prop) : ∀ (rest done : List α) {s : S}, I done s →
    (∀ d x r s, done ++ rest = d ++ x :: r → I d s → (step s x).wp (I (d ++ [x])) q) → (∀ s, I (done ++ rest) s → n s) → (forL (L := L) step rest s).wp n q
  | [], done, s, h0, _, he => he s (by rw [List.append_nil]; exact h0)
  | x :: rest, done, s, h0, hs, he => by
    have h1 := hs done x rest s rfl h0
    show LO.wp (match step s x with
    | .next s' => forL step rest s'
    | .cnt s' => forL step rest s'
    | .brk s' => .next s'
    | .ret r => .ret r
    | .exc x => .exc x
    | .bad => .bad) n q
    cases e : step s x with
    | next s' =>
      rw [e] at h1
      have e2 : done ++ x :: rest = (done ++ [x]) ++ rest := by simp
      exact wp_forA I rest (done ++ [x]) h1 (fun d y r s2 h3 h4 => hs d y r s2 (by rw [e2]; exact h3) h4) (fun s2 h3 => he s2 (by rw [e2]; exact h3))
    | ret r => rw [e] at h1; exact h1
    | cnt s' => rw [e] at h1; exact h1.elim
    | brk s' => rw [e] at h1; exact h1.elim
    | exc y => rw [e] at h1; exact h1.elim
    | bad => rw [e] at h1; exact h1.elim
/-- a loop by an invariant over what has been walked -/
theorem wp_for {step : S → α → LO S S R} (I : List α → S → Prop) {xs : List α} {s : S} (h0 : I [] s)
    (hs : ∀ d x r s, xs = d ++ x :: r → I d s → (step s x).wp (I (d ++ [x])) q) (he : ∀ s, I xs s → n s) : (forL (L := L) step xs s).wp n q :=
  wp_forA I xs [] h0 (fun d x r s h1 h2 => hs d x r s h1 h2) (fun s h => he s h)
/-- a loop whose invariant is of the state alone -/
theorem wp_forS {step : S → α → LO S S R} (I : S → Prop) {xs : List α} {s : S} (h0 : I s)
    (hs : ∀ x ∈ xs, ∀ s, I s → (step s x).wp I q) (he : ∀ s, I s → n s) : (forL (L := L) step xs s).wp n q :=
  wp_for (fun _ => I) h0 (fun d x r s e h => hs x (by rw [e]; simp) s h) he
theorem LO.wp.ret {o : LO S L R} (h : o.wp (fun _ => False) q) : ∃ r, o = .ret r ∧ q r := by
  cases o <;> first | exact ⟨_, rfl, h⟩ | exact h.elim
theorem LO.wp.isRet {o : LO S L R} (h : o.wp (fun _ => False) q) : o.IsRet := by obtain ⟨r, e, _⟩ := h.ret; exact ⟨r, e⟩
theorem LO.wp.get [Inhabited R] {o : LO S L R} (h : o.wp (fun _ => False) q) : q o.get := by obtain ⟨r, e, h⟩ := h.ret; subst e; exact h
theorem LO.wp.to {o : LO S L R} {r : R} (h : o.wp (fun _ => False) (fun x => x = r)) : o = .ret r := by obtain ⟨x, e, h⟩ := h.ret; rw [e, h]
theorem LO.wp.nxt {o : LO S L R} {s : S} (h : o.wp (fun x => x = s) (fun _ => False)) : o = .next s := by
  cases o <;> first | exact congrArg _ h | exact h.elim
theorem wp_ex {o : LO S L R} (h : o.wp n q) : (∃ s, o = .next s ∧ n s) ∨ (∃ r, o = .ret r ∧ q r) := by
  cases o <;> first | exact .inl ⟨_, rfl, h⟩ | exact .inr ⟨_, rfl, h⟩ | exact h.elim
/-! comprehensions with a state -/
theorem compL_len {β : Type} {step : S → α → S × Option β} (h : ∀ s x, (step s x).2.isSome = true) : ∀ (xs : List α) (s : S), (compL step xs s).2.length = xs.length
  | [], _ => rfl
  | x :: xs, s => by
    have := h s x
    show (compL step (x :: xs) s).2.length = _
    unfold compL
    split
    · rename_i e; rw [e] at this; cases this
    · simp [compL_len h xs]
theorem compL_all {β : Type} {step : S → α → S × Option β} {P : β → Prop} : ∀ (xs : List α) (s : S), (∀ s, ∀ x ∈ xs, ∀ y, (step s x).2 = some y → P y) → ∀ y ∈ (compL step xs s).2, P y
  | [], _, _, y, hy => by cases hy
  | x :: xs, s, h, y, hy => by
    unfold compL at hy
    split at hy
    · exact compL_all xs _ (fun s z hz => h s z (.tail _ hz)) y hy
    · rename_i e
      rcases List.mem_cons.mp hy with rfl | hy
      · exact h s x (.head _) _ (by rw [e])
      · exact compL_all xs _ (fun s z hz => h s z (.tail _ hz)) y hy
end
theorem memB_iff {α : Type} [DecidableEq α] {u : α} {xs : List α} : memB u xs = true ↔ u ∈ xs := ⟨of_decide_eq_true, decide_eq_true⟩
theorem strApp_len (x y : Str) : (x ++ y).length = x.length + y.length := by
  show (x.cps ++ y.cps).size = _
  rw [Array.size_append]; rfl
theorem rangeI_iff {lo hi x : Int} : x ∈ rangeI lo hi ↔ lo ≤ x ∧ x < hi := ⟨rangeI_mem, fun h => by
  unfold rangeI
  exact List.mem_map.mpr ⟨(x - lo).toNat, List.mem_range.mpr (by omega), by omega⟩⟩
/-! ### the order of data is linear -/
section
variable {α : Type} [DecidableEq α] {enc : α → D}
theorem ltT_irr (a : α) : ltT enc a a = false := lex_irrefl _
theorem ltT_trans {a b c : α} (h : ltT enc a b = true) (h2 : ltT enc b c = true) : ltT enc a c = true := lex_trans _ _ _ h h2
theorem ltT_total (ho : EncOrd enc) (he : EncEq enc) {a b : α} (h : ltT enc a b = false) (h2 : ltT enc b a = false) : a = b := by
  have e : PySem.W.keyToks (enc a).py = PySem.W.keyToks (enc b).py := lex_total _ _ h h2
  cases q : PyData.eqv (enc a).py (enc b).py with
  | true => rw [he.eq] at q; exact of_decide_eq_true q
  | false =>
    have t := (PySem.W.toks_eqv _ _ (ho.al a b)).2 q [] [Sum.inl 0]
    rw [e, PySem.W.lex_pre, lex_irrefl] at t
    exact absurd t (by decide)
theorem leT_eq (a b : α) : leT enc a b = !ltT enc b a := rfl
/-- upwards, each once -/
def Strict (enc : α → D) (xs : List α) : Prop := xs.Pairwise fun a b => ltT enc a b = true
theorem strict_ext : ∀ {xs ys : List α}, Strict enc xs → Strict enc ys → (∀ a, a ∈ xs ↔ a ∈ ys) → xs = ys
  | [], [], _, _, _ => rfl
  | [], y :: ys, _, _, h => absurd ((h y).mpr (.head _)) List.not_mem_nil
  | x :: xs, [], _, _, h => absurd ((h x).mp (.head _)) List.not_mem_nil
  | x :: xs, y :: ys, hx, hy, h => by
    have irr : ∀ {a b : α}, ltT enc a b = true → a ≠ b := fun h e => by subst e; rw [ltT_irr] at h; cases h
    have e : x = y := by
      rcases List.mem_cons.mp ((h x).mp (.head _)) with h1 | h1
      · exact h1
      · rcases List.mem_cons.mp ((h y).mpr (.head _)) with h2 | h2
        · exact h2.symm
        · exact absurd rfl (irr (ltT_trans (List.rel_of_pairwise_cons hx h2) (List.rel_of_pairwise_cons hy h1)))
    subst e
    refine congrArg (x :: ·) (strict_ext (List.Pairwise.of_cons hx) (List.Pairwise.of_cons hy) fun a => ⟨fun m => ?_, fun m => ?_⟩)
    · rcases List.mem_cons.mp ((h a).mp (.tail _ m)) with h1 | h1
      · exact absurd h1.symm (irr (List.rel_of_pairwise_cons hx m))
      · exact h1
    · rcases List.mem_cons.mp ((h a).mpr (.tail _ m)) with h1 | h1
      · exact absurd h1.symm (irr (List.rel_of_pairwise_cons hy m))
      · exact h1
theorem sort_strict (ho : EncOrd enc) (he : EncEq enc) {xs : List α} (hn : xs.Nodup) : Strict enc (xs.mergeSort (leT enc)) := by
  have tot : ∀ a b : α, (leT enc a b || leT enc b a) = true := fun a b => by
    rw [leT_eq, leT_eq]
    cases e1 : ltT enc b a with
    | false => rfl
    | true =>
      cases e2 : ltT enc a b with
      | false => rfl
      | true => have := ltT_trans e1 e2; rw [ltT_irr] at this; cases this
  have tr : ∀ a b c : α, leT enc a b = true → leT enc b c = true → leT enc a c = true := fun a b c h1 h2 => by
    rw [leT_eq] at *
    cases e : ltT enc c a with
    | false => rfl
    | true =>
      rcases lex_negTrans _ (PySem.W.keyToks (enc b).py) _ e with h | h
      · have h : ltT enc c b = true := h
        rw [h] at h2; cases h2
      · have h : ltT enc b a = true := h
        rw [h] at h1; cases h1
  have h1 := List.pairwise_mergeSort tr tot xs
  have h2 : (xs.mergeSort (leT enc)).Nodup := (List.mergeSort_perm xs (leT enc)).nodup_iff.mpr hn
  refine (h1.and h2).imp fun {a b} h => ?_
  cases e : ltT enc a b with
  | true => rfl
  | false =>
    have h3 : ltT enc b a = false := by
      have := h.1
      rw [leT_eq] at this
      cases q : ltT enc b a with
      | false => rfl
      | true => rw [q] at this; cases this
    exact absurd (ltT_total ho he e h3) h.2
theorem mem_sort {le : α → α → Bool} {xs : List α} {a : α} : a ∈ xs.mergeSort le ↔ a ∈ xs := (List.mergeSort_perm xs le).mem_iff
/-! dicts -/
variable {β : Type}
theorem put_mem {es : List (α × β)} {k : α} {v : β} {a : α} : a ∈ (dPut es k v).map (·.1) ↔ a ∈ es.map (·.1) ∨ a = k := by
  unfold dPut
  split
  · rename_i h
    have e : (es.map fun e => if e.1 = k then (e.1, v) else e).map (·.1) = es.map (·.1) := by
      rw [List.map_map]
      refine List.map_congr_left fun x _ => ?_
      show (if x.1 = k then (x.1, v) else x).1 = x.1
      split <;> rfl
    rw [e]
    refine ⟨.inl, fun h2 => h2.elim id fun h2 => ?_⟩
    subst h2
    exact dHas_mem.mp h
  · simp
theorem put_nodup {es : List (α × β)} {k : α} {v : β} (hn : (es.map (·.1)).Nodup) : ((dPut es k v).map (·.1)).Nodup := by
  unfold dPut
  split
  · have e : (es.map fun e => if e.1 = k then (e.1, v) else e).map (·.1) = es.map (·.1) := by
      rw [List.map_map]
      refine List.map_congr_left fun x _ => ?_
      show (if x.1 = k then (x.1, v) else x).1 = x.1
      split <;> rfl
    rw [e]; exact hn
  · rename_i h
    rw [List.map_append, List.nodup_append]
    refine ⟨hn, by simp, fun a ha b hb e => ?_⟩
    simp only [List.map_cons, List.map_nil, List.mem_singleton] at hb
    subst e hb
    exact h (dHas_mem.mpr ha)
theorem put_len (es : List (α × β)) (k : α) (v : β) : (dPut es k v).length ≤ es.length + 1 := by
  unfold dPut
  split <;> simp
variable {γ : Type} {f : γ → α} {g : γ → β}
theorem puts_mem {a : α} : ∀ {xs : List γ} {es : List (α × β)}, a ∈ (xs.foldl (fun es x => dPut es (f x) (g x)) es).map (·.1) ↔ a ∈ es.map (·.1) ∨ ∃ x ∈ xs, f x = a
  | [], es => by simp
  | x :: xs, es => by
    rw [List.foldl_cons, puts_mem (xs := xs), put_mem]
    constructor
    · rintro ((h | h) | ⟨y, h, e⟩)
      · exact .inl h
      · exact .inr ⟨x, .head _, h.symm⟩
      · exact .inr ⟨y, .tail _ h, e⟩
    · rintro (h | ⟨y, h, e⟩)
      · exact .inl (.inl h)
      · rcases List.mem_cons.mp h with rfl | h
        · exact .inl (.inr e.symm)
        · exact .inr ⟨y, h, e⟩
theorem puts_nodup : ∀ {xs : List γ} {es : List (α × β)}, (es.map (·.1)).Nodup → ((xs.foldl (fun es x => dPut es (f x) (g x)) es).map (·.1)).Nodup
  | [], _, h => h
  | _ :: xs, _, h => puts_nodup (xs := xs) (put_nodup h)
theorem puts_len : ∀ (xs : List γ) (es : List (α × β)), (xs.foldl (fun es x => dPut es (f x) (g x)) es).length ≤ es.length + xs.length
  | [], _ => Nat.le_refl _
  | x :: xs, es => by
    have h1 := puts_len xs (dPut es (f x) (g x))
    have h2 := put_len es (f x) (g x)
    simp only [List.foldl_cons, List.length_cons]
    omega
theorem dOf_has (xs : List γ) (k : α) : dHas (dOf f g xs) k = true ↔ ∃ x ∈ xs, f x = k := by
  rw [dHas_mem]
  unfold dOf
  rw [puts_mem]
  simp
end
end PD
set_option maxHeartbeats 1000000
namespace PD
open PySem PySem.Spec PyProof.Rows L2
theorem getD_map_lt {α β : Type} [Inhabited α] [Inhabited β] (f : α → β) {s : List α} {n : Nat} (h : n < s.length) : (s.map f).getD n default = f (s.getD n default) := by
  simp [List.getD_eq_getElem?_getD, h]
theorem getD_app_l {α : Type} [Inhabited α] {s t : List α} {n : Nat} (h : n < s.length) : (s ++ t).getD n default = s.getD n default := by
  simp [List.getD_eq_getElem?_getD, List.getElem?_append_left h]
theorem getD_mem {α : Type} [Inhabited α] {s : List α} {n : Nat} (h : n < s.length) : s.getD n default ∈ s := by
  simp [List.getD_eq_getElem?_getD, h]
theorem getD_of {α : Type} [Inhabited α] {s : List α} {n : Nat} {x : α} (h : s[n]? = some x) : s.getD n default = x := by
  simp [List.getD_eq_getElem?_getD, h]
theorem getD_range {k n : Nat} {a : Int} (h : n < k) : (rangeI a (a + k)).getD n default = a + n := by
  unfold rangeI
  rw [getD_map_lt _ (by simp; omega)]
  have : (List.range (a + k - a).toNat).getD n default = n := by
    simp [List.getD_eq_getElem?_getD]
    rw [List.getElem?_range (by omega)]; rfl
  rw [this]
theorem range_split {a b : Nat} : rangeI 0 ((a : Int) + b) = rangeI 0 a ++ rangeI a (a + b) := by
  unfold rangeI
  have e : ((a : Int) + b - 0).toNat = a + b := by omega
  have e2 : ((a : Int) - 0).toNat = a := by omega
  have e3 : ((a : Int) + b - a).toNat = b := by omega
  rw [e, e2, e3, List.range_add, List.map_append, List.map_map]
  congr 1
  refine List.map_congr_left fun x _ => ?_
  simp
end PD
set_option maxHeartbeats 40000000
namespace K05
open PySem PySem.Spec PyProof.Rows L2 PD
def top (i : Nat) : Stmt := PySem.Challenge.pw_casesandwitnesses_k05_joined_worlds.main.body.getD i (.Pass ⟨0, 0, 0, 0⟩)
abbrev T_World := (List Str) × (List Int) × (List (Str × (List Int))) × (List ((Str × (List Int)) × Bool))
structure Cs where
  CasesError : Addr
  BadTheory : Addr
  BadWorld : Addr
  World : Addr
abbrev o_World (c_ : Cs) (w_ : T_World) : Oc := .ins c_.World ["kinds", "same", "facts", "known"] [(eT D.str) w_.1, (eT D.int) w_.2.1, (eT (eP D.str (eT D.int))) w_.2.2.1, (eN (eP D.str (eT D.int)) D.bl) w_.2.2.2]
abbrev e_World (c_ : Cs) (w_ : T_World) : D := .obj c_.World ["kinds", "same", "facts", "known"] [(eT D.str) w_.1, (eT D.int) w_.2.1, (eT (eP D.str (eT D.int))) w_.2.2.1, (eN (eP D.str (eT D.int)) D.bl) w_.2.2.2]
noncomputable def st1_world_rule_fault (c_ : Cs) (v_kinds : (List Str)) (v_same : (List Int)) (s_ : Unit) (x_ : (Int × Int)) : LO Unit Unit (Option (Str × Int)) :=
  match s_, x_ with
  | (), (v_at, v_low) => grd ((((!(decide ((0 : Int) ≤ v_low) && decide (v_low ≤ v_at)))) = false → ((0 ≤ v_low) ∧ (v_low < v_same.length) ∧ (((!decide ((v_same.getD (v_low).toNat default) = v_low))) = false → ((0 ≤ v_low) ∧ (v_low < v_kinds.length) ∧ (0 ≤ v_at) ∧ (v_at < v_kinds.length) ∧ True)) ∧ True)) ∧ True) ((if ((!(decide ((0 : Int) ≤ v_low) && decide (v_low ≤ v_at))) || ((!decide ((v_same.getD (v_low).toNat default) = v_low)) || (!decide ((v_kinds.getD (v_low).toNat default) = (v_kinds.getD (v_at).toNat default))))) then LO.ret (some (("same" : Str), v_at)) else LO.next () : LO Unit Unit (Option (Str × Int))).bind fun (_ : Unit) => LO.next ())
noncomputable def st2_world_rule_fault (c_ : Cs) (v_same : (List Int)) (v_facts : (List (Str × (List Int)))) (s_ : Unit) (x_ : (Int × (Str × (List Int)))) : LO Unit Unit (Option (Str × Int)) :=
  match s_, x_ with
  | (), (v_at, (v_sign, v_numbers)) => grd ((∀ (v_n : Int), ((v_n : Int) ∈ v_numbers) → ((((decide ((0 : Int) ≤ v_n) && decide (v_n < (v_same.length : Int)))) = true → ((0 ≤ v_n) ∧ (v_n < v_same.length) ∧ True)) ∧ True)) ∧ True) ((if (!((v_numbers.map fun (v_n : Int) => ((decide ((0 : Int) ≤ v_n) && decide (v_n < (v_same.length : Int))) && (decide ((v_same.getD (v_n).toNat default) = v_n)))).all id)) then LO.ret (some (("fact" : Str), v_at)) else LO.next () : LO Unit Unit (Option (Str × Int))).bind fun (_ : Unit) => grd ((((decide ((0 : Int) < v_at))) = true → ((0 ≤ (v_at - (1 : Int))) ∧ ((v_at - (1 : Int)) < v_facts.length) ∧ (0 ≤ v_at) ∧ (v_at < v_facts.length) ∧ True)) ∧ True) ((if ((decide ((0 : Int) < v_at)) && (!(ltT (eP D.str (eT D.int)) (v_facts.getD ((v_at - (1 : Int))).toNat default) (v_facts.getD (v_at).toNat default)))) then LO.ret (some (("fact" : Str), v_at)) else LO.next () : LO Unit Unit (Option (Str × Int))).bind fun (_ : Unit) => LO.next ()))
noncomputable def lo_world_rule_fault (c_ : Cs) (v_kinds : (List Str)) (v_same : (List Int)) (v_facts : (List (Str × (List Int)))) : LO Unit Unit (Option (Str × Int)) := (if (!decide ((v_same.length : Int) = (v_kinds.length : Int))) then LO.ret (some (("same" : Str), (min (v_same.length : Int) (v_kinds.length : Int)))) else LO.next () : LO Unit Unit (Option (Str × Int))).bind fun (_ : Unit) => (forL (st1_world_rule_fault c_ v_kinds v_same) (enumL v_same) () : LO Unit Unit (Option (Str × Int))).bind fun (_ : Unit) => (forL (st2_world_rule_fault c_ v_same v_facts) (enumL v_facts) () : LO Unit Unit (Option (Str × Int))).bind fun (_ : Unit) => LO.ret (none : (Option (Str × Int)))
noncomputable def world_rule_fault (c_ : Cs) (v_kinds : (List Str)) (v_same : (List Int)) (v_facts : (List (Str × (List Int)))) : (Option (Str × Int)) := (lo_world_rule_fault c_ v_kinds v_same v_facts).get
def R_world_rule_fault (c_ : Cs) (ars : List Ar) (out : Out) : Prop := ∃ (v_kinds : (List Str)) (v_same : (List Int)) (v_facts : (List (Str × (List Int)))), ars = [.dat ((eT D.str) v_kinds), .dat ((eT D.int) v_same), .dat ((eT (eP D.str (eT D.int))) v_facts)] ∧ (((lo_world_rule_fault c_ v_kinds v_same v_facts).IsRet ∧ out = .val (.dat ((eO (eP D.str D.int)) (world_rule_fault c_ v_kinds v_same v_facts)))) ∨ False)
noncomputable def lo_World_init (c_ : Cs) (v_kinds : (List Str)) (v_same : (List Int)) (v_facts : (List (Str × (List Int)))) : LO T_World Unit Unit := grd (((lo_world_rule_fault c_ v_kinds v_same v_facts).IsRet) ∧ True) ((LO.next (world_rule_fault c_ v_kinds v_same v_facts) : LO (Option (Str × Int)) Unit Unit).bind fun (v_fault : (Option (Str × Int))) => (if (!v_fault.isNone) then grd ((v_fault.isSome = true) ∧ (((v_fault.getD default).1).length ≤ 100000) ∧ (((v_fault.getD default).2).natAbs.log2 < 1920) ∧ True) (LO.exc (eXsi c_.BadWorld "part" "at" (((v_fault.getD default).1), ((v_fault.getD default).2)))) else LO.next () : LO Unit Unit Unit).bind fun (_ : Unit) => (LO.next () : LO Unit Unit Unit).bind fun _ => (LO.next () : LO Unit Unit Unit).bind fun _ => (LO.next () : LO Unit Unit Unit).bind fun _ => (LO.next () : LO Unit Unit Unit).bind fun _ => LO.next (v_kinds, v_same, v_facts, (dOf (fun (v_fact : (Str × (List Int))) => v_fact) (fun (v_fact : (Str × (List Int))) => true) v_facts)))
noncomputable def mk_World_init (c_ : Cs) (v_kinds : (List Str)) (v_same : (List Int)) (v_facts : (List (Str × (List Int)))) : LO Unit Unit T_World := (lo_World_init c_ v_kinds v_same v_facts).asRet
noncomputable def World_init (c_ : Cs) (v_kinds : (List Str)) (v_same : (List Int)) (v_facts : (List (Str × (List Int)))) : T_World := (mk_World_init c_ v_kinds v_same v_facts).get
def R_World_init (c_ : Cs) (ars : List Ar) (out : Out) : Prop := ∃ (v_kinds : (List Str)) (v_same : (List Int)) (v_facts : (List (Str × (List Int)))) (z0_ : Oc), ars = [.mu (.ins c_.World [] []) z0_, .dat ((eT D.str) v_kinds), .dat ((eT D.int) v_same), .dat ((eT (eP D.str (eT D.int))) v_facts)] ∧ (((mk_World_init c_ v_kinds v_same v_facts).IsRet ∧ z0_ = (o_World c_ (World_init c_ v_kinds v_same v_facts)) ∧ out = .val (.dat .non)) ∨ (∃ y, lo_World_init c_ v_kinds v_same v_facts = .exc y ∧ z0_ = (.ins c_.World [] []) ∧ out = .exc y))
noncomputable def lo_World_eq (c_ : Cs) (v_self : T_World) (v_other : T_World) : LO Unit Unit Bool := LO.ret (true && ((decide (v_self.1 = v_other.1)) && ((decide (v_self.2.1 = v_other.2.1)) && (decide (v_self.2.2.1 = v_other.2.2.1)))))
noncomputable def World_eq (c_ : Cs) (v_self : T_World) (v_other : T_World) : Bool := (lo_World_eq c_ v_self v_other).get
def R_World_eq (c_ : Cs) (ars : List Ar) (out : Out) : Prop := ∃ (v_self : T_World) (v_other : T_World), ars = [.dat ((e_World c_) v_self), .dat ((e_World c_) v_other)] ∧ (((lo_World_eq c_ v_self v_other).IsRet ∧ out = .val (.dat (D.bl (World_eq c_ v_self v_other)))) ∨ False)
noncomputable def lo_World_contains (c_ : Cs) (v_self : T_World) (v_fact : (Str × (List Int))) : LO Unit Unit Bool := grd ((∀ (v_n : Int), ((v_n : Int) ∈ (v_fact.2)) → ((0 ≤ v_n) ∧ (v_n < v_self.2.1.length) ∧ True)) ∧ True) (LO.ret (dHas v_self.2.2.2 ((v_fact.1), ((v_fact.2).map fun (v_n : Int) => (v_self.2.1.getD (v_n).toNat default)))))
noncomputable def World_contains (c_ : Cs) (v_self : T_World) (v_fact : (Str × (List Int))) : Bool := (lo_World_contains c_ v_self v_fact).get
def R_World_contains (c_ : Cs) (ars : List Ar) (out : Out) : Prop := ∃ (v_self : T_World) (v_fact : (Str × (List Int))), ars = [.dat ((e_World c_) v_self), .dat ((eP D.str (eT D.int)) v_fact)] ∧ (((lo_World_contains c_ v_self v_fact).IsRet ∧ out = .val (.dat (D.bl (World_contains c_ v_self v_fact)))) ∨ False)
noncomputable def lo_World_first_things (c_ : Cs) (v_self : T_World) : LO Unit Unit (List Int) := LO.ret (((enumL v_self.2.1).filter fun ((v_n, v_low) : (Int × Int)) => (decide (v_n = v_low))).map fun ((v_n, v_low) : (Int × Int)) => v_n)
noncomputable def World_first_things (c_ : Cs) (v_self : T_World) : (List Int) := (lo_World_first_things c_ v_self).get
def R_World_first_things (c_ : Cs) (ars : List Ar) (out : Out) : Prop := ∃ (v_self : T_World), ars = [.dat ((e_World c_) v_self)] ∧ (((lo_World_first_things c_ v_self).IsRet ∧ out = .val (.own (.lst ((World_first_things c_ v_self).map D.int)))) ∨ False)
noncomputable def lo_World_of_kind (c_ : Cs) (v_self : T_World) (v_kind : Str) : LO Unit Unit (List Int) := grd ((∀ (v_n : Int) (v_low : Int), (((v_n, v_low) : (Int × Int)) ∈ (enumL v_self.2.1)) → ((((decide (v_n = v_low))) = true → ((0 ≤ v_n) ∧ (v_n < v_self.1.length) ∧ True)) ∧ True)) ∧ True) (LO.ret (((enumL v_self.2.1).filter fun ((v_n, v_low) : (Int × Int)) => ((decide (v_n = v_low)) && (decide ((v_self.1.getD (v_n).toNat default) = v_kind)))).map fun ((v_n, v_low) : (Int × Int)) => v_n))
noncomputable def World_of_kind (c_ : Cs) (v_self : T_World) (v_kind : Str) : (List Int) := (lo_World_of_kind c_ v_self v_kind).get
def R_World_of_kind (c_ : Cs) (ars : List Ar) (out : Out) : Prop := ∃ (v_self : T_World) (v_kind : Str), ars = [.dat ((e_World c_) v_self), .dat (D.str v_kind)] ∧ (((lo_World_of_kind c_ v_self v_kind).IsRet ∧ out = .val (.own (.lst ((World_of_kind c_ v_self v_kind).map D.int)))) ∨ False)
noncomputable def st1_World_joined (c_ : Cs) (s_ : (List Int)) (x_ : (Int × Int)) : LO (List Int) (List Int) T_World :=
  match s_, x_ with
  | v_same, (v_left, v_right) => grd ((0 ≤ v_left) ∧ (v_left < v_same.length) ∧ (0 ≤ v_right) ∧ (v_right < v_same.length) ∧ True) ((LO.next (min (v_same.getD (v_left).toNat default) (v_same.getD (v_right).toNat default)) : LO Int (List Int) T_World).bind fun (v_low : Int) => grd ((0 ≤ v_left) ∧ (v_left < v_same.length) ∧ (0 ≤ v_right) ∧ (v_right < v_same.length) ∧ True) ((LO.next (max (v_same.getD (v_left).toNat default) (v_same.getD (v_right).toNat default)) : LO Int (List Int) T_World).bind fun (v_high : Int) => (LO.next (v_same.map fun (v_n : Int) => (if (decide (v_n = v_high)) then v_low else v_n)) : LO (List Int) (List Int) T_World).bind fun (v_same : (List Int)) => LO.next v_same))
noncomputable def st2_World_joined (c_ : Cs) (v_same : (List Int)) (s_ : (List ((Str × (List Int)) × Bool))) (x_ : (Str × (List Int))) : LO (List ((Str × (List Int)) × Bool)) (List ((Str × (List Int)) × Bool)) T_World :=
  match s_, x_ with
  | v_told, (v_sign, v_numbers) => grd ((∀ (v_n : Int), ((v_n : Int) ∈ v_numbers) → ((0 ≤ v_n) ∧ (v_n < v_same.length) ∧ True)) ∧ (v_told.length < 16777216) ∧ True) ((LO.next (dPut v_told (v_sign, (v_numbers.map fun (v_n : Int) => (v_same.getD (v_n).toNat default))) true) : LO (List ((Str × (List Int)) × Bool)) (List ((Str × (List Int)) × Bool)) T_World).bind fun (v_told : (List ((Str × (List Int)) × Bool))) => LO.next v_told)
noncomputable def lo_World_joined (c_ : Cs) (v_self : T_World) (v_kinds : (List Str)) (v_pairs : (List (Int × Int))) (v_facts : (List (Str × (List Int)))) : LO Unit Unit T_World := (LO.next (v_self.1.length : Int) : LO Int Unit T_World).bind fun (v_size : Int) => grd (((-1000000 ≤ v_size ∧ v_size ≤ 1000000) ∧ (-1000000 ≤ (v_size + (v_kinds.length : Int)) ∧ (v_size + (v_kinds.length : Int)) ≤ 1000000)) ∧ (v_self.2.1.length + (rangeI v_size (v_size + (v_kinds.length : Int))).length ≤ 16777216) ∧ True) ((LO.next (v_self.2.1 ++ (rangeI v_size (v_size + (v_kinds.length : Int)))) : LO (List Int) Unit T_World).bind fun (v_same : (List Int)) => (forL (st1_World_joined c_) v_pairs v_same : LO (List Int) Unit T_World).bind fun (v_same : (List Int)) => (LO.next ([] : (List ((Str × (List Int)) × Bool))) : LO (List ((Str × (List Int)) × Bool)) Unit T_World).bind fun (v_told : (List ((Str × (List Int)) × Bool))) => grd ((v_self.2.2.1.length + v_facts.length ≤ 16777216) ∧ True) ((forL (st2_World_joined c_ v_same) (v_self.2.2.1 ++ v_facts) v_told : LO (List ((Str × (List Int)) × Bool)) Unit T_World).bind fun (v_told : (List ((Str × (List Int)) × Bool))) => grd ((v_self.1.length + v_kinds.length ≤ 16777216) ∧ ((mk_World_init c_ (v_self.1 ++ v_kinds) v_same ((v_told.map Prod.fst).mergeSort (leT (eP D.str (eT D.int))))).IsRet) ∧ True) (LO.ret (World_init c_ (v_self.1 ++ v_kinds) v_same ((v_told.map Prod.fst).mergeSort (leT (eP D.str (eT D.int))))))))
noncomputable def World_joined (c_ : Cs) (v_self : T_World) (v_kinds : (List Str)) (v_pairs : (List (Int × Int))) (v_facts : (List (Str × (List Int)))) : T_World := (lo_World_joined c_ v_self v_kinds v_pairs v_facts).get
def R_World_joined (c_ : Cs) (ars : List Ar) (out : Out) : Prop := ∃ (v_self : T_World) (v_kinds : (List Str)) (v_pairs : (List (Int × Int))) (v_facts : (List (Str × (List Int)))), ars = [.dat ((e_World c_) v_self), .dat ((eL D.str) v_kinds), .dat ((eL (eP D.int D.int)) v_pairs), .dat ((eL (eP D.str (eT D.int))) v_facts)] ∧ (((lo_World_joined c_ v_self v_kinds v_pairs v_facts).IsRet ∧ out = .val (.own (o_World c_ (World_joined c_ v_self v_kinds v_pairs v_facts)))) ∨ False)
noncomputable def lo_law_cell (c_ : Cs) (v_script : (List Int)) (v_k : Int) : LO Unit Unit Int := (if (decide (v_k < (v_script.length : Int))) then grd ((0 ≤ v_k) ∧ (v_k < v_script.length) ∧ True) (LO.ret (v_script.getD (v_k).toNat default)) else LO.next () : LO Unit Unit Int).bind fun (_ : Unit) => LO.ret (0 : Int)
noncomputable def law_cell (c_ : Cs) (v_script : (List Int)) (v_k : Int) : Int := (lo_law_cell c_ v_script v_k).get
def R_law_cell (c_ : Cs) (ars : List Ar) (out : Out) : Prop := ∃ (v_script : (List Int)) (v_k : Int), ars = [.dat ((eL D.int) v_script), .dat (D.int v_k)] ∧ (((lo_law_cell c_ v_script v_k).IsRet ∧ out = .val (.dat (D.int (law_cell c_ v_script v_k)))) ∨ False)
noncomputable def st1_law_digits (c_ : Cs) (s_ : ((List Int) × Int × Int)) (x_ : Int) : LO ((List Int) × Int × Int) ((List Int) × Int × Int) (List Int) :=
  match s_, x_ with
  | (v_row, v_rest, v_seed), v_k => (if (decide ((0 : Int) < v_rest)) then grd ((v_row.length < 16777216) ∧ True) ((LO.next (v_row ++ [(v_rest % (840 : Int))]) : LO (List Int) ((List Int) × Int × Int) (List Int)).bind fun (v_row : (List Int)) => (LO.next (v_rest / (840 : Int)) : LO Int ((List Int) × Int × Int) (List Int)).bind fun (v_rest : Int) => LO.next (v_row, v_rest, v_seed)) else (LO.next ((((v_seed * (48271 : Int)) + ((11 : Int) * v_k)) + (7 : Int)) % (2147483647 : Int)) : LO Int ((List Int) × Int × Int) (List Int)).bind fun (v_seed : Int) => grd (((-10000000000000000000 < v_k ∧ v_k < 10000000000000000000) ∨ (-10000000000000000000 < v_k ∧ v_k < 10000000000000000000)) ∧ (v_row.length < 16777216) ∧ True) ((LO.next (v_row ++ [(((((v_seed * (69621 : Int)) + (v_k * v_k)) + (3 : Int)) % (2147483629 : Int)) % (840 : Int))]) : LO (List Int) ((List Int) × Int × Int) (List Int)).bind fun (v_row : (List Int)) => LO.next (v_row, v_rest, v_seed)) : LO ((List Int) × Int × Int) ((List Int) × Int × Int) (List Int)).bind fun x_ => match x_ with | (v_row, v_rest, v_seed) => LO.next (v_row, v_rest, v_seed)
noncomputable def lo_law_digits (c_ : Cs) (v_cell : Int) (v_many : Int) : LO Unit Unit (List Int) := (LO.next ([] : (List Int)) : LO (List Int) Unit (List Int)).bind fun (v_row : (List Int)) => (LO.next (0 : Int) : LO Int Unit (List Int)).bind fun (v_rest : Int) => (if (decide (((10 : Int) ^ ((18 : Int)).toNat) ≤ (if v_cell < 0 then -v_cell else v_cell))) then (LO.next (if v_cell < 0 then -v_cell else v_cell) : LO Int Unit (List Int)).bind fun (v_rest : Int) => LO.next v_rest else LO.next v_rest : LO Int Unit (List Int)).bind fun (v_rest : Int) => (LO.next (v_cell % (2147483647 : Int)) : LO Int Unit (List Int)).bind fun (v_seed : Int) => grd ((-1000000 ≤ v_many ∧ v_many ≤ 1000000) ∧ True) ((forL (st1_law_digits c_) (rangeI 0 v_many) (v_row, v_rest, v_seed) : LO ((List Int) × Int × Int) Unit (List Int)).bind fun x_ => match x_ with | (v_row, v_rest, v_seed) => LO.ret (v_row.reverse))
noncomputable def law_digits (c_ : Cs) (v_cell : Int) (v_many : Int) : (List Int) := (lo_law_digits c_ v_cell v_many).get
def R_law_digits (c_ : Cs) (ars : List Ar) (out : Out) : Prop := ∃ (v_cell : Int) (v_many : Int), ars = [.dat (D.int v_cell), .dat (D.int v_many)] ∧ (((lo_law_digits c_ v_cell v_many).IsRet ∧ out = .val (.own (.lst ((law_digits c_ v_cell v_many).map D.int)))) ∨ False)
noncomputable def lo_law_take (c_ : Cs) (v_row : (List Int)) (v_many : Int) : LO Unit Unit (Int × (List Int)) := (if (decide ((v_row.length : Int) = (0 : Int))) then LO.ret ((0 : Int), v_row) else LO.next () : LO Unit Unit (Int × (List Int))).bind fun (_ : Unit) => grd ((0 < v_row.length) ∧ (0 < v_many) ∧ True) (LO.ret (((v_row.getLastD default) % v_many), v_row.dropLast))
noncomputable def law_take (c_ : Cs) (v_row : (List Int)) (v_many : Int) : (Int × (List Int)) := (lo_law_take c_ v_row v_many).get
def R_law_take (c_ : Cs) (ars : List Ar) (out : Out) : Prop := ∃ (v_row : (List Int)) (v_many : Int) (z0_ : Oc), ars = [.mu (.lst (v_row.map D.int)) z0_, .dat (D.int v_many)] ∧ (((lo_law_take c_ v_row v_many).IsRet ∧ z0_ = (.lst ((law_take c_ v_row v_many).2.map D.int)) ∧ out = .val (.dat (D.int ((law_take c_ v_row v_many).1)))) ∨ False)
noncomputable def st1_law_words (c_ : Cs) (v_letters : Str) (v_front : Int) (s_ : ((List Int) × (List Str))) (x_ : Int) : LO ((List Int) × (List Str)) ((List Int) × (List Str)) ((List Str) × (List Int)) :=
  match s_, x_ with
  | (v_row, v_told), v_k => grd (((lo_law_take c_ v_row (840 : Int)).IsRet) ∧ True) ((LO.next ((law_take c_ v_row (840 : Int)).1, (law_take c_ v_row (840 : Int)).2) : LO (Int × (List Int)) ((List Int) × (List Str)) ((List Str) × (List Int))).bind fun x_ => match x_ with | (v_d, v_row) => grd ((0 ≤ (v_d % (26 : Int))) ∧ ((v_d % (26 : Int)) < v_letters.length) ∧ (v_letters.length ≤ 16777216) ∧ (0 ≤ ((v_d / (26 : Int)) % (26 : Int))) ∧ (((v_d / (26 : Int)) % (26 : Int)) < v_letters.length) ∧ ((strAt v_letters (v_d % (26 : Int))).length + (strAt v_letters ((v_d / (26 : Int)) % (26 : Int))).length ≤ 16777216) ∧ (((strAt v_letters (v_d % (26 : Int))) ++ (strAt v_letters ((v_d / (26 : Int)) % (26 : Int)))).length ≤ 4000) ∧ (0 ≤ (v_d % (3 : Int))) ∧ ((v_d % (3 : Int)) ≤ 4000) ∧ True) ((LO.next (strRep ((strAt v_letters (v_d % (26 : Int))) ++ (strAt v_letters ((v_d / (26 : Int)) % (26 : Int)))) (v_d % (3 : Int))) : LO Str ((List Int) × (List Str)) ((List Str) × (List Int))).bind fun (v_body : Str) => (if (decide (v_front = (1 : Int))) then grd ((0 ≤ v_k) ∧ (v_k < v_letters.length) ∧ (v_letters.length ≤ 16777216) ∧ ((strAt v_letters v_k).length + v_body.length ≤ 16777216) ∧ (v_told.length < 16777216) ∧ True) ((LO.next (v_told ++ [((strAt v_letters v_k) ++ v_body)]) : LO (List Str) ((List Int) × (List Str)) ((List Str) × (List Int))).bind fun (v_told : (List Str)) => LO.next v_told) else grd ((0 ≤ v_k) ∧ (v_k < v_letters.length) ∧ (v_letters.length ≤ 16777216) ∧ (v_body.length + (strAt v_letters v_k).length ≤ 16777216) ∧ (v_told.length < 16777216) ∧ True) ((LO.next (v_told ++ [(v_body ++ (strAt v_letters v_k))]) : LO (List Str) ((List Int) × (List Str)) ((List Str) × (List Int))).bind fun (v_told : (List Str)) => LO.next v_told) : LO (List Str) ((List Int) × (List Str)) ((List Str) × (List Int))).bind fun (v_told : (List Str)) => LO.next (v_row, v_told)))
noncomputable def lo_law_words (c_ : Cs) (v_row : (List Int)) (v_count : Int) : LO Unit Unit ((List Str) × (List Int)) := (LO.next ("abcdefghijklmnopqrstuvwxyz" : Str) : LO Str Unit ((List Str) × (List Int))).bind fun (v_letters : Str) => grd (((lo_law_take c_ v_row (2 : Int)).IsRet) ∧ True) ((LO.next ((law_take c_ v_row (2 : Int)).1, (law_take c_ v_row (2 : Int)).2) : LO (Int × (List Int)) Unit ((List Str) × (List Int))).bind fun x_ => match x_ with | (v_front, v_row) => (LO.next ([] : (List Str)) : LO (List Str) Unit ((List Str) × (List Int))).bind fun (v_told : (List Str)) => grd ((-1000000 ≤ v_count ∧ v_count ≤ 1000000) ∧ True) ((forL (st1_law_words c_ v_letters v_front) (rangeI 0 v_count) (v_row, v_told) : LO ((List Int) × (List Str)) Unit ((List Str) × (List Int))).bind fun x_ => match x_ with | (v_row, v_told) => LO.ret (v_told, v_row)))
noncomputable def law_words (c_ : Cs) (v_row : (List Int)) (v_count : Int) : ((List Str) × (List Int)) := (lo_law_words c_ v_row v_count).get
def R_law_words (c_ : Cs) (ars : List Ar) (out : Out) : Prop := ∃ (v_row : (List Int)) (v_count : Int) (z0_ : Oc), ars = [.mu (.lst (v_row.map D.int)) z0_, .dat (D.int v_count)] ∧ (((lo_law_words c_ v_row v_count).IsRet ∧ z0_ = (.lst ((law_words c_ v_row v_count).2.map D.int)) ∧ out = .val (.own (.lst (((law_words c_ v_row v_count).1).map D.str)))) ∨ False)
noncomputable def cs1_law_kinds (c_ : Cs) (v_words : (List Str)) (v_row : (List Int)) (x_ : Int) : (List Int) × Option Str :=
  match x_ with
  | v_k => ((law_take c_ v_row (3 : Int)).2, some (v_words.getD ((law_take c_ v_row (3 : Int)).1).toNat default))
noncomputable def lo_law_kinds (c_ : Cs) (v_row : (List Int)) (v_words : (List Str)) (v_count : Int) : LO Unit Unit ((List Str) × (List Int)) := grd ((-1000000 ≤ v_count ∧ v_count ≤ 1000000) ∧ (∀ (v_row : (List Int)) (v_k : Int), ((v_k : Int) ∈ (rangeI 0 v_count)) → (((lo_law_take c_ v_row (3 : Int)).IsRet) ∧ (0 ≤ (law_take c_ v_row (3 : Int)).1) ∧ ((law_take c_ v_row (3 : Int)).1 < v_words.length) ∧ True)) ∧ True) (LO.ret ((compL (cs1_law_kinds c_ v_words) (rangeI 0 v_count) v_row).2, (compL (cs1_law_kinds c_ v_words) (rangeI 0 v_count) v_row).1))
noncomputable def law_kinds (c_ : Cs) (v_row : (List Int)) (v_words : (List Str)) (v_count : Int) : ((List Str) × (List Int)) := (lo_law_kinds c_ v_row v_words v_count).get
def R_law_kinds (c_ : Cs) (ars : List Ar) (out : Out) : Prop := ∃ (v_row : (List Int)) (v_words : (List Str)) (v_count : Int) (z0_ : Oc), ars = [.mu (.lst (v_row.map D.int)) z0_, .dat ((eL D.str) v_words), .dat (D.int v_count)] ∧ (((lo_law_kinds c_ v_row v_words v_count).IsRet ∧ z0_ = (.lst ((law_kinds c_ v_row v_words v_count).2.map D.int)) ∧ out = .val (.dat ((eT D.str) ((law_kinds c_ v_row v_words v_count).1)))) ∨ False)
noncomputable def st1_law_pairs (c_ : Cs) (v_kinds : (List Str)) (s_ : ((List Int) × (List (Int × Int)))) (x_ : Int) : LO ((List Int) × (List (Int × Int))) ((List Int) × (List (Int × Int))) ((List (Int × Int)) × (List Int)) :=
  match s_, x_ with
  | (v_row, v_pairs), v_k => (if (decide ((0 : Int) < (v_kinds.length : Int))) then grd (((lo_law_take c_ v_row (v_kinds.length : Int)).IsRet) ∧ True) ((LO.next ((law_take c_ v_row (v_kinds.length : Int)).1, (law_take c_ v_row (v_kinds.length : Int)).2) : LO (Int × (List Int)) ((List Int) × (List (Int × Int))) ((List (Int × Int)) × (List Int))).bind fun x_ => match x_ with | (v_left, v_row) => grd ((-1000000 ≤ (v_kinds.length : Int) ∧ (v_kinds.length : Int) ≤ 1000000) ∧ (∀ (v_n : Int), ((v_n : Int) ∈ (rangeI 0 (v_kinds.length : Int))) → ((0 ≤ v_n) ∧ (v_n < v_kinds.length) ∧ (0 ≤ v_left) ∧ (v_left < v_kinds.length) ∧ True)) ∧ True) ((LO.next (((rangeI 0 (v_kinds.length : Int)).filter fun (v_n : Int) => (decide ((v_kinds.getD (v_n).toNat default) = (v_kinds.getD (v_left).toNat default)))).map fun (v_n : Int) => v_n) : LO (List Int) ((List Int) × (List (Int × Int))) ((List (Int × Int)) × (List Int))).bind fun (v_like : (List Int)) => grd (((lo_law_take c_ v_row (v_like.length : Int)).IsRet) ∧ (0 ≤ (law_take c_ v_row (v_like.length : Int)).1) ∧ ((law_take c_ v_row (v_like.length : Int)).1 < v_like.length) ∧ (v_pairs.length < 16777216) ∧ True) ((LO.next ((v_pairs ++ [(v_left, (v_like.getD ((law_take c_ v_row (v_like.length : Int)).1).toNat default))]), (law_take c_ v_row (v_like.length : Int)).2) : LO ((List (Int × Int)) × (List Int)) ((List Int) × (List (Int × Int))) ((List (Int × Int)) × (List Int))).bind fun x_ => match x_ with | (v_pairs, v_row) => LO.next (v_row, v_pairs)))) else LO.next (v_row, v_pairs) : LO ((List Int) × (List (Int × Int))) ((List Int) × (List (Int × Int))) ((List (Int × Int)) × (List Int))).bind fun x_ => match x_ with | (v_row, v_pairs) => LO.next (v_row, v_pairs)
noncomputable def lo_law_pairs (c_ : Cs) (v_row : (List Int)) (v_kinds : (List Str)) (v_most : Int) : LO Unit Unit ((List (Int × Int)) × (List Int)) := (LO.next ([] : (List (Int × Int))) : LO (List (Int × Int)) Unit ((List (Int × Int)) × (List Int))).bind fun (v_pairs : (List (Int × Int))) => grd (((lo_law_take c_ v_row (v_most + (1 : Int))).IsRet) ∧ (-1000000 ≤ (law_take c_ v_row (v_most + (1 : Int))).1 ∧ (law_take c_ v_row (v_most + (1 : Int))).1 ≤ 1000000) ∧ True) ((forL (st1_law_pairs c_ v_kinds) (rangeI 0 (law_take c_ v_row (v_most + (1 : Int))).1) ((law_take c_ v_row (v_most + (1 : Int))).2, v_pairs) : LO ((List Int) × (List (Int × Int))) Unit ((List (Int × Int)) × (List Int))).bind fun x_ => match x_ with | (v_row, v_pairs) => LO.ret (v_pairs, v_row))
noncomputable def law_pairs (c_ : Cs) (v_row : (List Int)) (v_kinds : (List Str)) (v_most : Int) : ((List (Int × Int)) × (List Int)) := (lo_law_pairs c_ v_row v_kinds v_most).get
def R_law_pairs (c_ : Cs) (ars : List Ar) (out : Out) : Prop := ∃ (v_row : (List Int)) (v_kinds : (List Str)) (v_most : Int) (z0_ : Oc), ars = [.mu (.lst (v_row.map D.int)) z0_, .dat ((eT D.str) v_kinds), .dat (D.int v_most)] ∧ (((lo_law_pairs c_ v_row v_kinds v_most).IsRet ∧ z0_ = (.lst ((law_pairs c_ v_row v_kinds v_most).2.map D.int)) ∧ out = .val (.own (.lst (((law_pairs c_ v_row v_kinds v_most).1).map (eP D.int D.int))))) ∨ False)
noncomputable def cs1_law_facts (c_ : Cs) (v_kinds : (List Str)) (v_row : (List Int)) (x_ : Int) : (List Int) × Option Int :=
  match x_ with
  | v_place => ((law_take c_ v_row (v_kinds.length : Int)).2, some ((law_take c_ v_row (v_kinds.length : Int)).1))
noncomputable def st1_law_facts (c_ : Cs) (v_words : (List Str)) (v_kinds : (List Str)) (s_ : ((List Int) × (List (Str × (List Int))))) (x_ : Int) : LO ((List Int) × (List (Str × (List Int)))) ((List Int) × (List (Str × (List Int)))) ((List (Str × (List Int))) × (List Int)) :=
  match s_, x_ with
  | (v_row, v_facts), v_k => grd (((lo_law_take c_ v_row (4 : Int)).IsRet) ∧ True) ((LO.next ((law_take c_ v_row (4 : Int)).1, (law_take c_ v_row (4 : Int)).2) : LO (Int × (List Int)) ((List Int) × (List (Str × (List Int)))) ((List (Str × (List Int))) × (List Int))).bind fun x_ => match x_ with | (v_d, v_row) => (if ((decide ((0 : Int) < (v_kinds.length : Int))) || (decide (v_d = (0 : Int)))) then grd ((0 ≤ ((3 : Int) + v_d)) ∧ (((3 : Int) + v_d) < v_words.length) ∧ (-1000000 ≤ v_d ∧ v_d ≤ 1000000) ∧ (∀ (v_row : (List Int)) (v_place : Int), ((v_place : Int) ∈ (rangeI 0 v_d)) → (((lo_law_take c_ v_row (v_kinds.length : Int)).IsRet) ∧ True)) ∧ (v_facts.length < 16777216) ∧ True) ((LO.next ((v_facts ++ [((v_words.getD (((3 : Int) + v_d)).toNat default), (compL (cs1_law_facts c_ v_kinds) (rangeI 0 v_d) v_row).2)]), (compL (cs1_law_facts c_ v_kinds) (rangeI 0 v_d) v_row).1) : LO ((List (Str × (List Int))) × (List Int)) ((List Int) × (List (Str × (List Int)))) ((List (Str × (List Int))) × (List Int))).bind fun x_ => match x_ with | (v_facts, v_row) => LO.next (v_facts, v_row)) else LO.next (v_facts, v_row) : LO ((List (Str × (List Int))) × (List Int)) ((List Int) × (List (Str × (List Int)))) ((List (Str × (List Int))) × (List Int))).bind fun x_ => match x_ with | (v_facts, v_row) => LO.next (v_row, v_facts))
noncomputable def lo_law_facts (c_ : Cs) (v_row : (List Int)) (v_words : (List Str)) (v_kinds : (List Str)) (v_most : Int) : LO Unit Unit ((List (Str × (List Int))) × (List Int)) := (LO.next ([] : (List (Str × (List Int)))) : LO (List (Str × (List Int))) Unit ((List (Str × (List Int))) × (List Int))).bind fun (v_facts : (List (Str × (List Int)))) => grd (((lo_law_take c_ v_row (v_most + (1 : Int))).IsRet) ∧ (-1000000 ≤ (law_take c_ v_row (v_most + (1 : Int))).1 ∧ (law_take c_ v_row (v_most + (1 : Int))).1 ≤ 1000000) ∧ True) ((forL (st1_law_facts c_ v_words v_kinds) (rangeI 0 (law_take c_ v_row (v_most + (1 : Int))).1) ((law_take c_ v_row (v_most + (1 : Int))).2, v_facts) : LO ((List Int) × (List (Str × (List Int)))) Unit ((List (Str × (List Int))) × (List Int))).bind fun x_ => match x_ with | (v_row, v_facts) => LO.ret (v_facts, v_row))
noncomputable def law_facts (c_ : Cs) (v_row : (List Int)) (v_words : (List Str)) (v_kinds : (List Str)) (v_most : Int) : ((List (Str × (List Int))) × (List Int)) := (lo_law_facts c_ v_row v_words v_kinds v_most).get
def R_law_facts (c_ : Cs) (ars : List Ar) (out : Out) : Prop := ∃ (v_row : (List Int)) (v_words : (List Str)) (v_kinds : (List Str)) (v_most : Int) (z0_ : Oc), ars = [.mu (.lst (v_row.map D.int)) z0_, .dat ((eL D.str) v_words), .dat ((eT D.str) v_kinds), .dat (D.int v_most)] ∧ (((lo_law_facts c_ v_row v_words v_kinds v_most).IsRet ∧ z0_ = (.lst ((law_facts c_ v_row v_words v_kinds v_most).2.map D.int)) ∧ out = .val (.own (.lst (((law_facts c_ v_row v_words v_kinds v_most).1).map (eP D.str (eT D.int)))))) ∨ False)
noncomputable def st1_law_firsts (c_ : Cs) (s_ : (List Int)) (x_ : (Int × Int)) : LO (List Int) (List Int) (List Int) :=
  match s_, x_ with
  | v_firsts, (v_left, v_right) => grd ((0 ≤ v_left) ∧ (v_left < v_firsts.length) ∧ (0 ≤ v_right) ∧ (v_right < v_firsts.length) ∧ True) ((LO.next (min (v_firsts.getD (v_left).toNat default) (v_firsts.getD (v_right).toNat default)) : LO Int (List Int) (List Int)).bind fun (v_low : Int) => grd ((0 ≤ v_left) ∧ (v_left < v_firsts.length) ∧ (0 ≤ v_right) ∧ (v_right < v_firsts.length) ∧ True) ((LO.next (max (v_firsts.getD (v_left).toNat default) (v_firsts.getD (v_right).toNat default)) : LO Int (List Int) (List Int)).bind fun (v_high : Int) => (LO.next (v_firsts.map fun (v_n : Int) => (if (decide (v_n = v_high)) then v_low else v_n)) : LO (List Int) (List Int) (List Int)).bind fun (v_firsts : (List Int)) => LO.next v_firsts))
noncomputable def lo_law_firsts (c_ : Cs) (v_count : Int) (v_pairs : (List (Int × Int))) : LO Unit Unit (List Int) := grd ((-1000000 ≤ v_count ∧ v_count ≤ 1000000) ∧ True) ((LO.next ((rangeI 0 v_count).map fun (v_n : Int) => v_n) : LO (List Int) Unit (List Int)).bind fun (v_firsts : (List Int)) => (forL (st1_law_firsts c_) v_pairs v_firsts : LO (List Int) Unit (List Int)).bind fun (v_firsts : (List Int)) => LO.ret v_firsts)
noncomputable def law_firsts (c_ : Cs) (v_count : Int) (v_pairs : (List (Int × Int))) : (List Int) := (lo_law_firsts c_ v_count v_pairs).get
def R_law_firsts (c_ : Cs) (ars : List Ar) (out : Out) : Prop := ∃ (v_count : Int) (v_pairs : (List (Int × Int))), ars = [.dat (D.int v_count), .dat ((eL (eP D.int D.int)) v_pairs)] ∧ (((lo_law_firsts c_ v_count v_pairs).IsRet ∧ out = .val (.dat ((eT D.int) (law_firsts c_ v_count v_pairs)))) ∨ False)
noncomputable def st1_law_told (c_ : Cs) (v_firsts : (List Int)) (s_ : (List ((Str × (List Int)) × Bool))) (x_ : (Str × (List Int))) : LO (List ((Str × (List Int)) × Bool)) (List ((Str × (List Int)) × Bool)) (List (Str × (List Int))) :=
  match s_, x_ with
  | v_told, (v_sign, v_numbers) => grd ((∀ (v_n : Int), ((v_n : Int) ∈ v_numbers) → ((0 ≤ v_n) ∧ (v_n < v_firsts.length) ∧ True)) ∧ (v_told.length < 16777216) ∧ True) ((LO.next (dPut v_told (v_sign, (v_numbers.map fun (v_n : Int) => (v_firsts.getD (v_n).toNat default))) true) : LO (List ((Str × (List Int)) × Bool)) (List ((Str × (List Int)) × Bool)) (List (Str × (List Int)))).bind fun (v_told : (List ((Str × (List Int)) × Bool))) => LO.next v_told)
noncomputable def lo_law_told (c_ : Cs) (v_firsts : (List Int)) (v_facts : (List (Str × (List Int)))) : LO Unit Unit (List (Str × (List Int))) := (LO.next ([] : (List ((Str × (List Int)) × Bool))) : LO (List ((Str × (List Int)) × Bool)) Unit (List (Str × (List Int)))).bind fun (v_told : (List ((Str × (List Int)) × Bool))) => (forL (st1_law_told c_ v_firsts) v_facts v_told : LO (List ((Str × (List Int)) × Bool)) Unit (List (Str × (List Int)))).bind fun (v_told : (List ((Str × (List Int)) × Bool))) => LO.ret ((v_told.map Prod.fst).mergeSort (leT (eP D.str (eT D.int))))
noncomputable def law_told (c_ : Cs) (v_firsts : (List Int)) (v_facts : (List (Str × (List Int)))) : (List (Str × (List Int))) := (lo_law_told c_ v_firsts v_facts).get
def R_law_told (c_ : Cs) (ars : List Ar) (out : Out) : Prop := ∃ (v_firsts : (List Int)) (v_facts : (List (Str × (List Int)))), ars = [.dat ((eT D.int) v_firsts), .dat ((eL (eP D.str (eT D.int))) v_facts)] ∧ (((lo_law_told c_ v_firsts v_facts).IsRet ∧ out = .val (.dat ((eT (eP D.str (eT D.int))) (law_told c_ v_firsts v_facts)))) ∨ False)
noncomputable def st1_law_fault (c_ : Cs) (v_kinds : (List Str)) (v_same : (List Int)) (s_ : Unit) (x_ : Int) : LO Unit Unit (Option (Str × Int)) :=
  match s_, x_ with
  | (), v_n => grd ((0 ≤ v_n) ∧ (v_n < v_same.length) ∧ (((decide ((v_same.getD (v_n).toNat default) < (0 : Int)))) = false → ((0 ≤ v_n) ∧ (v_n < v_same.length) ∧ True)) ∧ True) ((if ((decide ((v_same.getD (v_n).toNat default) < (0 : Int))) || (decide (v_n < (v_same.getD (v_n).toNat default)))) then LO.ret (some (("same" : Str), v_n)) else LO.next () : LO Unit Unit (Option (Str × Int))).bind fun (_ : Unit) => grd ((0 ≤ v_n) ∧ (v_n < v_same.length) ∧ (0 ≤ (v_same.getD (v_n).toNat default)) ∧ ((v_same.getD (v_n).toNat default) < v_same.length) ∧ (((!decide ((v_same.getD ((v_same.getD (v_n).toNat default)).toNat default) = (v_same.getD (v_n).toNat default)))) = false → ((0 ≤ v_n) ∧ (v_n < v_same.length) ∧ (0 ≤ (v_same.getD (v_n).toNat default)) ∧ ((v_same.getD (v_n).toNat default) < v_kinds.length) ∧ (v_n < v_kinds.length) ∧ True)) ∧ True) ((if ((!decide ((v_same.getD ((v_same.getD (v_n).toNat default)).toNat default) = (v_same.getD (v_n).toNat default))) || (!decide ((v_kinds.getD ((v_same.getD (v_n).toNat default)).toNat default) = (v_kinds.getD (v_n).toNat default)))) then LO.ret (some (("same" : Str), v_n)) else LO.next () : LO Unit Unit (Option (Str × Int))).bind fun (_ : Unit) => LO.next ()))
noncomputable def st3_law_fault (c_ : Cs) (v_same : (List Int)) (v_k : Int) (s_ : Unit) (x_ : Int) : LO Unit Unit (Option (Str × Int)) :=
  match s_, x_ with
  | (), v_n => grd ((((decide (v_n < (0 : Int)))) = false → ((((decide ((v_same.length : Int) ≤ v_n))) = false → ((0 ≤ v_n) ∧ (v_n < v_same.length) ∧ True)) ∧ True)) ∧ True) ((if ((decide (v_n < (0 : Int))) || ((decide ((v_same.length : Int) ≤ v_n)) || (!decide ((v_same.getD (v_n).toNat default) = v_n)))) then LO.ret (some (("fact" : Str), v_k)) else LO.next () : LO Unit Unit (Option (Str × Int))).bind fun (_ : Unit) => LO.next ())
noncomputable def st2_law_fault (c_ : Cs) (v_same : (List Int)) (v_facts : (List (Str × (List Int)))) (s_ : Unit) (x_ : Int) : LO Unit Unit (Option (Str × Int)) :=
  match s_, x_ with
  | (), v_k => grd ((0 ≤ v_k) ∧ (v_k < v_facts.length) ∧ True) ((forL (st3_law_fault c_ v_same v_k) ((v_facts.getD (v_k).toNat default).2) () : LO Unit Unit (Option (Str × Int))).bind fun (_ : Unit) => grd ((((decide ((0 : Int) < v_k))) = true → ((0 ≤ (v_k - (1 : Int))) ∧ ((v_k - (1 : Int)) < v_facts.length) ∧ (0 ≤ v_k) ∧ (v_k < v_facts.length) ∧ True)) ∧ True) ((if ((decide ((0 : Int) < v_k)) && (!(ltT (eP D.str (eT D.int)) (v_facts.getD ((v_k - (1 : Int))).toNat default) (v_facts.getD (v_k).toNat default)))) then LO.ret (some (("fact" : Str), v_k)) else LO.next () : LO Unit Unit (Option (Str × Int))).bind fun (_ : Unit) => LO.next ()))
noncomputable def lo_law_fault (c_ : Cs) (v_kinds : (List Str)) (v_same : (List Int)) (v_facts : (List (Str × (List Int)))) : LO Unit Unit (Option (Str × Int)) := (if (!decide ((v_kinds.length : Int) = (v_same.length : Int))) then LO.ret (some (("same" : Str), (min (v_kinds.length : Int) (v_same.length : Int)))) else LO.next () : LO Unit Unit (Option (Str × Int))).bind fun (_ : Unit) => grd ((-1000000 ≤ (v_same.length : Int) ∧ (v_same.length : Int) ≤ 1000000) ∧ True) ((forL (st1_law_fault c_ v_kinds v_same) (rangeI 0 (v_same.length : Int)) () : LO Unit Unit (Option (Str × Int))).bind fun (_ : Unit) => grd ((-1000000 ≤ (v_facts.length : Int) ∧ (v_facts.length : Int) ≤ 1000000) ∧ True) ((forL (st2_law_fault c_ v_same v_facts) (rangeI 0 (v_facts.length : Int)) () : LO Unit Unit (Option (Str × Int))).bind fun (_ : Unit) => LO.ret (none : (Option (Str × Int)))))
noncomputable def law_fault (c_ : Cs) (v_kinds : (List Str)) (v_same : (List Int)) (v_facts : (List (Str × (List Int)))) : (Option (Str × Int)) := (lo_law_fault c_ v_kinds v_same v_facts).get
def R_law_fault (c_ : Cs) (ars : List Ar) (out : Out) : Prop := ∃ (v_kinds : (List Str)) (v_same : (List Int)) (v_facts : (List (Str × (List Int)))), ars = [.dat ((eT D.str) v_kinds), .dat ((eT D.int) v_same), .dat ((eT (eP D.str (eT D.int))) v_facts)] ∧ (((lo_law_fault c_ v_kinds v_same v_facts).IsRet ∧ out = .val (.dat ((eO (eP D.str D.int)) (law_fault c_ v_kinds v_same v_facts)))) ∨ False)
noncomputable def lo_law_changed (c_ : Cs) (v_row : (List Int)) (v_kinds : (List Str)) (v_same : (List Int)) (v_facts : (List (Str × (List Int)))) (v_words : (List Str)) : LO Unit Unit (((List Str) × (List Int) × (List (Str × (List Int)))) × (List Int)) := grd (((lo_law_take c_ v_row (9 : Int)).IsRet) ∧ True) ((LO.next ((law_take c_ v_row (9 : Int)).1, (law_take c_ v_row (9 : Int)).2) : LO (Int × (List Int)) Unit (((List Str) × (List Int) × (List (Str × (List Int)))) × (List Int))).bind fun x_ => match x_ with | (v_way, v_row) => grd (((lo_law_take c_ v_row (max (1 : Int) (v_same.length : Int))).IsRet) ∧ True) ((LO.next ((law_take c_ v_row (max (1 : Int) (v_same.length : Int))).1, (law_take c_ v_row (max (1 : Int) (v_same.length : Int))).2) : LO (Int × (List Int)) Unit (((List Str) × (List Int) × (List (Str × (List Int)))) × (List Int))).bind fun x_ => match x_ with | (v_at, v_row) => (if (decide (v_way = (0 : Int))) then grd ((0 ≤ (0 : Int)) ∧ ((0 : Int) < v_words.length) ∧ (v_kinds.length + [(v_words.getD ((0 : Int)).toNat default)].length ≤ 16777216) ∧ True) (LO.ret (((v_kinds ++ [(v_words.getD ((0 : Int)).toNat default)]), v_same, v_facts), v_row)) else LO.next () : LO Unit Unit (((List Str) × (List Int) × (List (Str × (List Int)))) × (List Int))).bind fun (_ : Unit) => (if (decide (v_way = (1 : Int))) then grd ((v_same.length + [(v_same.length : Int)].length ≤ 16777216) ∧ True) (LO.ret ((v_kinds, (v_same ++ [(v_same.length : Int)]), v_facts), v_row)) else LO.next () : LO Unit Unit (((List Str) × (List Int) × (List (Str × (List Int)))) × (List Int))).bind fun (_ : Unit) => (if ((decide (v_way = (2 : Int))) && (decide ((0 : Int) < (v_same.length : Int)))) then grd (((cutL v_same none (some v_at)).length + [(v_at + (1 : Int))].length ≤ 16777216) ∧ (((cutL v_same none (some v_at)) ++ [(v_at + (1 : Int))]).length + (cutL v_same (some (v_at + (1 : Int))) none).length ≤ 16777216) ∧ True) (LO.ret ((v_kinds, (((cutL v_same none (some v_at)) ++ [(v_at + (1 : Int))]) ++ (cutL v_same (some (v_at + (1 : Int))) none)), v_facts), v_row)) else LO.next () : LO Unit Unit (((List Str) × (List Int) × (List (Str × (List Int)))) × (List Int))).bind fun (_ : Unit) => (if ((decide (v_way = (3 : Int))) && (decide ((0 : Int) < (v_same.length : Int)))) then grd (((lo_law_take c_ v_row (v_at + (1 : Int))).IsRet) ∧ ((cutL v_same none (some v_at)).length + [((law_take c_ v_row (v_at + (1 : Int))).1 - (1 : Int))].length ≤ 16777216) ∧ (((cutL v_same none (some v_at)) ++ [((law_take c_ v_row (v_at + (1 : Int))).1 - (1 : Int))]).length + (cutL v_same (some (v_at + (1 : Int))) none).length ≤ 16777216) ∧ True) (LO.ret ((v_kinds, (((cutL v_same none (some v_at)) ++ [((law_take c_ v_row (v_at + (1 : Int))).1 - (1 : Int))]) ++ (cutL v_same (some (v_at + (1 : Int))) none)), v_facts), (law_take c_ v_row (v_at + (1 : Int))).2)) else LO.next () : LO Unit Unit (((List Str) × (List Int) × (List (Str × (List Int)))) × (List Int))).bind fun (_ : Unit) => (if ((decide (v_way = (4 : Int))) && (decide ((0 : Int) < (v_same.length : Int)))) then grd ((0 ≤ (7 : Int)) ∧ ((7 : Int) < v_words.length) ∧ ((cutL v_kinds none (some v_at)).length + [(v_words.getD ((7 : Int)).toNat default)].length ≤ 16777216) ∧ (((cutL v_kinds none (some v_at)) ++ [(v_words.getD ((7 : Int)).toNat default)]).length + (cutL v_kinds (some (v_at + (1 : Int))) none).length ≤ 16777216) ∧ True) (LO.ret (((((cutL v_kinds none (some v_at)) ++ [(v_words.getD ((7 : Int)).toNat default)]) ++ (cutL v_kinds (some (v_at + (1 : Int))) none)), v_same, v_facts), v_row)) else LO.next () : LO Unit Unit (((List Str) × (List Int) × (List (Str × (List Int)))) × (List Int))).bind fun (_ : Unit) => (if (decide (v_way = (5 : Int))) then grd ((0 ≤ (4 : Int)) ∧ ((4 : Int) < v_words.length) ∧ ((lo_law_take c_ v_row (4 : Int)).IsRet) ∧ (v_facts.length + [((v_words.getD ((4 : Int)).toNat default), [(((v_same.length : Int) - (2 : Int)) + (law_take c_ v_row (4 : Int)).1)])].length ≤ 16777216) ∧ True) (LO.ret ((v_kinds, v_same, (v_facts ++ [((v_words.getD ((4 : Int)).toNat default), [(((v_same.length : Int) - (2 : Int)) + (law_take c_ v_row (4 : Int)).1)])])), (law_take c_ v_row (4 : Int)).2)) else LO.next () : LO Unit Unit (((List Str) × (List Int) × (List (Str × (List Int)))) × (List Int))).bind fun (_ : Unit) => (if ((decide (v_way = (6 : Int))) && (decide ((0 : Int) < (v_facts.length : Int)))) then grd (((lo_law_take c_ v_row (v_facts.length : Int)).IsRet) ∧ True) ((LO.next ((law_take c_ v_row (v_facts.length : Int)).1, (law_take c_ v_row (v_facts.length : Int)).2) : LO (Int × (List Int)) Unit (((List Str) × (List Int) × (List (Str × (List Int)))) × (List Int))).bind fun x_ => match x_ with | (v_k, v_row) => grd ((0 ≤ v_k) ∧ (v_k < v_facts.length) ∧ ((cutL v_facts none (some v_k)).length + [(v_facts.getD (v_k).toNat default)].length ≤ 16777216) ∧ (((cutL v_facts none (some v_k)) ++ [(v_facts.getD (v_k).toNat default)]).length + (cutL v_facts (some v_k) none).length ≤ 16777216) ∧ True) (LO.ret ((v_kinds, v_same, (((cutL v_facts none (some v_k)) ++ [(v_facts.getD (v_k).toNat default)]) ++ (cutL v_facts (some v_k) none))), v_row))) else LO.next () : LO Unit Unit (((List Str) × (List Int) × (List (Str × (List Int)))) × (List Int))).bind fun (_ : Unit) => (if ((decide (v_way = (7 : Int))) && (decide ((1 : Int) < (v_facts.length : Int)))) then grd (((lo_law_take c_ v_row ((v_facts.length : Int) - (1 : Int))).IsRet) ∧ True) ((LO.next (((1 : Int) + (law_take c_ v_row ((v_facts.length : Int) - (1 : Int))).1), (law_take c_ v_row ((v_facts.length : Int) - (1 : Int))).2) : LO (Int × (List Int)) Unit (((List Str) × (List Int) × (List (Str × (List Int)))) × (List Int))).bind fun x_ => match x_ with | (v_k, v_row) => grd ((0 ≤ v_k) ∧ (v_k < v_facts.length) ∧ (0 ≤ (v_k - (1 : Int))) ∧ ((v_k - (1 : Int)) < v_facts.length) ∧ ((cutL v_facts none (some (v_k - (1 : Int)))).length + [(v_facts.getD (v_k).toNat default), (v_facts.getD ((v_k - (1 : Int))).toNat default)].length ≤ 16777216) ∧ (((cutL v_facts none (some (v_k - (1 : Int)))) ++ [(v_facts.getD (v_k).toNat default), (v_facts.getD ((v_k - (1 : Int))).toNat default)]).length + (cutL v_facts (some (v_k + (1 : Int))) none).length ≤ 16777216) ∧ True) (LO.ret ((v_kinds, v_same, (((cutL v_facts none (some (v_k - (1 : Int)))) ++ [(v_facts.getD (v_k).toNat default), (v_facts.getD ((v_k - (1 : Int))).toNat default)]) ++ (cutL v_facts (some (v_k + (1 : Int))) none))), v_row))) else LO.next () : LO Unit Unit (((List Str) × (List Int) × (List (Str × (List Int)))) × (List Int))).bind fun (_ : Unit) => (if (decide ((0 : Int) < (v_same.length : Int))) then grd ((0 ≤ (6 : Int)) ∧ ((6 : Int) < v_words.length) ∧ ((lo_law_take c_ v_row (v_same.length : Int)).IsRet) ∧ (v_facts.length + [((v_words.getD ((6 : Int)).toNat default), [v_at, v_at, (law_take c_ v_row (v_same.length : Int)).1])].length ≤ 16777216) ∧ True) (LO.ret ((v_kinds, v_same, ((v_facts ++ [((v_words.getD ((6 : Int)).toNat default), [v_at, v_at, (law_take c_ v_row (v_same.length : Int)).1])]).mergeSort (leT (eP D.str (eT D.int))))), (law_take c_ v_row (v_same.length : Int)).2)) else LO.next () : LO Unit Unit (((List Str) × (List Int) × (List (Str × (List Int)))) × (List Int))).bind fun (_ : Unit) => LO.ret ((v_kinds, v_same, v_facts), v_row)))
noncomputable def law_changed (c_ : Cs) (v_row : (List Int)) (v_kinds : (List Str)) (v_same : (List Int)) (v_facts : (List (Str × (List Int)))) (v_words : (List Str)) : (((List Str) × (List Int) × (List (Str × (List Int)))) × (List Int)) := (lo_law_changed c_ v_row v_kinds v_same v_facts v_words).get
def R_law_changed (c_ : Cs) (ars : List Ar) (out : Out) : Prop := ∃ (v_row : (List Int)) (v_kinds : (List Str)) (v_same : (List Int)) (v_facts : (List (Str × (List Int)))) (v_words : (List Str)) (z0_ : Oc), ars = [.mu (.lst (v_row.map D.int)) z0_, .dat ((eT D.str) v_kinds), .dat ((eT D.int) v_same), .dat ((eT (eP D.str (eT D.int))) v_facts), .dat ((eL D.str) v_words)] ∧ (((lo_law_changed c_ v_row v_kinds v_same v_facts v_words).IsRet ∧ z0_ = (.lst ((law_changed c_ v_row v_kinds v_same v_facts v_words).2.map D.int)) ∧ out = .val (.dat ((eP3 (eT D.str) (eT D.int) (eT (eP D.str (eT D.int)))) ((law_changed c_ v_row v_kinds v_same v_facts v_words).1)))) ∨ False)
noncomputable def lo_law_refused (c_ : Cs) (v_kinds : (List Str)) (v_same : (List Int)) (v_facts : (List (Str × (List Int)))) : LO Unit Unit (Option (Str × Int)) := ((((mk_World_init c_ v_kinds v_same v_facts).callX : LO T_World Unit (Option (Str × Int))).bind fun _ => LO.next () : LO Unit Unit (Option (Str × Int))).catchT (dXsi c_.BadWorld "part" "at") fun p_ => (if (true && (true && (!false))) then LO.ret (some (p_.1, p_.2)) else LO.next () : LO Unit Unit (Option (Str × Int))).bind fun (_ : Unit) => LO.ret (some (("another" : Str), (-(1 : Int))))).bind fun _ => LO.ret (none : (Option (Str × Int)))
noncomputable def law_refused (c_ : Cs) (v_kinds : (List Str)) (v_same : (List Int)) (v_facts : (List (Str × (List Int)))) : (Option (Str × Int)) := (lo_law_refused c_ v_kinds v_same v_facts).get
def R_law_refused (c_ : Cs) (ars : List Ar) (out : Out) : Prop := ∃ (v_kinds : (List Str)) (v_same : (List Int)) (v_facts : (List (Str × (List Int)))), ars = [.dat ((eT D.str) v_kinds), .dat ((eT D.int) v_same), .dat ((eT (eP D.str (eT D.int))) v_facts)] ∧ (((lo_law_refused c_ v_kinds v_same v_facts).IsRet ∧ out = .val (.dat ((eO (eP D.str D.int)) (law_refused c_ v_kinds v_same v_facts)))) ∨ False)
noncomputable def st1_law_seen (c_ : Cs) (v_world : T_World) (v_kinds : (List Str)) (v_firsts : (List Int)) (s_ : Unit) (x_ : Str) : LO Unit Unit Bool :=
  match s_, x_ with
  | (), v_kind => grd (((lo_World_of_kind c_ v_world v_kind).IsRet) ∧ (∀ (v_n : Int), ((v_n : Int) ∈ v_firsts) → ((0 ≤ v_n) ∧ (v_n < v_kinds.length) ∧ True)) ∧ True) ((if (!decide ((World_of_kind c_ v_world v_kind) = ((v_firsts.filter fun (v_n : Int) => (decide ((v_kinds.getD (v_n).toNat default) = v_kind))).map fun (v_n : Int) => v_n))) then LO.ret false else LO.next () : LO Unit Unit Bool).bind fun (_ : Unit) => LO.next ())
noncomputable def lo_law_seen (c_ : Cs) (v_world : T_World) (v_kinds : (List Str)) (v_same : (List Int)) (v_facts : (List (Str × (List Int)))) : LO Unit Unit Bool := (if ((!true) || ((!true) || (!true))) then LO.ret false else LO.next () : LO Unit Unit Bool).bind fun (_ : Unit) => (if ((!decide (v_world.1 = v_kinds)) || ((!decide (v_world.2.1 = v_same)) || ((!true) || (!decide (v_world.2.2.1 = v_facts))))) then LO.ret false else LO.next () : LO Unit Unit Bool).bind fun (_ : Unit) => grd ((-1000000 ≤ (v_same.length : Int) ∧ (v_same.length : Int) ≤ 1000000) ∧ (∀ (v_n : Int), ((v_n : Int) ∈ (rangeI 0 (v_same.length : Int))) → ((0 ≤ v_n) ∧ (v_n < v_same.length) ∧ True)) ∧ True) ((LO.next (((rangeI 0 (v_same.length : Int)).filter fun (v_n : Int) => (decide ((v_same.getD (v_n).toNat default) = v_n))).map fun (v_n : Int) => v_n) : LO (List Int) Unit Bool).bind fun (v_firsts : (List Int)) => grd (((lo_World_first_things c_ v_world).IsRet) ∧ True) ((if ((!decide ((World_first_things c_ v_world) = v_firsts)) || (!decide (v_world.2.2.1 = v_facts))) then LO.ret false else LO.next () : LO Unit Unit Bool).bind fun (_ : Unit) => grd (((v_kinds.mergeSort (leT D.str)).length + [("none" : Str)].length ≤ 16777216) ∧ True) ((forL (st1_law_seen c_ v_world v_kinds v_firsts) ((v_kinds.mergeSort (leT D.str)) ++ [("none" : Str)]) () : LO Unit Unit Bool).bind fun (_ : Unit) => grd (((mk_World_init c_ v_kinds v_same v_facts).IsRet) ∧ ((lo_World_eq c_ v_world (World_init c_ v_kinds v_same v_facts)).IsRet) ∧ (((World_eq c_ v_world (World_init c_ v_kinds v_same v_facts))) = true → (((mk_World_init c_ v_kinds v_same v_facts).IsRet) ∧ ((lo_World_eq c_ v_world (World_init c_ v_kinds v_same v_facts)).IsRet) ∧ True)) ∧ True) (LO.ret ((World_eq c_ v_world (World_init c_ v_kinds v_same v_facts)) && (!(!(World_eq c_ v_world (World_init c_ v_kinds v_same v_facts)))))))))
noncomputable def law_seen (c_ : Cs) (v_world : T_World) (v_kinds : (List Str)) (v_same : (List Int)) (v_facts : (List (Str × (List Int)))) : Bool := (lo_law_seen c_ v_world v_kinds v_same v_facts).get
def R_law_seen (c_ : Cs) (ars : List Ar) (out : Out) : Prop := ∃ (v_world : T_World) (v_kinds : (List Str)) (v_same : (List Int)) (v_facts : (List (Str × (List Int)))), ars = [.dat ((e_World c_) v_world), .dat ((eT D.str) v_kinds), .dat ((eT D.int) v_same), .dat ((eT (eP D.str (eT D.int))) v_facts)] ∧ (((lo_law_seen c_ v_world v_kinds v_same v_facts).IsRet ∧ out = .val (.dat (D.bl (law_seen c_ v_world v_kinds v_same v_facts)))) ∨ False)
noncomputable def cs1_law_asked (c_ : Cs) (v_same : (List Int)) (v_row : (List Int)) (x_ : Int) : (List Int) × Option Int :=
  match x_ with
  | v_place => ((law_take c_ v_row (v_same.length : Int)).2, some ((law_take c_ v_row (v_same.length : Int)).1))
noncomputable def st1_law_asked (c_ : Cs) (v_world : T_World) (v_same : (List Int)) (v_facts : (List (Str × (List Int)))) (v_words : (List Str)) (s_ : (List Int)) (x_ : Int) : LO (List Int) (List Int) (Bool × (List Int)) :=
  match s_, x_ with
  | v_row, v_k => grd (((lo_law_take c_ v_row (4 : Int)).IsRet) ∧ True) ((LO.next ((law_take c_ v_row (4 : Int)).1, (law_take c_ v_row (4 : Int)).2) : LO (Int × (List Int)) (List Int) (Bool × (List Int))).bind fun x_ => match x_ with | (v_d, v_row) => (if ((decide ((0 : Int) < (v_same.length : Int))) || (decide (v_d = (0 : Int)))) then grd ((-1000000 ≤ v_d ∧ v_d ≤ 1000000) ∧ (∀ (v_row : (List Int)) (v_place : Int), ((v_place : Int) ∈ (rangeI 0 v_d)) → (((lo_law_take c_ v_row (v_same.length : Int)).IsRet) ∧ True)) ∧ True) ((LO.next ((compL (cs1_law_asked c_ v_same) (rangeI 0 v_d) v_row).2, (compL (cs1_law_asked c_ v_same) (rangeI 0 v_d) v_row).1) : LO ((List Int) × (List Int)) (List Int) (Bool × (List Int))).bind fun x_ => match x_ with | (v_numbers, v_row) => grd ((0 ≤ ((3 : Int) + v_d)) ∧ (((3 : Int) + v_d) < v_words.length) ∧ (∀ (v_n : Int), ((v_n : Int) ∈ v_numbers) → ((0 ≤ v_n) ∧ (v_n < v_same.length) ∧ True)) ∧ True) ((LO.next (memB ((v_words.getD (((3 : Int) + v_d)).toNat default), (v_numbers.map fun (v_n : Int) => (v_same.getD (v_n).toNat default))) v_facts) : LO Bool (List Int) (Bool × (List Int))).bind fun (v_due : Bool) => grd ((0 ≤ ((3 : Int) + v_d)) ∧ (((3 : Int) + v_d) < v_words.length) ∧ ((lo_World_contains c_ v_world ((v_words.getD (((3 : Int) + v_d)).toNat default), v_numbers)).IsRet) ∧ True) ((if (!decide ((World_contains c_ v_world ((v_words.getD (((3 : Int) + v_d)).toNat default), v_numbers)) = v_due)) then LO.ret (false, v_row) else LO.next () : LO Unit (List Int) (Bool × (List Int))).bind fun (_ : Unit) => LO.next v_row))) else LO.next v_row : LO (List Int) (List Int) (Bool × (List Int))).bind fun (v_row : (List Int)) => LO.next v_row)
noncomputable def st2_law_asked (c_ : Cs) (v_row : (List Int)) (v_world : T_World) (v_same : (List Int)) (s_ : Unit) (x_ : (Str × (List Int))) : LO Unit Unit (Bool × (List Int)) :=
  match s_, x_ with
  | (), (v_sign, v_numbers) => grd ((∀ (v_low : Int), ((v_low : Int) ∈ v_numbers) → ((-1000000 ≤ (v_same.length : Int) ∧ (v_same.length : Int) ≤ 1000000) ∧ (∀ (v_n : Int), ((v_n : Int) ∈ (rangeI 0 (v_same.length : Int))) → ((0 ≤ v_n) ∧ (v_n < v_same.length) ∧ True)) ∧ (0 < (((rangeI 0 (v_same.length : Int)).filter fun (v_n : Int) => (decide ((v_same.getD (v_n).toNat default) = v_low))).map fun (v_n : Int) => v_n).length) ∧ True)) ∧ True) ((LO.next (v_numbers.map fun (v_low : Int) => (maxI (((rangeI 0 (v_same.length : Int)).filter fun (v_n : Int) => (decide ((v_same.getD (v_n).toNat default) = v_low))).map fun (v_n : Int) => v_n))) : LO (List Int) Unit (Bool × (List Int))).bind fun (v_alike : (List Int)) => grd (((lo_World_contains c_ v_world (v_sign, v_alike)).IsRet) ∧ True) ((if (!(World_contains c_ v_world (v_sign, v_alike))) then LO.ret (false, v_row) else LO.next () : LO Unit Unit (Bool × (List Int))).bind fun (_ : Unit) => LO.next ()))
noncomputable def lo_law_asked (c_ : Cs) (v_row : (List Int)) (v_world : T_World) (v_same : (List Int)) (v_facts : (List (Str × (List Int)))) (v_words : (List Str)) : LO Unit Unit (Bool × (List Int)) := (forL (st1_law_asked c_ v_world v_same v_facts v_words) (rangeI 0 (8 : Int)) v_row : LO (List Int) Unit (Bool × (List Int))).bind fun (v_row : (List Int)) => (forL (st2_law_asked c_ v_row v_world v_same) v_facts () : LO Unit Unit (Bool × (List Int))).bind fun (_ : Unit) => LO.ret (true, v_row)
noncomputable def law_asked (c_ : Cs) (v_row : (List Int)) (v_world : T_World) (v_same : (List Int)) (v_facts : (List (Str × (List Int)))) (v_words : (List Str)) : (Bool × (List Int)) := (lo_law_asked c_ v_row v_world v_same v_facts v_words).get
def R_law_asked (c_ : Cs) (ars : List Ar) (out : Out) : Prop := ∃ (v_row : (List Int)) (v_world : T_World) (v_same : (List Int)) (v_facts : (List (Str × (List Int)))) (v_words : (List Str)) (z0_ : Oc), ars = [.mu (.lst (v_row.map D.int)) z0_, .dat ((e_World c_) v_world), .dat ((eT D.int) v_same), .dat ((eT (eP D.str (eT D.int))) v_facts), .dat ((eL D.str) v_words)] ∧ (((lo_law_asked c_ v_row v_world v_same v_facts v_words).IsRet ∧ z0_ = (.lst ((law_asked c_ v_row v_world v_same v_facts v_words).2.map D.int)) ∧ out = .val (.dat (D.bl ((law_asked c_ v_row v_world v_same v_facts v_words).1)))) ∨ False)
noncomputable def lo_law (c_ : Cs) (v_script : (List Int)) : LO Unit Unit Bool := grd (((lo_law_cell c_ v_script (0 : Int)).IsRet) ∧ ((lo_law_digits c_ (law_cell c_ v_script (0 : Int)) (60 : Int)).IsRet) ∧ True) ((LO.next (law_digits c_ (law_cell c_ v_script (0 : Int)) (60 : Int)) : LO (List Int) Unit Bool).bind fun (v_row : (List Int)) => grd (((lo_law_words c_ v_row (8 : Int)).IsRet) ∧ True) ((LO.next ((law_words c_ v_row (8 : Int)).1, (law_words c_ v_row (8 : Int)).2) : LO ((List Str) × (List Int)) Unit Bool).bind fun x_ => match x_ with | (v_words, v_row) => grd (((lo_law_take c_ v_row (10 : Int)).IsRet) ∧ True) ((LO.next ((law_take c_ v_row (10 : Int)).1, (law_take c_ v_row (10 : Int)).2) : LO (Int × (List Int)) Unit Bool).bind fun x_ => match x_ with | (v_count, v_row) => grd (((lo_law_take c_ v_row (6 : Int)).IsRet) ∧ True) ((if (decide ((law_take c_ v_row (6 : Int)).1 = (1 : Int))) then (LO.next ((30 : Int), (law_take c_ v_row (6 : Int)).2) : LO (Int × (List Int)) Unit Bool).bind fun x_ => match x_ with | (v_count, v_row) => LO.next (v_count, v_row) else LO.next (v_count, (law_take c_ v_row (6 : Int)).2) : LO (Int × (List Int)) Unit Bool).bind fun x_ => match x_ with | (v_count, v_row) => grd (((lo_law_cell c_ v_script (1 : Int)).IsRet) ∧ ((lo_law_digits c_ (law_cell c_ v_script (1 : Int)) (60 : Int)).IsRet) ∧ ((lo_law_kinds c_ (law_digits c_ (law_cell c_ v_script (1 : Int)) (60 : Int)) v_words v_count).IsRet) ∧ True) ((LO.next ((law_kinds c_ (law_digits c_ (law_cell c_ v_script (1 : Int)) (60 : Int)) v_words v_count).1) : LO (List Str) Unit Bool).bind fun (v_kinds : (List Str)) => grd (((lo_law_pairs c_ v_row v_kinds (7 : Int)).IsRet) ∧ True) ((LO.next ((law_pairs c_ v_row v_kinds (7 : Int)).1, (law_pairs c_ v_row v_kinds (7 : Int)).2) : LO ((List (Int × Int)) × (List Int)) Unit Bool).bind fun x_ => match x_ with | (v_pairs, v_row) => grd (((lo_law_firsts c_ v_count v_pairs).IsRet) ∧ True) ((LO.next (law_firsts c_ v_count v_pairs) : LO (List Int) Unit Bool).bind fun (v_firsts : (List Int)) => grd (((lo_law_cell c_ v_script (2 : Int)).IsRet) ∧ ((lo_law_digits c_ (law_cell c_ v_script (2 : Int)) (60 : Int)).IsRet) ∧ ((lo_law_facts c_ (law_digits c_ (law_cell c_ v_script (2 : Int)) (60 : Int)) v_words v_kinds (11 : Int)).IsRet) ∧ True) ((LO.next ((law_facts c_ (law_digits c_ (law_cell c_ v_script (2 : Int)) (60 : Int)) v_words v_kinds (11 : Int)).1) : LO (List (Str × (List Int))) Unit Bool).bind fun (v_given : (List (Str × (List Int)))) => grd (((lo_law_told c_ v_firsts v_given).IsRet) ∧ True) ((LO.next (law_told c_ v_firsts v_given) : LO (List (Str × (List Int))) Unit Bool).bind fun (v_facts : (List (Str × (List Int)))) => grd (((mk_World_init c_ v_kinds v_firsts v_facts).IsRet) ∧ True) ((LO.next (World_init c_ v_kinds v_firsts v_facts) : LO T_World Unit Bool).bind fun (v_world : T_World) => grd (((lo_law_cell c_ v_script (3 : Int)).IsRet) ∧ ((lo_law_digits c_ (law_cell c_ v_script (3 : Int)) (60 : Int)).IsRet) ∧ True) ((LO.next (law_digits c_ (law_cell c_ v_script (3 : Int)) (60 : Int)) : LO (List Int) Unit Bool).bind fun (v_more : (List Int)) => grd (((lo_law_take c_ v_more (5 : Int)).IsRet) ∧ ((lo_law_kinds c_ ((law_take c_ v_more (5 : Int)).2) v_words ((law_take c_ v_more (5 : Int)).1)).IsRet) ∧ True) ((LO.next ((law_kinds c_ ((law_take c_ v_more (5 : Int)).2) v_words ((law_take c_ v_more (5 : Int)).1)).1, (law_kinds c_ ((law_take c_ v_more (5 : Int)).2) v_words ((law_take c_ v_more (5 : Int)).1)).2) : LO ((List Str) × (List Int)) Unit Bool).bind fun x_ => match x_ with | (v_new, v_more) => grd ((v_kinds.length + v_new.length ≤ 16777216) ∧ ((lo_law_pairs c_ v_more (v_kinds ++ v_new) (5 : Int)).IsRet) ∧ True) ((LO.next ((law_pairs c_ v_more (v_kinds ++ v_new) (5 : Int)).1, (law_pairs c_ v_more (v_kinds ++ v_new) (5 : Int)).2) : LO ((List (Int × Int)) × (List Int)) Unit Bool).bind fun x_ => match x_ with | (v_later, v_more) => grd ((v_kinds.length + v_new.length ≤ 16777216) ∧ ((lo_law_facts c_ v_more v_words (v_kinds ++ v_new) (9 : Int)).IsRet) ∧ True) ((LO.next ((law_facts c_ v_more v_words (v_kinds ++ v_new) (9 : Int)).1, (law_facts c_ v_more v_words (v_kinds ++ v_new) (9 : Int)).2) : LO ((List (Str × (List Int))) × (List Int)) Unit Bool).bind fun x_ => match x_ with | (v_added, v_more) => grd (((lo_World_joined c_ v_world v_new v_later v_added).IsRet) ∧ True) ((LO.next (World_joined c_ v_world v_new v_later v_added) : LO T_World Unit Bool).bind fun (v_result : T_World) => grd ((v_pairs.length + v_later.length ≤ 16777216) ∧ ((lo_law_firsts c_ (v_count + (v_new.length : Int)) (v_pairs ++ v_later)).IsRet) ∧ True) ((LO.next (law_firsts c_ (v_count + (v_new.length : Int)) (v_pairs ++ v_later)) : LO (List Int) Unit Bool).bind fun (v_same : (List Int)) => grd ((v_given.length + v_added.length ≤ 16777216) ∧ ((lo_law_told c_ v_same (v_given ++ v_added)).IsRet) ∧ True) ((LO.next (law_told c_ v_same (v_given ++ v_added)) : LO (List (Str × (List Int))) Unit Bool).bind fun (v_told : (List (Str × (List Int)))) => grd ((v_kinds.length + v_new.length ≤ 16777216) ∧ ((lo_law_seen c_ v_result (v_kinds ++ v_new) v_same v_told).IsRet) ∧ (((!(law_seen c_ v_result (v_kinds ++ v_new) v_same v_told))) = false → (((lo_law_seen c_ v_world v_kinds v_firsts v_facts).IsRet) ∧ True)) ∧ True) ((if ((!(law_seen c_ v_result (v_kinds ++ v_new) v_same v_told)) || (!(law_seen c_ v_world v_kinds v_firsts v_facts))) then LO.ret false else LO.next () : LO Unit Unit Bool).bind fun (_ : Unit) => grd (((lo_law_cell c_ v_script (5 : Int)).IsRet) ∧ ((lo_law_digits c_ (law_cell c_ v_script (5 : Int)) (40 : Int)).IsRet) ∧ ((lo_law_asked c_ (law_digits c_ (law_cell c_ v_script (5 : Int)) (40 : Int)) v_result v_same v_told v_words).IsRet) ∧ True) ((if (!(law_asked c_ (law_digits c_ (law_cell c_ v_script (5 : Int)) (40 : Int)) v_result v_same v_told v_words).1) then LO.ret false else LO.next () : LO Unit Unit Bool).bind fun (_ : Unit) => grd (((lo_World_eq c_ v_world v_result).IsRet) ∧ (v_kinds.length + v_new.length ≤ 16777216) ∧ True) ((if (!decide ((World_eq c_ v_world v_result) = ((decide ((v_kinds ++ v_new) = v_kinds)) && ((decide (v_same = v_firsts)) && (decide (v_told = v_facts)))))) then LO.ret false else LO.next () : LO Unit Unit Bool).bind fun (_ : Unit) => grd (((lo_law_cell c_ v_script (4 : Int)).IsRet) ∧ ((lo_law_digits c_ (law_cell c_ v_script (4 : Int)) (20 : Int)).IsRet) ∧ True) ((LO.next (law_digits c_ (law_cell c_ v_script (4 : Int)) (20 : Int)) : LO (List Int) Unit Bool).bind fun (v_last : (List Int)) => grd ((v_kinds.length + v_new.length ≤ 16777216) ∧ ((lo_law_changed c_ v_last (v_kinds ++ v_new) v_same v_told v_words).IsRet) ∧ True) ((LO.next ((law_changed c_ v_last (v_kinds ++ v_new) v_same v_told v_words).1, (law_changed c_ v_last (v_kinds ++ v_new) v_same v_told v_words).2) : LO (((List Str) × (List Int) × (List (Str × (List Int)))) × (List Int)) Unit Bool).bind fun x_ => match x_ with | (v_changed, v_last) => grd (((lo_law_fault c_ (v_changed.1) (v_changed.2.1) (v_changed.2.2)).IsRet) ∧ True) ((LO.next (law_fault c_ (v_changed.1) (v_changed.2.1) (v_changed.2.2)) : LO (Option (Str × Int)) Unit Bool).bind fun (v_due : (Option (Str × Int))) => grd (((lo_law_refused c_ (v_changed.1) (v_changed.2.1) (v_changed.2.2)).IsRet) ∧ True) ((LO.next (law_refused c_ (v_changed.1) (v_changed.2.1) (v_changed.2.2)) : LO (Option (Str × Int)) Unit Bool).bind fun (v_actual : (Option (Str × Int))) => (if (v_due.isNone) then grd ((((v_actual.isNone)) = true → (((mk_World_init c_ (v_changed.1) (v_changed.2.1) (v_changed.2.2)).IsRet) ∧ ((lo_law_seen c_ (World_init c_ (v_changed.1) (v_changed.2.1) (v_changed.2.2)) (v_changed.1) (v_changed.2.1) (v_changed.2.2)).IsRet) ∧ True)) ∧ True) (LO.ret ((v_actual.isNone) && (law_seen c_ (World_init c_ (v_changed.1) (v_changed.2.1) (v_changed.2.2)) (v_changed.1) (v_changed.2.1) (v_changed.2.2)))) else LO.next () : LO Unit Unit Bool).bind fun (_ : Unit) => LO.ret (decide (v_actual = v_due))))))))))))))))))))))))))
noncomputable def law (c_ : Cs) (v_script : (List Int)) : Bool := (lo_law c_ v_script).get
def R_law (c_ : Cs) (ars : List Ar) (out : Out) : Prop := ∃ (v_script : (List Int)), ars = [.dat ((eL D.int) v_script)] ∧ (((lo_law c_ v_script).IsRet ∧ out = .val (.dat (D.bl (law c_ v_script)))) ∨ False)
end K05
set_option maxHeartbeats 1000000
namespace K05
open PySem PySem.Spec PyProof.Rows L2 PD
/-! ### merged things -/
abbrev FACT := Str × List Int
abbrev eF : FACT → D := eP D.str (eT D.int)
def mergeP (s : List Int) (p : Int × Int) : List Int :=
  s.map fun n => if decide (n = max (s.getD p.1.toNat default) (s.getD p.2.toNat default)) = true then min (s.getD p.1.toNat default) (s.getD p.2.toNat default) else n
def firstsS (count : Int) (ps : List (Int × Int)) : List Int := ps.foldl mergeP ((rangeI 0 count).map fun n => n)
def PairOk (kinds : List Str) (p : Int × Int) : Prop := (0 ≤ p.1 ∧ p.1 < kinds.length) ∧ (0 ≤ p.2 ∧ p.2 < kinds.length) ∧ kinds.getD p.1.toNat default = kinds.getD p.2.toNat default
structure VS (kinds : List Str) (s : List Int) : Prop where
  len : kinds.length = s.length
  at' : ∀ n : Nat, n < s.length → 0 ≤ s.getD n default ∧ s.getD n default ≤ n ∧ s.getD (s.getD n default).toNat default = s.getD n default ∧ kinds.getD (s.getD n default).toNat default = kinds.getD n default
theorem merge_len (s : List Int) (p : Int × Int) : (mergeP s p).length = s.length := by unfold mergeP; simp
theorem merges_len : ∀ (ps : List (Int × Int)) (s : List Int), (ps.foldl mergeP s).length = s.length
  | [], _ => rfl
  | p :: ps, s => by rw [List.foldl_cons, merges_len ps, merge_len]
theorem merge_at {s : List Int} {p : Int × Int} {n : Nat} (h : n < s.length) : (mergeP s p).getD n default = if s.getD n default = max (s.getD p.1.toNat default) (s.getD p.2.toNat default) then min (s.getD p.1.toNat default) (s.getD p.2.toNat default) else s.getD n default := by
  unfold mergeP
  rw [getD_map_lt _ h]
  simp only [decide_eq_true_eq]
theorem VS.merge {kinds : List Str} {s : List Int} {p : Int × Int} (v : VS kinds s) (hp : PairOk kinds p) : VS kinds (mergeP s p) := by
  obtain ⟨⟨l0, l1⟩, ⟨r0, r1⟩, ke⟩ := hp
  refine ⟨by rw [merge_len]; exact v.len, fun n hn => ?_⟩
  rw [merge_len] at hn
  have hl := v.at' p.1.toNat (by rw [← v.len]; omega)
  have hr := v.at' p.2.toNat (by rw [← v.len]; omega)
  have hx := v.at' n hn
  have hL := v.len
  -- low and high
  obtain ⟨lo, hi, elo, ehi, q1, q2, q3, q4, q5, q6⟩ : ∃ lo hi : Int, min (s.getD p.1.toNat default) (s.getD p.2.toNat default) = lo ∧ max (s.getD p.1.toNat default) (s.getD p.2.toNat default) = hi ∧ 0 ≤ lo ∧ lo ≤ hi ∧ hi < s.length ∧ s.getD lo.toNat default = lo ∧ s.getD hi.toNat default = hi ∧ kinds.getD lo.toNat default = kinds.getD hi.toNat default := by
    rcases Int.le_total (s.getD p.1.toNat default) (s.getD p.2.toNat default) with h | h
    · exact ⟨_, _, Int.min_eq_left h, Int.max_eq_right h, hl.1, h, by have := hr.2.1; omega, hl.2.2.1, hr.2.2.1, by rw [hl.2.2.2, hr.2.2.2, ke]⟩
    · exact ⟨_, _, Int.min_eq_right h, Int.max_eq_left h, hr.1, h, by have := hl.2.1; omega, hr.2.2.1, hl.2.2.1, by rw [hl.2.2.2, hr.2.2.2, ke]⟩
  have key : ∀ m : Nat, m < s.length → (mergeP s p).getD m default = if s.getD m default = hi then lo else s.getD m default := fun m hm => by rw [merge_at hm, ehi, elo]
  rw [key n hn]
  by_cases h : s.getD n default = hi
  · rw [if_pos h]
    have hlo : lo.toNat < s.length := by omega
    refine ⟨q1, by have := hx.2.1; omega, ?_, ?_⟩
    · rw [key _ hlo, q4]; split <;> rfl
    · rw [q6, ← hx.2.2.2, h]
  · rw [if_neg h]
    have hb : (s.getD n default).toNat < s.length := by omega
    refine ⟨hx.1, hx.2.1, ?_, hx.2.2.2⟩
    rw [key _ hb, hx.2.2.1, if_neg h]
theorem VS.merges {kinds : List Str} : ∀ {ps : List (Int × Int)} {s : List Int}, VS kinds s → (∀ p ∈ ps, PairOk kinds p) → VS kinds (ps.foldl mergeP s)
  | [], _, v, _ => v
  | p :: ps, s, v, h => by
    rw [List.foldl_cons]
    exact VS.merges (v.merge (h p (.head _))) fun q hq => h q (.tail _ hq)
theorem map_id'' (xs : List Int) : (xs.map fun n => n) = xs := by simp
theorem VS.range (kinds : List Str) : VS kinds (rangeI 0 kinds.length) := by
  have e : ∀ n : Nat, n < kinds.length → (rangeI 0 kinds.length).getD n default = (n : Int) := fun n h => by
    have := getD_range (a := 0) h
    rw [Int.zero_add, Int.zero_add] at this
    exact this
  refine ⟨by rw [rangeI_len]; omega, fun n hn => ?_⟩
  rw [rangeI_len] at hn
  have hn : n < kinds.length := by omega
  rw [e n hn]
  refine ⟨by omega, Int.le_refl _, ?_, ?_⟩
  · rw [Int.toNat_natCast, e n hn]
  · rw [Int.toNat_natCast]
theorem VS.firsts {kinds : List Str} {ps : List (Int × Int)} (h : ∀ p ∈ ps, PairOk kinds p) : VS kinds (firstsS kinds.length ps) := by
  unfold firstsS
  rw [map_id'']
  exact (VS.range kinds).merges h
/-- more things behind -/
theorem merge_app {kinds : List Str} {s t : List Int} {p : Int × Int} (v : VS kinds s) (hp : PairOk kinds p) (ht : ∀ x ∈ t, (s.length : Int) ≤ x) : mergeP (s ++ t) p = mergeP s p ++ t := by
  obtain ⟨⟨l0, l1⟩, ⟨r0, r1⟩, _⟩ := hp
  have hl : p.1.toNat < s.length := by rw [← v.len]; omega
  have hr : p.2.toNat < s.length := by rw [← v.len]; omega
  have h1 := (v.at' _ hl).2.1
  have h2 := (v.at' _ hr).2.1
  unfold mergeP
  rw [getD_app_l hl, getD_app_l hr, List.map_append]
  congr 1
  have : ∀ x ∈ t, (if decide (x = max (s.getD p.1.toNat default) (s.getD p.2.toNat default)) = true then min (s.getD p.1.toNat default) (s.getD p.2.toNat default) else x) = x := fun x hx => by
    have := ht x hx
    rw [if_neg]
    rw [decide_eq_true_eq]
    intro e
    rcases Int.le_total (s.getD p.1.toNat default) (s.getD p.2.toNat default) with h | h
    · rw [Int.max_eq_right h] at e; omega
    · rw [Int.max_eq_left h] at e; omega
  rw [List.map_congr_left this, List.map_id']
theorem merges_app {kinds : List Str} : ∀ {ps : List (Int × Int)} {s t : List Int}, VS kinds s → (∀ p ∈ ps, PairOk kinds p) → (∀ x ∈ t, (s.length : Int) ≤ x) → ps.foldl mergeP (s ++ t) = ps.foldl mergeP s ++ t
  | [], _, _, _, _, _ => rfl
  | p :: ps, s, t, v, h, ht => by
    rw [List.foldl_cons, List.foldl_cons, merge_app v (h p (.head _)) ht]
    exact merges_app (v.merge (h p (.head _))) (fun q hq => h q (.tail _ hq)) (by rw [merge_len]; exact ht)
theorem firsts_more {kinds new : List Str} {ps later : List (Int × Int)} (h : ∀ p ∈ ps, PairOk kinds p) :
    firstsS ((kinds.length : Int) + new.length) (ps ++ later) = later.foldl mergeP (firstsS kinds.length ps ++ rangeI kinds.length (kinds.length + new.length)) := by
  unfold firstsS
  rw [List.foldl_append, map_id'', map_id'', range_split, merges_app (VS.range kinds) h (fun x hx => ?_)]
  have := (rangeI_mem hx).1
  rw [rangeI_len]
  omega
/-- what is the same stays the same -/
theorem merges_same : ∀ {ps : List (Int × Int)} {s : List Int} {m n : Nat}, m < s.length → n < s.length → s.getD m default = s.getD n default → (ps.foldl mergeP s).getD m default = (ps.foldl mergeP s).getD n default
  | [], _, _, _, _, _, h => h
  | p :: ps, s, m, n, hm, hn, h => by
    rw [List.foldl_cons]
    exact merges_same (by rw [merge_len]; exact hm) (by rw [merge_len]; exact hn) (by rw [merge_at hm, merge_at hn, h])
/-! ### facts -/
def mapF (s : List Int) (f : FACT) : FACT := (f.1, f.2.map fun n => s.getD n.toNat default)
def putS (s : List Int) (es : List (FACT × Bool)) (f : FACT) : List (FACT × Bool) := dPut es (mapF s f) true
def toldS (s : List Int) (fs : List FACT) : List FACT := ((fs.foldl (putS s) []).map (·.1)).mergeSort (leT eF)
theorem ordF : EncOrd eF := EncOrd.pair EncOrd.str (EncOrd.vt EncOrd.int (dep_le dep_int (by decide))) (dep_le dep_str (by decide)) (dep_le (dep_vt dep_int) (by decide))
theorem eqF : EncEq eF := EncEq.pair EncEq.str (EncEq.vt EncEq.int 1 dep_int (by decide)) 2 (dep_le dep_str (by decide)) (dep_le (dep_vt dep_int) (by decide)) (by decide)
theorem told_mem {s : List Int} {fs : List FACT} {a : FACT} : a ∈ toldS s fs ↔ ∃ f ∈ fs, mapF s f = a := by
  unfold toldS
  rw [mem_sort]
  have := puts_mem (f := mapF s) (g := fun _ => true) (a := a) (xs := fs) (es := [])
  refine Iff.trans this ?_
  simp
theorem told_strict (s : List Int) (fs : List FACT) : Strict eF (toldS s fs) := sort_strict ordF eqF (puts_nodup (f := mapF s) (g := fun _ => true) (xs := fs) (es := []) List.nodup_nil)
theorem told_len (s : List Int) (fs : List FACT) : (toldS s fs).length ≤ fs.length := by
  unfold toldS
  rw [List.length_mergeSort, List.length_map]
  have := puts_len (f := mapF s) (g := fun _ => true) fs []
  rw [List.length_nil, Nat.zero_add] at this
  exact this
def InF (k : Nat) (fs : List FACT) : Prop := ∀ f ∈ fs, ∀ n ∈ f.2, 0 ≤ n ∧ n < (k : Int)
theorem told_more {kinds : List Str} {s t s2 : List Int} {later : List (Int × Int)} {given added : List FACT} (v : VS kinds s) (hg : InF kinds.length given) (e2 : s2 = later.foldl mergeP (s ++ t)) :
    toldS s2 (toldS s given ++ added) = toldS s2 (given ++ added) := by
  have key : ∀ g ∈ given, mapF s2 (mapF s g) = mapF s2 g := fun g hg' => by
    unfold mapF
    rw [List.map_map]
    refine congrArg (Prod.mk g.1) (List.map_congr_left fun n hn => ?_)
    obtain ⟨n0, n1⟩ := hg g hg' n hn
    have hn1 : n.toNat < s.length := by rw [← v.len]; omega
    have hv := v.at' _ hn1
    have hm : (s.getD n.toNat default).toNat < s.length := by omega
    show s2.getD (s.getD n.toNat default).toNat default = s2.getD n.toNat default
    rw [e2]
    refine merges_same (by rw [List.length_append]; omega) (by rw [List.length_append]; omega) ?_
    rw [getD_app_l hm, getD_app_l hn1, hv.2.2.1]
  refine strict_ext (told_strict _ _) (told_strict _ _) fun a => ?_
  rw [told_mem, told_mem]
  constructor
  · rintro ⟨f, hf, e⟩
    rcases List.mem_append.mp hf with hf | hf
    · obtain ⟨g, hg', rfl⟩ := told_mem.mp hf
      exact ⟨g, List.mem_append_left _ hg', by rw [← key g hg']; exact e⟩
    · exact ⟨f, List.mem_append_right _ hf, e⟩
  · rintro ⟨f, hf, e⟩
    rcases List.mem_append.mp hf with hf | hf
    · exact ⟨mapF s f, List.mem_append_left _ (told_mem.mpr ⟨f, hf, rfl⟩), by rw [key f hf]; exact e⟩
    · exact ⟨f, List.mem_append_right _ hf, e⟩
/-! ### the rule of worlds -/
def badS (kinds : List Str) (s : List Int) (n : Nat) : Prop := s.getD n default < 0 ∨ (n : Int) < s.getD n default ∨ s.getD (s.getD n default).toNat default ≠ s.getD n default ∨ kinds.getD (s.getD n default).toNat default ≠ kinds.getD n default
def badF (s : List Int) (fs : List FACT) (k : Nat) : Prop := (∃ n ∈ (fs.getD k default).2, n < 0 ∨ (s.length : Int) ≤ n ∨ s.getD n.toNat default ≠ n) ∨ (0 < k ∧ ltT eF (fs.getD (k - 1) default) (fs.getD k default) = false)
inductive FaultR (kinds : List Str) (s : List Int) (fs : List FACT) : Option (Str × Int) → Prop
  | len (h : kinds.length ≠ s.length) : FaultR kinds s fs (some ("same", min (kinds.length : Int) s.length))
  | same (h : kinds.length = s.length) (n : Nat) (hn : n < s.length) (b : badS kinds s n) (hm : ∀ m, m < n → ¬ badS kinds s m) : FaultR kinds s fs (some ("same", (n : Int)))
  | fact (h : kinds.length = s.length) (hs : ∀ n, n < s.length → ¬ badS kinds s n) (k : Nat) (hk : k < fs.length) (b : badF s fs k) (hj : ∀ j, j < k → ¬ badF s fs j) : FaultR kinds s fs (some ("fact", (k : Int)))
  | ok (h : kinds.length = s.length) (hs : ∀ n, n < s.length → ¬ badS kinds s n) (hf : ∀ k, k < fs.length → ¬ badF s fs k) : FaultR kinds s fs none
theorem FaultR.uniq {kinds : List Str} {s : List Int} {fs : List FACT} {a b : Option (Str × Int)} (x : FaultR kinds s fs a) (y : FaultR kinds s fs b) : a = b := by
  cases x with
  | len h => cases y with
    | len h2 => rfl
    | _ => exact absurd (by assumption) h
  | same h n hn b hm => cases y with
    | len h2 => exact absurd h h2
    | same h2 n2 hn2 b2 hm2 =>
      have : n = n2 := by
        rcases Nat.lt_trichotomy n n2 with q | q | q
        · exact absurd b (hm2 n q)
        · exact q
        · exact absurd b2 (hm n2 q)
      rw [this]
    | fact h2 hs2 k hk b2 hj => exact absurd b (hs2 n hn)
    | ok h2 hs2 hf => exact absurd b (hs2 n hn)
  | fact h hs k hk b hj => cases y with
    | len h2 => exact absurd h h2
    | same h2 n2 hn2 b2 hm2 => exact absurd b2 (hs n2 hn2)
    | fact h2 hs2 k2 hk2 b2 hj2 =>
      have : k = k2 := by
        rcases Nat.lt_trichotomy k k2 with q | q | q
        · exact absurd b (hj2 k q)
        · exact q
        · exact absurd b2 (hj k2 q)
      rw [this]
    | ok h2 hs2 hf => exact absurd b (hf k hk)
  | ok h hs hf => cases y with
    | len h2 => exact absurd h h2
    | same h2 n2 hn2 b2 hm2 => exact absurd b2 (hs n2 hn2)
    | fact h2 hs2 k2 hk2 b2 hj2 => exact absurd b2 (hf k2 hk2)
    | ok h2 hs2 hf2 => rfl
/-- a told fault: its part is short, its place no big number -/
theorem FaultR.small {kinds : List Str} {s : List Int} {fs : List FACT} {p : Str × Int} (h : FaultR kinds s fs (some p)) (h1 : kinds.length ≤ 1000000) (h2 : s.length ≤ 1000000) (h3 : fs.length ≤ 1000000) : p.1.length ≤ 100000 ∧ 0 ≤ p.2 ∧ p.2 ≤ 1000000 := by
  cases h with
  | len h => exact ⟨(by decide : Str.length "same" ≤ 100000), by simp only [Int.le_min]; omega, Int.le_trans (Int.min_le_left ..) (by omega)⟩
  | same h n hn => exact ⟨(by decide : Str.length "same" ≤ 100000), by show (0 : Int) ≤ n; omega, by show (n : Int) ≤ _; omega⟩
  | fact h hs k hk => exact ⟨(by decide : Str.length "fact" ≤ 100000), by show (0 : Int) ≤ k; omega, by show (k : Int) ≤ _; omega⟩
structure VW (kinds : List Str) (s : List Int) (fs : List FACT) : Prop where
  vs : VS kinds s
  inn : ∀ f ∈ fs, ∀ n ∈ f.2, 0 ≤ n ∧ n < (s.length : Int) ∧ s.getD n.toNat default = n
  st : Strict eF fs
theorem VW.told {kinds : List Str} {s : List Int} {fs : List FACT} (v : VS kinds s) (h : InF kinds.length fs) : VW kinds s (toldS s fs) := by
  refine ⟨v, fun f hf n hn => ?_, told_strict _ _⟩
  obtain ⟨g, hg, rfl⟩ := told_mem.mp hf
  obtain ⟨m, hm, rfl⟩ := List.mem_map.mp hn
  obtain ⟨m0, m1⟩ := h g hg m hm
  have hv := v.at' m.toNat (by rw [← v.len]; omega)
  have hL := v.len
  exact ⟨hv.1, by omega, hv.2.2.1⟩
theorem VS.good {kinds : List Str} {s : List Int} (v : VS kinds s) : ∀ n, n < s.length → ¬ badS kinds s n := fun n hn b => by
  have hv := v.at' n hn
  rcases b with b | b | b | b
  · exact absurd hv.1 (by omega)
  · exact absurd hv.2.1 (by omega)
  · exact b hv.2.2.1
  · exact b hv.2.2.2
theorem VW.fault {kinds : List Str} {s : List Int} {fs : List FACT} (v : VW kinds s fs) : FaultR kinds s fs none := by
  refine .ok v.vs.len v.vs.good fun k hk b => ?_
  rcases b with ⟨n, hn, b⟩ | ⟨h0, b⟩
  · obtain ⟨a1, a2, a3⟩ := v.inn _ (getD_mem hk) n hn
    rcases b with b | b | b
    · omega
    · omega
    · exact b a3
  · have h1 : k - 1 < fs.length := by omega
    have := List.pairwise_iff_getElem.mp v.st (k - 1) k h1 hk (by omega)
    rw [getD_of (List.getElem?_eq_getElem h1), getD_of (List.getElem?_eq_getElem hk), this] at b
    cases b
theorem VW.of {kinds : List Str} {s : List Int} {fs : List FACT} (h : FaultR kinds s fs none) : VS kinds s ∧ ∀ f ∈ fs, ∀ n ∈ f.2, 0 ≤ n ∧ n < (s.length : Int) ∧ s.getD n.toNat default = n := by
  cases h with
  | ok h hs hf =>
    refine ⟨⟨h, fun n hn => ?_⟩, fun f hf' n hn => ?_⟩
    · have := hs n hn
      unfold badS at this
      simp only [not_or, Decidable.not_not] at this
      exact ⟨by omega, by omega, this.2.2.1, this.2.2.2⟩
    · obtain ⟨k, hk, rfl⟩ := List.getElem_of_mem hf'
      have := hf k hk
      unfold badF at this
      rw [not_or] at this
      have h1 := this.1
      rw [getD_of (List.getElem?_eq_getElem hk)] at h1
      have h2 : ¬ (n < 0 ∨ (s.length : Int) ≤ n ∨ s.getD n.toNat default ≠ n) := fun q => h1 ⟨n, hn, q⟩
      simp only [not_or, Decidable.not_not] at h2
      exact ⟨by omega, by omega, h2.2.2⟩
end K05
set_option maxHeartbeats 1000000
namespace K05
open PySem PySem.Spec PyProof.Rows L2 PD
variable (c_ : Cs)
abbrev No : Unit → Prop := fun _ => False
/-! ### the drawing -/
theorem cell_ok (ns : List Int) {k : Int} (h : 0 ≤ k) : (lo_law_cell c_ ns k).wp No fun _ => True := by
  unfold lo_law_cell
  refine wp_bind (wp_if (fun hc => wp_grd ⟨h, of_decide_eq_true hc, trivial⟩ (wp_ret trivial)) fun _ => wp_next (wp_ret trivial))
theorem take_ok (row : List Int) {many : Int} (h : 0 < many) : (lo_law_take c_ row many).wp No fun r => 0 ≤ r.1 ∧ r.1 < many := by
  unfold lo_law_take
  refine wp_bind (wp_if (fun _ => wp_ret ⟨Int.le_refl _, h⟩) fun hc => wp_next (wp_grd ⟨?_, h, trivial⟩ (wp_ret ⟨Int.emod_nonneg _ (by omega), Int.emod_lt_of_pos _ h⟩)))
  have := of_decide_eq_false hc
  omega
theorem takeR (row : List Int) {many : Int} (h : 0 < many) : (lo_law_take c_ row many).IsRet := (take_ok c_ row h).isRet
theorem take0 (row : List Int) {many : Int} (h : 0 < many) : 0 ≤ (law_take c_ row many).1 := (take_ok c_ row h).get.1
theorem take1 (row : List Int) {many : Int} (h : 0 < many) : (law_take c_ row many).1 < many := (take_ok c_ row h).get.2
theorem digits_ok (cell : Int) {many : Int} (h0 : 0 ≤ many) (h1 : many ≤ 1000) : (lo_law_digits c_ cell many).wp No fun _ => True := by
  unfold lo_law_digits
  refine wp_set (wp_set (wp_seq (fun _ => True) (wp_if (fun _ => wp_set (wp_next trivial)) fun _ => wp_next trivial) fun rest _ => ?_))
  · refine wp_set (wp_grd ⟨⟨by omega, by omega⟩, trivial⟩ (wp_bind (wp_for (fun d s => s.1.length = d.length) rfl (fun d x r s e hs => ?_) fun s _ => ?_)))
    · have hx := rangeI_mem (by rw [e]; simp : x ∈ rangeI 0 many)
      have hl : d.length < 1000 := by
        have := congrArg List.length e
        rw [rangeI_len, List.length_append, List.length_cons] at this
        omega
      obtain ⟨row, rest, seed⟩ := s
      have hs : row.length = d.length := hs
      refine wp_seq (fun s => s.1.length = d.length + 1) (wp_if (fun _ => ?_) fun _ => ?_) fun s h => ?_
      · exact wp_grd ⟨by omega, trivial⟩ (wp_set (wp_set (wp_next (by simp [hs]))))
      · exact wp_set (wp_grd ⟨.inl ⟨by omega, by omega⟩, by omega, trivial⟩ (wp_set (wp_next (by simp [hs]))))
      · exact wp_next (by rw [List.length_append]; exact h)
    · exact wp_ret trivial
theorem words_ok (row : List Int) : (lo_law_words c_ row 8).wp No fun r => r.1.length = 8 := by
  unfold lo_law_words
  refine wp_set (wp_grd ⟨takeR c_ row (by decide), trivial⟩ (wp_set ?_))
  refine wp_set (wp_grd ⟨by decide, trivial⟩ (wp_bind (wp_for (fun d s => s.2.length = d.length) rfl (fun d x r s e hs => ?_) fun s hs => ?_)))
  · have hx := rangeI_mem (by rw [e]; simp : x ∈ rangeI 0 8)
    have hl : d.length < 8 := by
      have := congrArg List.length e
      rw [rangeI_len, List.length_append, List.length_cons] at this
      omega
    obtain ⟨row, told⟩ := s
    have hs : told.length = d.length := hs
    have hL : Str.length ("abcdefghijklmnopqrstuvwxyz" : Str) = 26 := by decide
    refine wp_grd ⟨takeR c_ row (by decide), trivial⟩ (wp_set ?_)
    have t0 := take0 c_ row (many := 840) (by decide)
    have t1 := take1 c_ row (many := 840) (by decide)
    generalize (law_take c_ row 840).1 = v at t0 t1
    have a1 : 0 ≤ v % 26 ∧ v % 26 < 26 := ⟨by omega, by omega⟩
    have a2 : 0 ≤ v / 26 % 26 ∧ v / 26 % 26 < 26 := ⟨by omega, by omega⟩
    have a3 : 0 ≤ v % 3 ∧ v % 3 < 3 := ⟨by omega, by omega⟩
    have b2 : (strAt ("abcdefghijklmnopqrstuvwxyz" : Str) (v % 26) ++ strAt "abcdefghijklmnopqrstuvwxyz" (v / 26 % 26)).length = 2 := by
      rw [strApp_len, strAt_len, strAt_len]
    refine wp_grd ⟨a1.1, by rw [hL]; exact a1.2, by rw [hL]; decide, a2.1, by rw [hL]; exact a2.2, by rw [strAt_len, strAt_len]; decide, by rw [b2]; decide, a3.1, by omega, trivial⟩ (wp_set ?_)
    have b3 := strRep_le (x := strAt ("abcdefghijklmnopqrstuvwxyz" : Str) (v % 26) ++ strAt "abcdefghijklmnopqrstuvwxyz" (v / 26 % 26)) (n := v % 3) (k := 2) (m := 3) (by rw [b2]; decide) (by omega)
    refine wp_seq (fun s => s.length = d.length + 1) (wp_if (fun _ => ?_) fun _ => ?_) fun s h => ?_
    · exact wp_grd ⟨hx.1, by rw [hL]; omega, by rw [hL]; decide, by rw [strAt_len]; omega, by omega, trivial⟩ (wp_set (wp_next (by simp [hs])))
    · exact wp_grd ⟨hx.1, by rw [hL]; omega, by rw [hL]; decide, by rw [strAt_len]; omega, by omega, trivial⟩ (wp_set (wp_next (by simp [hs])))
    · exact wp_next (by rw [List.length_append]; exact h)
  · exact wp_ret (by rw [hs, rangeI_len]; rfl)
theorem kinds_ok (row : List Int) (words : List Str) {count : Int} (hw : words.length = 8) (h0 : 0 ≤ count) (h1 : count ≤ 1000) : (lo_law_kinds c_ row words count).wp No fun r => (r.1.length : Int) = count := by
  unfold lo_law_kinds
  refine wp_grd ⟨⟨by omega, by omega⟩, fun row k _ => ⟨takeR c_ row (by decide), take0 c_ row (by decide), ?_, trivial⟩, trivial⟩ (wp_ret ?_)
  · have := take1 c_ row (many := 3) (by decide)
    rw [hw]; omega
  · show ((compL (cs1_law_kinds c_ words) (rangeI 0 count) row).2.length : Int) = count
    rw [compL_len (fun s x => rfl), rangeI_len]
    omega
theorem pairs_ok (row : List Int) (kinds : List Str) {most : Int} (h0 : 0 ≤ most) (h1 : most ≤ 1000) (hk : kinds.length ≤ 1000) : (lo_law_pairs c_ row kinds most).wp No fun r => r.1.length ≤ 1000 ∧ ∀ p ∈ r.1, PairOk kinds p := by
  unfold lo_law_pairs
  have t0 := take0 c_ row (many := most + 1) (by omega)
  have t1 := take1 c_ row (many := most + 1) (by omega)
  refine wp_set (wp_grd ⟨takeR c_ row (by omega), ⟨by omega, by omega⟩, trivial⟩ (wp_bind (wp_for (fun d s => s.2.length ≤ d.length ∧ ∀ p ∈ s.2, PairOk kinds p) ⟨Nat.le_refl _, fun _ h => nomatch h⟩ (fun d x r s e hs => ?_) fun s hs => ?_)))
  · have hl : d.length < 1001 := by
      have := congrArg List.length e
      rw [rangeI_len, List.length_append, List.length_cons] at this
      omega
    obtain ⟨row, ps⟩ := s
    have hs : ps.length ≤ d.length ∧ ∀ p ∈ ps, PairOk kinds p := hs
    refine wp_seq (fun s => s.2.length ≤ d.length + 1 ∧ ∀ p ∈ s.2, PairOk kinds p) (wp_if (fun hc => ?_) fun _ => ?_) fun s h => ?_
    · have hc := of_decide_eq_true hc
      refine wp_grd ⟨takeR c_ row hc, trivial⟩ (wp_set ?_)
      have l0 := take0 c_ row hc
      have l1 := take1 c_ row hc
      generalize (law_take c_ row (kinds.length : Int)).2 = row1
      generalize (law_take c_ row (kinds.length : Int)).1 = left at l0 l1
      refine wp_grd ⟨⟨by omega, by omega⟩, fun n hn => ⟨(rangeI_mem hn).1, (rangeI_mem hn).2, l0, l1, trivial⟩, trivial⟩ (wp_set ?_)
      generalize hlike : (((rangeI 0 (kinds.length : Int)).filter fun (v_n : Int) => (decide ((kinds.getD (v_n).toNat default) = (kinds.getD (left).toNat default)))).map fun (v_n : Int) => v_n) = like
      have hm : ∀ n, n ∈ like ↔ (0 ≤ n ∧ n < (kinds.length : Int)) ∧ kinds.getD n.toNat default = kinds.getD left.toNat default := fun n => by
        rw [← hlike, List.map_id', List.mem_filter, decide_eq_true_eq, rangeI_iff]
      have hne : (0 : Int) < like.length := by
        have := (hm left).mpr ⟨⟨l0, l1⟩, rfl⟩
        have := List.length_pos_of_mem this
        omega
      have r0 := take0 c_ row1 hne
      have r1 := take1 c_ row1 hne
      refine wp_grd ⟨takeR c_ row1 hne, r0, r1, by omega, trivial⟩ (wp_set (wp_next ⟨?_, fun p hp => ?_⟩))
      · show (ps ++ [_]).length ≤ _
        rw [List.length_append]; exact Nat.succ_le_succ hs.1
      · rcases List.mem_append.mp hp with hp | hp
        · exact hs.2 p hp
        · cases List.mem_singleton.mp hp
          have := (hm _).mp (getD_mem (s := like) (n := ((law_take c_ row1 (like.length : Int)).1).toNat) (by omega))
          exact ⟨⟨l0, l1⟩, this.1, this.2.symm⟩
    · exact wp_next ⟨Nat.le_succ_of_le hs.1, hs.2⟩
    · exact wp_next ⟨by rw [List.length_append]; exact h.1, h.2⟩
  · refine wp_ret ⟨?_, hs.2⟩
    have := hs.1
    rw [rangeI_len] at this
    show s.2.length ≤ 1000
    omega
theorem facts_ok (row : List Int) (words kinds : List Str) {most : Int} (h0 : 0 ≤ most) (h1 : most ≤ 1000) (hw : words.length = 8) : (lo_law_facts c_ row words kinds most).wp No fun r => r.1.length ≤ 1000 ∧ InF kinds.length r.1 := by
  unfold lo_law_facts
  have t0 := take0 c_ row (many := most + 1) (by omega)
  have t1 := take1 c_ row (many := most + 1) (by omega)
  refine wp_set (wp_grd ⟨takeR c_ row (by omega), ⟨by omega, by omega⟩, trivial⟩ (wp_bind (wp_for (fun d s => s.2.length ≤ d.length ∧ InF kinds.length s.2) ⟨Nat.le_refl _, fun _ h => nomatch h⟩ (fun d x r s e hs => ?_) fun s hs => ?_)))
  · have hl : d.length < 1001 := by
      have := congrArg List.length e
      rw [rangeI_len, List.length_append, List.length_cons] at this
      omega
    obtain ⟨row, fs⟩ := s
    have hs : fs.length ≤ d.length ∧ InF kinds.length fs := hs
    refine wp_grd ⟨takeR c_ row (by decide), trivial⟩ (wp_set ?_)
    have d0 := take0 c_ row (many := 4) (by decide)
    have d1 := take1 c_ row (many := 4) (by decide)
    generalize (law_take c_ row (4 : Int)).2 = row1
    generalize (law_take c_ row (4 : Int)).1 = v at d0 d1
    refine wp_seq (fun s => s.1.length ≤ d.length + 1 ∧ InF kinds.length s.1) (wp_if (fun hc => ?_) fun _ => ?_) fun s h => ?_
    · have hc2 : ∀ p : Int, p ∈ rangeI 0 v → (0 : Int) < kinds.length := fun p hp => by
        rcases Bool.or_eq_true_iff.mp hc with h | h
        · exact of_decide_eq_true h
        · have := of_decide_eq_true h
          have := rangeI_mem hp
          omega
      refine wp_grd ⟨by omega, by rw [hw]; omega, ⟨by omega, by omega⟩, fun row p hp => ⟨takeR c_ row (hc2 p hp), trivial⟩, by omega, trivial⟩ (wp_set (wp_next ⟨?_, fun f hf => ?_⟩))
      · show (fs ++ [_]).length ≤ _
        rw [List.length_append]; exact Nat.succ_le_succ hs.1
      · rcases List.mem_append.mp hf with hf | hf
        · exact hs.2 f hf
        · cases List.mem_singleton.mp hf
          refine compL_all _ _ fun s p hp y hy => ?_
          cases hy
          exact ⟨take0 c_ s (hc2 p hp), take1 c_ s (hc2 p hp)⟩
    · exact wp_next ⟨Nat.le_succ_of_le hs.1, hs.2⟩
    · exact wp_next ⟨by rw [List.length_append]; exact h.1, h.2⟩
  · refine wp_ret ⟨?_, hs.2⟩
    have := hs.1
    rw [rangeI_len] at this
    show s.2.length ≤ 1000
    omega
/-! ### merged pairs, told facts -/
theorem merge_step (st : List Int → (Int × Int) → LO (List Int) (List Int) (List Int)) : True := trivial
theorem firsts_ok {count : Int} {ps : List (Int × Int)} (h0 : 0 ≤ count) (h1 : count ≤ 100000) (hp : ∀ p ∈ ps, (0 ≤ p.1 ∧ p.1 < count) ∧ (0 ≤ p.2 ∧ p.2 < count)) : (lo_law_firsts c_ count ps).wp No fun r => r = firstsS count ps := by
  unfold lo_law_firsts
  refine wp_grd ⟨⟨by omega, by omega⟩, trivial⟩ (wp_set (wp_bind (wp_for (fun d s => s = d.foldl mergeP ((rangeI 0 count).map fun n => n)) rfl (fun d x r s e hs => ?_) fun s hs => wp_ret hs)))
  obtain ⟨l, r⟩ := x
  have hx := hp (l, r) (by rw [e]; simp)
  have hl : (s.length : Int) = count := by rw [hs, merges_len, List.length_map, rangeI_len]; omega
  obtain ⟨⟨l0, l1⟩, r0, r1⟩ := hx
  have l1 : l < count := l1
  have r1 : r < count := r1
  refine wp_grd ⟨l0, by omega, r0, by omega, trivial⟩ (wp_set (wp_grd ⟨l0, by omega, r0, by omega, trivial⟩ (wp_set (wp_set (wp_next ?_)))))
  rw [List.foldl_append, ← hs]
  rfl
theorem told_ok {s : List Int} {fs : List FACT} (h : InF s.length fs) (hl : fs.length ≤ 1000000) : (lo_law_told c_ s fs).wp No fun r => r = toldS s fs := by
  unfold lo_law_told
  refine wp_set (wp_bind (wp_for (fun d es => es = d.foldl (putS s) [] ∧ es.length ≤ d.length) ⟨rfl, Nat.le_refl _⟩ (fun d x r es e hs => ?_) fun s hs => wp_ret (by rw [hs.1]; rfl)))
  have hd : d.length < 1000000 := by
    have := congrArg List.length e
    rw [List.length_append, List.length_cons] at this
    omega
  have hx := h x (by rw [e]; simp)
  obtain ⟨a, ns⟩ := x
  refine wp_grd ⟨fun n hn => ⟨(hx n hn).1, (hx n hn).2, trivial⟩, by omega, trivial⟩ (wp_set (wp_next ⟨?_, ?_⟩))
  · rw [List.foldl_append, ← hs.1]; rfl
  · rw [List.length_append]
    exact Nat.le_trans (put_len _ _ _) (Nat.succ_le_succ hs.2)
end K05
set_option maxHeartbeats 1000000
namespace K05
open PySem PySem.Spec PyProof.Rows L2 PD
variable (c_ : Cs)
theorem enum_at {α : Type} [Inhabited α] {xs d r : List (Int × α)} {s : List α} {x : Int × α} (e : enumL s = d ++ x :: r) : x.1 = (d.length : Int) ∧ d.length < s.length ∧ s.getD d.length default = x.2 := by
  have h : (enumL s)[d.length]? = some x := by rw [e]; simp
  have h1 := enumL_at.mp h
  exact ⟨h1.1, (List.getElem?_eq_some_iff.mp h1.2).1, getD_of h1.2⟩
theorem range_at {k : Nat} {d r : List Int} {x : Int} (e : rangeI 0 (k : Int) = d ++ x :: r) : x = (d.length : Int) ∧ d.length < k := by
  have h : (rangeI 0 (k : Int))[d.length]? = some x := by rw [e]; simp
  have h1 := rangeI_at h
  exact ⟨by omega, by omega⟩
theorem last_not {P : Nat → Prop} {n : Nat} (h : ∀ m, m < n → P m) (hn : P n) : ∀ m, m < n + 1 → P m := fun m hm => by
  rcases Nat.lt_succ_iff_lt_or_eq.mp hm with h2 | rfl
  · exact h m h2
  · exact hn
theorem wrf_ok {kinds : List Str} {s : List Int} {fs : List FACT} : (lo_world_rule_fault c_ kinds s fs).wp No fun o => FaultR kinds s fs o := by
  unfold lo_world_rule_fault
  refine wp_seq (fun _ => kinds.length = s.length) (wp_if (fun hc => wp_ret ?_) fun hc => wp_next ?_) fun _ hL => ?_
  · rw [Int.min_comm]
    refine .len ?_
    have := of_decide_eq_false (Bool.not_eq_true' _ ▸ hc : decide ((s.length : Int) = (kinds.length : Int)) = false)
    omega
  · have : decide ((s.length : Int) = (kinds.length : Int)) = true := by cases q : decide ((s.length : Int) = (kinds.length : Int)) <;> simp_all
    have := of_decide_eq_true this
    omega
  refine wp_seq (fun _ => ∀ n, n < s.length → ¬ badS kinds s n) (wp_for (fun d _ => ∀ n, n < d.length → ¬ badS kinds s n) (fun n h => absurd h (Nat.not_lt_zero _)) (fun d x r st e hI => ?_) fun _ h => ?_) fun _ hS => ?_
  · obtain ⟨x1, x2, x3⟩ := enum_at (xs := []) e
    obtain ⟨a, low⟩ := x
    have x1 : a = (d.length : Int) := x1
    have x3 : s.getD d.length default = low := x3
    subst x1
    have hlow : (!(decide ((0 : Int) ≤ low) && decide (low ≤ (d.length : Int)))) = false → (0 ≤ low ∧ low ≤ (d.length : Int)) := fun h => by
      simpa using h
    refine wp_grd ⟨fun h => ⟨(hlow h).1, by have := (hlow h).2; omega, fun h2 => ⟨(hlow h).1, by have := (hlow h).2; omega, by omega, by omega, trivial⟩, trivial⟩, trivial⟩ ?_
    refine wp_bind (wp_if (fun hc => wp_ret ?_) fun hc => wp_next (wp_next ?_))
    · refine .same hL d.length x2 ?_ hI
      unfold badS
      rw [x3]
      simp only [Bool.or_eq_true, Bool.not_eq_true', Bool.and_eq_false_iff, decide_eq_false_iff_not, Int.toNat_natCast] at hc
      rcases hc with (hc | hc) | hc | hc
      · left; omega
      · right; left; omega
      · exact .inr (.inr (.inl hc))
      · exact .inr (.inr (.inr hc))
    · rw [List.length_append]
      refine last_not hI fun b => ?_
      unfold badS at b
      rw [x3] at b
      simp only [Bool.or_eq_false_iff, Bool.not_eq_false', Bool.and_eq_true, decide_eq_true_eq, Int.toNat_natCast] at hc
      obtain ⟨⟨h1, h2⟩, h3, h4⟩ := hc
      rcases b with b | b | b | b
      · omega
      · omega
      · exact b h3
      · exact b h4
  · rw [enumL_len] at h; exact h
  refine wp_seq (fun _ => ∀ n, n < fs.length → ¬ badF s fs n) (wp_for (fun d _ => ∀ n, n < d.length → ¬ badF s fs n) (fun n h => absurd h (Nat.not_lt_zero _)) (fun d x r st e hI => ?_) fun _ h => ?_) fun _ hF => wp_ret (.ok hL hS hF)
  · obtain ⟨x1, x2, x3⟩ := enum_at (xs := []) e
    obtain ⟨a, sg, ns⟩ := x
    have x1 : a = (d.length : Int) := x1
    have x3 : fs.getD d.length default = (sg, ns) := x3
    subst x1
    refine wp_grd ⟨fun n hn => ⟨fun h => ?_, trivial⟩, trivial⟩ ?_
    · simp only [Bool.and_eq_true, decide_eq_true_eq] at h
      exact ⟨h.1, h.2, trivial⟩
    refine wp_seq (fun _ => ∀ n ∈ ns, ¬ (n < 0 ∨ (s.length : Int) ≤ n ∨ s.getD n.toNat default ≠ n)) (wp_if (fun hc => wp_ret ?_) fun hc => wp_next ?_) fun _ hN => ?_
    · refine .fact hL hS d.length x2 (.inl ?_) hI
      rw [x3]
      rw [Bool.not_eq_true'] at hc
      obtain ⟨b, hb, hb2⟩ := List.all_eq_false.mp hc
      obtain ⟨n, hn, rfl⟩ := List.mem_map.mp hb
      refine ⟨n, hn, ?_⟩
      simp only [id_eq, Bool.and_eq_true, decide_eq_true_eq] at hb2
      by_cases h1 : n < 0
      · exact .inl h1
      by_cases h2 : (s.length : Int) ≤ n
      · exact .inr (.inl h2)
      exact .inr (.inr fun h3 => hb2 ⟨⟨by omega, by omega⟩, h3⟩)
    · rw [Bool.not_eq_false'] at hc
      intro n hn hb
      have := List.all_eq_true.mp hc _ (List.mem_map.mpr ⟨n, hn, rfl⟩)
      simp only [id_eq, Bool.and_eq_true, decide_eq_true_eq] at this
      rcases hb with hb | hb | hb
      · omega
      · omega
      · exact hb this.2
    refine wp_grd ⟨fun h => ?_, trivial⟩ (wp_bind (wp_if (fun hc => wp_ret ?_) fun hc => wp_next (wp_next ?_)))
    · have := of_decide_eq_true h
      exact ⟨by omega, by omega, by omega, by omega, trivial⟩
    · refine .fact hL hS d.length x2 (.inr ?_) hI
      simp only [Bool.and_eq_true, decide_eq_true_eq, Bool.not_eq_true'] at hc
      refine ⟨by omega, ?_⟩
      have e1 : ((d.length : Int) - 1).toNat = d.length - 1 := by omega
      rw [e1, Int.toNat_natCast] at hc
      exact hc.2
    · rw [List.length_append]
      refine last_not hI fun b => ?_
      rcases b with ⟨n, hn, b⟩ | ⟨h0, b⟩
      · rw [x3] at hn; exact hN n hn b
      · have e1 : ((d.length : Int) - 1).toNat = d.length - 1 := by omega
        rw [e1, Int.toNat_natCast, b] at hc
        rw [Bool.not_false, Bool.and_true] at hc
        have := of_decide_eq_false hc
        omega
  · rw [enumL_len] at h; exact h
theorem fault_ok {kinds : List Str} {s : List Int} {fs : List FACT} (h1 : s.length ≤ 1000000) (h2 : fs.length ≤ 1000000) : (lo_law_fault c_ kinds s fs).wp No fun o => FaultR kinds s fs o := by
  unfold lo_law_fault
  refine wp_seq (fun _ => kinds.length = s.length) (wp_if (fun hc => wp_ret ?_) fun hc => wp_next ?_) fun _ hL => ?_
  · refine .len ?_
    rw [Bool.not_eq_true'] at hc
    have := of_decide_eq_false hc
    omega
  · rw [Bool.not_eq_false'] at hc
    have := of_decide_eq_true hc
    omega
  refine wp_grd ⟨⟨by omega, by omega⟩, trivial⟩ (wp_seq (fun _ => ∀ n, n < s.length → ¬ badS kinds s n) (wp_for (fun d _ => ∀ n, n < d.length → ¬ badS kinds s n) (fun n h => absurd h (Nat.not_lt_zero _)) (fun d x r st e hI => ?_) fun _ h => ?_) fun _ hS => ?_)
  · obtain ⟨x1, x2⟩ := range_at e
    subst x1
    refine wp_grd ⟨by omega, by omega, fun _ => ⟨by omega, by omega, trivial⟩, trivial⟩ ?_
    rw [Int.toNat_natCast]
    refine wp_seq (fun _ => 0 ≤ s.getD d.length default ∧ s.getD d.length default ≤ (d.length : Int)) (wp_if (fun hc => wp_ret ?_) fun hc => wp_next ?_) fun _ hB => ?_
    · refine .same hL d.length x2 ?_ hI
      simp only [Bool.or_eq_true, decide_eq_true_eq] at hc
      rcases hc with hc | hc
      · exact .inl hc
      · exact .inr (.inl hc)
    · simp only [Bool.or_eq_false_iff, decide_eq_false_iff_not] at hc
      exact ⟨by omega, by omega⟩
    refine wp_grd ⟨by omega, by omega, hB.1, by omega, fun _ => ⟨by omega, by omega, hB.1, by omega, by omega, trivial⟩, trivial⟩ (wp_bind (wp_if (fun hc => wp_ret ?_) fun hc => wp_next (wp_next ?_)))
    · refine .same hL d.length x2 ?_ hI
      simp only [Bool.or_eq_true, Bool.not_eq_true', decide_eq_false_iff_not] at hc
      rcases hc with hc | hc
      · exact .inr (.inr (.inl hc))
      · exact .inr (.inr (.inr hc))
    · rw [List.length_append]
      refine last_not hI fun b => ?_
      simp only [Bool.or_eq_false_iff, Bool.not_eq_false', decide_eq_true_eq] at hc
      rcases b with b | b | b | b
      · omega
      · omega
      · exact b hc.1
      · exact b hc.2
  · rw [rangeI_len] at h
    have e : ((s.length : Int) - 0).toNat = s.length := by omega
    rw [e] at h; exact h
  refine wp_grd ⟨⟨by omega, by omega⟩, trivial⟩ (wp_seq (fun _ => ∀ n, n < fs.length → ¬ badF s fs n) (wp_for (fun d _ => ∀ n, n < d.length → ¬ badF s fs n) (fun n h => absurd h (Nat.not_lt_zero _)) (fun d x r st e hI => ?_) fun _ h => ?_) fun _ hF => wp_ret (.ok hL hS hF))
  · obtain ⟨x1, x2⟩ := range_at e
    subst x1
    refine wp_grd ⟨by omega, by omega, trivial⟩ ?_
    rw [Int.toNat_natCast]
    refine wp_seq (fun _ => ∀ n ∈ (fs.getD d.length default).2, ¬ (n < 0 ∨ (s.length : Int) ≤ n ∨ s.getD n.toNat default ≠ n)) (wp_for (fun d2 _ => ∀ n ∈ d2, ¬ (n < 0 ∨ (s.length : Int) ≤ n ∨ s.getD n.toNat default ≠ n)) (fun n h => nomatch h) (fun d2 n r2 st2 e2 hJ => ?_) fun _ h => h) fun _ hN => ?_
    · refine wp_grd ⟨fun h => ⟨fun h2 => ?_, trivial⟩, trivial⟩ (wp_bind (wp_if (fun hc => wp_ret ?_) fun hc => wp_next (wp_next ?_)))
      · have := of_decide_eq_false h
        have := of_decide_eq_false h2
        exact ⟨by omega, by omega, trivial⟩
      · refine .fact hL hS d.length x2 (.inl ⟨n, by rw [e2]; simp, ?_⟩) hI
        simpa using hc
      · intro m hm
        rcases List.mem_append.mp hm with hm | hm
        · exact hJ m hm
        · cases List.mem_singleton.mp hm
          simpa using hc
    refine wp_grd ⟨fun h => ?_, trivial⟩ (wp_bind (wp_if (fun hc => wp_ret ?_) fun hc => wp_next (wp_next ?_)))
    · have := of_decide_eq_true h
      exact ⟨by omega, by omega, by omega, by omega, trivial⟩
    · refine .fact hL hS d.length x2 (.inr ?_) hI
      simp only [Bool.and_eq_true, decide_eq_true_eq, Bool.not_eq_true'] at hc
      refine ⟨by omega, ?_⟩
      have e1 : ((d.length : Int) - 1).toNat = d.length - 1 := by omega
      rw [e1] at hc
      exact hc.2
    · rw [List.length_append]
      refine last_not hI fun b => ?_
      rcases b with ⟨n, hn, b⟩ | ⟨h0, b⟩
      · exact hN n hn b
      · have e1 : ((d.length : Int) - 1).toNat = d.length - 1 := by omega
        rw [e1, b] at hc
        rw [Bool.not_false, Bool.and_true] at hc
        have := of_decide_eq_false hc
        omega
  · rw [rangeI_len] at h
    have e : ((fs.length : Int) - 0).toNat = fs.length := by omega
    rw [e] at h; exact h
end K05
set_option maxHeartbeats 1000000
namespace K05
open PySem PySem.Spec PyProof.Rows L2 PD
variable (c_ : Cs)
/-! ### World -/
abbrev mkW (kinds : List Str) (s : List Int) (fs : List FACT) : T_World := (kinds, s, fs, dOf (fun (v_fact : FACT) => v_fact) (fun (v_fact : FACT) => true) fs)
theorem wrf_R (kinds : List Str) (s : List Int) (fs : List FACT) : (lo_world_rule_fault c_ kinds s fs).IsRet := (wrf_ok c_).isRet
theorem wrf_eq {kinds : List Str} {s : List Int} {fs : List FACT} {o : Option (Str × Int)} (h : FaultR kinds s fs o) : world_rule_fault c_ kinds s fs = o := FaultR.uniq (wrf_ok c_).get h
theorem init_ok {kinds : List Str} {s : List Int} {fs : List FACT} (h : FaultR kinds s fs none) : lo_World_init c_ kinds s fs = .next (mkW kinds s fs) := by
  unfold lo_World_init
  rw [grd_pos ⟨wrf_R c_ _ _ _, trivial⟩, wrf_eq c_ h]
  rfl
theorem log2_small {z : Int} (h0 : 0 ≤ z) (h1 : z ≤ 1000000) : z.natAbs.log2 < 1920 := by
  have h : z.natAbs ≤ 1000000 := by omega
  by_cases q : z.natAbs = 0
  · rw [q]; decide
  · exact Nat.lt_trans ((Nat.log2_lt (k := 20) q).mpr (Nat.lt_of_le_of_lt h (by decide))) (by decide)
theorem init_exc {kinds : List Str} {s : List Int} {fs : List FACT} {p : Str × Int} (h : FaultR kinds s fs (some p)) (h1 : kinds.length ≤ 1000000) (h2 : s.length ≤ 1000000) (h3 : fs.length ≤ 1000000) : lo_World_init c_ kinds s fs = .exc (eXsi c_.BadWorld "part" "at" p) := by
  unfold lo_World_init
  rw [grd_pos ⟨wrf_R c_ _ _ _, trivial⟩, wrf_eq c_ h]
  have z := h.small h1 h2 h3
  show (LO.bind (if true = true then grd _ _ else _) _) = _
  rw [if_pos rfl, grd_pos ⟨rfl, z.1, log2_small z.2.1 z.2.2, trivial⟩]
  rfl
theorem mk_ok {kinds : List Str} {s : List Int} {fs : List FACT} (h : FaultR kinds s fs none) : mk_World_init c_ kinds s fs = .ret (mkW kinds s fs) := by
  unfold mk_World_init
  rw [init_ok c_ h]; rfl
theorem mk_R {kinds : List Str} {s : List Int} {fs : List FACT} (h : FaultR kinds s fs none) : (mk_World_init c_ kinds s fs).IsRet := ⟨_, mk_ok c_ h⟩
theorem mk_get {kinds : List Str} {s : List Int} {fs : List FACT} (h : FaultR kinds s fs none) : World_init c_ kinds s fs = mkW kinds s fs := by
  unfold World_init
  rw [mk_ok c_ h]; rfl
theorem eq_R (a b : T_World) : (lo_World_eq c_ a b).IsRet := ⟨_, rfl⟩
theorem eq_val (a b : T_World) : World_eq c_ a b = (decide (a.1 = b.1) && (decide (a.2.1 = b.2.1) && decide (a.2.2.1 = b.2.2.1))) := by
  unfold World_eq lo_World_eq
  rw [Bool.true_and]; rfl
theorem cont_ok {w : T_World} {f : FACT} (h : ∀ n ∈ f.2, 0 ≤ n ∧ n < (w.2.1.length : Int)) : lo_World_contains c_ w f = .ret (dHas w.2.2.2 (mapF w.2.1 f)) := by
  unfold lo_World_contains
  rw [grd_pos ⟨fun n hn => ⟨(h n hn).1, (h n hn).2, trivial⟩, trivial⟩]
  rfl
theorem cont_R {w : T_World} {f : FACT} (h : ∀ n ∈ f.2, 0 ≤ n ∧ n < (w.2.1.length : Int)) : (lo_World_contains c_ w f).IsRet := ⟨_, cont_ok c_ h⟩
theorem cont_val {w : T_World} {f : FACT} (h : ∀ n ∈ f.2, 0 ≤ n ∧ n < (w.2.1.length : Int)) : World_contains c_ w f = dHas w.2.2.2 (mapF w.2.1 f) := by
  unfold World_contains
  rw [cont_ok c_ h]; rfl
theorem has_mem (fs : List FACT) (f : FACT) : dHas (dOf (fun (v_fact : FACT) => v_fact) (fun (v_fact : FACT) => true) fs) f = memB f fs := by
  rw [Bool.eq_iff_iff, dOf_has, memB_iff]
  exact ⟨fun ⟨x, h, e⟩ => e ▸ h, fun h => ⟨f, h, rfl⟩⟩
theorem enum_map (s : List Int) : enumL s = (rangeI 0 (s.length : Int)).map fun n => (n, s.getD n.toNat default) := by
  refine List.ext_getElem? fun i => ?_
  by_cases h : i < s.length
  · have e1 : (enumL s)[i]? = some ((i : Int), s[i]) := enumL_at.mpr ⟨rfl, List.getElem?_eq_getElem h⟩
    have e2 : (rangeI 0 (s.length : Int))[i]? = some (i : Int) := by
      have hl : i < (rangeI 0 (s.length : Int)).length := by rw [rangeI_len]; omega
      have := List.getElem?_eq_getElem hl
      have q := (rangeI_at this).2.2
      rw [this, q]; simp
    rw [e1, List.getElem?_map, e2]
    show _ = some ((i : Int), s.getD ((i : Int)).toNat default)
    rw [Int.toNat_natCast, getD_of (List.getElem?_eq_getElem h)]
  · rw [List.getElem?_eq_none (by rw [enumL_len]; omega), List.getElem?_eq_none (by rw [List.length_map, rangeI_len]; omega)]
theorem enum_filter (s : List Int) (c : Int → Int → Bool) : ((enumL s).filter fun p => c p.1 p.2).map (fun p => p.1) = (rangeI 0 (s.length : Int)).filter fun n => c n (s.getD n.toNat default) := by
  rw [enum_map, List.filter_map, List.map_map]
  exact List.map_id' _
theorem ft_val (w : T_World) : World_first_things c_ w = (rangeI 0 (w.2.1.length : Int)).filter fun n => decide (n = w.2.1.getD n.toNat default) := enum_filter w.2.1 fun n low => decide (n = low)
theorem ok_ok {w : T_World} {k : Str} (h : w.1.length = w.2.1.length) : lo_World_of_kind c_ w k = .ret ((rangeI 0 (w.2.1.length : Int)).filter fun n => decide (n = w.2.1.getD n.toNat default) && decide (w.1.getD n.toNat default = k)) := by
  unfold lo_World_of_kind
  have hg : ∀ n low : Int, (n, low) ∈ enumL w.2.1 → 0 ≤ n ∧ n < (w.1.length : Int) := fun n low hp => by
    rw [enum_map] at hp
    obtain ⟨m, hm, e⟩ := List.mem_map.mp hp
    cases e
    have := rangeI_mem hm
    exact ⟨this.1, by rw [h]; exact this.2⟩
  rw [grd_pos ⟨fun n low hp => ⟨fun _ => ⟨(hg n low hp).1, (hg n low hp).2, trivial⟩, trivial⟩, trivial⟩]
  exact congrArg _ (enum_filter w.2.1 fun n low => decide (n = low) && decide (w.1.getD n.toNat default = k))
theorem ok_val {w : T_World} {k : Str} (h : w.1.length = w.2.1.length) : World_of_kind c_ w k = (rangeI 0 (w.2.1.length : Int)).filter fun n => decide (n = w.2.1.getD n.toNat default) && decide (w.1.getD n.toNat default = k) := by
  unfold World_of_kind
  rw [ok_ok c_ h]; rfl
theorem seen_ok {kinds : List Str} {s : List Int} {fs : List FACT} (h : FaultR kinds s fs none) (h1 : kinds.length ≤ 1000000) : (lo_law_seen c_ (mkW kinds s fs) kinds s fs).wp No fun r => r = true := by
  have hL : kinds.length = s.length := by cases h with | ok h => exact h
  unfold lo_law_seen
  refine wp_bind (wp_if (fun hc => nomatch hc) fun _ => wp_next (wp_bind (wp_if (fun hc => ?_) fun _ => wp_next ?_)))
  · simp at hc
  refine wp_grd ⟨⟨by omega, by omega⟩, fun n hn => ⟨(rangeI_mem hn).1, (rangeI_mem hn).2, trivial⟩, trivial⟩ (wp_set ?_)
  rw [List.map_id']
  have ef : ((rangeI 0 (s.length : Int)).filter fun n => decide (n = s.getD n.toNat default)) = (rangeI 0 (s.length : Int)).filter fun n => decide (s.getD n.toNat default = n) := List.filter_congr fun n _ => decide_eq_decide.mpr ⟨Eq.symm, Eq.symm⟩
  refine wp_grd ⟨⟨_, rfl⟩, trivial⟩ (wp_bind (wp_if (fun hc => ?_) fun _ => wp_next ?_))
  · rw [ft_val] at hc
    have hc : (!decide (((rangeI 0 (s.length : Int)).filter fun n => decide (n = s.getD n.toNat default)) = (rangeI 0 (s.length : Int)).filter fun n => decide (s.getD n.toNat default = n)) || !decide (fs = fs)) = true := hc
    rw [ef] at hc
    simp at hc
  refine wp_grd ⟨?_, trivial⟩ (wp_bind (wp_forS (fun _ => True) trivial (fun k hk st _ => ?_) fun _ _ => ?_))
  · rw [List.length_mergeSort]; exact Nat.le_trans (Nat.succ_le_succ h1) (by decide)
  · refine wp_grd ⟨⟨_, ok_ok c_ hL⟩, fun n hn => ?_, trivial⟩ (wp_bind (wp_if (fun hc => ?_) fun _ => wp_next (wp_next trivial)))
    · have := rangeI_mem (List.mem_filter.mp hn).1
      exact ⟨this.1, by rw [hL]; exact this.2, trivial⟩
    · rw [ok_val c_ hL, List.map_id', List.filter_filter] at hc
      have e2 : ((rangeI 0 (s.length : Int)).filter fun n => decide (n = s.getD n.toNat default) && decide (kinds.getD n.toNat default = k)) = (rangeI 0 (s.length : Int)).filter fun n => decide (kinds.getD n.toNat default = k) && decide (s.getD n.toNat default = n) := List.filter_congr fun n _ => by
        rw [Bool.and_comm]
        exact congrArg _ (decide_eq_decide.mpr ⟨Eq.symm, Eq.symm⟩)
      have hc : (!decide (((rangeI 0 (s.length : Int)).filter fun n => decide (n = s.getD n.toNat default) && decide (kinds.getD n.toNat default = k)) = (rangeI 0 (s.length : Int)).filter fun n => decide (kinds.getD n.toNat default = k) && decide (s.getD n.toNat default = n))) = true := hc
      rw [e2] at hc
      simp at hc
  · refine wp_grd ⟨mk_R c_ h, eq_R c_ _ _, fun _ => ⟨mk_R c_ h, eq_R c_ _ _, trivial⟩, trivial⟩ (wp_ret ?_)
    rw [mk_get c_ h, eq_val]
    simp
theorem refused_ok {kinds : List Str} {s : List Int} {fs : List FACT} {o : Option (Str × Int)} (h : FaultR kinds s fs o) (h1 : kinds.length ≤ 1000000) (h2 : s.length ≤ 1000000) (h3 : fs.length ≤ 1000000) : lo_law_refused c_ kinds s fs = .ret o := by
  unfold lo_law_refused
  cases o with
  | none =>
    rw [mk_ok c_ h]; rfl
  | some p =>
    have e : mk_World_init c_ kinds s fs = .exc (eXsi c_.BadWorld "part" "at" p) := by
      unfold mk_World_init
      rw [init_exc c_ h h1 h2 h3]; rfl
    rw [e]
    show LO.bind (LO.catchT (LO.exc (eXsi c_.BadWorld "part" "at" p)) _ _) _ = _
    unfold LO.catchT
    rw [catch_exc]
    rw [dXsi_ok]
    rfl
theorem asked_ok {kinds : List Str} {s : List Int} {fs : List FACT} {row : List Int} {words : List Str} (v : VW kinds s fs) (hw : words.length = 8) (h1 : s.length ≤ 1000000) : (lo_law_asked c_ row (mkW kinds s fs) s fs words).wp No fun r => r.1 = true := by
  unfold lo_law_asked
  refine wp_bind (wp_forS (fun _ => True) trivial (fun k hk row _ => ?_) fun row _ => wp_bind (wp_forS (fun _ => True) trivial (fun f hf st _ => ?_) fun _ _ => wp_ret rfl))
  · refine wp_grd ⟨takeR c_ row (by decide), trivial⟩ (wp_set ?_)
    have d0 := take0 c_ row (many := 4) (by decide)
    have d1 := take1 c_ row (many := 4) (by decide)
    generalize (law_take c_ row (4 : Int)).2 = row1
    generalize (law_take c_ row (4 : Int)).1 = d at d0 d1
    refine wp_seq (fun _ => True) (wp_if (fun hc => ?_) fun _ => wp_next trivial) fun _ _ => wp_next trivial
    have hc2 : ∀ p : Int, p ∈ rangeI 0 d → (0 : Int) < s.length := fun p hp => by
      rcases Bool.or_eq_true_iff.mp hc with h | h
      · exact of_decide_eq_true h
      · have := of_decide_eq_true h
        have := rangeI_mem hp
        omega
    refine wp_grd ⟨⟨by omega, by omega⟩, fun row p hp => ⟨takeR c_ row (hc2 p hp), trivial⟩, trivial⟩ (wp_set ?_)
    have hn : ∀ n ∈ (compL (cs1_law_asked c_ s) (rangeI 0 d) row1).2, 0 ≤ n ∧ n < (s.length : Int) := compL_all _ _ fun r p hp y hy => by
      cases hy
      exact ⟨take0 c_ r (hc2 p hp), take1 c_ r (hc2 p hp)⟩
    generalize (compL (cs1_law_asked c_ s) (rangeI 0 d) row1).1 = row2
    generalize (compL (cs1_law_asked c_ s) (rangeI 0 d) row1).2 = ns at hn
    have i0 : 0 ≤ 3 + d := by omega
    have i1 : 3 + d < (words.length : Int) := by rw [hw]; omega
    refine wp_grd ⟨i0, i1, fun n h => ⟨(hn n h).1, (hn n h).2, trivial⟩, trivial⟩ (wp_set (wp_grd ⟨i0, i1, cont_R c_ hn, trivial⟩ (wp_bind (wp_if (fun hc => ?_) fun _ => wp_next (wp_next trivial)))))
    rw [cont_val c_ hn] at hc
    have hc : (!decide (dHas (dOf (fun (v_fact : FACT) => v_fact) (fun (v_fact : FACT) => true) fs) (mapF s (words.getD (3 + d).toNat default, ns)) = memB (mapF s (words.getD (3 + d).toNat default, ns)) fs)) = true := hc
    rw [has_mem] at hc
    simp at hc
  · obtain ⟨sg, ns⟩ := f
    have hi := v.inn _ hf
    have key : ∀ low, 0 ≤ low ∧ low < (s.length : Int) ∧ s.getD low.toNat default = low → 0 < ((rangeI 0 (s.length : Int)).filter fun n => decide (s.getD n.toNat default = low)).length ∧
        (0 ≤ maxI ((rangeI 0 (s.length : Int)).filter fun n => decide (s.getD n.toNat default = low)) ∧ maxI ((rangeI 0 (s.length : Int)).filter fun n => decide (s.getD n.toNat default = low)) < (s.length : Int)) ∧
        s.getD (maxI ((rangeI 0 (s.length : Int)).filter fun n => decide (s.getD n.toNat default = low))).toNat default = low := fun low ⟨a1, a2, a3⟩ => by
      have hp : 0 < ((rangeI 0 (s.length : Int)).filter fun n => decide (s.getD n.toNat default = low)).length := List.length_pos_of_mem (List.mem_filter.mpr ⟨rangeI_iff.mpr ⟨a1, a2⟩, decide_eq_true a3⟩)
      have hm := List.mem_filter.mp (maxI_mem hp)
      exact ⟨hp, rangeI_mem hm.1, of_decide_eq_true hm.2⟩
    refine wp_grd ⟨fun low hlow => ⟨⟨by omega, by omega⟩, fun n hn => ⟨(rangeI_mem hn).1, (rangeI_mem hn).2, trivial⟩, ?_, trivial⟩, trivial⟩ (wp_set ?_)
    · rw [List.map_id']; exact (key low (hi low hlow)).1
    have hal : ∀ n ∈ ns.map (fun low => maxI (((rangeI 0 (s.length : Int)).filter fun n => decide (s.getD n.toNat default = low)).map fun n => n)), 0 ≤ n ∧ n < (s.length : Int) := fun n hn => by
      obtain ⟨low, hlow, rfl⟩ := List.mem_map.mp hn
      rw [List.map_id']
      exact (key low (hi low hlow)).2.1
    refine wp_grd ⟨cont_R c_ (w := mkW kinds s fs) (f := (sg, _)) hal, trivial⟩ (wp_bind (wp_if (fun hc => ?_) fun _ => wp_next (wp_next trivial)))
    rw [cont_val c_ (w := mkW kinds s fs) (f := (sg, _)) hal] at hc
    have e : mapF s (sg, ns.map (fun low => maxI (((rangeI 0 (s.length : Int)).filter fun n => decide (s.getD n.toNat default = low)).map fun n => n))) = (sg, ns) := by
      unfold mapF
      refine congrArg (Prod.mk sg) ?_
      rw [List.map_map]
      refine (List.map_congr_left fun low hlow => ?_).trans (List.map_id _)
      show s.getD (maxI (List.map (fun n => n) _)).toNat default = low
      rw [List.map_id']
      exact (key low (hi low hlow)).2.2
    have hc : (!dHas (dOf (fun (v_fact : FACT) => v_fact) (fun (v_fact : FACT) => true) fs) (mapF s (sg, ns.map (fun low => maxI (((rangeI 0 (s.length : Int)).filter fun n => decide (s.getD n.toNat default = low)).map fun n => n))))) = true := hc
    rw [e, has_mem, memB_iff.mpr hf] at hc
    cases hc
end K05
set_option maxHeartbeats 1000000
namespace K05
open PySem PySem.Spec PyProof.Rows L2 PD
variable (c_ : Cs)
theorem joined_ok {kinds new : List Str} {s s2 : List Int} {fs added fs2 : List FACT} {kn : List (FACT × Bool)} {later : List (Int × Int)} (hl : kinds.length = s.length) (hk : kinds.length ≤ 1000) (hn : new.length ≤ 1000) (hf : fs.length ≤ 1000) (ha : added.length ≤ 1000)
    (hp : ∀ p ∈ later, PairOk (kinds ++ new) p) (hi : InF (kinds ++ new).length (fs ++ added)) (e2 : s2 = later.foldl mergeP (s ++ rangeI kinds.length (kinds.length + new.length))) (ef : fs2 = toldS s2 (fs ++ added)) (hF : FaultR (kinds ++ new) s2 fs2 none) :
    lo_World_joined c_ (kinds, s, fs, kn) new later added = .ret (mkW (kinds ++ new) s2 fs2) := by
  have hs2 : s2.length = (kinds ++ new).length := by rw [e2, merges_len, List.length_append, rangeI_len, List.length_append]; omega
  refine LO.wp.to ?_
  unfold lo_World_joined
  refine wp_set (wp_grd ⟨⟨⟨by show -1000000 ≤ (kinds.length : Int); omega, by show (kinds.length : Int) ≤ 1000000; omega⟩, by show -1000000 ≤ (kinds.length : Int) + _; omega, by show (kinds.length : Int) + _ ≤ 1000000; omega⟩, ?_, trivial⟩ (wp_set ?_))
  · show s.length + (rangeI (kinds.length : Int) ((kinds.length : Int) + new.length)).length ≤ 16777216
    rw [rangeI_len]; omega
  refine wp_seq (fun t => t = s2) (wp_for (fun d t => t = d.foldl mergeP (s ++ rangeI kinds.length (kinds.length + new.length))) rfl (fun d x r t e ht => ?_) fun t ht => ?_) fun t ht => ?_
  · obtain ⟨l, r'⟩ := x
    obtain ⟨⟨l0, l1⟩, ⟨r0, r1⟩, _⟩ := hp (l, r') (by rw [e]; simp)
    have hlen : (t.length : Int) = (kinds ++ new).length := by rw [ht, merges_len, List.length_append, rangeI_len, List.length_append]; omega
    have l0 : 0 ≤ l := l0
    have r0 : 0 ≤ r' := r0
    have l1 : l < ((kinds ++ new).length : Int) := l1
    have r1 : r' < ((kinds ++ new).length : Int) := r1
    refine wp_grd ⟨l0, by omega, r0, by omega, trivial⟩ (wp_set (wp_grd ⟨l0, by omega, r0, by omega, trivial⟩ (wp_set (wp_set (wp_next ?_)))))
    rw [List.foldl_append, ← ht]
    rfl
  · exact ht.trans e2.symm
  subst ht
  refine wp_set (wp_grd ⟨by show fs.length + added.length ≤ 16777216; omega, trivial⟩ (wp_seq (fun es => es = (fs ++ added).foldl (putS t) []) (wp_for (fun d es => es = d.foldl (putS t) [] ∧ es.length ≤ d.length) ⟨rfl, Nat.le_refl _⟩ (fun d x r es e hs => ?_) fun es hs => hs.1) fun es hes => ?_))
  · have e : fs ++ added = d ++ x :: r := e
    have hd : d.length < 2000 := by
      have := congrArg List.length e
      simp only [List.length_append, List.length_cons] at this
      omega
    have hx := hi x (by rw [e]; simp)
    obtain ⟨a, ns⟩ := x
    refine wp_grd ⟨fun n hn => ⟨(hx n hn).1, by rw [hs2]; exact (hx n hn).2, trivial⟩, by omega, trivial⟩ (wp_set (wp_next ⟨?_, ?_⟩))
    · rw [List.foldl_append, ← hs.1]; rfl
    · rw [List.length_append]
      exact Nat.le_trans (put_len _ _ _) (Nat.succ_le_succ hs.2)
  · have e3 : (es.map Prod.fst).mergeSort (leT eF) = fs2 := by rw [ef, hes]; rfl
    refine wp_grd ⟨by show kinds.length + new.length ≤ 16777216; omega, ?_, trivial⟩ (wp_ret ?_)
    · show (mk_World_init c_ (kinds ++ new) t ((es.map Prod.fst).mergeSort (leT eF))).IsRet
      rw [e3]
      exact mk_R c_ hF
    · show World_init c_ (kinds ++ new) t ((es.map Prod.fst).mergeSort (leT eF)) = _
      rw [e3]
      exact mk_get c_ hF
theorem cut_len {α : Type} {xs : List α} {a b : Option Int} : (cutL xs a b).length ≤ xs.length := (cutL_sub (xs := xs) (a := a) (b := b)).length_le
def Sized (n : Nat) (r : List Str × List Int × List FACT) : Prop := r.1.length ≤ n ∧ r.2.1.length ≤ n ∧ r.2.2.length ≤ n
theorem changed_ok {row : List Int} {kinds : List Str} {s : List Int} {fs : List FACT} {words : List Str} (hw : words.length = 8) (h1 : kinds.length ≤ 10000) (h2 : s.length ≤ 10000) (h3 : fs.length ≤ 10000) (hL : kinds.length = s.length) : (lo_law_changed c_ row kinds s fs words).wp No fun r => Sized 100000 r.1 := by
  have ca : ∀ {α : Type} {xs : List α} {a b : Option Int}, xs.length ≤ 10000 → (cutL xs a b).length ≤ 10000 := fun h => Nat.le_trans cut_len h
  unfold lo_law_changed
  refine wp_grd ⟨takeR c_ row (by decide), trivial⟩ (wp_set ?_)
  generalize (law_take c_ row (9 : Int)).2 = row1
  generalize (law_take c_ row (9 : Int)).1 = way
  have hm : (0 : Int) < max 1 (s.length : Int) := by omega
  refine wp_grd ⟨takeR c_ row1 hm, trivial⟩ (wp_set ?_)
  have a0 := take0 c_ row1 hm
  generalize (law_take c_ row1 (max 1 (s.length : Int))).2 = row2
  generalize (law_take c_ row1 (max 1 (s.length : Int))).1 = at_ at a0
  have c1 := @ca Int s none (some at_) h2
  have c2 := @ca Int s (some (at_ + 1)) none h2
  have c3 := @ca Str kinds none (some at_) h1
  have c4 := @ca Str kinds (some (at_ + 1)) none h1
  have w8 : (words.length : Int) = 8 := by omega
  refine wp_bind (wp_if (fun hc => wp_grd ⟨by decide, by omega, by simp only [List.length_cons, List.length_nil]; omega, trivial⟩ (wp_ret ?_)) fun _ => wp_next ?_)
  · exact ⟨by simp; omega, by simp; omega, by simp; omega⟩
  refine wp_bind (wp_if (fun hc => wp_grd ⟨by simp only [List.length_cons, List.length_nil]; omega, trivial⟩ (wp_ret ?_)) fun _ => wp_next ?_)
  · exact ⟨by simp; omega, by simp; omega, by simp; omega⟩
  refine wp_bind (wp_if (fun hc => wp_grd ⟨by simp only [List.length_cons, List.length_nil]; omega, by simp only [List.length_append, List.length_cons, List.length_nil]; omega, trivial⟩ (wp_ret ?_)) fun _ => wp_next ?_)
  · exact ⟨by simp; omega, by simp; omega, by simp; omega⟩
  refine wp_bind (wp_if (fun hc => wp_grd ⟨takeR c_ row2 (by omega), by simp only [List.length_cons, List.length_nil]; omega, by simp only [List.length_append, List.length_cons, List.length_nil]; omega, trivial⟩ (wp_ret ?_)) fun _ => wp_next ?_)
  · exact ⟨by simp; omega, by simp; omega, by simp; omega⟩
  refine wp_bind (wp_if (fun hc => wp_grd ⟨by decide, by omega, by simp only [List.length_cons, List.length_nil]; omega, by simp only [List.length_append, List.length_cons, List.length_nil]; omega, trivial⟩ (wp_ret ?_)) fun _ => wp_next ?_)
  · exact ⟨by simp; omega, by simp; omega, by simp; omega⟩
  refine wp_bind (wp_if (fun hc => wp_grd ⟨by decide, by omega, takeR c_ row2 (by decide), by simp only [List.length_cons, List.length_nil]; omega, trivial⟩ (wp_ret ?_)) fun _ => wp_next ?_)
  · exact ⟨by simp; omega, by simp; omega, by simp; omega⟩
  refine wp_bind (wp_if (fun hc => ?_) fun _ => wp_next ?_)
  · have hp : (0 : Int) < fs.length := of_decide_eq_true (Bool.and_eq_true_iff.mp hc).2
    refine wp_grd ⟨takeR c_ row2 hp, trivial⟩ (wp_set ?_)
    have k0 := take0 c_ row2 hp
    have k1 := take1 c_ row2 hp
    generalize (law_take c_ row2 (fs.length : Int)).2 = row3
    generalize (law_take c_ row2 (fs.length : Int)).1 = k at k0 k1
    have c5 := @ca FACT fs none (some k) h3
    have c6 := @ca FACT fs (some k) none h3
    refine wp_grd ⟨k0, k1, by simp only [List.length_cons, List.length_nil]; omega, by simp only [List.length_append, List.length_cons, List.length_nil]; omega, trivial⟩ (wp_ret ?_)
    exact ⟨by simp; omega, by simp; omega, by simp; omega⟩
  refine wp_bind (wp_if (fun hc => ?_) fun _ => wp_next ?_)
  · have hp : (1 : Int) < fs.length := of_decide_eq_true (Bool.and_eq_true_iff.mp hc).2
    have hq : (0 : Int) < (fs.length : Int) - 1 := by omega
    refine wp_grd ⟨takeR c_ row2 hq, trivial⟩ (wp_set ?_)
    have k0 := take0 c_ row2 hq
    have k1 := take1 c_ row2 hq
    generalize (law_take c_ row2 ((fs.length : Int) - 1)).2 = row3
    generalize (law_take c_ row2 ((fs.length : Int) - 1)).1 = k at k0 k1
    have c5 := @ca FACT fs none (some (1 + k - 1)) h3
    have c6 := @ca FACT fs (some (1 + k + 1)) none h3
    refine wp_grd ⟨by omega, by omega, by omega, by omega, by simp only [List.length_cons, List.length_nil]; omega, by simp only [List.length_append, List.length_cons, List.length_nil]; omega, trivial⟩ (wp_ret ?_)
    exact ⟨by simp; omega, by simp; omega, by simp; omega⟩
  refine wp_bind (wp_if (fun hc => ?_) fun _ => wp_next (wp_ret ?_))
  · have hp := of_decide_eq_true hc
    refine wp_grd ⟨by decide, by omega, takeR c_ row2 hp, by simp only [List.length_cons, List.length_nil]; omega, trivial⟩ (wp_ret ?_)
    exact ⟨by simp; omega, by simp; omega, by rw [List.length_mergeSort]; simp; omega⟩
  · exact ⟨by simp; omega, by simp; omega, by simp; omega⟩
theorem law_wp (ns : List Int) : (lo_law c_ ns).wp No fun r => r = true := by
  unfold lo_law
  have dig : ∀ (k : Int) (m : Int), 0 ≤ m → m ≤ 1000 → (lo_law_digits c_ k m).IsRet := fun k m h0 h1 => (digits_ok c_ k h0 h1).isRet
  have cel : ∀ k : Int, 0 ≤ k → (lo_law_cell c_ ns k).IsRet := fun k h => (cell_ok c_ ns h).isRet
  refine wp_grd ⟨cel 0 (by decide), dig _ 60 (by decide) (by decide), trivial⟩ (wp_set ?_)
  generalize law_digits c_ (law_cell c_ ns 0) 60 = row
  refine wp_grd ⟨(words_ok c_ row).isRet, trivial⟩ (wp_set ?_)
  have hw : (law_words c_ row 8).1.length = 8 := (words_ok c_ row).get
  generalize (law_words c_ row 8).2 = row1
  generalize (law_words c_ row 8).1 = words at hw
  refine wp_grd ⟨takeR c_ row1 (by decide), trivial⟩ (wp_set ?_)
  have t0 := take0 c_ row1 (many := 10) (by decide)
  have t1 := take1 c_ row1 (many := 10) (by decide)
  generalize (law_take c_ row1 10).2 = row2
  generalize (law_take c_ row1 10).1 = cnt at t0 t1
  refine wp_grd ⟨takeR c_ row2 (by decide), trivial⟩ (wp_seq (fun x => 0 ≤ x.1 ∧ x.1 ≤ 30) (wp_if (fun _ => wp_set (wp_next ⟨(by decide : (0 : Int) ≤ 30), (by decide : (30 : Int) ≤ 30)⟩)) fun _ => wp_next ⟨t0, by omega⟩) fun x hx => ?_)
  obtain ⟨count, row3⟩ := x
  obtain ⟨n0, n1⟩ : 0 ≤ count ∧ count ≤ 30 := hx
  have hk := kinds_ok c_ (law_digits c_ (law_cell c_ ns 1) 60) words hw n0 (by omega)
  refine wp_grd ⟨cel 1 (by decide), dig _ 60 (by decide) (by decide), hk.isRet, trivial⟩ (wp_set ?_)
  have ek : ((law_kinds c_ (law_digits c_ (law_cell c_ ns 1) 60) words count).1.length : Int) = count := hk.get
  clear hk
  generalize (law_kinds c_ (law_digits c_ (law_cell c_ ns 1) 60) words count).1 = kinds at ek
  have hp := pairs_ok c_ row3 kinds (most := 7) (by decide) (by decide) (by omega)
  refine wp_grd ⟨hp.isRet, trivial⟩ (wp_set ?_)
  have hp' : (law_pairs c_ row3 kinds 7).1.length ≤ 1000 ∧ ∀ p ∈ (law_pairs c_ row3 kinds 7).1, PairOk kinds p := hp.get
  clear hp
  generalize (law_pairs c_ row3 kinds 7).2 = row4
  generalize (law_pairs c_ row3 kinds 7).1 = pairs at hp'
  obtain ⟨pl, hp⟩ := hp'
  have hfs := firsts_ok c_ (count := count) (ps := pairs) n0 (by omega) (fun p h => ⟨by rw [← ek]; exact (hp p h).1, by rw [← ek]; exact (hp p h).2.1⟩)
  refine wp_grd ⟨hfs.isRet, trivial⟩ (wp_set ?_)
  have ef : law_firsts c_ count pairs = firstsS count pairs := hfs.get
  clear hfs
  rw [ef]
  have v1 : VS kinds (firstsS count pairs) := by rw [← ek]; exact VS.firsts hp
  have hgv := facts_ok c_ (law_digits c_ (law_cell c_ ns 2) 60) words kinds (most := 11) (by decide) (by decide) hw
  refine wp_grd ⟨cel 2 (by decide), dig _ 60 (by decide) (by decide), hgv.isRet, trivial⟩ (wp_set ?_)
  have hgv' : (law_facts c_ (law_digits c_ (law_cell c_ ns 2) 60) words kinds 11).1.length ≤ 1000 ∧ InF kinds.length (law_facts c_ (law_digits c_ (law_cell c_ ns 2) 60) words kinds 11).1 := hgv.get
  clear hgv
  generalize (law_facts c_ (law_digits c_ (law_cell c_ ns 2) 60) words kinds 11).1 = given at hgv'
  obtain ⟨gl, hg⟩ := hgv'
  have ht := told_ok c_ (s := firstsS count pairs) (fs := given) (by rw [← v1.len]; exact hg) (by omega)
  refine wp_grd ⟨ht.isRet, trivial⟩ (wp_set ?_)
  have et : law_told c_ (firstsS count pairs) given = toldS (firstsS count pairs) given := ht.get
  clear ht
  rw [et]
  have vw1 := VW.told v1 hg
  have tl := told_len (firstsS count pairs) given
  generalize hs1 : firstsS count pairs = s1 at v1 vw1 tl
  generalize hf1 : toldS s1 given = f1 at vw1 tl
  refine wp_grd ⟨mk_R c_ vw1.fault, trivial⟩ (wp_set ?_)
  rw [mk_get c_ vw1.fault]
  refine wp_grd ⟨cel 3 (by decide), dig _ 60 (by decide) (by decide), trivial⟩ (wp_set ?_)
  generalize law_digits c_ (law_cell c_ ns 3) 60 = more
  have u0 := take0 c_ more (many := 5) (by decide)
  have u1 := take1 c_ more (many := 5) (by decide)
  have hk := kinds_ok c_ (law_take c_ more 5).2 words (count := (law_take c_ more 5).1) hw u0 (by omega)
  refine wp_grd ⟨takeR c_ more (by decide), hk.isRet, trivial⟩ (wp_set ?_)
  have ek2 : ((law_kinds c_ (law_take c_ more 5).2 words (law_take c_ more 5).1).1.length : Int) = (law_take c_ more 5).1 := hk.get
  clear hk
  generalize (law_kinds c_ (law_take c_ more 5).2 words (law_take c_ more 5).1).2 = more1
  generalize (law_kinds c_ (law_take c_ more 5).2 words (law_take c_ more 5).1).1 = new at ek2
  have nl : new.length ≤ 4 := by omega
  have kl : kinds.length ≤ 30 := by omega
  have hKN : (kinds ++ new).length = kinds.length + new.length := List.length_append
  have hp2 := pairs_ok c_ more1 (kinds ++ new) (most := 5) (by decide) (by decide) (by omega)
  refine wp_grd ⟨by omega, hp2.isRet, trivial⟩ (wp_set ?_)
  have hp2' : (law_pairs c_ more1 (kinds ++ new) 5).1.length ≤ 1000 ∧ ∀ p ∈ (law_pairs c_ more1 (kinds ++ new) 5).1, PairOk (kinds ++ new) p := hp2.get
  clear hp2
  generalize (law_pairs c_ more1 (kinds ++ new) 5).2 = more2
  generalize (law_pairs c_ more1 (kinds ++ new) 5).1 = later at hp2'
  obtain ⟨ll, hl⟩ := hp2'
  have hga := facts_ok c_ more2 words (kinds ++ new) (most := 9) (by decide) (by decide) hw
  refine wp_grd ⟨by omega, hga.isRet, trivial⟩ (wp_set ?_)
  have hga' : (law_facts c_ more2 words (kinds ++ new) 9).1.length ≤ 1000 ∧ InF (kinds ++ new).length (law_facts c_ more2 words (kinds ++ new) 9).1 := hga.get
  clear hga
  generalize (law_facts c_ more2 words (kinds ++ new) 9).2 = more3
  generalize (law_facts c_ more2 words (kinds ++ new) 9).1 = added at hga'
  obtain ⟨al, ha⟩ := hga'
  -- the result
  have pk : ∀ p ∈ pairs, PairOk (kinds ++ new) p := fun p h => by
    obtain ⟨⟨a0, a1⟩, ⟨b0, b1⟩, e⟩ := hp p h
    exact ⟨⟨a0, by omega⟩, ⟨b0, by omega⟩, by rw [getD_app_l (by omega), getD_app_l (by omega)]; exact e⟩
  obtain ⟨s2, es2⟩ : ∃ s2, s2 = firstsS (count + (new.length : Int)) (pairs ++ later) := ⟨_, rfl⟩
  have hall : ∀ p ∈ pairs ++ later, PairOk (kinds ++ new) p := fun p h => (List.mem_append.mp h).elim (pk p) (hl p)
  have v2 : VS (kinds ++ new) s2 := by
    rw [es2, show count + (new.length : Int) = ((kinds ++ new).length : Int) by omega]
    exact VS.firsts hall
  have em : s2 = later.foldl mergeP (s1 ++ rangeI kinds.length (kinds.length + new.length)) := by
    rw [es2, ← hs1, ← ek]
    exact firsts_more hp
  have hga : InF (kinds ++ new).length (given ++ added) := fun f h => by
    rcases List.mem_append.mp h with h | h
    · exact fun n hn => by have := hg f h n hn; omega
    · exact ha f h
  have hfa : InF (kinds ++ new).length (f1 ++ added) := fun f h => by
    rcases List.mem_append.mp h with h | h
    · exact fun n hn => by have := vw1.inn f h n hn; have := v1.len; omega
    · exact ha f h
  obtain ⟨f2, ef2⟩ : ∃ f2, f2 = toldS s2 (given ++ added) := ⟨_, rfl⟩
  have vw2 : VW (kinds ++ new) s2 f2 := by rw [ef2]; exact VW.told v2 hga
  have ef3 : f2 = toldS s2 (f1 ++ added) := by rw [ef2, ← hf1]; exact (told_more v1 hg em).symm
  have f2l : f2.length ≤ 2000 := by
    rw [ef2]
    have := told_len s2 (given ++ added)
    rw [List.length_append] at this
    omega
  have hj := joined_ok c_ (kn := (mkW kinds s1 f1).2.2.2) (fs := f1) v1.len (by omega) (by omega) (by omega) al hl hfa em ef3 vw2.fault
  have hjv : World_joined c_ (mkW kinds s1 f1) new later added = mkW (kinds ++ new) s2 f2 := by
    unfold World_joined
    rw [hj]; rfl
  refine wp_grd ⟨⟨_, hj⟩, trivial⟩ (wp_set ?_)
  rw [hjv]
  have hfs := firsts_ok c_ (count := count + (new.length : Int)) (ps := pairs ++ later) (by omega) (by omega) (fun p h => ⟨by have := (hall p h).1; omega, by have := (hall p h).2.1; omega⟩)
  refine wp_grd ⟨by omega, hfs.isRet, trivial⟩ (wp_set ?_)
  have ef : law_firsts c_ (count + (new.length : Int)) (pairs ++ later) = s2 := hfs.get.trans es2.symm
  clear hfs
  rw [ef]
  have s2l : s2.length = (kinds ++ new).length := v2.len.symm
  have ht := told_ok c_ (s := s2) (fs := given ++ added) (by rw [s2l]; exact hga) (by rw [List.length_append]; omega)
  refine wp_grd ⟨by omega, ht.isRet, trivial⟩ (wp_set ?_)
  have et : law_told c_ s2 (given ++ added) = f2 := ht.get.trans ef2.symm
  clear ht
  rw [et]
  have see1 := seen_ok c_ vw2.fault (by omega)
  have see2 := seen_ok c_ vw1.fault (by omega)
  have e1 : law_seen c_ (mkW (kinds ++ new) s2 f2) (kinds ++ new) s2 f2 = true := see1.get
  have e2 : law_seen c_ (mkW kinds s1 f1) kinds s1 f1 = true := see2.get
  refine wp_grd ⟨by omega, see1.isRet, fun _ => ⟨see2.isRet, trivial⟩, trivial⟩ (wp_bind (wp_if (fun hc => ?_) fun _ => wp_next ?_))
  · rw [e1, e2] at hc; cases hc
  have ask := asked_ok c_ (row := law_digits c_ (law_cell c_ ns 5) 40) vw2 hw (by omega)
  have e3 : (law_asked c_ (law_digits c_ (law_cell c_ ns 5) 40) (mkW (kinds ++ new) s2 f2) s2 f2 words).1 = true := ask.get
  refine wp_grd ⟨cel 5 (by decide), dig _ 40 (by decide) (by decide), ask.isRet, trivial⟩ (wp_bind (wp_if (fun hc => ?_) fun _ => wp_next ?_))
  · rw [e3] at hc; cases hc
  have e4 : World_eq c_ (mkW kinds s1 f1) (mkW (kinds ++ new) s2 f2) = ((decide ((kinds ++ new) = kinds)) && ((decide (s2 = s1)) && (decide (f2 = f1)))) := by
    rw [eq_val]
    rw [Bool.eq_iff_iff]
    simp only [Bool.and_eq_true, decide_eq_true_eq]
    exact ⟨fun ⟨a, b, c⟩ => ⟨a.symm, b.symm, c.symm⟩, fun ⟨a, b, c⟩ => ⟨a.symm, b.symm, c.symm⟩⟩
  refine wp_grd ⟨eq_R c_ _ _, by omega, trivial⟩ (wp_bind (wp_if (fun hc => ?_) fun _ => wp_next ?_))
  · rw [Bool.not_eq_true'] at hc
    exact absurd e4 (of_decide_eq_false hc)
  refine wp_grd ⟨cel 4 (by decide), dig _ 20 (by decide) (by decide), trivial⟩ (wp_set ?_)
  generalize law_digits c_ (law_cell c_ ns 4) 20 = last
  have hch := changed_ok c_ (row := last) hw (kinds := kinds ++ new) (s := s2) (fs := f2) (by omega) (by omega) (by omega) v2.len
  refine wp_grd ⟨by omega, hch.isRet, trivial⟩ (wp_set ?_)
  have hsz : Sized 100000 (law_changed c_ last (kinds ++ new) s2 f2 words).1 := hch.get
  clear hch
  generalize (law_changed c_ last (kinds ++ new) s2 f2 words).2 = last2
  generalize (law_changed c_ last (kinds ++ new) s2 f2 words).1 = ch at hsz
  obtain ⟨ck, cs, cf⟩ := ch
  obtain ⟨z1, z2, z3⟩ : ck.length ≤ 100000 ∧ cs.length ≤ 100000 ∧ cf.length ≤ 100000 := hsz
  have hfl := fault_ok c_ (kinds := ck) (s := cs) (fs := cf) (by omega) (by omega)
  refine wp_grd ⟨hfl.isRet, trivial⟩ (wp_set ?_)
  have hF : FaultR ck cs cf (law_fault c_ ck cs cf) := hfl.get
  clear hfl
  show LO.wp (grd ((lo_law_refused c_ ck cs cf).IsRet ∧ True) _) _ _
  have hr := refused_ok c_ hF (by omega) (by omega) (by omega)
  refine wp_grd ⟨⟨_, hr⟩, trivial⟩ (wp_set ?_)
  have er : law_refused c_ ck cs cf = law_fault c_ ck cs cf := by
    show (lo_law_refused c_ ck cs cf).get = _
    rw [hr]; rfl
  show LO.wp (LO.bind (if (law_fault c_ ck cs cf).isNone = true then grd (((law_refused c_ ck cs cf).isNone = true → ((mk_World_init c_ ck cs cf).IsRet ∧ (lo_law_seen c_ (World_init c_ ck cs cf) ck cs cf).IsRet ∧ True)) ∧ True) (LO.ret ((law_refused c_ ck cs cf).isNone && law_seen c_ (World_init c_ ck cs cf) ck cs cf)) else LO.next ()) fun _ => LO.ret (decide (law_refused c_ ck cs cf = law_fault c_ ck cs cf))) _ _
  rw [er]
  generalize law_fault c_ ck cs cf = o at hF
  refine wp_bind (wp_if (fun hc => ?_) fun _ => wp_next (wp_ret (decide_eq_true rfl)))
  have ho : o = none := Option.isNone_iff_eq_none.mp hc
  subst ho
  rw [mk_get c_ hF]
  have see := seen_ok c_ hF (by omega)
  refine wp_grd ⟨fun _ => ⟨mk_R c_ hF, see.isRet, trivial⟩, trivial⟩ (wp_ret ?_)
  have : law_seen c_ (mkW ck cs cf) ck cs cf = true := see.get
  rw [this]; rfl
theorem law_true (ns : List Int) : lo_law c_ ns = .ret true := (law_wp c_ ns).to
end K05
set_option maxHeartbeats 40000000
namespace K05
open PySem PySem.Spec PyProof.Rows L2 PD
/-! ### what the printed lines ask -/
local macro_rules | `(tactic| walk_at "weak") => `(tactic| first | exact weak_rfl | (repeat (first | exact weak_rfl | refine weak_eq ?_ | refine weak_any ?_)))
local macro_rules | `(tactic| walk_at "blk") => `(tactic| first | decide +kernel | (simp only [bk_sc, cx_N, cx_sc]; decide +kernel))

section
variable {P : Program} {w : World} {K : PySem.W.Frag} {mg : Str → Option Value} {base : Heap} {f : Addr} {fd : FuncData} {c_ : Cs}
/-! ### world_rule_fault -/
abbrev s_world_rule_fault : Stmt := top 5
theorem sc_world_rule_fault : FnScope ["kinds", "same", "facts", "at", "low", "sign", "numbers", "n"] ["kinds", "same", "facts"] (defScope s_world_rule_fault) := ⟨rfl, rfl, rfl, by decide +kernel, rfl, by decide +kernel, by decide +kernel⟩
theorem ok_world_rule_fault (F : Fun K "world_rule_fault" "world_rule_fault" s_world_rule_fault f fd) (hm : mg "world_rule_fault" = some (.ref f)) (b : Binds K fd ["kinds", "same", "facts"] []) (m_len : mg "len" = none) (m_min : mg "min" = none) (m_enumerate : mg "enumerate" = none) (m_all : mg "all" = none) : Cle P w K mg base 1 "world_rule_fault" (R_world_rule_fault c_) := by
  refine cle_mk (S := Unit) (L := Unit) (R := (Option (Str × Int))) F sc_world_rule_fault hm b (fun ars out h => by obtain ⟨_, _, _, rfl, _⟩ := h; rfl) fun cdv A outer s H E ars out as hr hR => ?_
  obtain ⟨v_kinds, v_same, v_facts, rfl, hR⟩ := hR
  refine ⟨[.any, .any, .any, .any, .any, .any, .any, .any], fun _ => [.any, .any, .any, .any, .any, .any, .any, .any], fun _ => [.any, .any, .any, .any, .any, .any, .any, .any], fun r_ => (.dat ((eO (eP D.str D.int)) r_), [.any, .any, .any, .any, .any, .any, .any, .any]), lo_world_rule_fault c_ v_kinds v_same v_facts, ?_, ?_⟩
  · unfold lo_world_rule_fault
    refine ss_cons (S' := Unit) (G' := fun (_ : Unit) => [.dat ((eT D.str) v_kinds), .dat ((eT D.int) v_same), .dat ((eT (eP D.str (eT D.int))) v_facts), .any, .any, .any, .any, .any]) (st_if (tv_neI (evt_len rfl m_len .t (ev_var 1 rfl (pv 1))) (evt_len rfl m_len .t (ev_var 0 rfl (pv 0)))) (fun h_ => ?_) (fun h_ => ?_)) (fun x_ => ?_)
    · skip
      exact ss_one (st_ret (ev_tup (ds := [D.str ("same" : Str), D.int (min (v_same.length : Int) (v_kinds.length : Int))]) (av_cons ev_str (av_cons (ev_min2 rfl rfl m_min (evt_len rfl m_len .t (ev_var 1 rfl (pv 1))) (evt_len rfl m_len .t (ev_var 0 rfl (pv 0)))) av_nil))) rfl (by walk_at "weak"))
    · skip
      exact (ss_nil (by walk_at "weak"))
    refine ss_cons (S' := Unit) (G' := fun (_ : Unit) => [.dat ((eT D.str) v_kinds), .dat ((eT D.int) v_same), .dat ((eT (eP D.str (eT D.int))) v_facts), .any, .any, .any, .any, .any]) (st_for (enc := (eP D.int D.int)) (sh := (.tup [(.name 3), (.name 4)])) (Gs := fun (_ : Unit) => [.dat ((eT D.str) v_kinds), .dat ((eT D.int) v_same), .dat ((eT (eP D.str (eT D.int))) v_facts), .any, .any, .any, .any, .any]) (xs := (enumL v_same)) (st1_world_rule_fault c_ v_kinds v_same) (s0 := ()) (iv_enumT (enc := D.int) rfl m_enumerate (ev_var 1 rfl (pv 1))) (sh_tup rfl (sh_cons (sh_name 3 (pg_name (i := 3) sc_world_rule_fault.nd rfl (by first | exact .inl rfl | exact .inr rfl))) (sh_cons (sh_name 4 (pg_name (i := 4) sc_world_rule_fault.nd rfl (by first | exact .inl rfl | exact .inr rfl))) sh_nil))) (passes_of rfl) rfl (by walk_at "weak") (fun hB_ s_ x_ hx_ => ?_)) (fun x_ => ?_)
    · skip
      obtain ⟨v_at, v_low⟩ := x_
      refine ⟨_, rfl, ?_⟩
      show SS _ _ _ _ _ _ _ (grd ((((!(decide ((0 : Int) ≤ v_low) && decide (v_low ≤ v_at)))) = false → ((0 ≤ v_low) ∧ (v_low < v_same.length) ∧ (((!decide ((v_same.getD (v_low).toNat default) = v_low))) = false → ((0 ≤ v_low) ∧ (v_low < v_kinds.length) ∧ (0 ≤ v_at) ∧ (v_at < v_kinds.length) ∧ True)) ∧ True)) ∧ True) ((if ((!(decide ((0 : Int) ≤ v_low) && decide (v_low ≤ v_at))) || ((!decide ((v_same.getD (v_low).toNat default) = v_low)) || (!decide ((v_kinds.getD (v_low).toNat default) = (v_kinds.getD (v_at).toNat default))))) then LO.ret (some (("same" : Str), v_at)) else LO.next () : LO Unit Unit (Option (Str × Int))).bind fun (_ : Unit) => LO.next ()))
      refine ss_grd (fun g_ => ?_)
      refine ss_cons (S' := Unit) (G' := fun (_ : Unit) => [.dat ((eT D.str) v_kinds), .dat ((eT D.int) v_same), .dat ((eT (eP D.str (eT D.int))) v_facts), .dat (D.int v_at), .dat (D.int v_low), .any, .any, .any]) (st_if (WV.tv (wv_or (tv_not (tv_leLe ev_int (ev_var 4 rfl (pv 4)) (ev_var 3 rfl (pv 3)))) (fun h1_ => (wv_or (tv_neI (evt_ixT (enc := D.int) (ev_var 1 rfl (pv 1)) (ev_var 4 rfl (pv 4)) (((g_.1) h1_).1) (((g_.1) h1_).2.1)) (ev_var 4 rfl (pv 4))) (fun h2_ => (wv_or1 (tv_neS (evt_ixT (enc := D.str) (ev_var 0 rfl (pv 0)) (ev_var 4 rfl (pv 4)) (((((g_.1) h1_).2.2.1) h2_).1) (((((g_.1) h1_).2.2.1) h2_).2.1)) (evt_ixT (enc := D.str) (ev_var 0 rfl (pv 0)) (ev_var 3 rfl (pv 3)) (((((g_.1) h1_).2.2.1) h2_).2.2.1) (((((g_.1) h1_).2.2.1) h2_).2.2.2.1))))))))) (fun h_ => ?_) (fun h_ => ?_)) (fun x_ => ?_)
      · skip
        exact ss_one (st_ret (ev_tup (ds := [D.str ("same" : Str), D.int v_at]) (av_cons ev_str (av_cons (ev_var 3 rfl (pv 3)) av_nil))) rfl (by walk_at "weak"))
      · skip
        exact (ss_nil (by walk_at "weak"))
      exact (ss_nil (by walk_at "weak"))
    refine ss_cons (S' := Unit) (G' := fun (_ : Unit) => [.dat ((eT D.str) v_kinds), .dat ((eT D.int) v_same), .dat ((eT (eP D.str (eT D.int))) v_facts), .any, .any, .any, .any, .any]) (st_for (enc := (eP D.int (eP D.str (eT D.int)))) (sh := (.tup [(.name 3), (.tup [(.name 5), (.name 6)])])) (Gs := fun (_ : Unit) => [.dat ((eT D.str) v_kinds), .dat ((eT D.int) v_same), .dat ((eT (eP D.str (eT D.int))) v_facts), .any, .any, .any, .any, .any]) (xs := (enumL v_facts)) (st2_world_rule_fault c_ v_same v_facts) (s0 := ()) (iv_enumT (enc := (eP D.str (eT D.int))) rfl m_enumerate (ev_var 2 rfl (pv 2))) (sh_tup rfl (sh_cons (sh_name 3 (pg_name (i := 3) sc_world_rule_fault.nd rfl (by first | exact .inl rfl | exact .inr rfl))) (sh_cons (sh_tup rfl (sh_cons (sh_name 5 (pg_name (i := 5) sc_world_rule_fault.nd rfl (by first | exact .inl rfl | exact .inr rfl))) (sh_cons (sh_name 6 (pg_name (i := 6) sc_world_rule_fault.nd rfl (by first | exact .inl rfl | exact .inr rfl))) sh_nil))) sh_nil))) (passes_of rfl) rfl (by walk_at "weak") (fun hB_ s_ x_ hx_ => ?_)) (fun x_ => ?_)
    · skip
      obtain ⟨v_at, ⟨v_sign, v_numbers⟩⟩ := x_
      refine ⟨_, rfl, ?_⟩
      show SS _ _ _ _ _ _ _ (grd ((∀ (v_n : Int), ((v_n : Int) ∈ v_numbers) → ((((decide ((0 : Int) ≤ v_n) && decide (v_n < (v_same.length : Int)))) = true → ((0 ≤ v_n) ∧ (v_n < v_same.length) ∧ True)) ∧ True)) ∧ True) ((if (!((v_numbers.map fun (v_n : Int) => ((decide ((0 : Int) ≤ v_n) && decide (v_n < (v_same.length : Int))) && (decide ((v_same.getD (v_n).toNat default) = v_n)))).all id)) then LO.ret (some (("fact" : Str), v_at)) else LO.next () : LO Unit Unit (Option (Str × Int))).bind fun (_ : Unit) => grd ((((decide ((0 : Int) < v_at))) = true → ((0 ≤ (v_at - (1 : Int))) ∧ ((v_at - (1 : Int)) < v_facts.length) ∧ (0 ≤ v_at) ∧ (v_at < v_facts.length) ∧ True)) ∧ True) ((if ((decide ((0 : Int) < v_at)) && (!(ltT (eP D.str (eT D.int)) (v_facts.getD ((v_at - (1 : Int))).toNat default) (v_facts.getD (v_at).toNat default)))) then LO.ret (some (("fact" : Str), v_at)) else LO.next () : LO Unit Unit (Option (Str × Int))).bind fun (_ : Unit) => LO.next ())))
      refine ss_grd (fun g_ => ?_)
      refine ss_cons (S' := Unit) (G' := fun (_ : Unit) => [.dat ((eT D.str) v_kinds), .dat ((eT D.int) v_same), .dat ((eT (eP D.str (eT D.int))) v_facts), .dat (D.int v_at), .any, .dat (D.str v_sign), .dat ((eT D.int) v_numbers), .any]) (st_if (tv_not (tv_val (ev_all rfl rfl m_all .own (ev_lc rfl sc_world_rule_fault.nd (blkOk_by (own := [("n", 7)]) (by walk_at "blk")) (fun _ _ _ _ _ => (sh_name 7 (pg_name (i := 7) sc_world_rule_fault.nd rfl (by first | exact .inl rfl | exact .inr rfl)))) (cp_map (enc := D.int) (encb := D.bl) (sh := (.name 7)) (own := [("n", 7)]) (Γ0 := [.dat ((eT D.str) v_kinds), .dat ((eT D.int) v_same), .dat ((eT (eP D.str (eT D.int))) v_facts), .dat (D.int v_at), .any, .dat (D.str v_sign), .dat ((eT D.int) v_numbers), .any]) (fun (v_n : Int) => ((decide ((0 : Int) ≤ v_n) && decide (v_n < (v_same.length : Int))) && (decide ((v_same.getD (v_n).toNat default) = v_n)))) (iv_tup (ev_var 6 rfl (pv 6))) (fun _ h => h) (by walk_at "weak") (by intro n hn t ht; simp only [List.map_cons, List.map_nil, List.mem_cons, List.not_mem_nil, or_false] at hn; subst hn; cases ht; rfl) (fun h => by simpa using h) (fun hB_ v_n hx3_ => ⟨_, _, rfl, (fun _ _ _ _ _ => (ev_and (ev_leLt ev_int (ev_var 7 rfl (pv 7)) (evt_len rfl m_len .t (ev_var 1 rfl (pv 1)))) (fun h4_ => (ev_one (ev_eqI (evt_ixT (enc := D.int) (ev_var 1 rfl (pv 1)) (ev_var 7 rfl (pv 7)) (((((g_.1) v_n hx3_).1) h4_).1) (((((g_.1) v_n hx3_).1) h4_).2.1)) (ev_var 7 rfl (pv 7))))))), (by walk_at "weak")⟩)))))) (fun h_ => ?_) (fun h_ => ?_)) (fun x_ => ?_)
      · skip
        exact ss_one (st_ret (ev_tup (ds := [D.str ("fact" : Str), D.int v_at]) (av_cons ev_str (av_cons (ev_var 3 rfl (pv 3)) av_nil))) rfl (by walk_at "weak"))
      · skip
        exact (ss_nil (by walk_at "weak"))
      refine ss_grd (fun g_ => ?_)
      refine ss_cons (S' := Unit) (G' := fun (_ : Unit) => [.dat ((eT D.str) v_kinds), .dat ((eT D.int) v_same), .dat ((eT (eP D.str (eT D.int))) v_facts), .dat (D.int v_at), .any, .dat (D.str v_sign), .dat ((eT D.int) v_numbers), .any]) (st_if (WV.tv (wv_and (tv_gt (ev_var 3 rfl (pv 3)) ev_int) (fun h5_ => (wv_and1 (tv_not (tv_ltT (enc := (eP D.str (eT D.int))) (u := (v_facts.getD ((v_at - (1 : Int))).toNat default)) (v := (v_facts.getD (v_at).toNat default)) hr.units (EncOrd.pair EncOrd.str (EncOrd.vt EncOrd.int (dep_le dep_int (by decide))) (dep_le dep_str (by decide)) (dep_le (dep_vt dep_int) (by decide))) (fun _ h_ => nomatch h_) (evt_ixT (enc := (eP D.str (eT D.int))) (ev_var 2 rfl (pv 2)) (ev_sub (ev_var 3 rfl (pv 3)) ev_int) (((g_.1) h5_).1) (((g_.1) h5_).2.1)) (evt_ixT (enc := (eP D.str (eT D.int))) (ev_var 2 rfl (pv 2)) (ev_var 3 rfl (pv 3)) (((g_.1) h5_).2.2.1) (((g_.1) h5_).2.2.2.1)))))))) (fun h_ => ?_) (fun h_ => ?_)) (fun x_ => ?_)
      · skip
        exact ss_one (st_ret (ev_tup (ds := [D.str ("fact" : Str), D.int v_at]) (av_cons ev_str (av_cons (ev_var 3 rfl (pv 3)) av_nil))) rfl (by walk_at "weak"))
      · skip
        exact (ss_nil (by walk_at "weak"))
      exact (ss_nil (by walk_at "weak"))
    exact ss_one (st_ret ev_non rfl (by walk_at "weak"))
  · rcases hR with ⟨h_, rfl⟩ | hR
    · exact .inl ⟨(world_rule_fault c_ v_kinds v_same v_facts), .dat ((eO (eP D.str D.int)) (world_rule_fault c_ v_kinds v_same v_facts)), LO.IsRet.eq h_, rfl, rfl, finOk trivial⟩
    · exact hR.elim
/-! ### World.__init__ -/
abbrev s_World_init : Stmt := mth (top 6) 0
theorem sc_World_init : FnScope ["self", "kinds", "same", "facts", "fault", "fact"] ["self", "kinds", "same", "facts"] (defScope s_World_init) := ⟨rfl, rfl, rfl, by decide +kernel, rfl, by decide +kernel, by decide +kernel⟩
theorem ok_World_init (F : Fun K "__init__" "World.__init__" s_World_init f fd) (C_world_rule_fault : Cle P w K mg base 1 "world_rule_fault" (R_world_rule_fault c_)) (X_BadWorld : Xle P w K mg base 1 "BadWorld" c_.BadWorld ["part", "at"] okV) (kC_World : Cls K c_.World) (nA_World_known : NoAttr K c_.World "known") (nA_World_facts : NoAttr K c_.World "facts") (nA_World_same : NoAttr K c_.World "same") (nA_World_kinds : NoAttr K c_.World "kinds") : FnOk P w K mg base (L2.CX P w) 3 f fd ["self", "kinds", "same", "facts"] (spR ⟨K, P, w⟩ (R_World_init c_)) := by
  refine fn_mk (S := T_World) (L := Unit) (R := Unit) F sc_World_init (fun ars out h => by obtain ⟨_, _, _, _, rfl, _⟩ := h; rfl) fun cdv A outer s H E ars out as hr hR => ?_
  obtain ⟨v_kinds, v_same, v_facts, z0_, rfl, hR⟩ := hR
  refine ⟨[.own (some (as 0)) (.ins c_.World [] []), .any, .any, .any, .any, .any], fun r_ => [.own (some (as 0)) (o_World c_ r_), .any, .any, .any, .any, .any], fun _ => [.any, .any, .any, .any, .any, .any], fun _ => (.dat .non, []), lo_World_init c_ v_kinds v_same v_facts, ?_, ?_⟩
  · unfold lo_World_init
    refine ss_grd (fun g_ => ?_)
    refine ss_cons (S' := (Option (Str × Int))) (G' := fun (v_fault : (Option (Str × Int))) => [.own (some (as 0)) (.ins c_.World [] []), .dat ((eT D.str) v_kinds), .dat ((eT D.int) v_same), .dat ((eT (eP D.str (eT D.int))) v_facts), .dat ((eO (eP D.str D.int)) v_fault), .any]) (st_set 4 sc_World_init.nd rfl (by first | exact .inl rfl | exact .inr rfl) (ev_call (rs := [.dat ((eT D.str) v_kinds), .dat ((eT D.int) v_same), .dat ((eT (eP D.str (eT D.int))) v_facts)]) (ars := [.dat ((eT D.str) v_kinds), .dat ((eT D.int) v_same), .dat ((eT (eP D.str (eT D.int))) v_facts)]) (rr := .dat ((eO (eP D.str D.int)) (world_rule_fault c_ v_kinds v_same v_facts))) C_world_rule_fault (hr.mono (by decide)) rfl ⟨v_kinds, v_same, v_facts, rfl, .inl ⟨(g_.1), rfl⟩⟩ (mt_cdat (d := (eT D.str) v_kinds) (mt_cdat (d := (eT D.int) v_same) (mt_cdat (d := (eT (eP D.str (eT D.int))) v_facts) mt_nil))) (av_cons (ev_var 1 rfl (pv 1)) (av_cons (ev_var 2 rfl (pv 2)) (av_cons (ev_var 3 rfl (pv 3)) av_nil)))) weak_rfl) (fun v_fault => ?_)
    refine ss_cons (S' := Unit) (G' := fun (_ : Unit) => [.own (some (as 0)) (.ins c_.World [] []), .dat ((eT D.str) v_kinds), .dat ((eT D.int) v_same), .dat ((eT (eP D.str (eT D.int))) v_facts), .dat ((eO (eP D.str D.int)) v_fault), .any]) (st_if (tv_notNO (fun _ => rfl) (ev_var 4 rfl (pv 4))) (fun h_ => ?_) (fun h_ => ?_)) (fun x_ => ?_)
    · skip
      refine ss_grd (fun g_ => ?_)
      exact ss_one (st_raise (ds := [D.str ((v_fault.getD default).1), D.int ((v_fault.getD default).2)]) X_BadWorld (hr.mono (by decide)) rfl rfl (av_cons (ev_ixT (d := D.str ((v_fault.getD default).1)) (EV.some (enc := (eP D.str D.int)) (v := v_fault) (g_.1) (ev_var 4 rfl (pv 4))) ev_int (atI_nat (j := 0) rfl)) (av_cons (ev_ixT (d := D.int ((v_fault.getD default).2)) (EV.some (enc := (eP D.str D.int)) (v := v_fault) (g_.1) (ev_var 4 rfl (pv 4))) ev_int (atI_nat (j := 1) rfl)) av_nil)) rfl (by decide) (fun _ _ r_ => okV_of (ds := [D.str ((v_fault.getD default).1), D.int ((v_fault.getD default).2)]) ⟨(g_.2.1), (g_.2.2.1), trivial⟩ r_) (by walk_at "weak"))
    · skip
      exact (ss_nil (by walk_at "weak"))
    refine ss_cons (S' := Unit) (G' := fun _ => [.own (some (as 0)) (.ins c_.World ["kinds"] [(eT D.str) v_kinds]), .dat ((eT D.str) v_kinds), .dat ((eT D.int) v_same), .dat ((eT (eP D.str (eT D.int))) v_facts), .dat ((eO (eP D.str D.int)) v_fault), .any]) (st_fld (pv 0) (ev_var 1 rfl (pv 1)) rfl kC_World nA_World_kinds (by decide) (by decide) weak_rfl) (fun _ => ?_)
    refine ss_cons (S' := Unit) (G' := fun _ => [.own (some (as 0)) (.ins c_.World ["kinds", "same"] [(eT D.str) v_kinds, (eT D.int) v_same]), .dat ((eT D.str) v_kinds), .dat ((eT D.int) v_same), .dat ((eT (eP D.str (eT D.int))) v_facts), .dat ((eO (eP D.str D.int)) v_fault), .any]) (st_fld (pv 0) (ev_var 2 rfl (pv 2)) rfl kC_World nA_World_same (by decide) (by decide) weak_rfl) (fun _ => ?_)
    refine ss_cons (S' := Unit) (G' := fun _ => [.own (some (as 0)) (.ins c_.World ["kinds", "same", "facts"] [(eT D.str) v_kinds, (eT D.int) v_same, (eT (eP D.str (eT D.int))) v_facts]), .dat ((eT D.str) v_kinds), .dat ((eT D.int) v_same), .dat ((eT (eP D.str (eT D.int))) v_facts), .dat ((eO (eP D.str D.int)) v_fault), .any]) (st_fld (pv 0) (ev_var 3 rfl (pv 3)) rfl kC_World nA_World_facts (by decide) (by decide) weak_rfl) (fun _ => ?_)
    refine ss_cons (S' := Unit) (G' := fun _ => [.own (some (as 0)) (.ins c_.World ["kinds", "same", "facts", "known"] [(eT D.str) v_kinds, (eT D.int) v_same, (eT (eP D.str (eT D.int))) v_facts, (eN (eP D.str (eT D.int)) D.bl) (dOf (fun (v_fact : (Str × (List Int))) => v_fact) (fun (v_fact : (Str × (List Int))) => true) v_facts)]), .dat ((eT D.str) v_kinds), .dat ((eT D.int) v_same), .dat ((eT (eP D.str (eT D.int))) v_facts), .dat ((eO (eP D.str D.int)) v_fault), .any]) (st_fld (pv 0) (EV.fzN (evt_dcn (enc := (eP D.str (eT D.int))) (encb := D.bl) (encc := (eP D.str (eT D.int))) (sh := (.name 5)) (own := [("fact", 5)]) (Γ0 := [.own (some (as 0)) (.ins c_.World ["kinds", "same", "facts"] [(eT D.str) v_kinds, (eT D.int) v_same, (eT (eP D.str (eT D.int))) v_facts]), .dat ((eT D.str) v_kinds), .dat ((eT D.int) v_same), .dat ((eT (eP D.str (eT D.int))) v_facts), .dat ((eO (eP D.str D.int)) v_fault), .any]) (fun (v_fact : (Str × (List Int))) => v_fact) (fun (v_fact : (Str × (List Int))) => true) hr.u9 rfl sc_World_init.nd (blkOk_by (own := [("fact", 5)]) (by walk_at "blk")) (fun _ _ _ _ _ => (sh_name 5 (pg_name (i := 5) sc_World_init.nd rfl (by first | exact .inl rfl | exact .inr rfl)))) (EncNk.isKeyP (EncNk.pairR EncNk.str (EncNk.vt EncNk.int) (by decide)) (by decide)) (iv_tup (ev_var 3 rfl (pv 3))) (fun _ h => h) (by walk_at "weak") (by intro n hn t ht; simp only [List.map_cons, List.map_nil, List.mem_cons, List.not_mem_nil, or_false] at hn; subst hn; cases ht; rfl) (fun h => by simpa using h) (fun hB_ v_fact hx1_ => ⟨_, _, _, rfl, (fun _ _ _ _ _ => (ev_var 5 rfl (pv 5))), (fun _ _ _ _ _ => ev_bl), (by walk_at "weak")⟩))) rfl kC_World nA_World_known (by decide) (by decide) weak_rfl) (fun _ => ?_)
    exact (ss_nil (by walk_at "weak"))
  · rcases hR with ⟨h_, rfl, rfl⟩ | hR
    · exact .inr (.inl ⟨(World_init c_ v_kinds v_same v_facts), asRet_eq h_, rfl, finOk ⟨rfl, rfl, trivial⟩⟩)
    · obtain ⟨y_, h_, rfl, rfl⟩ := hR
      exact .inr (.inr ⟨y_, h_, rfl, finOk ⟨rfl, rfl, trivial⟩⟩)
/-! ### World.__eq__ -/
abbrev s_World_eq : Stmt := mth (top 6) 1
theorem sc_World_eq : FnScope ["self", "other"] ["self", "other"] (defScope s_World_eq) := ⟨rfl, rfl, rfl, by decide +kernel, rfl, by decide +kernel, by decide +kernel⟩
theorem ok_World_eq (F : Fun K "__eq__" "World.__eq__" s_World_eq f fd) (m_isinstance : mg "isinstance" = none) (mg_World : mg "World" = some (.ref c_.World)) (kO_World_World : PySem.W.kitOne K (.ref c_.World) (.ref c_.World) = some true) (oI_World : OwI K c_.World) (kC_World : Cls K c_.World) (nA_World_kinds : NoAttr K c_.World "kinds") (nA_World_same : NoAttr K c_.World "same") (nA_World_facts : NoAttr K c_.World "facts") : FnOk P w K mg base (L2.CX P w) 1 f fd ["self", "other"] (spR ⟨K, P, w⟩ (R_World_eq c_)) := by
  refine fn_mk (S := Unit) (L := Unit) (R := Bool) F sc_World_eq (fun ars out h => by obtain ⟨_, _, rfl, _⟩ := h; rfl) fun cdv A outer s H E ars out as hr hR => ?_
  obtain ⟨v_self, v_other, rfl, hR⟩ := hR
  refine ⟨[.any, .any], fun _ => [.any, .any], fun _ => [.any, .any], fun r_ => (.dat (D.bl r_), [.any, .any]), lo_World_eq c_ v_self v_other, ?_, ?_⟩
  · unfold lo_World_eq
    exact ss_one (st_ret (ev_and (ev_isO rfl m_isinstance oI_World (ev_var 1 rfl (pv 1)) .dat (pe_glob (v := .ref c_.World) rfl mg_World rfl) (.own _) kO_World_World) (fun h1_ => (ev_and (ev_eqT (enc := (eT D.str)) (u := v_self.1) (v := v_other.1) hr.units (EncEq.vt EncEq.str 1 dep_str (by decide)) (ev_fld (d := (eT D.str) v_self.1) (ev_var 0 rfl (pv 0)) .dat kC_World nA_World_kinds rfl) (ev_fld (d := (eT D.str) v_other.1) (ev_var 1 rfl (pv 1)) .dat kC_World nA_World_kinds rfl)) (fun h2_ => (ev_and (ev_eqT (enc := (eT D.int)) (u := v_self.2.1) (v := v_other.2.1) hr.units (EncEq.vt EncEq.int 1 dep_int (by decide)) (ev_fld (d := (eT D.int) v_self.2.1) (ev_var 0 rfl (pv 0)) .dat kC_World nA_World_same rfl) (ev_fld (d := (eT D.int) v_other.2.1) (ev_var 1 rfl (pv 1)) .dat kC_World nA_World_same rfl)) (fun h3_ => (ev_one (ev_eqT (enc := (eT (eP D.str (eT D.int)))) (u := v_self.2.2.1) (v := v_other.2.2.1) hr.units (EncEq.vt (EncEq.pair EncEq.str (EncEq.vt EncEq.int 1 dep_int (by decide)) 2 (dep_le dep_str (by decide)) (dep_le (dep_vt dep_int) (by decide)) (by decide)) 3 (dep_pair (n := 2) (dep_le dep_str (by decide)) (dep_le (dep_vt dep_int) (by decide))) (by decide)) (ev_fld (d := (eT (eP D.str (eT D.int))) v_self.2.2.1) (ev_var 0 rfl (pv 0)) .dat kC_World nA_World_facts rfl) (ev_fld (d := (eT (eP D.str (eT D.int))) v_other.2.2.1) (ev_var 1 rfl (pv 1)) .dat kC_World nA_World_facts rfl))))))))) rfl (by walk_at "weak"))
  · rcases hR with ⟨h_, rfl⟩ | hR
    · exact .inl ⟨(World_eq c_ v_self v_other), .dat (D.bl (World_eq c_ v_self v_other)), LO.IsRet.eq h_, rfl, rfl, finOk trivial⟩
    · exact hR.elim
/-! ### World.__contains__ -/
abbrev s_World_contains : Stmt := mth (top 6) 2
theorem sc_World_contains : FnScope ["self", "fact", "n"] ["self", "fact"] (defScope s_World_contains) := ⟨rfl, rfl, rfl, by decide +kernel, rfl, by decide +kernel, by decide +kernel⟩
theorem ok_World_contains (F : Fun K "__contains__" "World.__contains__" s_World_contains f fd) (m_tuple : mg "tuple" = none) (kC_World : Cls K c_.World) (nA_World_same : NoAttr K c_.World "same") (nA_World_known : NoAttr K c_.World "known") : FnOk P w K mg base (L2.CX P w) 1 f fd ["self", "fact"] (spR ⟨K, P, w⟩ (R_World_contains c_)) := by
  refine fn_mk (S := Unit) (L := Unit) (R := Bool) F sc_World_contains (fun ars out h => by obtain ⟨_, _, rfl, _⟩ := h; rfl) fun cdv A outer s H E ars out as hr hR => ?_
  obtain ⟨v_self, v_fact, rfl, hR⟩ := hR
  refine ⟨[.any, .any, .any], fun _ => [.any, .any, .any], fun _ => [.any, .any, .any], fun r_ => (.dat (D.bl r_), [.any, .any, .any]), lo_World_contains c_ v_self v_fact, ?_, ?_⟩
  · unfold lo_World_contains
    refine ss_grd (fun g_ => ?_)
    exact ss_one (st_ret (evt_inN (enc := (eP D.str (eT D.int))) (encb := D.bl) (u := ((v_fact.1), ((v_fact.2).map fun (v_n : Int) => (v_self.2.1.getD (v_n).toNat default)))) (es := v_self.2.2.2) hr.u9 (EncNk.isKeyP (EncNk.pairR EncNk.str (EncNk.vt EncNk.int) (by decide)) (by decide)) (ev_tup (ds := [D.str (v_fact.1), (eT D.int) ((v_fact.2).map fun (v_n : Int) => (v_self.2.1.getD (v_n).toNat default))]) (av_cons (ev_ixT (d := D.str (v_fact.1)) (ev_var 1 rfl (pv 1)) ev_int (atI_nat (j := 0) rfl)) (av_cons (evt_tuple (enc := D.int) (xs := ((v_fact.2).map fun (v_n : Int) => (v_self.2.1.getD (v_n).toNat default))) rfl m_tuple (.l .own) (ev_lc rfl sc_World_contains.nd (blkOk_by (own := [("n", 2)]) (by walk_at "blk")) (fun _ _ _ _ _ => (sh_name 2 (pg_name (i := 2) sc_World_contains.nd rfl (by first | exact .inl rfl | exact .inr rfl)))) (cp_map (enc := D.int) (encb := D.int) (sh := (.name 2)) (own := [("n", 2)]) (Γ0 := [.dat ((e_World c_) v_self), .dat ((eP D.str (eT D.int)) v_fact), .any]) (fun (v_n : Int) => (v_self.2.1.getD (v_n).toNat default)) (iv_tup (ev_ixT (d := (eT D.int) (v_fact.2)) (ev_var 1 rfl (pv 1)) ev_int (atI_nat (j := 1) rfl))) (fun _ h => h) (by walk_at "weak") (by intro n hn t ht; simp only [List.map_cons, List.map_nil, List.mem_cons, List.not_mem_nil, or_false] at hn; subst hn; cases ht; rfl) (fun h => by simpa using h) (fun hB_ v_n hx1_ => ⟨_, _, rfl, (fun _ _ _ _ _ => (evt_ixT (enc := D.int) (ev_fld (d := (eT D.int) v_self.2.1) (ev_var 0 rfl (pv 0)) .dat kC_World nA_World_same rfl) (ev_var 2 rfl (pv 2)) (((g_.1) v_n hx1_).1) (((g_.1) v_n hx1_).2.1))), (by walk_at "weak")⟩)))) av_nil))) (ev_fld (d := (eN (eP D.str (eT D.int)) D.bl) v_self.2.2.2) (ev_var 0 rfl (pv 0)) .dat kC_World nA_World_known rfl) .dat) rfl (by walk_at "weak"))
  · rcases hR with ⟨h_, rfl⟩ | hR
    · exact .inl ⟨(World_contains c_ v_self v_fact), .dat (D.bl (World_contains c_ v_self v_fact)), LO.IsRet.eq h_, rfl, rfl, finOk trivial⟩
    · exact hR.elim
/-! ### World.first_things -/
abbrev s_World_first_things : Stmt := mth (top 6) 4
theorem sc_World_first_things : FnScope ["self", "n", "low"] ["self"] (defScope s_World_first_things) := ⟨rfl, rfl, rfl, by decide +kernel, rfl, by decide +kernel, by decide +kernel⟩
theorem ok_World_first_things (F : Fun K "first_things" "World.first_things" s_World_first_things f fd) (m_enumerate : mg "enumerate" = none) (kC_World : Cls K c_.World) (nA_World_same : NoAttr K c_.World "same") : FnOk P w K mg base (L2.CX P w) 1 f fd ["self"] (spR ⟨K, P, w⟩ (R_World_first_things c_)) := by
  refine fn_mk (S := Unit) (L := Unit) (R := (List Int)) F sc_World_first_things (fun ars out h => by obtain ⟨_, rfl, _⟩ := h; rfl) fun cdv A outer s H E ars out as hr hR => ?_
  obtain ⟨v_self, rfl, hR⟩ := hR
  refine ⟨[.any, .any, .any], fun _ => [.any, .any, .any], fun _ => [.any, .any, .any], fun r_ => (.own (.lst (r_.map D.int)), [.any, .any, .any]), lo_World_first_things c_ v_self, ?_, ?_⟩
  · unfold lo_World_first_things
    exact ss_one (st_ret (ev_lc rfl sc_World_first_things.nd (blkOk_by (own := [("n", 1), ("low", 2)]) (by walk_at "blk")) (fun _ _ _ _ _ => (sh_tup rfl (sh_cons (sh_name 1 (pg_name (i := 1) sc_World_first_things.nd rfl (by first | exact .inl rfl | exact .inr rfl))) (sh_cons (sh_name 2 (pg_name (i := 2) sc_World_first_things.nd rfl (by first | exact .inl rfl | exact .inr rfl))) sh_nil)))) (cp_mapif (enc := (eP D.int D.int)) (encb := D.int) (sh := (.tup [(.name 1), (.name 2)])) (own := [("n", 1), ("low", 2)]) (Γ0 := [.dat ((e_World c_) v_self), .any, .any]) (fun ((v_n, v_low) : (Int × Int)) => (decide (v_n = v_low))) (fun ((v_n, v_low) : (Int × Int)) => v_n) (iv_enumT (enc := D.int) rfl m_enumerate (ev_fld (d := (eT D.int) v_self.2.1) (ev_var 0 rfl (pv 0)) .dat kC_World nA_World_same rfl)) (fun _ h => h) (by walk_at "weak") (by intro n hn t ht; simp only [List.map_cons, List.map_nil, List.mem_cons, List.not_mem_nil, or_false] at hn; rcases hn with rfl | rfl <;> (cases ht; rfl)) (fun h => h) (fun hB_ ⟨v_n, v_low⟩ hx1_ => ⟨_, _, _, rfl, (fun _ _ _ _ _ => (tv_eqI (ev_var 1 rfl (pv 1)) (ev_var 2 rfl (pv 2)))), (fun h2_ _ _ _ _ _ => (ev_var 1 rfl (pv 1))), (by walk_at "weak"), (by walk_at "weak")⟩))) rfl (by walk_at "weak"))
  · rcases hR with ⟨h_, rfl⟩ | hR
    · exact .inl ⟨(World_first_things c_ v_self), .own (.lst ((World_first_things c_ v_self).map D.int)), LO.IsRet.eq h_, rfl, rfl, finOk trivial⟩
    · exact hR.elim
/-! ### World.of_kind -/
abbrev s_World_of_kind : Stmt := mth (top 6) 5
theorem sc_World_of_kind : FnScope ["self", "kind", "n", "low"] ["self", "kind"] (defScope s_World_of_kind) := ⟨rfl, rfl, rfl, by decide +kernel, rfl, by decide +kernel, by decide +kernel⟩
theorem ok_World_of_kind (F : Fun K "of_kind" "World.of_kind" s_World_of_kind f fd) (m_enumerate : mg "enumerate" = none) (kC_World : Cls K c_.World) (nA_World_same : NoAttr K c_.World "same") (nA_World_kinds : NoAttr K c_.World "kinds") : FnOk P w K mg base (L2.CX P w) 1 f fd ["self", "kind"] (spR ⟨K, P, w⟩ (R_World_of_kind c_)) := by
  refine fn_mk (S := Unit) (L := Unit) (R := (List Int)) F sc_World_of_kind (fun ars out h => by obtain ⟨_, _, rfl, _⟩ := h; rfl) fun cdv A outer s H E ars out as hr hR => ?_
  obtain ⟨v_self, v_kind, rfl, hR⟩ := hR
  refine ⟨[.any, .any, .any, .any], fun _ => [.any, .any, .any, .any], fun _ => [.any, .any, .any, .any], fun r_ => (.own (.lst (r_.map D.int)), [.any, .any, .any, .any]), lo_World_of_kind c_ v_self v_kind, ?_, ?_⟩
  · unfold lo_World_of_kind
    refine ss_grd (fun g_ => ?_)
    exact ss_one (st_ret (ev_lc rfl sc_World_of_kind.nd (blkOk_by (own := [("n", 2), ("low", 3)]) (by walk_at "blk")) (fun _ _ _ _ _ => (sh_tup rfl (sh_cons (sh_name 2 (pg_name (i := 2) sc_World_of_kind.nd rfl (by first | exact .inl rfl | exact .inr rfl))) (sh_cons (sh_name 3 (pg_name (i := 3) sc_World_of_kind.nd rfl (by first | exact .inl rfl | exact .inr rfl))) sh_nil)))) (cp_mapif (enc := (eP D.int D.int)) (encb := D.int) (sh := (.tup [(.name 2), (.name 3)])) (own := [("n", 2), ("low", 3)]) (Γ0 := [.dat ((e_World c_) v_self), .dat (D.str v_kind), .any, .any]) (fun ((v_n, v_low) : (Int × Int)) => ((decide (v_n = v_low)) && (decide ((v_self.1.getD (v_n).toNat default) = v_kind)))) (fun ((v_n, v_low) : (Int × Int)) => v_n) (iv_enumT (enc := D.int) rfl m_enumerate (ev_fld (d := (eT D.int) v_self.2.1) (ev_var 0 rfl (pv 0)) .dat kC_World nA_World_same rfl)) (fun _ h => h) (by walk_at "weak") (by intro n hn t ht; simp only [List.map_cons, List.map_nil, List.mem_cons, List.not_mem_nil, or_false] at hn; rcases hn with rfl | rfl <;> (cases ht; rfl)) (fun h => h) (fun hB_ ⟨v_n, v_low⟩ hx1_ => ⟨_, _, _, rfl, (fun _ _ _ _ _ => (WV.tv (wv_and (tv_eqI (ev_var 2 rfl (pv 2)) (ev_var 3 rfl (pv 3))) (fun h2_ => (wv_and1 (tv_eqS (evt_ixT (enc := D.str) (ev_fld (d := (eT D.str) v_self.1) (ev_var 0 rfl (pv 0)) .dat kC_World nA_World_kinds rfl) (ev_var 2 rfl (pv 2)) (((((g_.1) v_n v_low hx1_).1) h2_).1) (((((g_.1) v_n v_low hx1_).1) h2_).2.1)) (ev_var 1 rfl (pv 1)))))))), (fun h3_ _ _ _ _ _ => (ev_var 2 rfl (pv 2))), (by walk_at "weak"), (by walk_at "weak")⟩))) rfl (by walk_at "weak"))
  · rcases hR with ⟨h_, rfl⟩ | hR
    · exact .inl ⟨(World_of_kind c_ v_self v_kind), .own (.lst ((World_of_kind c_ v_self v_kind).map D.int)), LO.IsRet.eq h_, rfl, rfl, finOk trivial⟩
    · exact hR.elim
/-! ### World.joined -/
abbrev s_World_joined : Stmt := mth (top 6) 6
theorem sc_World_joined : FnScope ["self", "kinds", "pairs", "facts", "size", "same", "told", "left", "right", "low", "high", "sign", "numbers", "n"] ["self", "kinds", "pairs", "facts"] (defScope s_World_joined) := ⟨rfl, rfl, rfl, by decide +kernel, rfl, by decide +kernel, by decide +kernel⟩
theorem ok_World_joined (F : Fun K "joined" "World.joined" s_World_joined f fd) (m_len : mg "len" = none) (m_list : mg "list" = none) (m_range : mg "range" = none) (m_min : mg "min" = none) (m_max : mg "max" = none) (m_tuple : mg "tuple" = none) (m_sorted : mg "sorted" = none) (kC_World : Cls K c_.World) (nA_World_kinds : NoAttr K c_.World "kinds") (nA_World_same : NoAttr K c_.World "same") (nA_World_facts : NoAttr K c_.World "facts") (Z_World : Kle P w K mg base 3 "World" c_.World (R_World_init c_)) : FnOk P w K mg base (L2.CX P w) 5 f fd ["self", "kinds", "pairs", "facts"] (spR ⟨K, P, w⟩ (R_World_joined c_)) := by
  refine fn_mk (S := Unit) (L := Unit) (R := T_World) F sc_World_joined (fun ars out h => by obtain ⟨_, _, _, _, rfl, _⟩ := h; rfl) fun cdv A outer s H E ars out as hr hR => ?_
  obtain ⟨v_self, v_kinds, v_pairs, v_facts, rfl, hR⟩ := hR
  refine ⟨[.any, .any, .any, .any, .any, .any, .any, .any, .any, .any, .any, .any, .any, .any], fun _ => [.any, .any, .any, .any, .any, .any, .any, .any, .any, .any, .any, .any, .any, .any], fun _ => [.any, .any, .any, .any, .any, .any, .any, .any, .any, .any, .any, .any, .any, .any], fun r_ => (.own (o_World c_ r_), [.any, .any, .any, .any, .any, .any, .any, .any, .any, .any, .any, .any, .any, .any]), lo_World_joined c_ v_self v_kinds v_pairs v_facts, ?_, ?_⟩
  · unfold lo_World_joined
    refine ss_cons (S' := Int) (G' := fun (v_size : Int) => [.dat ((e_World c_) v_self), .dat ((eL D.str) v_kinds), .dat ((eL (eP D.int D.int)) v_pairs), .dat ((eL (eP D.str (eT D.int))) v_facts), .dat (D.int v_size), .any, .any, .any, .any, .any, .any, .any, .any, .any]) (st_set 4 sc_World_joined.nd rfl (by first | exact .inl rfl | exact .inr rfl) (evt_len rfl m_len .t (ev_fld (d := (eT D.str) v_self.1) (ev_var 0 rfl (pv 0)) .dat kC_World nA_World_kinds rfl)) weak_rfl) (fun v_size => ?_)
    refine ss_grd (fun g_ => ?_)
    refine ss_cons (S' := (List Int)) (G' := fun (v_same : (List Int)) => [.dat ((e_World c_) v_self), .dat ((eL D.str) v_kinds), .dat ((eL (eP D.int D.int)) v_pairs), .dat ((eL (eP D.str (eT D.int))) v_facts), .dat (D.int v_size), .dat ((eL D.int) v_same), .any, .any, .any, .any, .any, .any, .any, .any]) (st_set 5 sc_World_joined.nd rfl (by first | exact .inl rfl | exact .inr rfl) (EV.fzL (evt_catL (enc := D.int) (xs := v_self.2.1) (ys := (rangeI v_size (v_size + (v_kinds.length : Int)))) (evt_list (enc := D.int) rfl m_list .t (ev_fld (d := (eT D.int) v_self.2.1) (ev_var 0 rfl (pv 0)) .dat kC_World nA_World_same rfl)) (by exact evt_listR2 rfl rfl m_list rfl m_range (rng2s (g_.1)) (ev_var 4 rfl (pv 4)) (ev_add (ev_var 4 rfl (pv 4)) (evt_len rfl m_len (.l .dat) (ev_var 1 rfl (pv 1))))) .own .own (small_line (g_.2.1)))) weak_rfl) (fun v_same => ?_)
    refine ss_cons (S' := (List Int)) (G' := fun (v_same : (List Int)) => [.dat ((e_World c_) v_self), .dat ((eL D.str) v_kinds), .dat ((eL (eP D.int D.int)) v_pairs), .dat ((eL (eP D.str (eT D.int))) v_facts), .dat (D.int v_size), .dat ((eL D.int) v_same), .any, .any, .any, .any, .any, .any, .any, .any]) (st_for (enc := (eP D.int D.int)) (sh := (.tup [(.name 7), (.name 8)])) (Gs := fun (v_same : (List Int)) => [.dat ((e_World c_) v_self), .dat ((eL D.str) v_kinds), .dat ((eL (eP D.int D.int)) v_pairs), .dat ((eL (eP D.str (eT D.int))) v_facts), .dat (D.int v_size), .dat ((eL D.int) v_same), .any, .any, .any, .any, .any, .any, .any, .any]) (xs := v_pairs) (st1_World_joined c_) (s0 := v_same) (iv_list (ev_var 2 rfl (pv 2))) (sh_tup rfl (sh_cons (sh_name 7 (pg_name (i := 7) sc_World_joined.nd rfl (by first | exact .inl rfl | exact .inr rfl))) (sh_cons (sh_name 8 (pg_name (i := 8) sc_World_joined.nd rfl (by first | exact .inl rfl | exact .inr rfl))) sh_nil))) (passes_of rfl) rfl (by walk_at "weak") (fun hB_ v_same x_ hx_ => ?_)) (fun v_same => ?_)
    · skip
      obtain ⟨v_left, v_right⟩ := x_
      refine ⟨_, rfl, ?_⟩
      show SS _ _ _ _ _ _ _ (grd ((0 ≤ v_left) ∧ (v_left < v_same.length) ∧ (0 ≤ v_right) ∧ (v_right < v_same.length) ∧ True) ((LO.next (min (v_same.getD (v_left).toNat default) (v_same.getD (v_right).toNat default)) : LO Int (List Int) T_World).bind fun (v_low : Int) => grd ((0 ≤ v_left) ∧ (v_left < v_same.length) ∧ (0 ≤ v_right) ∧ (v_right < v_same.length) ∧ True) ((LO.next (max (v_same.getD (v_left).toNat default) (v_same.getD (v_right).toNat default)) : LO Int (List Int) T_World).bind fun (v_high : Int) => (LO.next (v_same.map fun (v_n : Int) => (if (decide (v_n = v_high)) then v_low else v_n)) : LO (List Int) (List Int) T_World).bind fun (v_same : (List Int)) => LO.next v_same)))
      refine ss_grd (fun g_ => ?_)
      refine ss_cons (S' := Int) (G' := fun (v_low : Int) => [.dat ((e_World c_) v_self), .dat ((eL D.str) v_kinds), .dat ((eL (eP D.int D.int)) v_pairs), .dat ((eL (eP D.str (eT D.int))) v_facts), .dat (D.int v_size), .dat ((eL D.int) v_same), .any, .dat (D.int v_left), .dat (D.int v_right), .dat (D.int v_low), .any, .any, .any, .any]) (st_set 9 sc_World_joined.nd rfl (by first | exact .inl rfl | exact .inr rfl) (ev_min2 rfl rfl m_min (evt_ixL (enc := D.int) (ev_var 5 rfl (pv 5)) (ev_var 7 rfl (pv 7)) .dat (g_.1) (g_.2.1)) (evt_ixL (enc := D.int) (ev_var 5 rfl (pv 5)) (ev_var 8 rfl (pv 8)) .dat (g_.2.2.1) (g_.2.2.2.1))) weak_rfl) (fun v_low => ?_)
      refine ss_grd (fun g_ => ?_)
      refine ss_cons (S' := Int) (G' := fun (v_high : Int) => [.dat ((e_World c_) v_self), .dat ((eL D.str) v_kinds), .dat ((eL (eP D.int D.int)) v_pairs), .dat ((eL (eP D.str (eT D.int))) v_facts), .dat (D.int v_size), .dat ((eL D.int) v_same), .any, .dat (D.int v_left), .dat (D.int v_right), .dat (D.int v_low), .dat (D.int v_high), .any, .any, .any]) (st_set 10 sc_World_joined.nd rfl (by first | exact .inl rfl | exact .inr rfl) (ev_max2 rfl rfl m_max (evt_ixL (enc := D.int) (ev_var 5 rfl (pv 5)) (ev_var 7 rfl (pv 7)) .dat (g_.1) (g_.2.1)) (evt_ixL (enc := D.int) (ev_var 5 rfl (pv 5)) (ev_var 8 rfl (pv 8)) .dat (g_.2.2.1) (g_.2.2.2.1))) weak_rfl) (fun v_high => ?_)
      refine ss_cons (S' := (List Int)) (G' := fun (v_same : (List Int)) => [.dat ((e_World c_) v_self), .dat ((eL D.str) v_kinds), .dat ((eL (eP D.int D.int)) v_pairs), .dat ((eL (eP D.str (eT D.int))) v_facts), .dat (D.int v_size), .dat ((eL D.int) v_same), .any, .dat (D.int v_left), .dat (D.int v_right), .dat (D.int v_low), .dat (D.int v_high), .any, .any, .any]) (st_set 5 sc_World_joined.nd rfl (by first | exact .inl rfl | exact .inr rfl) (ev_lc rfl sc_World_joined.nd (blkOk_by (own := [("n", 13)]) (by walk_at "blk")) (fun _ _ _ _ _ => (sh_name 13 (pg_name (i := 13) sc_World_joined.nd rfl (by first | exact .inl rfl | exact .inr rfl)))) (CompOk.fz (cp_map (enc := D.int) (encb := D.int) (sh := (.name 13)) (own := [("n", 13)]) (Γ0 := [.dat ((e_World c_) v_self), .dat ((eL D.str) v_kinds), .dat ((eL (eP D.int D.int)) v_pairs), .dat ((eL (eP D.str (eT D.int))) v_facts), .dat (D.int v_size), .dat ((eL D.int) v_same), .any, .dat (D.int v_left), .dat (D.int v_right), .dat (D.int v_low), .dat (D.int v_high), .any, .any, .any]) (fun (v_n : Int) => (if (decide (v_n = v_high)) then v_low else v_n)) (iv_list (ev_var 5 rfl (pv 5))) (fun _ h => h) (by walk_at "weak") (by intro n hn t ht; simp only [List.map_cons, List.map_nil, List.mem_cons, List.not_mem_nil, or_false] at hn; subst hn; cases ht; rfl) (fun h => by simpa using h) (fun hB_ v_n hx1_ => ⟨_, _, rfl, (fun _ _ _ _ _ => (ev_ite (enc := D.int) (tv_eqI (ev_var 13 rfl (pv 13)) (ev_var 10 rfl (pv 10))) (fun h2_ => (ev_var 9 rfl (pv 9))) (fun h3_ => (ev_var 13 rfl (pv 13))))), (by walk_at "weak")⟩)))) weak_rfl) (fun v_same => ?_)
      exact (ss_nil (by walk_at "weak"))
    refine ss_cons (S' := (List ((Str × (List Int)) × Bool))) (G' := fun (v_told : (List ((Str × (List Int)) × Bool))) => [.dat ((e_World c_) v_self), .dat ((eL D.str) v_kinds), .dat ((eL (eP D.int D.int)) v_pairs), .dat ((eL (eP D.str (eT D.int))) v_facts), .dat (D.int v_size), .dat ((eL D.int) v_same), .own none (oN (eP D.str (eT D.int)) D.bl v_told), .any, .any, .any, .any, .any, .any, .any]) (st_set 6 sc_World_joined.nd rfl (by first | exact .inl rfl | exact .inr rfl) (evt_newN (enc := (eP D.str (eT D.int))) (encb := D.bl)) weak_rfl) (fun v_told => ?_)
    refine ss_grd (fun g_ => ?_)
    refine ss_cons (S' := (List ((Str × (List Int)) × Bool))) (G' := fun (v_told : (List ((Str × (List Int)) × Bool))) => [.dat ((e_World c_) v_self), .dat ((eL D.str) v_kinds), .dat ((eL (eP D.int D.int)) v_pairs), .dat ((eL (eP D.str (eT D.int))) v_facts), .dat (D.int v_size), .dat ((eL D.int) v_same), .own none (oN (eP D.str (eT D.int)) D.bl v_told), .any, .any, .any, .any, .any, .any, .any]) (st_for (enc := (eP D.str (eT D.int))) (sh := (.tup [(.name 11), (.name 12)])) (Gs := fun (v_told : (List ((Str × (List Int)) × Bool))) => [.dat ((e_World c_) v_self), .dat ((eL D.str) v_kinds), .dat ((eL (eP D.int D.int)) v_pairs), .dat ((eL (eP D.str (eT D.int))) v_facts), .dat (D.int v_size), .dat ((eL D.int) v_same), .own none (oN (eP D.str (eT D.int)) D.bl v_told), .any, .any, .any, .any, .any, .any, .any]) (xs := (v_self.2.2.1 ++ v_facts)) (st2_World_joined c_ v_same) (s0 := v_told) (iv_list (EV.fzL (evt_catL (enc := (eP D.str (eT D.int))) (xs := v_self.2.2.1) (ys := v_facts) (evt_list (enc := (eP D.str (eT D.int))) rfl m_list .t (ev_fld (d := (eT (eP D.str (eT D.int))) v_self.2.2.1) (ev_var 0 rfl (pv 0)) .dat kC_World nA_World_facts rfl)) (evt_list (enc := (eP D.str (eT D.int))) rfl m_list (.l .dat) (ev_var 3 rfl (pv 3))) .own .own (small_line (g_.1))))) (sh_tup rfl (sh_cons (sh_name 11 (pg_name (i := 11) sc_World_joined.nd rfl (by first | exact .inl rfl | exact .inr rfl))) (sh_cons (sh_name 12 (pg_name (i := 12) sc_World_joined.nd rfl (by first | exact .inl rfl | exact .inr rfl))) sh_nil))) (passes_of rfl) rfl (by walk_at "weak") (fun hB_ v_told x_ hx_ => ?_)) (fun v_told => ?_)
    · skip
      obtain ⟨v_sign, v_numbers⟩ := x_
      refine ⟨_, rfl, ?_⟩
      show SS _ _ _ _ _ _ _ (grd ((∀ (v_n : Int), ((v_n : Int) ∈ v_numbers) → ((0 ≤ v_n) ∧ (v_n < v_same.length) ∧ True)) ∧ (v_told.length < 16777216) ∧ True) ((LO.next (dPut v_told (v_sign, (v_numbers.map fun (v_n : Int) => (v_same.getD (v_n).toNat default))) true) : LO (List ((Str × (List Int)) × Bool)) (List ((Str × (List Int)) × Bool)) T_World).bind fun (v_told : (List ((Str × (List Int)) × Bool))) => LO.next v_told))
      refine ss_grd (fun g_ => ?_)
      refine ss_cons (S' := (List ((Str × (List Int)) × Bool))) (G' := fun (v_told : (List ((Str × (List Int)) × Bool))) => [.dat ((e_World c_) v_self), .dat ((eL D.str) v_kinds), .dat ((eL (eP D.int D.int)) v_pairs), .dat ((eL (eP D.str (eT D.int))) v_facts), .dat (D.int v_size), .dat ((eL D.int) v_same), .own none (oN (eP D.str (eT D.int)) D.bl v_told), .any, .any, .any, .any, .dat (D.str v_sign), .dat ((eT D.int) v_numbers), .any]) (stt_putN (enc := (eP D.str (eT D.int))) (encb := D.bl) (es := v_told) (u := (v_sign, (v_numbers.map fun (v_n : Int) => (v_same.getD (v_n).toNat default)))) (v := true) hr.u9 (EncNk.isKeyP (EncNk.pairR EncNk.str (EncNk.vt EncNk.int) (by decide)) (by decide)) (pv 6) ev_bl (ev_tup (ds := [D.str v_sign, (eT D.int) (v_numbers.map fun (v_n : Int) => (v_same.getD (v_n).toNat default))]) (av_cons (ev_var 11 rfl (pv 11)) (av_cons (evt_tuple (enc := D.int) (xs := (v_numbers.map fun (v_n : Int) => (v_same.getD (v_n).toNat default))) rfl m_tuple (.l .own) (ev_lc rfl sc_World_joined.nd (blkOk_by (own := [("n", 13)]) (by walk_at "blk")) (fun _ _ _ _ _ => (sh_name 13 (pg_name (i := 13) sc_World_joined.nd rfl (by first | exact .inl rfl | exact .inr rfl)))) (cp_map (enc := D.int) (encb := D.int) (sh := (.name 13)) (own := [("n", 13)]) (Γ0 := [.dat ((e_World c_) v_self), .dat ((eL D.str) v_kinds), .dat ((eL (eP D.int D.int)) v_pairs), .dat ((eL (eP D.str (eT D.int))) v_facts), .dat (D.int v_size), .dat ((eL D.int) v_same), .own none (oN (eP D.str (eT D.int)) D.bl v_told), .any, .any, .any, .any, .dat (D.str v_sign), .dat ((eT D.int) v_numbers), .any]) (fun (v_n : Int) => (v_same.getD (v_n).toNat default)) (iv_tup (ev_var 12 rfl (pv 12))) (fun _ h => h) (by walk_at "weak") (by intro n hn t ht; simp only [List.map_cons, List.map_nil, List.mem_cons, List.not_mem_nil, or_false] at hn; subst hn; cases ht; rfl) (fun h => by simpa using h) (fun hB_ v_n hx4_ => ⟨_, _, rfl, (fun _ _ _ _ _ => (evt_ixL (enc := D.int) (ev_var 5 rfl (pv 5)) (ev_var 13 rfl (pv 13)) .dat (((g_.1) v_n hx4_).1) (((g_.1) v_n hx4_).2.1))), (by walk_at "weak")⟩)))) av_nil))) rfl rfl (small_line' (g_.2.1)) weak_rfl) (fun v_told => ?_)
      exact (ss_nil (by walk_at "weak"))
    refine ss_grd (fun g_ => ?_)
    exact ss_one (st_ret (by exact ev_make (oc := o_World c_ (World_init c_ (v_self.1 ++ v_kinds) v_same ((v_told.map Prod.fst).mergeSort (leT (eP D.str (eT D.int)))))) (rs := [.dat ((eT D.str) (v_self.1 ++ v_kinds)), .dat ((eT D.int) v_same), .dat ((eT (eP D.str (eT D.int))) ((v_told.map Prod.fst).mergeSort (leT (eP D.str (eT D.int)))))]) (ars := [.dat ((eT D.str) (v_self.1 ++ v_kinds)), .dat ((eT D.int) v_same), .dat ((eT (eP D.str (eT D.int))) ((v_told.map Prod.fst).mergeSort (leT (eP D.str (eT D.int)))))]) Z_World (hr.mono (by decide)) rfl ⟨(v_self.1 ++ v_kinds), v_same, ((v_told.map Prod.fst).mergeSort (leT (eP D.str (eT D.int)))), _, rfl, .inl ⟨(g_.2.1), rfl, rfl⟩⟩ (mt_cdat (d := (eT D.str) (v_self.1 ++ v_kinds)) (mt_cdat (d := (eT D.int) v_same) (mt_cdat (d := (eT (eP D.str (eT D.int))) ((v_told.map Prod.fst).mergeSort (leT (eP D.str (eT D.int))))) mt_nil))) (av_cons (evt_catT (enc := D.str) (xs := v_self.1) (ys := v_kinds) (ev_fld (d := (eT D.str) v_self.1) (ev_var 0 rfl (pv 0)) .dat kC_World nA_World_kinds rfl) (evt_tuple (enc := D.str) (xs := v_kinds) rfl m_tuple (.l .dat) (ev_var 1 rfl (pv 1))) (small_line (g_.1))) (av_cons (evt_tuple (enc := D.int) (xs := v_same) rfl m_tuple (.l .dat) (ev_var 5 rfl (pv 5))) (av_cons (evt_tuple (enc := (eP D.str (eT D.int))) (xs := ((v_told.map Prod.fst).mergeSort (leT (eP D.str (eT D.int))))) rfl m_tuple (.l .own) (evt_sortedN (enc := (eP D.str (eT D.int))) (encb := D.bl) (es := v_told) hr.units rfl rfl m_sorted (EncOrd.pair EncOrd.str (EncOrd.vt EncOrd.int (dep_le dep_int (by decide))) (dep_le dep_str (by decide)) (dep_le (dep_vt dep_int) (by decide))) EncTop.pair (.bor rfl) (ev_bor 6 rfl (pv 6)))) av_nil)))) rfl (by walk_at "weak"))
  · rcases hR with ⟨h_, rfl⟩ | hR
    · exact .inl ⟨(World_joined c_ v_self v_kinds v_pairs v_facts), .own (o_World c_ (World_joined c_ v_self v_kinds v_pairs v_facts)), LO.IsRet.eq h_, rfl, rfl, finOk trivial⟩
    · exact hR.elim
/-! ### _law_cell -/
abbrev s_law_cell : Stmt := top 8
theorem sc_law_cell : FnScope ["script", "k"] ["script", "k"] (defScope s_law_cell) := ⟨rfl, rfl, rfl, by decide +kernel, rfl, by decide +kernel, by decide +kernel⟩
theorem ok_law_cell (F : Fun K "_law_cell" "_law_cell" s_law_cell f fd) (hm : mg "_law_cell" = some (.ref f)) (b : Binds K fd ["script", "k"] []) (m_len : mg "len" = none) (m_int : mg "int" = none) : Cle P w K mg base 1 "_law_cell" (R_law_cell c_) := by
  refine cle_mk (S := Unit) (L := Unit) (R := Int) F sc_law_cell hm b (fun ars out h => by obtain ⟨_, _, rfl, _⟩ := h; rfl) fun cdv A outer s H E ars out as hr hR => ?_
  obtain ⟨v_script, v_k, rfl, hR⟩ := hR
  refine ⟨[.any, .any], fun _ => [.any, .any], fun _ => [.any, .any], fun r_ => (.dat (D.int r_), [.any, .any]), lo_law_cell c_ v_script v_k, ?_, ?_⟩
  · unfold lo_law_cell
    refine ss_cons (S' := Unit) (G' := fun (_ : Unit) => [.dat ((eL D.int) v_script), .dat (D.int v_k)]) (st_if (tv_lt (ev_var 1 rfl (pv 1)) (evt_len rfl m_len (.l .dat) (ev_var 0 rfl (pv 0)))) (fun h_ => ?_) (fun h_ => ?_)) (fun x_ => ?_)
    · skip
      refine ss_grd (fun g_ => ?_)
      exact ss_one (st_ret (ev_int1 rfl m_int (evt_ixL (enc := D.int) (ev_var 0 rfl (pv 0)) (ev_var 1 rfl (pv 1)) .dat (g_.1) (g_.2.1))) rfl (by walk_at "weak"))
    · skip
      exact (ss_nil (by walk_at "weak"))
    exact ss_one (st_ret ev_int rfl (by walk_at "weak"))
  · rcases hR with ⟨h_, rfl⟩ | hR
    · exact .inl ⟨(law_cell c_ v_script v_k), .dat (D.int (law_cell c_ v_script v_k)), LO.IsRet.eq h_, rfl, rfl, finOk trivial⟩
    · exact hR.elim
/-! ### _law_digits -/
abbrev s_law_digits : Stmt := top 9
theorem sc_law_digits : FnScope ["cell", "many", "row", "rest", "seed", "k"] ["cell", "many"] (defScope s_law_digits) := ⟨rfl, rfl, rfl, by decide +kernel, rfl, by decide +kernel, by decide +kernel⟩
theorem ok_law_digits (F : Fun K "_law_digits" "_law_digits" s_law_digits f fd) (hm : mg "_law_digits" = some (.ref f)) (b : Binds K fd ["cell", "many"] []) (m_abs : mg "abs" = none) (m_int : mg "int" = none) (m_range : mg "range" = none) : Cle P w K mg base 1 "_law_digits" (R_law_digits c_) := by
  refine cle_mk (S := Unit) (L := Unit) (R := (List Int)) F sc_law_digits hm b (fun ars out h => by obtain ⟨_, _, rfl, _⟩ := h; rfl) fun cdv A outer s H E ars out as hr hR => ?_
  obtain ⟨v_cell, v_many, rfl, hR⟩ := hR
  refine ⟨[.any, .any, .any, .any, .any, .any], fun _ => [.any, .any, .any, .any, .any, .any], fun _ => [.any, .any, .any, .any, .any, .any], fun r_ => (.own (.lst (r_.map D.int)), [.any, .any, .any, .any, .any, .any]), lo_law_digits c_ v_cell v_many, ?_, ?_⟩
  · unfold lo_law_digits
    refine ss_cons (S' := (List Int)) (G' := fun (v_row : (List Int)) => [.dat (D.int v_cell), .dat (D.int v_many), .own none (.lst (v_row.map D.int)), .any, .any, .any]) (st_set 2 sc_law_digits.nd rfl (by first | exact .inl rfl | exact .inr rfl) (ev_lst (ds := []) av_nil) weak_rfl) (fun v_row => ?_)
    refine ss_cons (S' := Int) (G' := fun (v_rest : Int) => [.dat (D.int v_cell), .dat (D.int v_many), .own none (.lst (v_row.map D.int)), .dat (D.int v_rest), .any, .any]) (st_set 3 sc_law_digits.nd rfl (by first | exact .inl rfl | exact .inr rfl) ev_int weak_rfl) (fun v_rest => ?_)
    refine ss_cons (S' := Int) (G' := fun (v_rest : Int) => [.dat (D.int v_cell), .dat (D.int v_many), .own none (.lst (v_row.map D.int)), .dat (D.int v_rest), .any, .any]) (st_if (tv_ge (ev_abs rfl m_abs (ev_var 0 rfl (pv 0))) (ev_pow (by refine ⟨?_, ?_, ?_⟩ <;> decide) ev_int ev_int)) (fun h_ => ?_) (fun h_ => ?_)) (fun v_rest => ?_)
    · skip
      refine ss_cons (S' := Int) (G' := fun (v_rest : Int) => [.dat (D.int v_cell), .dat (D.int v_many), .own none (.lst (v_row.map D.int)), .dat (D.int v_rest), .any, .any]) (st_set 3 sc_law_digits.nd rfl (by first | exact .inl rfl | exact .inr rfl) (ev_abs rfl m_abs (ev_var 0 rfl (pv 0))) weak_rfl) (fun v_rest => ?_)
      exact (ss_nil (by walk_at "weak"))
    · skip
      exact (ss_nil (by walk_at "weak"))
    refine ss_cons (S' := Int) (G' := fun (v_seed : Int) => [.dat (D.int v_cell), .dat (D.int v_many), .own none (.lst (v_row.map D.int)), .dat (D.int v_rest), .dat (D.int v_seed), .any]) (st_set 4 sc_law_digits.nd rfl (by first | exact .inl rfl | exact .inr rfl) (ev_mod (by decide) (ev_int1 rfl m_int (ev_var 0 rfl (pv 0))) ev_int) weak_rfl) (fun v_seed => ?_)
    refine ss_grd (fun g_ => ?_)
    refine ss_cons (S' := ((List Int) × Int × Int)) (G' := fun x_ => match x_ with | (v_row, v_rest, v_seed) => [.dat (D.int v_cell), .dat (D.int v_many), .own none (.lst (v_row.map D.int)), .dat (D.int v_rest), .dat (D.int v_seed), .any]) (st_for (enc := D.int) (sh := (.name 5)) (Gs := fun x_ => match x_ with | (v_row, v_rest, v_seed) => [.dat (D.int v_cell), .dat (D.int v_many), .own none (.lst (v_row.map D.int)), .dat (D.int v_rest), .dat (D.int v_seed), .any]) (xs := (rangeI 0 v_many)) (st1_law_digits c_) (s0 := (v_row, v_rest, v_seed)) (by exact ivt_range1 rfl m_range (ev_var 1 rfl (pv 1)) (rng1 (g_.1))) (sh_name 5 (pg_name (i := 5) sc_law_digits.nd rfl (by first | exact .inl rfl | exact .inr rfl))) (passes_of rfl) rfl (by walk_at "weak") (fun hB_ s_ v_k hx_ => ?_)) (fun x_ => ?_)
    · skip
      obtain ⟨v_row, v_rest, v_seed⟩ := s_
      refine ⟨_, rfl, ?_⟩
      show SS _ _ _ _ _ _ _ ((if (decide ((0 : Int) < v_rest)) then grd ((v_row.length < 16777216) ∧ True) ((LO.next (v_row ++ [(v_rest % (840 : Int))]) : LO (List Int) ((List Int) × Int × Int) (List Int)).bind fun (v_row : (List Int)) => (LO.next (v_rest / (840 : Int)) : LO Int ((List Int) × Int × Int) (List Int)).bind fun (v_rest : Int) => LO.next (v_row, v_rest, v_seed)) else (LO.next ((((v_seed * (48271 : Int)) + ((11 : Int) * v_k)) + (7 : Int)) % (2147483647 : Int)) : LO Int ((List Int) × Int × Int) (List Int)).bind fun (v_seed : Int) => grd (((-10000000000000000000 < v_k ∧ v_k < 10000000000000000000) ∨ (-10000000000000000000 < v_k ∧ v_k < 10000000000000000000)) ∧ (v_row.length < 16777216) ∧ True) ((LO.next (v_row ++ [(((((v_seed * (69621 : Int)) + (v_k * v_k)) + (3 : Int)) % (2147483629 : Int)) % (840 : Int))]) : LO (List Int) ((List Int) × Int × Int) (List Int)).bind fun (v_row : (List Int)) => LO.next (v_row, v_rest, v_seed)) : LO ((List Int) × Int × Int) ((List Int) × Int × Int) (List Int)).bind fun x_ => match x_ with | (v_row, v_rest, v_seed) => LO.next (v_row, v_rest, v_seed))
      refine ss_cons (S' := ((List Int) × Int × Int)) (G' := fun x_ => match x_ with | (v_row, v_rest, v_seed) => [.dat (D.int v_cell), .dat (D.int v_many), .own none (.lst (v_row.map D.int)), .dat (D.int v_rest), .dat (D.int v_seed), .dat (D.int v_k)]) (st_if (tv_gt (ev_var 3 rfl (pv 3)) ev_int) (fun h_ => ?_) (fun h_ => ?_)) (fun x_ => ?_)
      · skip
        refine ss_grd (fun g_ => ?_)
        refine ss_cons (S' := (List Int)) (G' := fun (v_row : (List Int)) => [.dat (D.int v_cell), .dat (D.int v_many), .own none (.lst (v_row.map D.int)), .dat (D.int v_rest), .dat (D.int v_seed), .dat (D.int v_k)]) (st_expr (evt_append (enc := D.int) (v := (v_rest % (840 : Int))) (pv 2) rfl (ev_mod (by decide) (ev_int1 rfl m_int (ev_var 3 rfl (pv 3))) ev_int) rfl (small_line' (g_.1))) weak_rfl) (fun v_row => ?_)
        refine ss_cons (S' := Int) (G' := fun (v_rest : Int) => [.dat (D.int v_cell), .dat (D.int v_many), .own none (.lst (v_row.map D.int)), .dat (D.int v_rest), .dat (D.int v_seed), .dat (D.int v_k)]) (st_set 3 sc_law_digits.nd rfl (by first | exact .inl rfl | exact .inr rfl) (ev_fdiv (cdiv ⟨by decide, by decide⟩) (ev_var 3 rfl (pv 3)) ev_int) weak_rfl) (fun v_rest => ?_)
        exact (ss_nil (by walk_at "weak"))
      · skip
        refine ss_cons (S' := Int) (G' := fun (v_seed : Int) => [.dat (D.int v_cell), .dat (D.int v_many), .own none (.lst (v_row.map D.int)), .dat (D.int v_rest), .dat (D.int v_seed), .dat (D.int v_k)]) (st_set 4 sc_law_digits.nd rfl (by first | exact .inl rfl | exact .inr rfl) (ev_mod (by decide) (ev_int1 rfl m_int (ev_add (ev_add (ev_mul (cmul (.inr ⟨by decide, by decide⟩)) (ev_var 4 rfl (pv 4)) ev_int) (ev_mul (cmul (.inl ⟨by decide, by decide⟩)) ev_int (ev_var 5 rfl (pv 5)))) ev_int)) ev_int) weak_rfl) (fun v_seed => ?_)
        refine ss_grd (fun g_ => ?_)
        refine ss_cons (S' := (List Int)) (G' := fun (v_row : (List Int)) => [.dat (D.int v_cell), .dat (D.int v_many), .own none (.lst (v_row.map D.int)), .dat (D.int v_rest), .dat (D.int v_seed), .dat (D.int v_k)]) (st_expr (evt_append (enc := D.int) (v := (((((v_seed * (69621 : Int)) + (v_k * v_k)) + (3 : Int)) % (2147483629 : Int)) % (840 : Int))) (pv 2) rfl (ev_mod (by decide) (ev_mod (by decide) (ev_int1 rfl m_int (ev_add (ev_add (ev_mul (cmul (.inr ⟨by decide, by decide⟩)) (ev_var 4 rfl (pv 4)) ev_int) (ev_mul (cmul (g_.1)) (ev_var 5 rfl (pv 5)) (ev_var 5 rfl (pv 5)))) ev_int)) ev_int) ev_int) rfl (small_line' (g_.2.1))) weak_rfl) (fun v_row => ?_)
        exact (ss_nil (by walk_at "weak"))
      obtain ⟨v_row, v_rest, v_seed⟩ := x_
      exact (ss_nil (by walk_at "weak"))
    obtain ⟨v_row, v_rest, v_seed⟩ := x_
    exact ss_one (st_ret (evt_revL (enc := D.int) (ev_bor 2 rfl (pv 2)) (.bor rfl)) rfl (by walk_at "weak"))
  · rcases hR with ⟨h_, rfl⟩ | hR
    · exact .inl ⟨(law_digits c_ v_cell v_many), .own (.lst ((law_digits c_ v_cell v_many).map D.int)), LO.IsRet.eq h_, rfl, rfl, finOk trivial⟩
    · exact hR.elim
/-! ### _law_take -/
abbrev s_law_take : Stmt := top 10
theorem sc_law_take : FnScope ["row", "many"] ["row", "many"] (defScope s_law_take) := ⟨rfl, rfl, rfl, by decide +kernel, rfl, by decide +kernel, by decide +kernel⟩
theorem ok_law_take (F : Fun K "_law_take" "_law_take" s_law_take f fd) (hm : mg "_law_take" = some (.ref f)) (b : Binds K fd ["row", "many"] []) (m_len : mg "len" = none) (m_int : mg "int" = none) : Cle P w K mg base 1 "_law_take" (R_law_take c_) := by
  refine cle_mk (S := Unit) (L := Unit) (R := (Int × (List Int))) F sc_law_take hm b (fun ars out h => by obtain ⟨_, _, _, rfl, _⟩ := h; rfl) fun cdv A outer s H E ars out as hr hR => ?_
  obtain ⟨v_row, v_many, z0_, rfl, hR⟩ := hR
  refine ⟨[.own (some (as 0)) (.lst (v_row.map D.int)), .any], fun _ => [.any, .any], fun _ => [.any, .any], fun r_ => (.dat (D.int r_.1), [.own (some (as 0)) (.lst (r_.2.map D.int)), .any]), lo_law_take c_ v_row v_many, ?_, ?_⟩
  · unfold lo_law_take
    refine ss_cons (S' := Unit) (G' := fun (_ : Unit) => [.own (some (as 0)) (.lst (v_row.map D.int)), .dat (D.int v_many)]) (st_if (tv_eqI (evt_len rfl m_len (.l (.bor rfl)) (ev_bor 0 rfl (pv 0))) ev_int) (fun h_ => ?_) (fun h_ => ?_)) (fun x_ => ?_)
    · skip
      exact ss_one (st_ret ev_int rfl (by walk_at "weak"))
    · skip
      exact (ss_nil (by walk_at "weak"))
    refine ss_grd (fun g_ => ?_)
    exact ss_one (st_ret (ev_mod (g_.2.1) (ev_int1 rfl m_int (evt_pop (enc := D.int) (pv 0) rfl (g_.1))) (ev_var 1 rfl (pv 1))) rfl (by walk_at "weak"))
  · rcases hR with ⟨h_, rfl, rfl⟩ | hR
    · exact .inl ⟨(law_take c_ v_row v_many), .dat (D.int ((law_take c_ v_row v_many).1)), LO.IsRet.eq h_, rfl, rfl, finOk ⟨rfl, rfl, trivial⟩⟩
    · exact hR.elim
/-! ### _law_words -/
abbrev s_law_words : Stmt := top 11
theorem sc_law_words : FnScope ["row", "count", "letters", "front", "told", "k", "d", "body"] ["row", "count"] (defScope s_law_words) := ⟨rfl, rfl, rfl, by decide +kernel, rfl, by decide +kernel, by decide +kernel⟩
theorem ok_law_words (F : Fun K "_law_words" "_law_words" s_law_words f fd) (hm : mg "_law_words" = some (.ref f)) (b : Binds K fd ["row", "count"] []) (m_range : mg "range" = none) (C_law_take : Cle P w K mg base 1 "_law_take" (R_law_take c_)) : Cle P w K mg base 2 "_law_words" (R_law_words c_) := by
  refine cle_mk (S := Unit) (L := Unit) (R := ((List Str) × (List Int))) F sc_law_words hm b (fun ars out h => by obtain ⟨_, _, _, rfl, _⟩ := h; rfl) fun cdv A outer s H E ars out as hr hR => ?_
  obtain ⟨v_row, v_count, z0_, rfl, hR⟩ := hR
  refine ⟨[.own (some (as 0)) (.lst (v_row.map D.int)), .any, .any, .any, .any, .any, .any, .any], fun _ => [.any, .any, .any, .any, .any, .any, .any, .any], fun _ => [.any, .any, .any, .any, .any, .any, .any, .any], fun r_ => (.own (.lst (r_.1.map D.str)), [.own (some (as 0)) (.lst (r_.2.map D.int)), .any, .any, .any, .any, .any, .any, .any]), lo_law_words c_ v_row v_count, ?_, ?_⟩
  · unfold lo_law_words
    refine ss_cons (S' := Str) (G' := fun (v_letters : Str) => [.own (some (as 0)) (.lst (v_row.map D.int)), .dat (D.int v_count), .dat (D.str v_letters), .any, .any, .any, .any, .any]) (st_set 2 sc_law_words.nd rfl (by first | exact .inl rfl | exact .inr rfl) ev_str weak_rfl) (fun v_letters => ?_)
    refine ss_grd (fun g_ => ?_)
    refine ss_cons (S' := (Int × (List Int))) (G' := fun x_ => match x_ with | (v_front, v_row) => [.own (some (as 0)) (.lst (v_row.map D.int)), .dat (D.int v_count), .dat (D.str v_letters), .dat (D.int v_front), .any, .any, .any, .any]) (st_set 3 sc_law_words.nd rfl (by first | exact .inl rfl | exact .inr rfl) (ev_call (rs := [.bor 0, .dat (D.int (2 : Int))]) (ars := [.mu (.lst (v_row.map D.int)) (.lst (((law_take c_ v_row (2 : Int)).2).map D.int)), .dat (D.int (2 : Int))]) (rr := .dat (D.int ((law_take c_ v_row (2 : Int)).1))) C_law_take (hr.mono (by decide)) rfl ⟨v_row, (2 : Int), _, rfl, .inl ⟨(g_.1), rfl, rfl⟩⟩ (mt_cbor rfl rfl (mt_cdat (d := D.int (2 : Int)) mt_nil)) (av_cons (ev_bor 0 rfl (pv 0)) (av_cons ev_int av_nil))) weak_rfl) (fun x_ => ?_)
    obtain ⟨v_front, v_row⟩ := x_
    refine ss_cons (S' := (List Str)) (G' := fun (v_told : (List Str)) => [.own (some (as 0)) (.lst (v_row.map D.int)), .dat (D.int v_count), .dat (D.str v_letters), .dat (D.int v_front), .own none (.lst (v_told.map D.str)), .any, .any, .any]) (st_set 4 sc_law_words.nd rfl (by first | exact .inl rfl | exact .inr rfl) (ev_lst (ds := []) av_nil) weak_rfl) (fun v_told => ?_)
    refine ss_grd (fun g_ => ?_)
    refine ss_cons (S' := ((List Int) × (List Str))) (G' := fun x_ => match x_ with | (v_row, v_told) => [.own (some (as 0)) (.lst (v_row.map D.int)), .dat (D.int v_count), .dat (D.str v_letters), .dat (D.int v_front), .own none (.lst (v_told.map D.str)), .any, .any, .any]) (st_for (enc := D.int) (sh := (.name 5)) (Gs := fun x_ => match x_ with | (v_row, v_told) => [.own (some (as 0)) (.lst (v_row.map D.int)), .dat (D.int v_count), .dat (D.str v_letters), .dat (D.int v_front), .own none (.lst (v_told.map D.str)), .any, .any, .any]) (xs := (rangeI 0 v_count)) (st1_law_words c_ v_letters v_front) (s0 := (v_row, v_told)) (by exact ivt_range1 rfl m_range (ev_var 1 rfl (pv 1)) (rng1 (g_.1))) (sh_name 5 (pg_name (i := 5) sc_law_words.nd rfl (by first | exact .inl rfl | exact .inr rfl))) (passes_of rfl) rfl (by walk_at "weak") (fun hB_ s_ v_k hx_ => ?_)) (fun x_ => ?_)
    · skip
      obtain ⟨v_row, v_told⟩ := s_
      refine ⟨_, rfl, ?_⟩
      show SS _ _ _ _ _ _ _ (grd (((lo_law_take c_ v_row (840 : Int)).IsRet) ∧ True) ((LO.next ((law_take c_ v_row (840 : Int)).1, (law_take c_ v_row (840 : Int)).2) : LO (Int × (List Int)) ((List Int) × (List Str)) ((List Str) × (List Int))).bind fun x_ => match x_ with | (v_d, v_row) => grd ((0 ≤ (v_d % (26 : Int))) ∧ ((v_d % (26 : Int)) < v_letters.length) ∧ (v_letters.length ≤ 16777216) ∧ (0 ≤ ((v_d / (26 : Int)) % (26 : Int))) ∧ (((v_d / (26 : Int)) % (26 : Int)) < v_letters.length) ∧ ((strAt v_letters (v_d % (26 : Int))).length + (strAt v_letters ((v_d / (26 : Int)) % (26 : Int))).length ≤ 16777216) ∧ (((strAt v_letters (v_d % (26 : Int))) ++ (strAt v_letters ((v_d / (26 : Int)) % (26 : Int)))).length ≤ 4000) ∧ (0 ≤ (v_d % (3 : Int))) ∧ ((v_d % (3 : Int)) ≤ 4000) ∧ True) ((LO.next (strRep ((strAt v_letters (v_d % (26 : Int))) ++ (strAt v_letters ((v_d / (26 : Int)) % (26 : Int)))) (v_d % (3 : Int))) : LO Str ((List Int) × (List Str)) ((List Str) × (List Int))).bind fun (v_body : Str) => (if (decide (v_front = (1 : Int))) then grd ((0 ≤ v_k) ∧ (v_k < v_letters.length) ∧ (v_letters.length ≤ 16777216) ∧ ((strAt v_letters v_k).length + v_body.length ≤ 16777216) ∧ (v_told.length < 16777216) ∧ True) ((LO.next (v_told ++ [((strAt v_letters v_k) ++ v_body)]) : LO (List Str) ((List Int) × (List Str)) ((List Str) × (List Int))).bind fun (v_told : (List Str)) => LO.next v_told) else grd ((0 ≤ v_k) ∧ (v_k < v_letters.length) ∧ (v_letters.length ≤ 16777216) ∧ (v_body.length + (strAt v_letters v_k).length ≤ 16777216) ∧ (v_told.length < 16777216) ∧ True) ((LO.next (v_told ++ [(v_body ++ (strAt v_letters v_k))]) : LO (List Str) ((List Int) × (List Str)) ((List Str) × (List Int))).bind fun (v_told : (List Str)) => LO.next v_told) : LO (List Str) ((List Int) × (List Str)) ((List Str) × (List Int))).bind fun (v_told : (List Str)) => LO.next (v_row, v_told))))
      refine ss_grd (fun g_ => ?_)
      refine ss_cons (S' := (Int × (List Int))) (G' := fun x_ => match x_ with | (v_d, v_row) => [.own (some (as 0)) (.lst (v_row.map D.int)), .dat (D.int v_count), .dat (D.str v_letters), .dat (D.int v_front), .own none (.lst (v_told.map D.str)), .dat (D.int v_k), .dat (D.int v_d), .any]) (st_set 6 sc_law_words.nd rfl (by first | exact .inl rfl | exact .inr rfl) (ev_call (rs := [.bor 0, .dat (D.int (840 : Int))]) (ars := [.mu (.lst (v_row.map D.int)) (.lst (((law_take c_ v_row (840 : Int)).2).map D.int)), .dat (D.int (840 : Int))]) (rr := .dat (D.int ((law_take c_ v_row (840 : Int)).1))) C_law_take (hr.mono (by decide)) rfl ⟨v_row, (840 : Int), _, rfl, .inl ⟨(g_.1), rfl, rfl⟩⟩ (mt_cbor rfl rfl (mt_cdat (d := D.int (840 : Int)) mt_nil)) (av_cons (ev_bor 0 rfl (pv 0)) (av_cons ev_int av_nil))) weak_rfl) (fun x_ => ?_)
      obtain ⟨v_d, v_row⟩ := x_
      refine ss_grd (fun g_ => ?_)
      refine ss_cons (S' := Str) (G' := fun (v_body : Str) => [.own (some (as 0)) (.lst (v_row.map D.int)), .dat (D.int v_count), .dat (D.str v_letters), .dat (D.int v_front), .own none (.lst (v_told.map D.str)), .dat (D.int v_k), .dat (D.int v_d), .dat (D.str v_body)]) (st_set 7 sc_law_words.nd rfl (by first | exact .inl rfl | exact .inr rfl) (ev_mulS (g_.2.2.2.2.2.2.1) (g_.2.2.2.2.2.2.2.1) (g_.2.2.2.2.2.2.2.2.1) (ev_catS (evt_ixS (ev_var 2 rfl (pv 2)) (ev_mod (by decide) (ev_var 6 rfl (pv 6)) ev_int) (small_line (g_.2.2.1)) (g_.1) (g_.2.1)) (evt_ixS (ev_var 2 rfl (pv 2)) (ev_mod (by decide) (ev_fdiv (cdiv ⟨by decide, by decide⟩) (ev_var 6 rfl (pv 6)) ev_int) ev_int) (small_line (g_.2.2.1)) (g_.2.2.2.1) (g_.2.2.2.2.1)) (small_line (g_.2.2.2.2.2.1))) (ev_mod (by decide) (ev_var 6 rfl (pv 6)) ev_int)) weak_rfl) (fun v_body => ?_)
      refine ss_cons (S' := (List Str)) (G' := fun (v_told : (List Str)) => [.own (some (as 0)) (.lst (v_row.map D.int)), .dat (D.int v_count), .dat (D.str v_letters), .dat (D.int v_front), .own none (.lst (v_told.map D.str)), .dat (D.int v_k), .dat (D.int v_d), .dat (D.str v_body)]) (st_if (tv_eqI (ev_var 3 rfl (pv 3)) ev_int) (fun h_ => ?_) (fun h_ => ?_)) (fun v_told => ?_)
      · skip
        refine ss_grd (fun g_ => ?_)
        refine ss_cons (S' := (List Str)) (G' := fun (v_told : (List Str)) => [.own (some (as 0)) (.lst (v_row.map D.int)), .dat (D.int v_count), .dat (D.str v_letters), .dat (D.int v_front), .own none (.lst (v_told.map D.str)), .dat (D.int v_k), .dat (D.int v_d), .dat (D.str v_body)]) (st_expr (evt_append (enc := D.str) (v := ((strAt v_letters v_k) ++ v_body)) (pv 4) rfl (ev_catS (evt_ixS (ev_var 2 rfl (pv 2)) (ev_var 5 rfl (pv 5)) (small_line (g_.2.2.1)) (g_.1) (g_.2.1)) (ev_var 7 rfl (pv 7)) (small_line (g_.2.2.2.1))) rfl (small_line' (g_.2.2.2.2.1))) weak_rfl) (fun v_told => ?_)
        exact (ss_nil (by walk_at "weak"))
      · skip
        refine ss_grd (fun g_ => ?_)
        refine ss_cons (S' := (List Str)) (G' := fun (v_told : (List Str)) => [.own (some (as 0)) (.lst (v_row.map D.int)), .dat (D.int v_count), .dat (D.str v_letters), .dat (D.int v_front), .own none (.lst (v_told.map D.str)), .dat (D.int v_k), .dat (D.int v_d), .dat (D.str v_body)]) (st_expr (evt_append (enc := D.str) (v := (v_body ++ (strAt v_letters v_k))) (pv 4) rfl (ev_catS (ev_var 7 rfl (pv 7)) (evt_ixS (ev_var 2 rfl (pv 2)) (ev_var 5 rfl (pv 5)) (small_line (g_.2.2.1)) (g_.1) (g_.2.1)) (small_line (g_.2.2.2.1))) rfl (small_line' (g_.2.2.2.2.1))) weak_rfl) (fun v_told => ?_)
        exact (ss_nil (by walk_at "weak"))
      exact (ss_nil (by walk_at "weak"))
    obtain ⟨v_row, v_told⟩ := x_
    exact ss_one (st_ret (EV.give (ev_bor 4 rfl (pv 4)) rfl) rfl (by walk_at "weak"))
  · rcases hR with ⟨h_, rfl, rfl⟩ | hR
    · exact .inl ⟨(law_words c_ v_row v_count), .own (.lst (((law_words c_ v_row v_count).1).map D.str)), LO.IsRet.eq h_, rfl, rfl, finOk ⟨rfl, rfl, trivial⟩⟩
    · exact hR.elim
/-! ### _law_kinds -/
abbrev s_law_kinds : Stmt := top 12
theorem sc_law_kinds : FnScope ["row", "words", "count", "k"] ["row", "words", "count"] (defScope s_law_kinds) := ⟨rfl, rfl, rfl, by decide +kernel, rfl, by decide +kernel, by decide +kernel⟩
theorem ok_law_kinds (F : Fun K "_law_kinds" "_law_kinds" s_law_kinds f fd) (hm : mg "_law_kinds" = some (.ref f)) (b : Binds K fd ["row", "words", "count"] []) (m_range : mg "range" = none) (m_tuple : mg "tuple" = none) (C_law_take : Cle P w K mg base 1 "_law_take" (R_law_take c_)) : Cle P w K mg base 2 "_law_kinds" (R_law_kinds c_) := by
  refine cle_mk (S := Unit) (L := Unit) (R := ((List Str) × (List Int))) F sc_law_kinds hm b (fun ars out h => by obtain ⟨_, _, _, _, rfl, _⟩ := h; rfl) fun cdv A outer s H E ars out as hr hR => ?_
  obtain ⟨v_row, v_words, v_count, z0_, rfl, hR⟩ := hR
  refine ⟨[.own (some (as 0)) (.lst (v_row.map D.int)), .any, .any, .any], fun _ => [.any, .any, .any, .any], fun _ => [.any, .any, .any, .any], fun r_ => (.dat ((eT D.str) r_.1), [.own (some (as 0)) (.lst (r_.2.map D.int)), .any, .any, .any]), lo_law_kinds c_ v_row v_words v_count, ?_, ?_⟩
  · unfold lo_law_kinds
    refine ss_grd (fun g_ => ?_)
    exact ss_one (st_ret (evt_tuple (enc := D.str) (xs := (compL (cs1_law_kinds c_ v_words) (rangeI 0 v_count) v_row).2) rfl m_tuple (.l .own) (ev_lc rfl sc_law_kinds.nd (blkOk_by (own := [("k", 3)]) (by walk_at "blk")) (fun _ _ _ _ _ => (sh_name 3 (pg_name (i := 3) sc_law_kinds.nd rfl (by first | exact .inl rfl | exact .inr rfl)))) (cp_comp (enc := D.int) (encb := D.str) (sh := (.name 3)) (own := [("k", 3)]) (Gs := fun (v_row : (List Int)) => [.own (some (as 0)) (.lst (v_row.map D.int)), .dat ((eL D.str) v_words), .dat (D.int v_count), .any]) (cs1_law_kinds c_ v_words) (fun i_ v_row => True) (by exact ivt_range1 rfl m_range (ev_var 2 rfl (pv 2)) (rng1 (g_.1))) (fun _ h => h) (by walk_at "weak") (fun v_row => (by intro n hn t ht; simp only [List.map_cons, List.map_nil, List.mem_cons, List.not_mem_nil, or_false] at hn; subst hn; cases ht; rfl)) trivial (fun _ => rsm1 (g_.1)) (fun hB_ i_ v_row v_k hx2_ hP_ => ⟨_, true, _, rfl, (fun _ _ _ _ _ => tts_nil), (by rw [if_pos rfl]; exact ⟨(v_words.getD ((law_take c_ v_row (3 : Int)).1).toNat default), _, rfl, (fun _ _ _ _ _ => (evt_ixL (enc := D.str) (ev_var 1 rfl (pv 1)) (ev_call (rs := [.bor 0, .dat (D.int (3 : Int))]) (ars := [.mu (.lst (v_row.map D.int)) (.lst (((law_take c_ v_row (3 : Int)).2).map D.int)), .dat (D.int (3 : Int))]) (rr := .dat (D.int ((law_take c_ v_row (3 : Int)).1))) C_law_take (hr.mono (by decide)) rfl ⟨v_row, (3 : Int), _, rfl, .inl ⟨(((g_.2.1) v_row v_k (List.mem_of_getElem? hx2_)).1), rfl, rfl⟩⟩ (mt_cbor rfl rfl (mt_cdat (d := D.int (3 : Int)) mt_nil)) (av_cons (ev_bor 0 rfl (pv 0)) (av_cons ev_int av_nil))) .dat (((g_.2.1) v_row v_k (List.mem_of_getElem? hx2_)).2.1) (((g_.2.1) v_row v_k (List.mem_of_getElem? hx2_)).2.2.1))), (by walk_at "weak")⟩), trivial⟩)))) rfl (by walk_at "weak"))
  · rcases hR with ⟨h_, rfl, rfl⟩ | hR
    · exact .inl ⟨(law_kinds c_ v_row v_words v_count), .dat ((eT D.str) ((law_kinds c_ v_row v_words v_count).1)), LO.IsRet.eq h_, rfl, rfl, finOk ⟨rfl, rfl, trivial⟩⟩
    · exact hR.elim
/-! ### _law_pairs -/
abbrev s_law_pairs : Stmt := top 13
theorem sc_law_pairs : FnScope ["row", "kinds", "most", "pairs", "k", "left", "like", "n"] ["row", "kinds", "most"] (defScope s_law_pairs) := ⟨rfl, rfl, rfl, by decide +kernel, rfl, by decide +kernel, by decide +kernel⟩
theorem ok_law_pairs (F : Fun K "_law_pairs" "_law_pairs" s_law_pairs f fd) (hm : mg "_law_pairs" = some (.ref f)) (b : Binds K fd ["row", "kinds", "most"] []) (m_range : mg "range" = none) (m_len : mg "len" = none) (C_law_take : Cle P w K mg base 1 "_law_take" (R_law_take c_)) : Cle P w K mg base 2 "_law_pairs" (R_law_pairs c_) := by
  refine cle_mk (S := Unit) (L := Unit) (R := ((List (Int × Int)) × (List Int))) F sc_law_pairs hm b (fun ars out h => by obtain ⟨_, _, _, _, rfl, _⟩ := h; rfl) fun cdv A outer s H E ars out as hr hR => ?_
  obtain ⟨v_row, v_kinds, v_most, z0_, rfl, hR⟩ := hR
  refine ⟨[.own (some (as 0)) (.lst (v_row.map D.int)), .any, .any, .any, .any, .any, .any, .any], fun _ => [.any, .any, .any, .any, .any, .any, .any, .any], fun _ => [.any, .any, .any, .any, .any, .any, .any, .any], fun r_ => (.own (.lst (r_.1.map (eP D.int D.int))), [.own (some (as 0)) (.lst (r_.2.map D.int)), .any, .any, .any, .any, .any, .any, .any]), lo_law_pairs c_ v_row v_kinds v_most, ?_, ?_⟩
  · unfold lo_law_pairs
    refine ss_cons (S' := (List (Int × Int))) (G' := fun (v_pairs : (List (Int × Int))) => [.own (some (as 0)) (.lst (v_row.map D.int)), .dat ((eT D.str) v_kinds), .dat (D.int v_most), .own none (.lst (v_pairs.map (eP D.int D.int))), .any, .any, .any, .any]) (st_set 3 sc_law_pairs.nd rfl (by first | exact .inl rfl | exact .inr rfl) (ev_lst (ds := []) av_nil) weak_rfl) (fun v_pairs => ?_)
    refine ss_grd (fun g_ => ?_)
    refine ss_cons (S' := ((List Int) × (List (Int × Int)))) (G' := fun x_ => match x_ with | (v_row, v_pairs) => [.own (some (as 0)) (.lst (v_row.map D.int)), .dat ((eT D.str) v_kinds), .dat (D.int v_most), .own none (.lst (v_pairs.map (eP D.int D.int))), .any, .any, .any, .any]) (st_for (enc := D.int) (sh := (.name 4)) (Gs := fun x_ => match x_ with | (v_row, v_pairs) => [.own (some (as 0)) (.lst (v_row.map D.int)), .dat ((eT D.str) v_kinds), .dat (D.int v_most), .own none (.lst (v_pairs.map (eP D.int D.int))), .any, .any, .any, .any]) (xs := (rangeI 0 (law_take c_ v_row (v_most + (1 : Int))).1)) (st1_law_pairs c_ v_kinds) (s0 := ((law_take c_ v_row (v_most + (1 : Int))).2, v_pairs)) (by exact ivt_range1 rfl m_range (ev_call (rs := [.bor 0, .dat (D.int (v_most + (1 : Int)))]) (ars := [.mu (.lst (v_row.map D.int)) (.lst (((law_take c_ v_row (v_most + (1 : Int))).2).map D.int)), .dat (D.int (v_most + (1 : Int)))]) (rr := .dat (D.int ((law_take c_ v_row (v_most + (1 : Int))).1))) C_law_take (hr.mono (by decide)) rfl ⟨v_row, (v_most + (1 : Int)), _, rfl, .inl ⟨(g_.1), rfl, rfl⟩⟩ (mt_cbor rfl rfl (mt_cdat (d := D.int (v_most + (1 : Int))) mt_nil)) (av_cons (ev_bor 0 rfl (pv 0)) (av_cons (ev_add (ev_var 2 rfl (pv 2)) ev_int) av_nil))) (rng1 (g_.2.1))) (sh_name 4 (pg_name (i := 4) sc_law_pairs.nd rfl (by first | exact .inl rfl | exact .inr rfl))) (passes_of rfl) rfl (by walk_at "weak") (fun hB_ s_ v_k hx_ => ?_)) (fun x_ => ?_)
    · skip
      obtain ⟨v_row, v_pairs⟩ := s_
      refine ⟨_, rfl, ?_⟩
      show SS _ _ _ _ _ _ _ ((if (decide ((0 : Int) < (v_kinds.length : Int))) then grd (((lo_law_take c_ v_row (v_kinds.length : Int)).IsRet) ∧ True) ((LO.next ((law_take c_ v_row (v_kinds.length : Int)).1, (law_take c_ v_row (v_kinds.length : Int)).2) : LO (Int × (List Int)) ((List Int) × (List (Int × Int))) ((List (Int × Int)) × (List Int))).bind fun x_ => match x_ with | (v_left, v_row) => grd ((-1000000 ≤ (v_kinds.length : Int) ∧ (v_kinds.length : Int) ≤ 1000000) ∧ (∀ (v_n : Int), ((v_n : Int) ∈ (rangeI 0 (v_kinds.length : Int))) → ((0 ≤ v_n) ∧ (v_n < v_kinds.length) ∧ (0 ≤ v_left) ∧ (v_left < v_kinds.length) ∧ True)) ∧ True) ((LO.next (((rangeI 0 (v_kinds.length : Int)).filter fun (v_n : Int) => (decide ((v_kinds.getD (v_n).toNat default) = (v_kinds.getD (v_left).toNat default)))).map fun (v_n : Int) => v_n) : LO (List Int) ((List Int) × (List (Int × Int))) ((List (Int × Int)) × (List Int))).bind fun (v_like : (List Int)) => grd (((lo_law_take c_ v_row (v_like.length : Int)).IsRet) ∧ (0 ≤ (law_take c_ v_row (v_like.length : Int)).1) ∧ ((law_take c_ v_row (v_like.length : Int)).1 < v_like.length) ∧ (v_pairs.length < 16777216) ∧ True) ((LO.next ((v_pairs ++ [(v_left, (v_like.getD ((law_take c_ v_row (v_like.length : Int)).1).toNat default))]), (law_take c_ v_row (v_like.length : Int)).2) : LO ((List (Int × Int)) × (List Int)) ((List Int) × (List (Int × Int))) ((List (Int × Int)) × (List Int))).bind fun x_ => match x_ with | (v_pairs, v_row) => LO.next (v_row, v_pairs)))) else LO.next (v_row, v_pairs) : LO ((List Int) × (List (Int × Int))) ((List Int) × (List (Int × Int))) ((List (Int × Int)) × (List Int))).bind fun x_ => match x_ with | (v_row, v_pairs) => LO.next (v_row, v_pairs))
      refine ss_cons (S' := ((List Int) × (List (Int × Int)))) (G' := fun x_ => match x_ with | (v_row, v_pairs) => [.own (some (as 0)) (.lst (v_row.map D.int)), .dat ((eT D.str) v_kinds), .dat (D.int v_most), .own none (.lst (v_pairs.map (eP D.int D.int))), .dat (D.int v_k), .any, .any, .any]) (st_if (tv_gt (evt_len rfl m_len .t (ev_var 1 rfl (pv 1))) ev_int) (fun h_ => ?_) (fun h_ => ?_)) (fun x_ => ?_)
      · skip
        refine ss_grd (fun g_ => ?_)
        refine ss_cons (S' := (Int × (List Int))) (G' := fun x_ => match x_ with | (v_left, v_row) => [.own (some (as 0)) (.lst (v_row.map D.int)), .dat ((eT D.str) v_kinds), .dat (D.int v_most), .own none (.lst (v_pairs.map (eP D.int D.int))), .dat (D.int v_k), .dat (D.int v_left), .any, .any]) (st_set 5 sc_law_pairs.nd rfl (by first | exact .inl rfl | exact .inr rfl) (ev_call (rs := [.bor 0, .dat (D.int (v_kinds.length : Int))]) (ars := [.mu (.lst (v_row.map D.int)) (.lst (((law_take c_ v_row (v_kinds.length : Int)).2).map D.int)), .dat (D.int (v_kinds.length : Int))]) (rr := .dat (D.int ((law_take c_ v_row (v_kinds.length : Int)).1))) C_law_take (hr.mono (by decide)) rfl ⟨v_row, (v_kinds.length : Int), _, rfl, .inl ⟨(g_.1), rfl, rfl⟩⟩ (mt_cbor rfl rfl (mt_cdat (d := D.int (v_kinds.length : Int)) mt_nil)) (av_cons (ev_bor 0 rfl (pv 0)) (av_cons (evt_len rfl m_len .t (ev_var 1 rfl (pv 1))) av_nil))) weak_rfl) (fun x_ => ?_)
        obtain ⟨v_left, v_row⟩ := x_
        refine ss_grd (fun g_ => ?_)
        refine ss_cons (S' := (List Int)) (G' := fun (v_like : (List Int)) => [.own (some (as 0)) (.lst (v_row.map D.int)), .dat ((eT D.str) v_kinds), .dat (D.int v_most), .own none (.lst (v_pairs.map (eP D.int D.int))), .dat (D.int v_k), .dat (D.int v_left), .dat ((eL D.int) v_like), .any]) (st_lc 6 rfl sc_law_pairs.nd rfl rfl (sw_true rfl rfl rfl (by decide +kernel)) (blkOk_by (own := [("n", 7)]) (by walk_at "blk")) (fun _ _ _ _ _ => (sh_name 7 (pg_name (i := 7) sc_law_pairs.nd rfl (by first | exact .inl rfl | exact .inr rfl)))) (CompOk.fz (cp_mapif (enc := D.int) (encb := D.int) (sh := (.name 7)) (own := [("n", 7)]) (Γ0 := [.own (some (as 0)) (.lst (v_row.map D.int)), .dat ((eT D.str) v_kinds), .dat (D.int v_most), .own none (.lst (v_pairs.map (eP D.int D.int))), .dat (D.int v_k), .dat (D.int v_left), .any, .any]) (fun (v_n : Int) => (decide ((v_kinds.getD (v_n).toNat default) = (v_kinds.getD (v_left).toNat default)))) (fun (v_n : Int) => v_n) (by exact ivt_range1 rfl m_range (evt_len rfl m_len .t (ev_var 1 rfl (pv 1))) (rng1 (g_.1))) (fun _ h => h) (by walk_at "weak") (by intro n hn t ht; simp only [List.map_cons, List.map_nil, List.mem_cons, List.not_mem_nil, or_false] at hn; subst hn; cases ht; rfl) (fun _ => rsm1 (g_.1)) (fun hB_ v_n hx1_ => ⟨_, _, _, rfl, (fun _ _ _ _ _ => (tv_eqS (evt_ixT (enc := D.str) (ev_var 1 rfl (pv 1)) (ev_var 7 rfl (pv 7)) (((g_.2.1) v_n hx1_).1) (((g_.2.1) v_n hx1_).2.1)) (evt_ixT (enc := D.str) (ev_var 1 rfl (pv 1)) (ev_var 5 rfl (pv 5)) (((g_.2.1) v_n hx1_).2.2.1) (((g_.2.1) v_n hx1_).2.2.2.1)))), (fun h2_ _ _ _ _ _ => (ev_var 7 rfl (pv 7))), (by walk_at "weak"), (by walk_at "weak")⟩))) weak_rfl) (fun v_like => ?_)
        refine ss_grd (fun g_ => ?_)
        refine ss_cons (S' := ((List (Int × Int)) × (List Int))) (G' := fun x_ => match x_ with | (v_pairs, v_row) => [.own (some (as 0)) (.lst (v_row.map D.int)), .dat ((eT D.str) v_kinds), .dat (D.int v_most), .own none (.lst (v_pairs.map (eP D.int D.int))), .dat (D.int v_k), .dat (D.int v_left), .dat ((eL D.int) v_like), .any]) (st_expr (evt_append (enc := (eP D.int D.int)) (v := (v_left, (v_like.getD ((law_take c_ v_row (v_like.length : Int)).1).toNat default))) (pv 3) rfl (ev_tup (ds := [D.int v_left, D.int (v_like.getD ((law_take c_ v_row (v_like.length : Int)).1).toNat default)]) (av_cons (ev_var 5 rfl (pv 5)) (av_cons (evt_ixL (enc := D.int) (ev_var 6 rfl (pv 6)) (ev_call (rs := [.bor 0, .dat (D.int (v_like.length : Int))]) (ars := [.mu (.lst (v_row.map D.int)) (.lst (((law_take c_ v_row (v_like.length : Int)).2).map D.int)), .dat (D.int (v_like.length : Int))]) (rr := .dat (D.int ((law_take c_ v_row (v_like.length : Int)).1))) C_law_take (hr.mono (by decide)) rfl ⟨v_row, (v_like.length : Int), _, rfl, .inl ⟨(g_.1), rfl, rfl⟩⟩ (mt_cbor rfl rfl (mt_cdat (d := D.int (v_like.length : Int)) mt_nil)) (av_cons (ev_bor 0 rfl (pv 0)) (av_cons (evt_len rfl m_len (.l .dat) (ev_var 6 rfl (pv 6))) av_nil))) .dat (g_.2.1) (g_.2.2.1)) av_nil))) rfl (small_line' (g_.2.2.2.1))) weak_rfl) (fun x_ => ?_)
        obtain ⟨v_pairs, v_row⟩ := x_
        exact (ss_nil (by walk_at "weak"))
      · skip
        exact (ss_nil (by walk_at "weak"))
      obtain ⟨v_row, v_pairs⟩ := x_
      exact (ss_nil (by walk_at "weak"))
    obtain ⟨v_row, v_pairs⟩ := x_
    exact ss_one (st_ret (EV.give (ev_bor 3 rfl (pv 3)) rfl) rfl (by walk_at "weak"))
  · rcases hR with ⟨h_, rfl, rfl⟩ | hR
    · exact .inl ⟨(law_pairs c_ v_row v_kinds v_most), .own (.lst (((law_pairs c_ v_row v_kinds v_most).1).map (eP D.int D.int))), LO.IsRet.eq h_, rfl, rfl, finOk ⟨rfl, rfl, trivial⟩⟩
    · exact hR.elim
/-! ### _law_facts -/
abbrev s_law_facts : Stmt := top 14
theorem sc_law_facts : FnScope ["row", "words", "kinds", "most", "facts", "k", "d", "place"] ["row", "words", "kinds", "most"] (defScope s_law_facts) := ⟨rfl, rfl, rfl, by decide +kernel, rfl, by decide +kernel, by decide +kernel⟩
theorem ok_law_facts (F : Fun K "_law_facts" "_law_facts" s_law_facts f fd) (hm : mg "_law_facts" = some (.ref f)) (b : Binds K fd ["row", "words", "kinds", "most"] []) (m_range : mg "range" = none) (m_len : mg "len" = none) (m_tuple : mg "tuple" = none) (C_law_take : Cle P w K mg base 1 "_law_take" (R_law_take c_)) : Cle P w K mg base 2 "_law_facts" (R_law_facts c_) := by
  refine cle_mk (S := Unit) (L := Unit) (R := ((List (Str × (List Int))) × (List Int))) F sc_law_facts hm b (fun ars out h => by obtain ⟨_, _, _, _, _, rfl, _⟩ := h; rfl) fun cdv A outer s H E ars out as hr hR => ?_
  obtain ⟨v_row, v_words, v_kinds, v_most, z0_, rfl, hR⟩ := hR
  refine ⟨[.own (some (as 0)) (.lst (v_row.map D.int)), .any, .any, .any, .any, .any, .any, .any], fun _ => [.any, .any, .any, .any, .any, .any, .any, .any], fun _ => [.any, .any, .any, .any, .any, .any, .any, .any], fun r_ => (.own (.lst (r_.1.map (eP D.str (eT D.int)))), [.own (some (as 0)) (.lst (r_.2.map D.int)), .any, .any, .any, .any, .any, .any, .any]), lo_law_facts c_ v_row v_words v_kinds v_most, ?_, ?_⟩
  · unfold lo_law_facts
    refine ss_cons (S' := (List (Str × (List Int)))) (G' := fun (v_facts : (List (Str × (List Int)))) => [.own (some (as 0)) (.lst (v_row.map D.int)), .dat ((eL D.str) v_words), .dat ((eT D.str) v_kinds), .dat (D.int v_most), .own none (.lst (v_facts.map (eP D.str (eT D.int)))), .any, .any, .any]) (st_set 4 sc_law_facts.nd rfl (by first | exact .inl rfl | exact .inr rfl) (ev_lst (ds := []) av_nil) weak_rfl) (fun v_facts => ?_)
    refine ss_grd (fun g_ => ?_)
    refine ss_cons (S' := ((List Int) × (List (Str × (List Int))))) (G' := fun x_ => match x_ with | (v_row, v_facts) => [.own (some (as 0)) (.lst (v_row.map D.int)), .dat ((eL D.str) v_words), .dat ((eT D.str) v_kinds), .dat (D.int v_most), .own none (.lst (v_facts.map (eP D.str (eT D.int)))), .any, .any, .any]) (st_for (enc := D.int) (sh := (.name 5)) (Gs := fun x_ => match x_ with | (v_row, v_facts) => [.own (some (as 0)) (.lst (v_row.map D.int)), .dat ((eL D.str) v_words), .dat ((eT D.str) v_kinds), .dat (D.int v_most), .own none (.lst (v_facts.map (eP D.str (eT D.int)))), .any, .any, .any]) (xs := (rangeI 0 (law_take c_ v_row (v_most + (1 : Int))).1)) (st1_law_facts c_ v_words v_kinds) (s0 := ((law_take c_ v_row (v_most + (1 : Int))).2, v_facts)) (by exact ivt_range1 rfl m_range (ev_call (rs := [.bor 0, .dat (D.int (v_most + (1 : Int)))]) (ars := [.mu (.lst (v_row.map D.int)) (.lst (((law_take c_ v_row (v_most + (1 : Int))).2).map D.int)), .dat (D.int (v_most + (1 : Int)))]) (rr := .dat (D.int ((law_take c_ v_row (v_most + (1 : Int))).1))) C_law_take (hr.mono (by decide)) rfl ⟨v_row, (v_most + (1 : Int)), _, rfl, .inl ⟨(g_.1), rfl, rfl⟩⟩ (mt_cbor rfl rfl (mt_cdat (d := D.int (v_most + (1 : Int))) mt_nil)) (av_cons (ev_bor 0 rfl (pv 0)) (av_cons (ev_add (ev_var 3 rfl (pv 3)) ev_int) av_nil))) (rng1 (g_.2.1))) (sh_name 5 (pg_name (i := 5) sc_law_facts.nd rfl (by first | exact .inl rfl | exact .inr rfl))) (passes_of rfl) rfl (by walk_at "weak") (fun hB_ s_ v_k hx_ => ?_)) (fun x_ => ?_)
    · skip
      obtain ⟨v_row, v_facts⟩ := s_
      refine ⟨_, rfl, ?_⟩
      show SS _ _ _ _ _ _ _ (grd (((lo_law_take c_ v_row (4 : Int)).IsRet) ∧ True) ((LO.next ((law_take c_ v_row (4 : Int)).1, (law_take c_ v_row (4 : Int)).2) : LO (Int × (List Int)) ((List Int) × (List (Str × (List Int)))) ((List (Str × (List Int))) × (List Int))).bind fun x_ => match x_ with | (v_d, v_row) => (if ((decide ((0 : Int) < (v_kinds.length : Int))) || (decide (v_d = (0 : Int)))) then grd ((0 ≤ ((3 : Int) + v_d)) ∧ (((3 : Int) + v_d) < v_words.length) ∧ (-1000000 ≤ v_d ∧ v_d ≤ 1000000) ∧ (∀ (v_row : (List Int)) (v_place : Int), ((v_place : Int) ∈ (rangeI 0 v_d)) → (((lo_law_take c_ v_row (v_kinds.length : Int)).IsRet) ∧ True)) ∧ (v_facts.length < 16777216) ∧ True) ((LO.next ((v_facts ++ [((v_words.getD (((3 : Int) + v_d)).toNat default), (compL (cs1_law_facts c_ v_kinds) (rangeI 0 v_d) v_row).2)]), (compL (cs1_law_facts c_ v_kinds) (rangeI 0 v_d) v_row).1) : LO ((List (Str × (List Int))) × (List Int)) ((List Int) × (List (Str × (List Int)))) ((List (Str × (List Int))) × (List Int))).bind fun x_ => match x_ with | (v_facts, v_row) => LO.next (v_facts, v_row)) else LO.next (v_facts, v_row) : LO ((List (Str × (List Int))) × (List Int)) ((List Int) × (List (Str × (List Int)))) ((List (Str × (List Int))) × (List Int))).bind fun x_ => match x_ with | (v_facts, v_row) => LO.next (v_row, v_facts)))
      refine ss_grd (fun g_ => ?_)
      refine ss_cons (S' := (Int × (List Int))) (G' := fun x_ => match x_ with | (v_d, v_row) => [.own (some (as 0)) (.lst (v_row.map D.int)), .dat ((eL D.str) v_words), .dat ((eT D.str) v_kinds), .dat (D.int v_most), .own none (.lst (v_facts.map (eP D.str (eT D.int)))), .dat (D.int v_k), .dat (D.int v_d), .any]) (st_set 6 sc_law_facts.nd rfl (by first | exact .inl rfl | exact .inr rfl) (ev_call (rs := [.bor 0, .dat (D.int (4 : Int))]) (ars := [.mu (.lst (v_row.map D.int)) (.lst (((law_take c_ v_row (4 : Int)).2).map D.int)), .dat (D.int (4 : Int))]) (rr := .dat (D.int ((law_take c_ v_row (4 : Int)).1))) C_law_take (hr.mono (by decide)) rfl ⟨v_row, (4 : Int), _, rfl, .inl ⟨(g_.1), rfl, rfl⟩⟩ (mt_cbor rfl rfl (mt_cdat (d := D.int (4 : Int)) mt_nil)) (av_cons (ev_bor 0 rfl (pv 0)) (av_cons ev_int av_nil))) weak_rfl) (fun x_ => ?_)
      obtain ⟨v_d, v_row⟩ := x_
      refine ss_cons (S' := ((List (Str × (List Int))) × (List Int))) (G' := fun x_ => match x_ with | (v_facts, v_row) => [.own (some (as 0)) (.lst (v_row.map D.int)), .dat ((eL D.str) v_words), .dat ((eT D.str) v_kinds), .dat (D.int v_most), .own none (.lst (v_facts.map (eP D.str (eT D.int)))), .dat (D.int v_k), .dat (D.int v_d), .any]) (st_if (WV.tv (wv_or (tv_gt (evt_len rfl m_len .t (ev_var 2 rfl (pv 2))) ev_int) (fun h1_ => (wv_or1 (tv_eqI (ev_var 6 rfl (pv 6)) ev_int))))) (fun h_ => ?_) (fun h_ => ?_)) (fun x_ => ?_)
      · skip
        refine ss_grd (fun g_ => ?_)
        refine ss_cons (S' := ((List (Str × (List Int))) × (List Int))) (G' := fun x_ => match x_ with | (v_facts, v_row) => [.own (some (as 0)) (.lst (v_row.map D.int)), .dat ((eL D.str) v_words), .dat ((eT D.str) v_kinds), .dat (D.int v_most), .own none (.lst (v_facts.map (eP D.str (eT D.int)))), .dat (D.int v_k), .dat (D.int v_d), .any]) (st_expr (evt_append (enc := (eP D.str (eT D.int))) (v := ((v_words.getD (((3 : Int) + v_d)).toNat default), (compL (cs1_law_facts c_ v_kinds) (rangeI 0 v_d) v_row).2)) (pv 4) rfl (ev_tup (ds := [D.str (v_words.getD (((3 : Int) + v_d)).toNat default), (eT D.int) ((compL (cs1_law_facts c_ v_kinds) (rangeI 0 v_d) v_row).2)]) (av_cons (evt_ixL (enc := D.str) (ev_var 1 rfl (pv 1)) (ev_add ev_int (ev_var 6 rfl (pv 6))) .dat (g_.1) (g_.2.1)) (av_cons (evt_tuple (enc := D.int) (xs := (compL (cs1_law_facts c_ v_kinds) (rangeI 0 v_d) v_row).2) rfl m_tuple (.l .own) (ev_lc rfl sc_law_facts.nd (blkOk_by (own := [("place", 7)]) (by walk_at "blk")) (fun _ _ _ _ _ => (sh_name 7 (pg_name (i := 7) sc_law_facts.nd rfl (by first | exact .inl rfl | exact .inr rfl)))) (cp_comp (enc := D.int) (encb := D.int) (sh := (.name 7)) (own := [("place", 7)]) (Gs := fun (v_row : (List Int)) => [.own (some (as 0)) (.lst (v_row.map D.int)), .dat ((eL D.str) v_words), .dat ((eT D.str) v_kinds), .dat (D.int v_most), .own none (.lst (v_facts.map (eP D.str (eT D.int)))), .dat (D.int v_k), .dat (D.int v_d), .any]) (cs1_law_facts c_ v_kinds) (fun i_ v_row => True) (by exact ivt_range1 rfl m_range (ev_var 6 rfl (pv 6)) (rng1 (g_.2.2.1))) (fun _ h => h) (by walk_at "weak") (fun v_row => (by intro n hn t ht; simp only [List.map_cons, List.map_nil, List.mem_cons, List.not_mem_nil, or_false] at hn; subst hn; cases ht; rfl)) trivial (fun _ => rsm1 (g_.2.2.1)) (fun hB_ i_ v_row v_place hx3_ hP_ => ⟨_, true, _, rfl, (fun _ _ _ _ _ => tts_nil), (by rw [if_pos rfl]; exact ⟨(law_take c_ v_row (v_kinds.length : Int)).1, _, rfl, (fun _ _ _ _ _ => (ev_call (rs := [.bor 0, .dat (D.int (v_kinds.length : Int))]) (ars := [.mu (.lst (v_row.map D.int)) (.lst (((law_take c_ v_row (v_kinds.length : Int)).2).map D.int)), .dat (D.int (v_kinds.length : Int))]) (rr := .dat (D.int ((law_take c_ v_row (v_kinds.length : Int)).1))) C_law_take (hr.mono (by decide)) rfl ⟨v_row, (v_kinds.length : Int), _, rfl, .inl ⟨(((g_.2.2.2.1) v_row v_place (List.mem_of_getElem? hx3_)).1), rfl, rfl⟩⟩ (mt_cbor rfl rfl (mt_cdat (d := D.int (v_kinds.length : Int)) mt_nil)) (av_cons (ev_bor 0 rfl (pv 0)) (av_cons (evt_len rfl m_len .t (ev_var 2 rfl (pv 2))) av_nil)))), (by walk_at "weak")⟩), trivial⟩)))) av_nil))) rfl (small_line' (g_.2.2.2.2.1))) weak_rfl) (fun x_ => ?_)
        obtain ⟨v_facts, v_row⟩ := x_
        exact (ss_nil (by walk_at "weak"))
      · skip
        exact (ss_nil (by walk_at "weak"))
      obtain ⟨v_facts, v_row⟩ := x_
      exact (ss_nil (by walk_at "weak"))
    obtain ⟨v_row, v_facts⟩ := x_
    exact ss_one (st_ret (EV.give (ev_bor 4 rfl (pv 4)) rfl) rfl (by walk_at "weak"))
  · rcases hR with ⟨h_, rfl, rfl⟩ | hR
    · exact .inl ⟨(law_facts c_ v_row v_words v_kinds v_most), .own (.lst (((law_facts c_ v_row v_words v_kinds v_most).1).map (eP D.str (eT D.int)))), LO.IsRet.eq h_, rfl, rfl, finOk ⟨rfl, rfl, trivial⟩⟩
    · exact hR.elim
/-! ### _law_firsts -/
abbrev s_law_firsts : Stmt := top 15
theorem sc_law_firsts : FnScope ["count", "pairs", "firsts", "left", "right", "low", "high", "n"] ["count", "pairs"] (defScope s_law_firsts) := ⟨rfl, rfl, rfl, by decide +kernel, rfl, by decide +kernel, by decide +kernel⟩
theorem ok_law_firsts (F : Fun K "_law_firsts" "_law_firsts" s_law_firsts f fd) (hm : mg "_law_firsts" = some (.ref f)) (b : Binds K fd ["count", "pairs"] []) (m_range : mg "range" = none) (m_min : mg "min" = none) (m_max : mg "max" = none) (m_tuple : mg "tuple" = none) : Cle P w K mg base 1 "_law_firsts" (R_law_firsts c_) := by
  refine cle_mk (S := Unit) (L := Unit) (R := (List Int)) F sc_law_firsts hm b (fun ars out h => by obtain ⟨_, _, rfl, _⟩ := h; rfl) fun cdv A outer s H E ars out as hr hR => ?_
  obtain ⟨v_count, v_pairs, rfl, hR⟩ := hR
  refine ⟨[.any, .any, .any, .any, .any, .any, .any, .any], fun _ => [.any, .any, .any, .any, .any, .any, .any, .any], fun _ => [.any, .any, .any, .any, .any, .any, .any, .any], fun r_ => (.dat ((eT D.int) r_), [.any, .any, .any, .any, .any, .any, .any, .any]), lo_law_firsts c_ v_count v_pairs, ?_, ?_⟩
  · unfold lo_law_firsts
    refine ss_grd (fun g_ => ?_)
    refine ss_cons (S' := (List Int)) (G' := fun (v_firsts : (List Int)) => [.dat (D.int v_count), .dat ((eL (eP D.int D.int)) v_pairs), .dat ((eL D.int) v_firsts), .any, .any, .any, .any, .any]) (st_lc 2 rfl sc_law_firsts.nd rfl rfl (sw_true rfl rfl rfl (by decide +kernel)) (blkOk_by (own := [("n", 7)]) (by walk_at "blk")) (fun _ _ _ _ _ => (sh_name 7 (pg_name (i := 7) sc_law_firsts.nd rfl (by first | exact .inl rfl | exact .inr rfl)))) (CompOk.fz (cp_map (enc := D.int) (encb := D.int) (sh := (.name 7)) (own := [("n", 7)]) (Γ0 := [.dat (D.int v_count), .dat ((eL (eP D.int D.int)) v_pairs), .any, .any, .any, .any, .any, .any]) (fun (v_n : Int) => v_n) (by exact ivt_range1 rfl m_range (ev_var 0 rfl (pv 0)) (rng1 (g_.1))) (fun _ h => h) (by walk_at "weak") (by intro n hn t ht; simp only [List.map_cons, List.map_nil, List.mem_cons, List.not_mem_nil, or_false] at hn; subst hn; cases ht; rfl) (fun _ => rsm1 (g_.1)) (fun hB_ v_n hx1_ => ⟨_, _, rfl, (fun _ _ _ _ _ => (ev_var 7 rfl (pv 7))), (by walk_at "weak")⟩))) weak_rfl) (fun v_firsts => ?_)
    refine ss_cons (S' := (List Int)) (G' := fun (v_firsts : (List Int)) => [.dat (D.int v_count), .dat ((eL (eP D.int D.int)) v_pairs), .dat ((eL D.int) v_firsts), .any, .any, .any, .any, .any]) (st_for (enc := (eP D.int D.int)) (sh := (.tup [(.name 3), (.name 4)])) (Gs := fun (v_firsts : (List Int)) => [.dat (D.int v_count), .dat ((eL (eP D.int D.int)) v_pairs), .dat ((eL D.int) v_firsts), .any, .any, .any, .any, .any]) (xs := v_pairs) (st1_law_firsts c_) (s0 := v_firsts) (iv_list (ev_var 1 rfl (pv 1))) (sh_tup rfl (sh_cons (sh_name 3 (pg_name (i := 3) sc_law_firsts.nd rfl (by first | exact .inl rfl | exact .inr rfl))) (sh_cons (sh_name 4 (pg_name (i := 4) sc_law_firsts.nd rfl (by first | exact .inl rfl | exact .inr rfl))) sh_nil))) (passes_of rfl) rfl (by walk_at "weak") (fun hB_ v_firsts x_ hx_ => ?_)) (fun v_firsts => ?_)
    · skip
      obtain ⟨v_left, v_right⟩ := x_
      refine ⟨_, rfl, ?_⟩
      show SS _ _ _ _ _ _ _ (grd ((0 ≤ v_left) ∧ (v_left < v_firsts.length) ∧ (0 ≤ v_right) ∧ (v_right < v_firsts.length) ∧ True) ((LO.next (min (v_firsts.getD (v_left).toNat default) (v_firsts.getD (v_right).toNat default)) : LO Int (List Int) (List Int)).bind fun (v_low : Int) => grd ((0 ≤ v_left) ∧ (v_left < v_firsts.length) ∧ (0 ≤ v_right) ∧ (v_right < v_firsts.length) ∧ True) ((LO.next (max (v_firsts.getD (v_left).toNat default) (v_firsts.getD (v_right).toNat default)) : LO Int (List Int) (List Int)).bind fun (v_high : Int) => (LO.next (v_firsts.map fun (v_n : Int) => (if (decide (v_n = v_high)) then v_low else v_n)) : LO (List Int) (List Int) (List Int)).bind fun (v_firsts : (List Int)) => LO.next v_firsts)))
      refine ss_grd (fun g_ => ?_)
      refine ss_cons (S' := Int) (G' := fun (v_low : Int) => [.dat (D.int v_count), .dat ((eL (eP D.int D.int)) v_pairs), .dat ((eL D.int) v_firsts), .dat (D.int v_left), .dat (D.int v_right), .dat (D.int v_low), .any, .any]) (st_set 5 sc_law_firsts.nd rfl (by first | exact .inl rfl | exact .inr rfl) (ev_min2 rfl rfl m_min (evt_ixL (enc := D.int) (ev_var 2 rfl (pv 2)) (ev_var 3 rfl (pv 3)) .dat (g_.1) (g_.2.1)) (evt_ixL (enc := D.int) (ev_var 2 rfl (pv 2)) (ev_var 4 rfl (pv 4)) .dat (g_.2.2.1) (g_.2.2.2.1))) weak_rfl) (fun v_low => ?_)
      refine ss_grd (fun g_ => ?_)
      refine ss_cons (S' := Int) (G' := fun (v_high : Int) => [.dat (D.int v_count), .dat ((eL (eP D.int D.int)) v_pairs), .dat ((eL D.int) v_firsts), .dat (D.int v_left), .dat (D.int v_right), .dat (D.int v_low), .dat (D.int v_high), .any]) (st_set 6 sc_law_firsts.nd rfl (by first | exact .inl rfl | exact .inr rfl) (ev_max2 rfl rfl m_max (evt_ixL (enc := D.int) (ev_var 2 rfl (pv 2)) (ev_var 3 rfl (pv 3)) .dat (g_.1) (g_.2.1)) (evt_ixL (enc := D.int) (ev_var 2 rfl (pv 2)) (ev_var 4 rfl (pv 4)) .dat (g_.2.2.1) (g_.2.2.2.1))) weak_rfl) (fun v_high => ?_)
      refine ss_cons (S' := (List Int)) (G' := fun (v_firsts : (List Int)) => [.dat (D.int v_count), .dat ((eL (eP D.int D.int)) v_pairs), .dat ((eL D.int) v_firsts), .dat (D.int v_left), .dat (D.int v_right), .dat (D.int v_low), .dat (D.int v_high), .any]) (st_lc 2 rfl sc_law_firsts.nd rfl rfl (sw_true rfl rfl rfl (by decide +kernel)) (blkOk_by (own := [("n", 7)]) (by walk_at "blk")) (fun _ _ _ _ _ => (sh_name 7 (pg_name (i := 7) sc_law_firsts.nd rfl (by first | exact .inl rfl | exact .inr rfl)))) (CompOk.fz (cp_map (enc := D.int) (encb := D.int) (sh := (.name 7)) (own := [("n", 7)]) (Γ0 := [.dat (D.int v_count), .dat ((eL (eP D.int D.int)) v_pairs), .dat ((eL D.int) v_firsts), .dat (D.int v_left), .dat (D.int v_right), .dat (D.int v_low), .dat (D.int v_high), .any]) (fun (v_n : Int) => (if (decide (v_n = v_high)) then v_low else v_n)) (iv_list (ev_var 2 rfl (pv 2))) (fun _ h => h) (by walk_at "weak") (by intro n hn t ht; simp only [List.map_cons, List.map_nil, List.mem_cons, List.not_mem_nil, or_false] at hn; subst hn; cases ht; rfl) (fun h => by simpa using h) (fun hB_ v_n hx2_ => ⟨_, _, rfl, (fun _ _ _ _ _ => (ev_ite (enc := D.int) (tv_eqI (ev_var 7 rfl (pv 7)) (ev_var 6 rfl (pv 6))) (fun h3_ => (ev_var 5 rfl (pv 5))) (fun h4_ => (ev_var 7 rfl (pv 7))))), (by walk_at "weak")⟩))) weak_rfl) (fun v_firsts => ?_)
      exact (ss_nil (by walk_at "weak"))
    exact ss_one (st_ret (evt_tuple (enc := D.int) (xs := v_firsts) rfl m_tuple (.l .dat) (ev_var 2 rfl (pv 2))) rfl (by walk_at "weak"))
  · rcases hR with ⟨h_, rfl⟩ | hR
    · exact .inl ⟨(law_firsts c_ v_count v_pairs), .dat ((eT D.int) (law_firsts c_ v_count v_pairs)), LO.IsRet.eq h_, rfl, rfl, finOk trivial⟩
    · exact hR.elim
/-! ### _law_told -/
abbrev s_law_told : Stmt := top 16
theorem sc_law_told : FnScope ["firsts", "facts", "told", "sign", "numbers", "n"] ["firsts", "facts"] (defScope s_law_told) := ⟨rfl, rfl, rfl, by decide +kernel, rfl, by decide +kernel, by decide +kernel⟩
theorem ok_law_told (F : Fun K "_law_told" "_law_told" s_law_told f fd) (hm : mg "_law_told" = some (.ref f)) (b : Binds K fd ["firsts", "facts"] []) (m_tuple : mg "tuple" = none) (m_sorted : mg "sorted" = none) : Cle P w K mg base 1 "_law_told" (R_law_told c_) := by
  refine cle_mk (S := Unit) (L := Unit) (R := (List (Str × (List Int)))) F sc_law_told hm b (fun ars out h => by obtain ⟨_, _, rfl, _⟩ := h; rfl) fun cdv A outer s H E ars out as hr hR => ?_
  obtain ⟨v_firsts, v_facts, rfl, hR⟩ := hR
  refine ⟨[.any, .any, .any, .any, .any, .any], fun _ => [.any, .any, .any, .any, .any, .any], fun _ => [.any, .any, .any, .any, .any, .any], fun r_ => (.dat ((eT (eP D.str (eT D.int))) r_), [.any, .any, .any, .any, .any, .any]), lo_law_told c_ v_firsts v_facts, ?_, ?_⟩
  · unfold lo_law_told
    refine ss_cons (S' := (List ((Str × (List Int)) × Bool))) (G' := fun (v_told : (List ((Str × (List Int)) × Bool))) => [.dat ((eT D.int) v_firsts), .dat ((eL (eP D.str (eT D.int))) v_facts), .own none (oN (eP D.str (eT D.int)) D.bl v_told), .any, .any, .any]) (st_set 2 sc_law_told.nd rfl (by first | exact .inl rfl | exact .inr rfl) (evt_newN (enc := (eP D.str (eT D.int))) (encb := D.bl)) weak_rfl) (fun v_told => ?_)
    refine ss_cons (S' := (List ((Str × (List Int)) × Bool))) (G' := fun (v_told : (List ((Str × (List Int)) × Bool))) => [.dat ((eT D.int) v_firsts), .dat ((eL (eP D.str (eT D.int))) v_facts), .own none (oN (eP D.str (eT D.int)) D.bl v_told), .any, .any, .any]) (st_for (enc := (eP D.str (eT D.int))) (sh := (.tup [(.name 3), (.name 4)])) (Gs := fun (v_told : (List ((Str × (List Int)) × Bool))) => [.dat ((eT D.int) v_firsts), .dat ((eL (eP D.str (eT D.int))) v_facts), .own none (oN (eP D.str (eT D.int)) D.bl v_told), .any, .any, .any]) (xs := v_facts) (st1_law_told c_ v_firsts) (s0 := v_told) (iv_list (ev_var 1 rfl (pv 1))) (sh_tup rfl (sh_cons (sh_name 3 (pg_name (i := 3) sc_law_told.nd rfl (by first | exact .inl rfl | exact .inr rfl))) (sh_cons (sh_name 4 (pg_name (i := 4) sc_law_told.nd rfl (by first | exact .inl rfl | exact .inr rfl))) sh_nil))) (passes_of rfl) rfl (by walk_at "weak") (fun hB_ v_told x_ hx_ => ?_)) (fun v_told => ?_)
    · skip
      obtain ⟨v_sign, v_numbers⟩ := x_
      refine ⟨_, rfl, ?_⟩
      show SS _ _ _ _ _ _ _ (grd ((∀ (v_n : Int), ((v_n : Int) ∈ v_numbers) → ((0 ≤ v_n) ∧ (v_n < v_firsts.length) ∧ True)) ∧ (v_told.length < 16777216) ∧ True) ((LO.next (dPut v_told (v_sign, (v_numbers.map fun (v_n : Int) => (v_firsts.getD (v_n).toNat default))) true) : LO (List ((Str × (List Int)) × Bool)) (List ((Str × (List Int)) × Bool)) (List (Str × (List Int)))).bind fun (v_told : (List ((Str × (List Int)) × Bool))) => LO.next v_told))
      refine ss_grd (fun g_ => ?_)
      refine ss_cons (S' := (List ((Str × (List Int)) × Bool))) (G' := fun (v_told : (List ((Str × (List Int)) × Bool))) => [.dat ((eT D.int) v_firsts), .dat ((eL (eP D.str (eT D.int))) v_facts), .own none (oN (eP D.str (eT D.int)) D.bl v_told), .dat (D.str v_sign), .dat ((eT D.int) v_numbers), .any]) (stt_putN (enc := (eP D.str (eT D.int))) (encb := D.bl) (es := v_told) (u := (v_sign, (v_numbers.map fun (v_n : Int) => (v_firsts.getD (v_n).toNat default)))) (v := true) hr.u9 (EncNk.isKeyP (EncNk.pairR EncNk.str (EncNk.vt EncNk.int) (by decide)) (by decide)) (pv 2) ev_bl (ev_tup (ds := [D.str v_sign, (eT D.int) (v_numbers.map fun (v_n : Int) => (v_firsts.getD (v_n).toNat default))]) (av_cons (ev_var 3 rfl (pv 3)) (av_cons (evt_tuple (enc := D.int) (xs := (v_numbers.map fun (v_n : Int) => (v_firsts.getD (v_n).toNat default))) rfl m_tuple (.l .own) (ev_lc rfl sc_law_told.nd (blkOk_by (own := [("n", 5)]) (by walk_at "blk")) (fun _ _ _ _ _ => (sh_name 5 (pg_name (i := 5) sc_law_told.nd rfl (by first | exact .inl rfl | exact .inr rfl)))) (cp_map (enc := D.int) (encb := D.int) (sh := (.name 5)) (own := [("n", 5)]) (Γ0 := [.dat ((eT D.int) v_firsts), .dat ((eL (eP D.str (eT D.int))) v_facts), .own none (oN (eP D.str (eT D.int)) D.bl v_told), .dat (D.str v_sign), .dat ((eT D.int) v_numbers), .any]) (fun (v_n : Int) => (v_firsts.getD (v_n).toNat default)) (iv_tup (ev_var 4 rfl (pv 4))) (fun _ h => h) (by walk_at "weak") (by intro n hn t ht; simp only [List.map_cons, List.map_nil, List.mem_cons, List.not_mem_nil, or_false] at hn; subst hn; cases ht; rfl) (fun h => by simpa using h) (fun hB_ v_n hx1_ => ⟨_, _, rfl, (fun _ _ _ _ _ => (evt_ixT (enc := D.int) (ev_var 0 rfl (pv 0)) (ev_var 5 rfl (pv 5)) (((g_.1) v_n hx1_).1) (((g_.1) v_n hx1_).2.1))), (by walk_at "weak")⟩)))) av_nil))) rfl rfl (small_line' (g_.2.1)) weak_rfl) (fun v_told => ?_)
      exact (ss_nil (by walk_at "weak"))
    exact ss_one (st_ret (evt_tuple (enc := (eP D.str (eT D.int))) (xs := ((v_told.map Prod.fst).mergeSort (leT (eP D.str (eT D.int))))) rfl m_tuple (.l .own) (evt_sortedN (enc := (eP D.str (eT D.int))) (encb := D.bl) (es := v_told) hr.units rfl rfl m_sorted (EncOrd.pair EncOrd.str (EncOrd.vt EncOrd.int (dep_le dep_int (by decide))) (dep_le dep_str (by decide)) (dep_le (dep_vt dep_int) (by decide))) EncTop.pair (.bor rfl) (ev_bor 2 rfl (pv 2)))) rfl (by walk_at "weak"))
  · rcases hR with ⟨h_, rfl⟩ | hR
    · exact .inl ⟨(law_told c_ v_firsts v_facts), .dat ((eT (eP D.str (eT D.int))) (law_told c_ v_firsts v_facts)), LO.IsRet.eq h_, rfl, rfl, finOk trivial⟩
    · exact hR.elim
/-! ### _law_fault -/
abbrev s_law_fault : Stmt := top 17
theorem sc_law_fault : FnScope ["kinds", "same", "facts", "n", "k"] ["kinds", "same", "facts"] (defScope s_law_fault) := ⟨rfl, rfl, rfl, by decide +kernel, rfl, by decide +kernel, by decide +kernel⟩
theorem ok_law_fault (F : Fun K "_law_fault" "_law_fault" s_law_fault f fd) (hm : mg "_law_fault" = some (.ref f)) (b : Binds K fd ["kinds", "same", "facts"] []) (m_len : mg "len" = none) (m_min : mg "min" = none) (m_range : mg "range" = none) : Cle P w K mg base 1 "_law_fault" (R_law_fault c_) := by
  refine cle_mk (S := Unit) (L := Unit) (R := (Option (Str × Int))) F sc_law_fault hm b (fun ars out h => by obtain ⟨_, _, _, rfl, _⟩ := h; rfl) fun cdv A outer s H E ars out as hr hR => ?_
  obtain ⟨v_kinds, v_same, v_facts, rfl, hR⟩ := hR
  refine ⟨[.any, .any, .any, .any, .any], fun _ => [.any, .any, .any, .any, .any], fun _ => [.any, .any, .any, .any, .any], fun r_ => (.dat ((eO (eP D.str D.int)) r_), [.any, .any, .any, .any, .any]), lo_law_fault c_ v_kinds v_same v_facts, ?_, ?_⟩
  · unfold lo_law_fault
    refine ss_cons (S' := Unit) (G' := fun (_ : Unit) => [.dat ((eT D.str) v_kinds), .dat ((eT D.int) v_same), .dat ((eT (eP D.str (eT D.int))) v_facts), .any, .any]) (st_if (tv_neI (evt_len rfl m_len .t (ev_var 0 rfl (pv 0))) (evt_len rfl m_len .t (ev_var 1 rfl (pv 1)))) (fun h_ => ?_) (fun h_ => ?_)) (fun x_ => ?_)
    · skip
      exact ss_one (st_ret (ev_tup (ds := [D.str ("same" : Str), D.int (min (v_kinds.length : Int) (v_same.length : Int))]) (av_cons ev_str (av_cons (ev_min2 rfl rfl m_min (evt_len rfl m_len .t (ev_var 0 rfl (pv 0))) (evt_len rfl m_len .t (ev_var 1 rfl (pv 1)))) av_nil))) rfl (by walk_at "weak"))
    · skip
      exact (ss_nil (by walk_at "weak"))
    refine ss_grd (fun g_ => ?_)
    refine ss_cons (S' := Unit) (G' := fun (_ : Unit) => [.dat ((eT D.str) v_kinds), .dat ((eT D.int) v_same), .dat ((eT (eP D.str (eT D.int))) v_facts), .any, .any]) (st_for (enc := D.int) (sh := (.name 3)) (Gs := fun (_ : Unit) => [.dat ((eT D.str) v_kinds), .dat ((eT D.int) v_same), .dat ((eT (eP D.str (eT D.int))) v_facts), .any, .any]) (xs := (rangeI 0 (v_same.length : Int))) (st1_law_fault c_ v_kinds v_same) (s0 := ()) (by exact ivt_range1 rfl m_range (evt_len rfl m_len .t (ev_var 1 rfl (pv 1))) (rng1 (g_.1))) (sh_name 3 (pg_name (i := 3) sc_law_fault.nd rfl (by first | exact .inl rfl | exact .inr rfl))) (passes_of rfl) rfl (by walk_at "weak") (fun hB_ s_ v_n hx_ => ?_)) (fun x_ => ?_)
    · skip
      refine ⟨_, rfl, ?_⟩
      show SS _ _ _ _ _ _ _ (grd ((0 ≤ v_n) ∧ (v_n < v_same.length) ∧ (((decide ((v_same.getD (v_n).toNat default) < (0 : Int)))) = false → ((0 ≤ v_n) ∧ (v_n < v_same.length) ∧ True)) ∧ True) ((if ((decide ((v_same.getD (v_n).toNat default) < (0 : Int))) || (decide (v_n < (v_same.getD (v_n).toNat default)))) then LO.ret (some (("same" : Str), v_n)) else LO.next () : LO Unit Unit (Option (Str × Int))).bind fun (_ : Unit) => grd ((0 ≤ v_n) ∧ (v_n < v_same.length) ∧ (0 ≤ (v_same.getD (v_n).toNat default)) ∧ ((v_same.getD (v_n).toNat default) < v_same.length) ∧ (((!decide ((v_same.getD ((v_same.getD (v_n).toNat default)).toNat default) = (v_same.getD (v_n).toNat default)))) = false → ((0 ≤ v_n) ∧ (v_n < v_same.length) ∧ (0 ≤ (v_same.getD (v_n).toNat default)) ∧ ((v_same.getD (v_n).toNat default) < v_kinds.length) ∧ (v_n < v_kinds.length) ∧ True)) ∧ True) ((if ((!decide ((v_same.getD ((v_same.getD (v_n).toNat default)).toNat default) = (v_same.getD (v_n).toNat default))) || (!decide ((v_kinds.getD ((v_same.getD (v_n).toNat default)).toNat default) = (v_kinds.getD (v_n).toNat default)))) then LO.ret (some (("same" : Str), v_n)) else LO.next () : LO Unit Unit (Option (Str × Int))).bind fun (_ : Unit) => LO.next ())))
      refine ss_grd (fun g_ => ?_)
      refine ss_cons (S' := Unit) (G' := fun (_ : Unit) => [.dat ((eT D.str) v_kinds), .dat ((eT D.int) v_same), .dat ((eT (eP D.str (eT D.int))) v_facts), .dat (D.int v_n), .any]) (st_if (WV.tv (wv_or (tv_lt (evt_ixT (enc := D.int) (ev_var 1 rfl (pv 1)) (ev_var 3 rfl (pv 3)) (g_.1) (g_.2.1)) ev_int) (fun h1_ => (wv_or1 (tv_gt (evt_ixT (enc := D.int) (ev_var 1 rfl (pv 1)) (ev_var 3 rfl (pv 3)) (((g_.2.2.1) h1_).1) (((g_.2.2.1) h1_).2.1)) (ev_var 3 rfl (pv 3))))))) (fun h_ => ?_) (fun h_ => ?_)) (fun x_ => ?_)
      · skip
        exact ss_one (st_ret (ev_tup (ds := [D.str ("same" : Str), D.int v_n]) (av_cons ev_str (av_cons (ev_var 3 rfl (pv 3)) av_nil))) rfl (by walk_at "weak"))
      · skip
        exact (ss_nil (by walk_at "weak"))
      refine ss_grd (fun g_ => ?_)
      refine ss_cons (S' := Unit) (G' := fun (_ : Unit) => [.dat ((eT D.str) v_kinds), .dat ((eT D.int) v_same), .dat ((eT (eP D.str (eT D.int))) v_facts), .dat (D.int v_n), .any]) (st_if (WV.tv (wv_or (tv_neI (evt_ixT (enc := D.int) (ev_var 1 rfl (pv 1)) (evt_ixT (enc := D.int) (ev_var 1 rfl (pv 1)) (ev_var 3 rfl (pv 3)) (g_.1) (g_.2.1)) (g_.2.2.1) (g_.2.2.2.1)) (evt_ixT (enc := D.int) (ev_var 1 rfl (pv 1)) (ev_var 3 rfl (pv 3)) (g_.1) (g_.2.1))) (fun h2_ => (wv_or1 (tv_neS (evt_ixT (enc := D.str) (ev_var 0 rfl (pv 0)) (evt_ixT (enc := D.int) (ev_var 1 rfl (pv 1)) (ev_var 3 rfl (pv 3)) (((g_.2.2.2.2.1) h2_).1) (((g_.2.2.2.2.1) h2_).2.1)) (((g_.2.2.2.2.1) h2_).2.2.1) (((g_.2.2.2.2.1) h2_).2.2.2.1)) (evt_ixT (enc := D.str) (ev_var 0 rfl (pv 0)) (ev_var 3 rfl (pv 3)) (((g_.2.2.2.2.1) h2_).1) (((g_.2.2.2.2.1) h2_).2.2.2.2.1))))))) (fun h_ => ?_) (fun h_ => ?_)) (fun x_ => ?_)
      · skip
        exact ss_one (st_ret (ev_tup (ds := [D.str ("same" : Str), D.int v_n]) (av_cons ev_str (av_cons (ev_var 3 rfl (pv 3)) av_nil))) rfl (by walk_at "weak"))
      · skip
        exact (ss_nil (by walk_at "weak"))
      exact (ss_nil (by walk_at "weak"))
    refine ss_grd (fun g_ => ?_)
    refine ss_cons (S' := Unit) (G' := fun (_ : Unit) => [.dat ((eT D.str) v_kinds), .dat ((eT D.int) v_same), .dat ((eT (eP D.str (eT D.int))) v_facts), .any, .any]) (st_for (enc := D.int) (sh := (.name 4)) (Gs := fun (_ : Unit) => [.dat ((eT D.str) v_kinds), .dat ((eT D.int) v_same), .dat ((eT (eP D.str (eT D.int))) v_facts), .any, .any]) (xs := (rangeI 0 (v_facts.length : Int))) (st2_law_fault c_ v_same v_facts) (s0 := ()) (by exact ivt_range1 rfl m_range (evt_len rfl m_len .t (ev_var 2 rfl (pv 2))) (rng1 (g_.1))) (sh_name 4 (pg_name (i := 4) sc_law_fault.nd rfl (by first | exact .inl rfl | exact .inr rfl))) (passes_of rfl) rfl (by walk_at "weak") (fun hB_ s_ v_k hx_ => ?_)) (fun x_ => ?_)
    · skip
      refine ⟨_, rfl, ?_⟩
      show SS _ _ _ _ _ _ _ (grd ((0 ≤ v_k) ∧ (v_k < v_facts.length) ∧ True) ((forL (st3_law_fault c_ v_same v_k) ((v_facts.getD (v_k).toNat default).2) () : LO Unit Unit (Option (Str × Int))).bind fun (_ : Unit) => grd ((((decide ((0 : Int) < v_k))) = true → ((0 ≤ (v_k - (1 : Int))) ∧ ((v_k - (1 : Int)) < v_facts.length) ∧ (0 ≤ v_k) ∧ (v_k < v_facts.length) ∧ True)) ∧ True) ((if ((decide ((0 : Int) < v_k)) && (!(ltT (eP D.str (eT D.int)) (v_facts.getD ((v_k - (1 : Int))).toNat default) (v_facts.getD (v_k).toNat default)))) then LO.ret (some (("fact" : Str), v_k)) else LO.next () : LO Unit Unit (Option (Str × Int))).bind fun (_ : Unit) => LO.next ())))
      refine ss_grd (fun g_ => ?_)
      refine ss_cons (S' := Unit) (G' := fun (_ : Unit) => [.dat ((eT D.str) v_kinds), .dat ((eT D.int) v_same), .dat ((eT (eP D.str (eT D.int))) v_facts), .any, .dat (D.int v_k)]) (st_for (enc := D.int) (sh := (.name 3)) (Gs := fun (_ : Unit) => [.dat ((eT D.str) v_kinds), .dat ((eT D.int) v_same), .dat ((eT (eP D.str (eT D.int))) v_facts), .any, .dat (D.int v_k)]) (xs := ((v_facts.getD (v_k).toNat default).2)) (st3_law_fault c_ v_same v_k) (s0 := ()) (iv_tup (ev_ixT (d := (eT D.int) ((v_facts.getD (v_k).toNat default).2)) (evt_ixT (enc := (eP D.str (eT D.int))) (ev_var 2 rfl (pv 2)) (ev_var 4 rfl (pv 4)) (g_.1) (g_.2.1)) ev_int (atI_nat (j := 1) rfl))) (sh_name 3 (pg_name (i := 3) sc_law_fault.nd rfl (by first | exact .inl rfl | exact .inr rfl))) (passes_of rfl) rfl (by walk_at "weak") (fun hB_ s_ v_n hx_ => ?_)) (fun x_ => ?_)
      · skip
        refine ⟨_, rfl, ?_⟩
        show SS _ _ _ _ _ _ _ (grd ((((decide (v_n < (0 : Int)))) = false → ((((decide ((v_same.length : Int) ≤ v_n))) = false → ((0 ≤ v_n) ∧ (v_n < v_same.length) ∧ True)) ∧ True)) ∧ True) ((if ((decide (v_n < (0 : Int))) || ((decide ((v_same.length : Int) ≤ v_n)) || (!decide ((v_same.getD (v_n).toNat default) = v_n)))) then LO.ret (some (("fact" : Str), v_k)) else LO.next () : LO Unit Unit (Option (Str × Int))).bind fun (_ : Unit) => LO.next ()))
        refine ss_grd (fun g_ => ?_)
        refine ss_cons (S' := Unit) (G' := fun (_ : Unit) => [.dat ((eT D.str) v_kinds), .dat ((eT D.int) v_same), .dat ((eT (eP D.str (eT D.int))) v_facts), .dat (D.int v_n), .dat (D.int v_k)]) (st_if (WV.tv (wv_or (tv_lt (ev_var 3 rfl (pv 3)) ev_int) (fun h3_ => (wv_or (tv_ge (ev_var 3 rfl (pv 3)) (evt_len rfl m_len .t (ev_var 1 rfl (pv 1)))) (fun h4_ => (wv_or1 (tv_neI (evt_ixT (enc := D.int) (ev_var 1 rfl (pv 1)) (ev_var 3 rfl (pv 3)) (((((g_.1) h3_).1) h4_).1) (((((g_.1) h3_).1) h4_).2.1)) (ev_var 3 rfl (pv 3))))))))) (fun h_ => ?_) (fun h_ => ?_)) (fun x_ => ?_)
        · skip
          exact ss_one (st_ret (ev_tup (ds := [D.str ("fact" : Str), D.int v_k]) (av_cons ev_str (av_cons (ev_var 4 rfl (pv 4)) av_nil))) rfl (by walk_at "weak"))
        · skip
          exact (ss_nil (by walk_at "weak"))
        exact (ss_nil (by walk_at "weak"))
      refine ss_grd (fun g_ => ?_)
      refine ss_cons (S' := Unit) (G' := fun (_ : Unit) => [.dat ((eT D.str) v_kinds), .dat ((eT D.int) v_same), .dat ((eT (eP D.str (eT D.int))) v_facts), .any, .dat (D.int v_k)]) (st_if (WV.tv (wv_and (tv_gt (ev_var 4 rfl (pv 4)) ev_int) (fun h5_ => (wv_and1 (tv_not (tv_ltT (enc := (eP D.str (eT D.int))) (u := (v_facts.getD ((v_k - (1 : Int))).toNat default)) (v := (v_facts.getD (v_k).toNat default)) hr.units (EncOrd.pair EncOrd.str (EncOrd.vt EncOrd.int (dep_le dep_int (by decide))) (dep_le dep_str (by decide)) (dep_le (dep_vt dep_int) (by decide))) (fun _ h_ => nomatch h_) (evt_ixT (enc := (eP D.str (eT D.int))) (ev_var 2 rfl (pv 2)) (ev_sub (ev_var 4 rfl (pv 4)) ev_int) (((g_.1) h5_).1) (((g_.1) h5_).2.1)) (evt_ixT (enc := (eP D.str (eT D.int))) (ev_var 2 rfl (pv 2)) (ev_var 4 rfl (pv 4)) (((g_.1) h5_).2.2.1) (((g_.1) h5_).2.2.2.1)))))))) (fun h_ => ?_) (fun h_ => ?_)) (fun x_ => ?_)
      · skip
        exact ss_one (st_ret (ev_tup (ds := [D.str ("fact" : Str), D.int v_k]) (av_cons ev_str (av_cons (ev_var 4 rfl (pv 4)) av_nil))) rfl (by walk_at "weak"))
      · skip
        exact (ss_nil (by walk_at "weak"))
      exact (ss_nil (by walk_at "weak"))
    exact ss_one (st_ret ev_non rfl (by walk_at "weak"))
  · rcases hR with ⟨h_, rfl⟩ | hR
    · exact .inl ⟨(law_fault c_ v_kinds v_same v_facts), .dat ((eO (eP D.str D.int)) (law_fault c_ v_kinds v_same v_facts)), LO.IsRet.eq h_, rfl, rfl, finOk trivial⟩
    · exact hR.elim
/-! ### _law_changed -/
abbrev s_law_changed : Stmt := top 18
theorem sc_law_changed : FnScope ["row", "kinds", "same", "facts", "words", "way", "at", "k"] ["row", "kinds", "same", "facts", "words"] (defScope s_law_changed) := ⟨rfl, rfl, rfl, by decide +kernel, rfl, by decide +kernel, by decide +kernel⟩
theorem ok_law_changed (F : Fun K "_law_changed" "_law_changed" s_law_changed f fd) (hm : mg "_law_changed" = some (.ref f)) (b : Binds K fd ["row", "kinds", "same", "facts", "words"] []) (m_len : mg "len" = none) (m_max : mg "max" = none) (m_sorted : mg "sorted" = none) (m_tuple : mg "tuple" = none) (C_law_take : Cle P w K mg base 1 "_law_take" (R_law_take c_)) : Cle P w K mg base 2 "_law_changed" (R_law_changed c_) := by
  refine cle_mk (S := Unit) (L := Unit) (R := (((List Str) × (List Int) × (List (Str × (List Int)))) × (List Int))) F sc_law_changed hm b (fun ars out h => by obtain ⟨_, _, _, _, _, _, rfl, _⟩ := h; rfl) fun cdv A outer s H E ars out as hr hR => ?_
  obtain ⟨v_row, v_kinds, v_same, v_facts, v_words, z0_, rfl, hR⟩ := hR
  refine ⟨[.own (some (as 0)) (.lst (v_row.map D.int)), .any, .any, .any, .any, .any, .any, .any], fun _ => [.any, .any, .any, .any, .any, .any, .any, .any], fun _ => [.any, .any, .any, .any, .any, .any, .any, .any], fun r_ => (.dat ((eP3 (eT D.str) (eT D.int) (eT (eP D.str (eT D.int)))) r_.1), [.own (some (as 0)) (.lst (r_.2.map D.int)), .any, .any, .any, .any, .any, .any, .any]), lo_law_changed c_ v_row v_kinds v_same v_facts v_words, ?_, ?_⟩
  · unfold lo_law_changed
    refine ss_grd (fun g_ => ?_)
    refine ss_cons (S' := (Int × (List Int))) (G' := fun x_ => match x_ with | (v_way, v_row) => [.own (some (as 0)) (.lst (v_row.map D.int)), .dat ((eT D.str) v_kinds), .dat ((eT D.int) v_same), .dat ((eT (eP D.str (eT D.int))) v_facts), .dat ((eL D.str) v_words), .dat (D.int v_way), .any, .any]) (st_set 5 sc_law_changed.nd rfl (by first | exact .inl rfl | exact .inr rfl) (ev_call (rs := [.bor 0, .dat (D.int (9 : Int))]) (ars := [.mu (.lst (v_row.map D.int)) (.lst (((law_take c_ v_row (9 : Int)).2).map D.int)), .dat (D.int (9 : Int))]) (rr := .dat (D.int ((law_take c_ v_row (9 : Int)).1))) C_law_take (hr.mono (by decide)) rfl ⟨v_row, (9 : Int), _, rfl, .inl ⟨(g_.1), rfl, rfl⟩⟩ (mt_cbor rfl rfl (mt_cdat (d := D.int (9 : Int)) mt_nil)) (av_cons (ev_bor 0 rfl (pv 0)) (av_cons ev_int av_nil))) weak_rfl) (fun x_ => ?_)
    obtain ⟨v_way, v_row⟩ := x_
    refine ss_grd (fun g_ => ?_)
    refine ss_cons (S' := (Int × (List Int))) (G' := fun x_ => match x_ with | (v_at, v_row) => [.own (some (as 0)) (.lst (v_row.map D.int)), .dat ((eT D.str) v_kinds), .dat ((eT D.int) v_same), .dat ((eT (eP D.str (eT D.int))) v_facts), .dat ((eL D.str) v_words), .dat (D.int v_way), .dat (D.int v_at), .any]) (st_set 6 sc_law_changed.nd rfl (by first | exact .inl rfl | exact .inr rfl) (ev_call (rs := [.bor 0, .dat (D.int (max (1 : Int) (v_same.length : Int)))]) (ars := [.mu (.lst (v_row.map D.int)) (.lst (((law_take c_ v_row (max (1 : Int) (v_same.length : Int))).2).map D.int)), .dat (D.int (max (1 : Int) (v_same.length : Int)))]) (rr := .dat (D.int ((law_take c_ v_row (max (1 : Int) (v_same.length : Int))).1))) C_law_take (hr.mono (by decide)) rfl ⟨v_row, (max (1 : Int) (v_same.length : Int)), _, rfl, .inl ⟨(g_.1), rfl, rfl⟩⟩ (mt_cbor rfl rfl (mt_cdat (d := D.int (max (1 : Int) (v_same.length : Int))) mt_nil)) (av_cons (ev_bor 0 rfl (pv 0)) (av_cons (ev_max2 rfl rfl m_max ev_int (evt_len rfl m_len .t (ev_var 2 rfl (pv 2)))) av_nil))) weak_rfl) (fun x_ => ?_)
    obtain ⟨v_at, v_row⟩ := x_
    refine ss_cons (S' := Unit) (G' := fun (_ : Unit) => [.own (some (as 0)) (.lst (v_row.map D.int)), .dat ((eT D.str) v_kinds), .dat ((eT D.int) v_same), .dat ((eT (eP D.str (eT D.int))) v_facts), .dat ((eL D.str) v_words), .dat (D.int v_way), .dat (D.int v_at), .any]) (st_if (tv_eqI (ev_var 5 rfl (pv 5)) ev_int) (fun h_ => ?_) (fun h_ => ?_)) (fun x_ => ?_)
    · skip
      refine ss_grd (fun g_ => ?_)
      exact ss_one (st_ret (ev_tup (ds := [(eT D.str) (v_kinds ++ [(v_words.getD ((0 : Int)).toNat default)]), (eT D.int) v_same, (eT (eP D.str (eT D.int))) v_facts]) (av_cons (evt_catT (enc := D.str) (xs := v_kinds) (ys := [(v_words.getD ((0 : Int)).toNat default)]) (ev_var 1 rfl (pv 1)) (ev_tup (ds := [D.str (v_words.getD ((0 : Int)).toNat default)]) (av_cons (evt_ixL (enc := D.str) (ev_var 4 rfl (pv 4)) ev_int .dat (g_.1) (g_.2.1)) av_nil)) (small_line (g_.2.2.1))) (av_cons (ev_var 2 rfl (pv 2)) (av_cons (ev_var 3 rfl (pv 3)) av_nil)))) rfl (by walk_at "weak"))
    · skip
      exact (ss_nil (by walk_at "weak"))
    refine ss_cons (S' := Unit) (G' := fun (_ : Unit) => [.own (some (as 0)) (.lst (v_row.map D.int)), .dat ((eT D.str) v_kinds), .dat ((eT D.int) v_same), .dat ((eT (eP D.str (eT D.int))) v_facts), .dat ((eL D.str) v_words), .dat (D.int v_way), .dat (D.int v_at), .any]) (st_if (tv_eqI (ev_var 5 rfl (pv 5)) ev_int) (fun h_ => ?_) (fun h_ => ?_)) (fun x_ => ?_)
    · skip
      refine ss_grd (fun g_ => ?_)
      exact ss_one (st_ret (ev_tup (ds := [(eT D.str) v_kinds, (eT D.int) (v_same ++ [(v_same.length : Int)]), (eT (eP D.str (eT D.int))) v_facts]) (av_cons (ev_var 1 rfl (pv 1)) (av_cons (evt_catT (enc := D.int) (xs := v_same) (ys := [(v_same.length : Int)]) (ev_var 2 rfl (pv 2)) (ev_tup (ds := [D.int (v_same.length : Int)]) (av_cons (evt_len rfl m_len .t (ev_var 2 rfl (pv 2))) av_nil)) (small_line (g_.1))) (av_cons (ev_var 3 rfl (pv 3)) av_nil)))) rfl (by walk_at "weak"))
    · skip
      exact (ss_nil (by walk_at "weak"))
    refine ss_cons (S' := Unit) (G' := fun (_ : Unit) => [.own (some (as 0)) (.lst (v_row.map D.int)), .dat ((eT D.str) v_kinds), .dat ((eT D.int) v_same), .dat ((eT (eP D.str (eT D.int))) v_facts), .dat ((eL D.str) v_words), .dat (D.int v_way), .dat (D.int v_at), .any]) (st_if (WV.tv (wv_and (tv_eqI (ev_var 5 rfl (pv 5)) ev_int) (fun h1_ => (wv_and1 (tv_gt (evt_len rfl m_len .t (ev_var 2 rfl (pv 2))) ev_int))))) (fun h_ => ?_) (fun h_ => ?_)) (fun x_ => ?_)
    · skip
      refine ss_grd (fun g_ => ?_)
      exact ss_one (st_ret (ev_tup (ds := [(eT D.str) v_kinds, (eT D.int) (((cutL v_same none (some v_at)) ++ [(v_at + (1 : Int))]) ++ (cutL v_same (some (v_at + (1 : Int))) none)), (eT (eP D.str (eT D.int))) v_facts]) (av_cons (ev_var 1 rfl (pv 1)) (av_cons (evt_catT (enc := D.int) (xs := ((cutL v_same none (some v_at)) ++ [(v_at + (1 : Int))])) (ys := (cutL v_same (some (v_at + (1 : Int))) none)) (evt_catT (enc := D.int) (xs := (cutL v_same none (some v_at))) (ys := [(v_at + (1 : Int))]) (evt_slT (enc := D.int) (ev_var 2 rfl (pv 2)) ov_none (ov_some (ev_var 6 rfl (pv 6)))) (ev_tup (ds := [D.int (v_at + (1 : Int))]) (av_cons (ev_add (ev_var 6 rfl (pv 6)) ev_int) av_nil)) (small_line (g_.1))) (evt_slT (enc := D.int) (ev_var 2 rfl (pv 2)) (ov_some (ev_add (ev_var 6 rfl (pv 6)) ev_int)) ov_none) (small_line (g_.2.1))) (av_cons (ev_var 3 rfl (pv 3)) av_nil)))) rfl (by walk_at "weak"))
    · skip
      exact (ss_nil (by walk_at "weak"))
    refine ss_cons (S' := Unit) (G' := fun (_ : Unit) => [.own (some (as 0)) (.lst (v_row.map D.int)), .dat ((eT D.str) v_kinds), .dat ((eT D.int) v_same), .dat ((eT (eP D.str (eT D.int))) v_facts), .dat ((eL D.str) v_words), .dat (D.int v_way), .dat (D.int v_at), .any]) (st_if (WV.tv (wv_and (tv_eqI (ev_var 5 rfl (pv 5)) ev_int) (fun h2_ => (wv_and1 (tv_gt (evt_len rfl m_len .t (ev_var 2 rfl (pv 2))) ev_int))))) (fun h_ => ?_) (fun h_ => ?_)) (fun x_ => ?_)
    · skip
      refine ss_grd (fun g_ => ?_)
      exact ss_one (st_ret (ev_tup (ds := [(eT D.str) v_kinds, (eT D.int) (((cutL v_same none (some v_at)) ++ [((law_take c_ v_row (v_at + (1 : Int))).1 - (1 : Int))]) ++ (cutL v_same (some (v_at + (1 : Int))) none)), (eT (eP D.str (eT D.int))) v_facts]) (av_cons (ev_var 1 rfl (pv 1)) (av_cons (evt_catT (enc := D.int) (xs := ((cutL v_same none (some v_at)) ++ [((law_take c_ v_row (v_at + (1 : Int))).1 - (1 : Int))])) (ys := (cutL v_same (some (v_at + (1 : Int))) none)) (evt_catT (enc := D.int) (xs := (cutL v_same none (some v_at))) (ys := [((law_take c_ v_row (v_at + (1 : Int))).1 - (1 : Int))]) (evt_slT (enc := D.int) (ev_var 2 rfl (pv 2)) ov_none (ov_some (ev_var 6 rfl (pv 6)))) (ev_tup (ds := [D.int ((law_take c_ v_row (v_at + (1 : Int))).1 - (1 : Int))]) (av_cons (ev_sub (ev_call (rs := [.bor 0, .dat (D.int (v_at + (1 : Int)))]) (ars := [.mu (.lst (v_row.map D.int)) (.lst (((law_take c_ v_row (v_at + (1 : Int))).2).map D.int)), .dat (D.int (v_at + (1 : Int)))]) (rr := .dat (D.int ((law_take c_ v_row (v_at + (1 : Int))).1))) C_law_take (hr.mono (by decide)) rfl ⟨v_row, (v_at + (1 : Int)), _, rfl, .inl ⟨(g_.1), rfl, rfl⟩⟩ (mt_cbor rfl rfl (mt_cdat (d := D.int (v_at + (1 : Int))) mt_nil)) (av_cons (ev_bor 0 rfl (pv 0)) (av_cons (ev_add (ev_var 6 rfl (pv 6)) ev_int) av_nil))) ev_int) av_nil)) (small_line (g_.2.1))) (evt_slT (enc := D.int) (ev_var 2 rfl (pv 2)) (ov_some (ev_add (ev_var 6 rfl (pv 6)) ev_int)) ov_none) (small_line (g_.2.2.1))) (av_cons (ev_var 3 rfl (pv 3)) av_nil)))) rfl (by walk_at "weak"))
    · skip
      exact (ss_nil (by walk_at "weak"))
    refine ss_cons (S' := Unit) (G' := fun (_ : Unit) => [.own (some (as 0)) (.lst (v_row.map D.int)), .dat ((eT D.str) v_kinds), .dat ((eT D.int) v_same), .dat ((eT (eP D.str (eT D.int))) v_facts), .dat ((eL D.str) v_words), .dat (D.int v_way), .dat (D.int v_at), .any]) (st_if (WV.tv (wv_and (tv_eqI (ev_var 5 rfl (pv 5)) ev_int) (fun h3_ => (wv_and1 (tv_gt (evt_len rfl m_len .t (ev_var 2 rfl (pv 2))) ev_int))))) (fun h_ => ?_) (fun h_ => ?_)) (fun x_ => ?_)
    · skip
      refine ss_grd (fun g_ => ?_)
      exact ss_one (st_ret (ev_tup (ds := [(eT D.str) (((cutL v_kinds none (some v_at)) ++ [(v_words.getD ((7 : Int)).toNat default)]) ++ (cutL v_kinds (some (v_at + (1 : Int))) none)), (eT D.int) v_same, (eT (eP D.str (eT D.int))) v_facts]) (av_cons (evt_catT (enc := D.str) (xs := ((cutL v_kinds none (some v_at)) ++ [(v_words.getD ((7 : Int)).toNat default)])) (ys := (cutL v_kinds (some (v_at + (1 : Int))) none)) (evt_catT (enc := D.str) (xs := (cutL v_kinds none (some v_at))) (ys := [(v_words.getD ((7 : Int)).toNat default)]) (evt_slT (enc := D.str) (ev_var 1 rfl (pv 1)) ov_none (ov_some (ev_var 6 rfl (pv 6)))) (ev_tup (ds := [D.str (v_words.getD ((7 : Int)).toNat default)]) (av_cons (evt_ixL (enc := D.str) (ev_var 4 rfl (pv 4)) ev_int .dat (g_.1) (g_.2.1)) av_nil)) (small_line (g_.2.2.1))) (evt_slT (enc := D.str) (ev_var 1 rfl (pv 1)) (ov_some (ev_add (ev_var 6 rfl (pv 6)) ev_int)) ov_none) (small_line (g_.2.2.2.1))) (av_cons (ev_var 2 rfl (pv 2)) (av_cons (ev_var 3 rfl (pv 3)) av_nil)))) rfl (by walk_at "weak"))
    · skip
      exact (ss_nil (by walk_at "weak"))
    refine ss_cons (S' := Unit) (G' := fun (_ : Unit) => [.own (some (as 0)) (.lst (v_row.map D.int)), .dat ((eT D.str) v_kinds), .dat ((eT D.int) v_same), .dat ((eT (eP D.str (eT D.int))) v_facts), .dat ((eL D.str) v_words), .dat (D.int v_way), .dat (D.int v_at), .any]) (st_if (tv_eqI (ev_var 5 rfl (pv 5)) ev_int) (fun h_ => ?_) (fun h_ => ?_)) (fun x_ => ?_)
    · skip
      refine ss_grd (fun g_ => ?_)
      exact ss_one (st_ret (ev_tup (ds := [(eT D.str) v_kinds, (eT D.int) v_same, (eT (eP D.str (eT D.int))) (v_facts ++ [((v_words.getD ((4 : Int)).toNat default), [(((v_same.length : Int) - (2 : Int)) + (law_take c_ v_row (4 : Int)).1)])])]) (av_cons (ev_var 1 rfl (pv 1)) (av_cons (ev_var 2 rfl (pv 2)) (av_cons (evt_catT (enc := (eP D.str (eT D.int))) (xs := v_facts) (ys := [((v_words.getD ((4 : Int)).toNat default), [(((v_same.length : Int) - (2 : Int)) + (law_take c_ v_row (4 : Int)).1)])]) (ev_var 3 rfl (pv 3)) (ev_tup (ds := [(eP D.str (eT D.int)) ((v_words.getD ((4 : Int)).toNat default), [(((v_same.length : Int) - (2 : Int)) + (law_take c_ v_row (4 : Int)).1)])]) (av_cons (ev_tup (ds := [D.str (v_words.getD ((4 : Int)).toNat default), (eT D.int) [(((v_same.length : Int) - (2 : Int)) + (law_take c_ v_row (4 : Int)).1)]]) (av_cons (evt_ixL (enc := D.str) (ev_var 4 rfl (pv 4)) ev_int .dat (g_.1) (g_.2.1)) (av_cons (ev_tup (ds := [D.int (((v_same.length : Int) - (2 : Int)) + (law_take c_ v_row (4 : Int)).1)]) (av_cons (ev_add (ev_sub (evt_len rfl m_len .t (ev_var 2 rfl (pv 2))) ev_int) (ev_call (rs := [.bor 0, .dat (D.int (4 : Int))]) (ars := [.mu (.lst (v_row.map D.int)) (.lst (((law_take c_ v_row (4 : Int)).2).map D.int)), .dat (D.int (4 : Int))]) (rr := .dat (D.int ((law_take c_ v_row (4 : Int)).1))) C_law_take (hr.mono (by decide)) rfl ⟨v_row, (4 : Int), _, rfl, .inl ⟨(g_.2.2.1), rfl, rfl⟩⟩ (mt_cbor rfl rfl (mt_cdat (d := D.int (4 : Int)) mt_nil)) (av_cons (ev_bor 0 rfl (pv 0)) (av_cons ev_int av_nil)))) av_nil)) av_nil))) av_nil)) (small_line (g_.2.2.2.1))) av_nil)))) rfl (by walk_at "weak"))
    · skip
      exact (ss_nil (by walk_at "weak"))
    refine ss_cons (S' := Unit) (G' := fun (_ : Unit) => [.own (some (as 0)) (.lst (v_row.map D.int)), .dat ((eT D.str) v_kinds), .dat ((eT D.int) v_same), .dat ((eT (eP D.str (eT D.int))) v_facts), .dat ((eL D.str) v_words), .dat (D.int v_way), .dat (D.int v_at), .any]) (st_if (WV.tv (wv_and (tv_eqI (ev_var 5 rfl (pv 5)) ev_int) (fun h4_ => (wv_and1 (tv_gt (evt_len rfl m_len .t (ev_var 3 rfl (pv 3))) ev_int))))) (fun h_ => ?_) (fun h_ => ?_)) (fun x_ => ?_)
    · skip
      refine ss_grd (fun g_ => ?_)
      refine ss_cons (S' := (Int × (List Int))) (G' := fun x_ => match x_ with | (v_k, v_row) => [.own (some (as 0)) (.lst (v_row.map D.int)), .dat ((eT D.str) v_kinds), .dat ((eT D.int) v_same), .dat ((eT (eP D.str (eT D.int))) v_facts), .dat ((eL D.str) v_words), .dat (D.int v_way), .dat (D.int v_at), .dat (D.int v_k)]) (st_set 7 sc_law_changed.nd rfl (by first | exact .inl rfl | exact .inr rfl) (ev_call (rs := [.bor 0, .dat (D.int (v_facts.length : Int))]) (ars := [.mu (.lst (v_row.map D.int)) (.lst (((law_take c_ v_row (v_facts.length : Int)).2).map D.int)), .dat (D.int (v_facts.length : Int))]) (rr := .dat (D.int ((law_take c_ v_row (v_facts.length : Int)).1))) C_law_take (hr.mono (by decide)) rfl ⟨v_row, (v_facts.length : Int), _, rfl, .inl ⟨(g_.1), rfl, rfl⟩⟩ (mt_cbor rfl rfl (mt_cdat (d := D.int (v_facts.length : Int)) mt_nil)) (av_cons (ev_bor 0 rfl (pv 0)) (av_cons (evt_len rfl m_len .t (ev_var 3 rfl (pv 3))) av_nil))) weak_rfl) (fun x_ => ?_)
      obtain ⟨v_k, v_row⟩ := x_
      refine ss_grd (fun g_ => ?_)
      exact ss_one (st_ret (ev_tup (ds := [(eT D.str) v_kinds, (eT D.int) v_same, (eT (eP D.str (eT D.int))) (((cutL v_facts none (some v_k)) ++ [(v_facts.getD (v_k).toNat default)]) ++ (cutL v_facts (some v_k) none))]) (av_cons (ev_var 1 rfl (pv 1)) (av_cons (ev_var 2 rfl (pv 2)) (av_cons (evt_catT (enc := (eP D.str (eT D.int))) (xs := ((cutL v_facts none (some v_k)) ++ [(v_facts.getD (v_k).toNat default)])) (ys := (cutL v_facts (some v_k) none)) (evt_catT (enc := (eP D.str (eT D.int))) (xs := (cutL v_facts none (some v_k))) (ys := [(v_facts.getD (v_k).toNat default)]) (evt_slT (enc := (eP D.str (eT D.int))) (ev_var 3 rfl (pv 3)) ov_none (ov_some (ev_var 7 rfl (pv 7)))) (ev_tup (ds := [(eP D.str (eT D.int)) (v_facts.getD (v_k).toNat default)]) (av_cons (evt_ixT (enc := (eP D.str (eT D.int))) (ev_var 3 rfl (pv 3)) (ev_var 7 rfl (pv 7)) (g_.1) (g_.2.1)) av_nil)) (small_line (g_.2.2.1))) (evt_slT (enc := (eP D.str (eT D.int))) (ev_var 3 rfl (pv 3)) (ov_some (ev_var 7 rfl (pv 7))) ov_none) (small_line (g_.2.2.2.1))) av_nil)))) rfl (by walk_at "weak"))
    · skip
      exact (ss_nil (by walk_at "weak"))
    refine ss_cons (S' := Unit) (G' := fun (_ : Unit) => [.own (some (as 0)) (.lst (v_row.map D.int)), .dat ((eT D.str) v_kinds), .dat ((eT D.int) v_same), .dat ((eT (eP D.str (eT D.int))) v_facts), .dat ((eL D.str) v_words), .dat (D.int v_way), .dat (D.int v_at), .any]) (st_if (WV.tv (wv_and (tv_eqI (ev_var 5 rfl (pv 5)) ev_int) (fun h5_ => (wv_and1 (tv_gt (evt_len rfl m_len .t (ev_var 3 rfl (pv 3))) ev_int))))) (fun h_ => ?_) (fun h_ => ?_)) (fun x_ => ?_)
    · skip
      refine ss_grd (fun g_ => ?_)
      refine ss_cons (S' := (Int × (List Int))) (G' := fun x_ => match x_ with | (v_k, v_row) => [.own (some (as 0)) (.lst (v_row.map D.int)), .dat ((eT D.str) v_kinds), .dat ((eT D.int) v_same), .dat ((eT (eP D.str (eT D.int))) v_facts), .dat ((eL D.str) v_words), .dat (D.int v_way), .dat (D.int v_at), .dat (D.int v_k)]) (st_set 7 sc_law_changed.nd rfl (by first | exact .inl rfl | exact .inr rfl) (ev_add ev_int (ev_call (rs := [.bor 0, .dat (D.int ((v_facts.length : Int) - (1 : Int)))]) (ars := [.mu (.lst (v_row.map D.int)) (.lst (((law_take c_ v_row ((v_facts.length : Int) - (1 : Int))).2).map D.int)), .dat (D.int ((v_facts.length : Int) - (1 : Int)))]) (rr := .dat (D.int ((law_take c_ v_row ((v_facts.length : Int) - (1 : Int))).1))) C_law_take (hr.mono (by decide)) rfl ⟨v_row, ((v_facts.length : Int) - (1 : Int)), _, rfl, .inl ⟨(g_.1), rfl, rfl⟩⟩ (mt_cbor rfl rfl (mt_cdat (d := D.int ((v_facts.length : Int) - (1 : Int))) mt_nil)) (av_cons (ev_bor 0 rfl (pv 0)) (av_cons (ev_sub (evt_len rfl m_len .t (ev_var 3 rfl (pv 3))) ev_int) av_nil)))) weak_rfl) (fun x_ => ?_)
      obtain ⟨v_k, v_row⟩ := x_
      refine ss_grd (fun g_ => ?_)
      exact ss_one (st_ret (ev_tup (ds := [(eT D.str) v_kinds, (eT D.int) v_same, (eT (eP D.str (eT D.int))) (((cutL v_facts none (some (v_k - (1 : Int)))) ++ [(v_facts.getD (v_k).toNat default), (v_facts.getD ((v_k - (1 : Int))).toNat default)]) ++ (cutL v_facts (some (v_k + (1 : Int))) none))]) (av_cons (ev_var 1 rfl (pv 1)) (av_cons (ev_var 2 rfl (pv 2)) (av_cons (evt_catT (enc := (eP D.str (eT D.int))) (xs := ((cutL v_facts none (some (v_k - (1 : Int)))) ++ [(v_facts.getD (v_k).toNat default), (v_facts.getD ((v_k - (1 : Int))).toNat default)])) (ys := (cutL v_facts (some (v_k + (1 : Int))) none)) (evt_catT (enc := (eP D.str (eT D.int))) (xs := (cutL v_facts none (some (v_k - (1 : Int))))) (ys := [(v_facts.getD (v_k).toNat default), (v_facts.getD ((v_k - (1 : Int))).toNat default)]) (evt_slT (enc := (eP D.str (eT D.int))) (ev_var 3 rfl (pv 3)) ov_none (ov_some (ev_sub (ev_var 7 rfl (pv 7)) ev_int))) (ev_tup (ds := [(eP D.str (eT D.int)) (v_facts.getD (v_k).toNat default), (eP D.str (eT D.int)) (v_facts.getD ((v_k - (1 : Int))).toNat default)]) (av_cons (evt_ixT (enc := (eP D.str (eT D.int))) (ev_var 3 rfl (pv 3)) (ev_var 7 rfl (pv 7)) (g_.1) (g_.2.1)) (av_cons (evt_ixT (enc := (eP D.str (eT D.int))) (ev_var 3 rfl (pv 3)) (ev_sub (ev_var 7 rfl (pv 7)) ev_int) (g_.2.2.1) (g_.2.2.2.1)) av_nil))) (small_line (g_.2.2.2.2.1))) (evt_slT (enc := (eP D.str (eT D.int))) (ev_var 3 rfl (pv 3)) (ov_some (ev_add (ev_var 7 rfl (pv 7)) ev_int)) ov_none) (small_line (g_.2.2.2.2.2.1))) av_nil)))) rfl (by walk_at "weak"))
    · skip
      exact (ss_nil (by walk_at "weak"))
    refine ss_cons (S' := Unit) (G' := fun (_ : Unit) => [.own (some (as 0)) (.lst (v_row.map D.int)), .dat ((eT D.str) v_kinds), .dat ((eT D.int) v_same), .dat ((eT (eP D.str (eT D.int))) v_facts), .dat ((eL D.str) v_words), .dat (D.int v_way), .dat (D.int v_at), .any]) (st_if (tv_gt (evt_len rfl m_len .t (ev_var 2 rfl (pv 2))) ev_int) (fun h_ => ?_) (fun h_ => ?_)) (fun x_ => ?_)
    · skip
      refine ss_grd (fun g_ => ?_)
      exact ss_one (st_ret (ev_tup (ds := [(eT D.str) v_kinds, (eT D.int) v_same, (eT (eP D.str (eT D.int))) ((v_facts ++ [((v_words.getD ((6 : Int)).toNat default), [v_at, v_at, (law_take c_ v_row (v_same.length : Int)).1])]).mergeSort (leT (eP D.str (eT D.int))))]) (av_cons (ev_var 1 rfl (pv 1)) (av_cons (ev_var 2 rfl (pv 2)) (av_cons (evt_tuple (enc := (eP D.str (eT D.int))) (xs := ((v_facts ++ [((v_words.getD ((6 : Int)).toNat default), [v_at, v_at, (law_take c_ v_row (v_same.length : Int)).1])]).mergeSort (leT (eP D.str (eT D.int))))) rfl m_tuple (.l .own) (evt_sorted (enc := (eP D.str (eT D.int))) hr.units rfl m_sorted (EncOrd.pair EncOrd.str (EncOrd.vt EncOrd.int (dep_le dep_int (by decide))) (dep_le dep_str (by decide)) (dep_le (dep_vt dep_int) (by decide))) EncTop.pair .t (evt_catT (enc := (eP D.str (eT D.int))) (xs := v_facts) (ys := [((v_words.getD ((6 : Int)).toNat default), [v_at, v_at, (law_take c_ v_row (v_same.length : Int)).1])]) (ev_var 3 rfl (pv 3)) (ev_tup (ds := [(eP D.str (eT D.int)) ((v_words.getD ((6 : Int)).toNat default), [v_at, v_at, (law_take c_ v_row (v_same.length : Int)).1])]) (av_cons (ev_tup (ds := [D.str (v_words.getD ((6 : Int)).toNat default), (eT D.int) [v_at, v_at, (law_take c_ v_row (v_same.length : Int)).1]]) (av_cons (evt_ixL (enc := D.str) (ev_var 4 rfl (pv 4)) ev_int .dat (g_.1) (g_.2.1)) (av_cons (ev_tup (ds := [D.int v_at, D.int v_at, D.int ((law_take c_ v_row (v_same.length : Int)).1)]) (av_cons (ev_var 6 rfl (pv 6)) (av_cons (ev_var 6 rfl (pv 6)) (av_cons (ev_call (rs := [.bor 0, .dat (D.int (v_same.length : Int))]) (ars := [.mu (.lst (v_row.map D.int)) (.lst (((law_take c_ v_row (v_same.length : Int)).2).map D.int)), .dat (D.int (v_same.length : Int))]) (rr := .dat (D.int ((law_take c_ v_row (v_same.length : Int)).1))) C_law_take (hr.mono (by decide)) rfl ⟨v_row, (v_same.length : Int), _, rfl, .inl ⟨(g_.2.2.1), rfl, rfl⟩⟩ (mt_cbor rfl rfl (mt_cdat (d := D.int (v_same.length : Int)) mt_nil)) (av_cons (ev_bor 0 rfl (pv 0)) (av_cons (evt_len rfl m_len .t (ev_var 2 rfl (pv 2))) av_nil))) av_nil)))) av_nil))) av_nil)) (small_line (g_.2.2.2.1))))) av_nil)))) rfl (by walk_at "weak"))
    · skip
      exact (ss_nil (by walk_at "weak"))
    exact ss_one (st_ret (ev_tup (ds := [(eT D.str) v_kinds, (eT D.int) v_same, (eT (eP D.str (eT D.int))) v_facts]) (av_cons (ev_var 1 rfl (pv 1)) (av_cons (ev_var 2 rfl (pv 2)) (av_cons (ev_var 3 rfl (pv 3)) av_nil)))) rfl (by walk_at "weak"))
  · rcases hR with ⟨h_, rfl, rfl⟩ | hR
    · exact .inl ⟨(law_changed c_ v_row v_kinds v_same v_facts v_words), .dat ((eP3 (eT D.str) (eT D.int) (eT (eP D.str (eT D.int)))) ((law_changed c_ v_row v_kinds v_same v_facts v_words).1)), LO.IsRet.eq h_, rfl, rfl, finOk ⟨rfl, rfl, trivial⟩⟩
    · exact hR.elim
/-! ### _law_refused -/
abbrev s_law_refused : Stmt := top 19
theorem sc_law_refused : FnScope ["kinds", "same", "facts", "e"] ["kinds", "same", "facts"] (defScope s_law_refused) := ⟨rfl, rfl, rfl, by decide +kernel, rfl, by decide +kernel, by decide +kernel⟩
theorem ok_law_refused (F : Fun K "_law_refused" "_law_refused" s_law_refused f fd) (hm : mg "_law_refused" = some (.ref f)) (b : Binds K fd ["kinds", "same", "facts"] []) (m_isinstance : mg "isinstance" = none) (m_ValueError : mg "ValueError" = none) (Z_World : Kle P w K mg base 3 "World" c_.World (R_World_init c_)) (mg_BadWorld : mg "BadWorld" = some (.ref c_.BadWorld)) (kO_BadWorld_BadWorld : PySem.W.kitOne K (.ref c_.BadWorld) (.ref c_.BadWorld) = some true) (xi_BadWorld : ExI K c_.BadWorld) (kO_BadWorld_ValueError : PySem.W.kitOne K (.ref c_.BadWorld) (.type "ValueError") = some true) (mg_BadTheory : mg "BadTheory" = some (.ref c_.BadTheory)) (kO_BadWorld_BadTheory : PySem.W.kitOne K (.ref c_.BadWorld) (.ref c_.BadTheory) = some false) (xf_BadWorld : XfC K c_.BadWorld) (xn_BadWorld_part : PySem.W.findIn K (.ref c_.BadWorld) "part" = some none) (xn_BadWorld_at : PySem.W.findIn K (.ref c_.BadWorld) "at" = some none) (mg_CasesError : mg "CasesError" = some (.ref c_.CasesError)) (xm_BadWorld_CasesError : PySem.W.exmOne K (.ref c_.BadWorld) (.ref c_.CasesError) = some true) : Cle P w K mg base 5 "_law_refused" (R_law_refused c_) := by
  refine cle_mk (S := Unit) (L := Unit) (R := (Option (Str × Int))) F sc_law_refused hm b (fun ars out h => by obtain ⟨_, _, _, rfl, _⟩ := h; rfl) fun cdv A outer s H E ars out as hr hR => ?_
  obtain ⟨v_kinds, v_same, v_facts, rfl, hR⟩ := hR
  refine ⟨[.any, .any, .any, .any], fun _ => [.any, .any, .any, .any], fun _ => [.any, .any, .any, .any], fun r_ => (.dat ((eO (eP D.str D.int)) r_), [.any, .any, .any, .any]), lo_law_refused c_ v_kinds v_same v_facts, ?_, ?_⟩
  · unfold lo_law_refused
    refine ss_cons (S' := Unit) (G' := fun _ => [.dat ((eT D.str) v_kinds), .dat ((eT D.int) v_same), .dat ((eT (eP D.str (eT D.int))) v_facts), .any]) (st_tryT (i := 3) (Xb := [.dat ((eT D.str) v_kinds), .dat ((eT D.int) v_same), .dat ((eT (eP D.str (eT D.int))) v_facts), .any]) (Xs := []) (eX := eXsi c_.BadWorld "part" "at") dXsi_eq (fun _ => rfl) rfl rfl sc_law_refused.nd rfl rfl ⟨rfl, rfl, .inl mg_CasesError⟩ xm_BadWorld_CasesError (fun pn_ xe_ hp_ => ?_) (fun p_ aE_ oe_ d_ pn_ hz_ hv_ => ?_) (fun _ => rfl) (fun _ => rfl)) (fun _ => ?_)
    · skip
      refine ss_cons (S' := T_World) (G' := fun _ => [.dat ((eT D.str) v_kinds), .dat ((eT D.int) v_same), .dat ((eT (eP D.str (eT D.int))) v_facts), .any]) (st_exprC (by exact cv_make (o := mk_World_init c_ v_kinds v_same v_facts) (Xe := [.dat ((eT D.str) v_kinds), .dat ((eT D.int) v_same), .dat ((eT (eP D.str (eT D.int))) v_facts), .any]) (cf := fun w_ => o_World c_ w_) (arf := fun _ => [.dat ((eT D.str) v_kinds), .dat ((eT D.int) v_same), .dat ((eT (eP D.str (eT D.int))) v_facts)]) (arx := [.dat ((eT D.str) v_kinds), .dat ((eT D.int) v_same), .dat ((eT (eP D.str (eT D.int))) v_facts)]) (cx := .ins c_.World [] []) (rs := [.dat ((eT D.str) v_kinds), .dat ((eT D.int) v_same), .dat ((eT (eP D.str (eT D.int))) v_facts)]) (Γ' := fun _ => [.dat ((eT D.str) v_kinds), .dat ((eT D.int) v_same), .dat ((eT (eP D.str (eT D.int))) v_facts), .any]) Z_World (hr.mono (by decide)) rfl (fun r_ e_ => ⟨v_kinds, v_same, v_facts, _, rfl, .inl ⟨⟨r_, e_⟩, (by show o_World c_ r_ = o_World c_ (mk_World_init c_ v_kinds v_same v_facts).get; rw [e_]; rfl), rfl⟩⟩) (fun y_ e_ => ⟨v_kinds, v_same, v_facts, _, rfl, .inr ⟨y_, asRet_exc e_, rfl, rfl⟩⟩) (fun _ => (mt_cdat (d := (eT D.str) v_kinds) (mt_cdat (d := (eT D.int) v_same) (mt_cdat (d := (eT (eP D.str (eT D.int))) v_facts) mt_nil)))) (mt_cdat (d := (eT D.str) v_kinds) (mt_cdat (d := (eT D.int) v_same) (mt_cdat (d := (eT (eP D.str (eT D.int))) v_facts) mt_nil))) (av_cons (ev_var 0 rfl (pv 0)) (av_cons (ev_var 1 rfl (pv 1)) (av_cons (ev_var 2 rfl (pv 2)) av_nil)))) (fun _ => weak_rfl)) (fun _ => ?_)
      exact (ss_nil (by walk_at "weak"))
    · skip
      refine ss_cons (S' := Unit) (G' := fun (_ : Unit) => [.dat ((eT D.str) v_kinds), .dat ((eT D.int) v_same), .dat ((eT (eP D.str (eT D.int))) v_facts), .err aE_ d_ (eXsi c_.BadWorld "part" "at" p_)]) (st_if (WV.tv (wv_and (tv_val (ev_isX (y := eXsi c_.BadWorld "part" "at" p_) rfl m_isinstance xi_BadWorld hz_ hv_ (pv 3) rfl (fun h_ => nomatch h_) (pe_glob (v := .ref c_.BadWorld) rfl mg_BadWorld rfl) (.own _) kO_BadWorld_BadWorld)) (fun h1_ => (wv_and (tv_val (ev_isX (y := eXsi c_.BadWorld "part" "at" p_) rfl m_isinstance xi_BadWorld hz_ hv_ (pv 3) rfl (fun h_ => nomatch h_) (pe_bltn (v := .ty "ValueError") rfl m_ValueError (by decide +kernel) rfl) (.ty _) kO_BadWorld_ValueError)) (fun h2_ => (wv_and1 (tv_not (tv_val (ev_isX (y := eXsi c_.BadWorld "part" "at" p_) rfl m_isinstance xi_BadWorld hz_ hv_ (pv 3) rfl (fun h_ => nomatch h_) (pe_glob (v := .ref c_.BadTheory) rfl mg_BadTheory rfl) (.own _) kO_BadWorld_BadTheory))))))))) (fun h_ => ?_) (fun h_ => ?_)) (fun x_ => ?_)
      · skip
        exact ss_one (st_ret (ev_tup (ds := [D.str p_.1, D.int p_.2]) (av_cons (ev_xfld (y := eXsi c_.BadWorld "part" "at" p_) xf_BadWorld xn_BadWorld_part hz_ hv_ (pv 3) rfl rfl) (av_cons (ev_xfld (y := eXsi c_.BadWorld "part" "at" p_) xf_BadWorld xn_BadWorld_at hz_ hv_ (pv 3) rfl rfl) av_nil))) rfl (by walk_at "weak"))
      · skip
        exact (ss_nil (by walk_at "weak"))
      exact ss_one (st_ret (ev_tup (ds := [D.str ("another" : Str), D.int (-(1 : Int))]) (av_cons ev_str (av_cons ev_negc av_nil))) rfl (by walk_at "weak"))
    exact ss_one (st_ret ev_non rfl (by walk_at "weak"))
  · rcases hR with ⟨h_, rfl⟩ | hR
    · exact .inl ⟨(law_refused c_ v_kinds v_same v_facts), .dat ((eO (eP D.str D.int)) (law_refused c_ v_kinds v_same v_facts)), LO.IsRet.eq h_, rfl, rfl, finOk trivial⟩
    · exact hR.elim
/-! ### _law_seen -/
abbrev s_law_seen : Stmt := top 20
theorem sc_law_seen : FnScope ["world", "kinds", "same", "facts", "firsts", "kind", "n"] ["world", "kinds", "same", "facts"] (defScope s_law_seen) := ⟨rfl, rfl, rfl, by decide +kernel, rfl, by decide +kernel, by decide +kernel⟩
theorem ok_law_seen (F : Fun K "_law_seen" "_law_seen" s_law_seen f fd) (hm : mg "_law_seen" = some (.ref f)) (b : Binds K fd ["world", "kinds", "same", "facts"] []) (m_isinstance : mg "isinstance" = none) (m_tuple : mg "tuple" = none) (m_len : mg "len" = none) (m_range : mg "range" = none) (m_list : mg "list" = none) (m_sorted : mg "sorted" = none) (mg_World : mg "World" = some (.ref c_.World)) (kO_World_World : PySem.W.kitOne K (.ref c_.World) (.ref c_.World) = some true) (oI_World : OwI K c_.World) (kC_World : Cls K c_.World) (nA_World_kinds : NoAttr K c_.World "kinds") (nA_World_same : NoAttr K c_.World "same") (nA_World_facts : NoAttr K c_.World "facts") (M_World_first_things : Mle P w K mg base 1 c_.World "first_things" (R_World_first_things c_)) (I_World : Itl P w K mg base 1 c_.World "facts") (M_World_of_kind : Mle P w K mg base 1 c_.World "of_kind" (R_World_of_kind c_)) (Z_World : Kle P w K mg base 3 "World" c_.World (R_World_init c_)) (M_World_eq : Mle P w K mg base 1 c_.World "__eq__" (R_World_eq c_)) (ne_World : PySem.W.findIn K (.ref c_.World) "__ne__" = some (some (.builtin "object.__ne__"))) (mo_World : PySem.W.mroIn K c_.World (.type "object") = some true) : Cle P w K mg base 5 "_law_seen" (R_law_seen c_) := by
  refine cle_mk (S := Unit) (L := Unit) (R := Bool) F sc_law_seen hm b (fun ars out h => by obtain ⟨_, _, _, _, rfl, _⟩ := h; rfl) fun cdv A outer s H E ars out as hr hR => ?_
  obtain ⟨v_world, v_kinds, v_same, v_facts, rfl, hR⟩ := hR
  refine ⟨[.any, .any, .any, .any, .any, .any, .any], fun _ => [.any, .any, .any, .any, .any, .any, .any], fun _ => [.any, .any, .any, .any, .any, .any, .any], fun r_ => (.dat (D.bl r_), [.any, .any, .any, .any, .any, .any, .any]), lo_law_seen c_ v_world v_kinds v_same v_facts, ?_, ?_⟩
  · unfold lo_law_seen
    refine ss_cons (S' := Unit) (G' := fun (_ : Unit) => [.dat ((e_World c_) v_world), .dat ((eT D.str) v_kinds), .dat ((eT D.int) v_same), .dat ((eT (eP D.str (eT D.int))) v_facts), .any, .any, .any]) (st_if (WV.tv (wv_or (tv_not (tv_val (ev_isO rfl m_isinstance oI_World (ev_var 0 rfl (pv 0)) .dat (pe_glob (v := .ref c_.World) rfl mg_World rfl) (.own _) kO_World_World))) (fun h1_ => (wv_or (tv_not (tv_val (ev_isi rfl m_isinstance rfl m_tuple (by decide +kernel) (ev_fld (d := (eT D.str) v_world.1) (ev_var 0 rfl (pv 0)) .dat kC_World nA_World_kinds rfl) (kit_t _ rfl) rfl))) (fun h2_ => (wv_or1 (tv_not (tv_val (ev_isi rfl m_isinstance rfl m_tuple (by decide +kernel) (ev_fld (d := (eT D.int) v_world.2.1) (ev_var 0 rfl (pv 0)) .dat kC_World nA_World_same rfl) (kit_t _ rfl) rfl))))))))) (fun h_ => ?_) (fun h_ => ?_)) (fun x_ => ?_)
    · skip
      exact ss_one (st_ret ev_bl rfl (by walk_at "weak"))
    · skip
      exact (ss_nil (by walk_at "weak"))
    refine ss_cons (S' := Unit) (G' := fun (_ : Unit) => [.dat ((e_World c_) v_world), .dat ((eT D.str) v_kinds), .dat ((eT D.int) v_same), .dat ((eT (eP D.str (eT D.int))) v_facts), .any, .any, .any]) (st_if (WV.tv (wv_or (tv_neT (enc := (eT D.str)) (u := v_world.1) (v := v_kinds) hr.units (EncEq.vt EncEq.str 1 dep_str (by decide)) (ev_fld (d := (eT D.str) v_world.1) (ev_var 0 rfl (pv 0)) .dat kC_World nA_World_kinds rfl) (ev_var 1 rfl (pv 1))) (fun h3_ => (wv_or (tv_neT (enc := (eT D.int)) (u := v_world.2.1) (v := v_same) hr.units (EncEq.vt EncEq.int 1 dep_int (by decide)) (ev_fld (d := (eT D.int) v_world.2.1) (ev_var 0 rfl (pv 0)) .dat kC_World nA_World_same rfl) (ev_var 2 rfl (pv 2))) (fun h4_ => (wv_or (tv_not (tv_val (ev_isi rfl m_isinstance rfl m_tuple (by decide +kernel) (ev_fld (d := (eT (eP D.str (eT D.int))) v_world.2.2.1) (ev_var 0 rfl (pv 0)) .dat kC_World nA_World_facts rfl) (kit_t _ rfl) rfl))) (fun h5_ => (wv_or1 (tv_neT (enc := (eT (eP D.str (eT D.int)))) (u := v_world.2.2.1) (v := v_facts) hr.units (EncEq.vt (EncEq.pair EncEq.str (EncEq.vt EncEq.int 1 dep_int (by decide)) 2 (dep_le dep_str (by decide)) (dep_le (dep_vt dep_int) (by decide)) (by decide)) 3 (dep_pair (n := 2) (dep_le dep_str (by decide)) (dep_le (dep_vt dep_int) (by decide))) (by decide)) (ev_fld (d := (eT (eP D.str (eT D.int))) v_world.2.2.1) (ev_var 0 rfl (pv 0)) .dat kC_World nA_World_facts rfl) (ev_var 3 rfl (pv 3))))))))))) (fun h_ => ?_) (fun h_ => ?_)) (fun x_ => ?_)
    · skip
      exact ss_one (st_ret ev_bl rfl (by walk_at "weak"))
    · skip
      exact (ss_nil (by walk_at "weak"))
    refine ss_grd (fun g_ => ?_)
    refine ss_cons (S' := (List Int)) (G' := fun (v_firsts : (List Int)) => [.dat ((e_World c_) v_world), .dat ((eT D.str) v_kinds), .dat ((eT D.int) v_same), .dat ((eT (eP D.str (eT D.int))) v_facts), .dat ((eL D.int) v_firsts), .any, .any]) (st_lc 4 rfl sc_law_seen.nd rfl rfl (sw_true rfl rfl rfl (by decide +kernel)) (blkOk_by (own := [("n", 6)]) (by walk_at "blk")) (fun _ _ _ _ _ => (sh_name 6 (pg_name (i := 6) sc_law_seen.nd rfl (by first | exact .inl rfl | exact .inr rfl)))) (CompOk.fz (cp_mapif (enc := D.int) (encb := D.int) (sh := (.name 6)) (own := [("n", 6)]) (Γ0 := [.dat ((e_World c_) v_world), .dat ((eT D.str) v_kinds), .dat ((eT D.int) v_same), .dat ((eT (eP D.str (eT D.int))) v_facts), .any, .any, .any]) (fun (v_n : Int) => (decide ((v_same.getD (v_n).toNat default) = v_n))) (fun (v_n : Int) => v_n) (by exact ivt_range1 rfl m_range (evt_len rfl m_len .t (ev_var 2 rfl (pv 2))) (rng1 (g_.1))) (fun _ h => h) (by walk_at "weak") (by intro n hn t ht; simp only [List.map_cons, List.map_nil, List.mem_cons, List.not_mem_nil, or_false] at hn; subst hn; cases ht; rfl) (fun _ => rsm1 (g_.1)) (fun hB_ v_n hx6_ => ⟨_, _, _, rfl, (fun _ _ _ _ _ => (tv_eqI (evt_ixT (enc := D.int) (ev_var 2 rfl (pv 2)) (ev_var 6 rfl (pv 6)) (((g_.2.1) v_n hx6_).1) (((g_.2.1) v_n hx6_).2.1)) (ev_var 6 rfl (pv 6)))), (fun h7_ _ _ _ _ _ => (ev_var 6 rfl (pv 6))), (by walk_at "weak"), (by walk_at "weak")⟩))) weak_rfl) (fun v_firsts => ?_)
    refine ss_grd (fun g_ => ?_)
    refine ss_cons (S' := Unit) (G' := fun (_ : Unit) => [.dat ((e_World c_) v_world), .dat ((eT D.str) v_kinds), .dat ((eT D.int) v_same), .dat ((eT (eP D.str (eT D.int))) v_facts), .dat ((eL D.int) v_firsts), .any, .any]) (st_if (WV.tv (wv_or (tv_neT (enc := (eL D.int)) (u := (World_first_things c_ v_world)) (v := v_firsts) hr.units (EncEq.lst EncEq.int 1 dep_int (by decide)) (EV.fzL (ev_meth0 (rr := .own (.lst ((World_first_things c_ v_world).map D.int))) M_World_first_things (hr.mono (by decide)) kC_World (by decide) (ev_var 0 rfl (pv 0)) ⟨v_world, rfl, .inl ⟨(g_.1), rfl⟩⟩)) (ev_var 4 rfl (pv 4))) (fun h8_ => (wv_or1 (tv_neT (enc := (eL (eP D.str (eT D.int)))) (u := v_world.2.2.1) (v := v_facts) hr.units (EncEq.lst (EncEq.pair EncEq.str (EncEq.vt EncEq.int 1 dep_int (by decide)) 2 (dep_le dep_str (by decide)) (dep_le (dep_vt dep_int) (by decide)) (by decide)) 3 (dep_pair (n := 2) (dep_le dep_str (by decide)) (dep_le (dep_vt dep_int) (by decide))) (by decide)) (EV.fzL (ev_listO (ds := v_world.2.2.1.map (eP D.str (eT D.int))) I_World (hr.mono (by decide)) rfl rfl m_list .dat rfl (ev_var 0 rfl (pv 0)))) (EV.fzL (evt_list (enc := (eP D.str (eT D.int))) rfl m_list .t (ev_var 3 rfl (pv 3))))))))) (fun h_ => ?_) (fun h_ => ?_)) (fun x_ => ?_)
    · skip
      exact ss_one (st_ret ev_bl rfl (by walk_at "weak"))
    · skip
      exact (ss_nil (by walk_at "weak"))
    refine ss_grd (fun g_ => ?_)
    refine ss_cons (S' := Unit) (G' := fun (_ : Unit) => [.dat ((e_World c_) v_world), .dat ((eT D.str) v_kinds), .dat ((eT D.int) v_same), .dat ((eT (eP D.str (eT D.int))) v_facts), .dat ((eL D.int) v_firsts), .any, .any]) (st_for (enc := D.str) (sh := (.name 5)) (Gs := fun (_ : Unit) => [.dat ((e_World c_) v_world), .dat ((eT D.str) v_kinds), .dat ((eT D.int) v_same), .dat ((eT (eP D.str (eT D.int))) v_facts), .dat ((eL D.int) v_firsts), .any, .any]) (xs := ((v_kinds.mergeSort (leT D.str)) ++ [("none" : Str)])) (st1_law_seen c_ v_world v_kinds v_firsts) (s0 := ()) (iv_list (EV.fzL (evt_catL (enc := D.str) (xs := (v_kinds.mergeSort (leT D.str))) (ys := [("none" : Str)]) (evt_sorted (enc := D.str) hr.units rfl m_sorted EncOrd.str EncTop.str .t (ev_var 1 rfl (pv 1))) (ev_lst (ds := [D.str ("none" : Str)]) (av_cons ev_str av_nil)) .own .own (small_line (g_.1))))) (sh_name 5 (pg_name (i := 5) sc_law_seen.nd rfl (by first | exact .inl rfl | exact .inr rfl))) (passes_of rfl) rfl (by walk_at "weak") (fun hB_ s_ v_kind hx_ => ?_)) (fun x_ => ?_)
    · skip
      refine ⟨_, rfl, ?_⟩
      show SS _ _ _ _ _ _ _ (grd (((lo_World_of_kind c_ v_world v_kind).IsRet) ∧ (∀ (v_n : Int), ((v_n : Int) ∈ v_firsts) → ((0 ≤ v_n) ∧ (v_n < v_kinds.length) ∧ True)) ∧ True) ((if (!decide ((World_of_kind c_ v_world v_kind) = ((v_firsts.filter fun (v_n : Int) => (decide ((v_kinds.getD (v_n).toNat default) = v_kind))).map fun (v_n : Int) => v_n))) then LO.ret false else LO.next () : LO Unit Unit Bool).bind fun (_ : Unit) => LO.next ()))
      refine ss_grd (fun g_ => ?_)
      refine ss_cons (S' := Unit) (G' := fun (_ : Unit) => [.dat ((e_World c_) v_world), .dat ((eT D.str) v_kinds), .dat ((eT D.int) v_same), .dat ((eT (eP D.str (eT D.int))) v_facts), .dat ((eL D.int) v_firsts), .dat (D.str v_kind), .any]) (st_if (tv_neT (enc := (eL D.int)) (u := (World_of_kind c_ v_world v_kind)) (v := ((v_firsts.filter fun (v_n : Int) => (decide ((v_kinds.getD (v_n).toNat default) = v_kind))).map fun (v_n : Int) => v_n)) hr.units (EncEq.lst EncEq.int 1 dep_int (by decide)) (EV.fzL (ev_meth (rs := [.dat (D.str v_kind)]) (ars := [.dat (D.str v_kind)]) (rr := .own (.lst ((World_of_kind c_ v_world v_kind).map D.int))) M_World_of_kind (hr.mono (by decide)) kC_World (by decide) (ev_var 0 rfl (pv 0)) ⟨v_world, v_kind, rfl, .inl ⟨(g_.1), rfl⟩⟩ (mt_cdat (d := D.str v_kind) mt_nil) (av_cons (ev_var 5 rfl (pv 5)) av_nil))) (EV.fzL (ev_lc rfl sc_law_seen.nd (blkOk_by (own := [("n", 6)]) (by walk_at "blk")) (fun _ _ _ _ _ => (sh_name 6 (pg_name (i := 6) sc_law_seen.nd rfl (by first | exact .inl rfl | exact .inr rfl)))) (cp_mapif (enc := D.int) (encb := D.int) (sh := (.name 6)) (own := [("n", 6)]) (Γ0 := [.dat ((e_World c_) v_world), .dat ((eT D.str) v_kinds), .dat ((eT D.int) v_same), .dat ((eT (eP D.str (eT D.int))) v_facts), .dat ((eL D.int) v_firsts), .dat (D.str v_kind), .any]) (fun (v_n : Int) => (decide ((v_kinds.getD (v_n).toNat default) = v_kind))) (fun (v_n : Int) => v_n) (iv_list (ev_var 4 rfl (pv 4))) (fun _ h => h) (by walk_at "weak") (by intro n hn t ht; simp only [List.map_cons, List.map_nil, List.mem_cons, List.not_mem_nil, or_false] at hn; subst hn; cases ht; rfl) (fun h => by simpa using h) (fun hB_ v_n hx9_ => ⟨_, _, _, rfl, (fun _ _ _ _ _ => (tv_eqS (evt_ixT (enc := D.str) (ev_var 1 rfl (pv 1)) (ev_var 6 rfl (pv 6)) (((g_.2.1) v_n hx9_).1) (((g_.2.1) v_n hx9_).2.1)) (ev_var 5 rfl (pv 5)))), (fun h10_ _ _ _ _ _ => (ev_var 6 rfl (pv 6))), (by walk_at "weak"), (by walk_at "weak")⟩))))) (fun h_ => ?_) (fun h_ => ?_)) (fun x_ => ?_)
      · skip
        exact ss_one (st_ret ev_bl rfl (by walk_at "weak"))
      · skip
        exact (ss_nil (by walk_at "weak"))
      exact (ss_nil (by walk_at "weak"))
    refine ss_grd (fun g_ => ?_)
    exact ss_one (st_ret (ev_and (ev_eqO M_World_eq (hr.mono (by decide)) (ev_var 0 rfl (pv 0)) (EV.fzI (by exact ev_make (oc := o_World c_ (World_init c_ v_kinds v_same v_facts)) (rs := [.dat ((eT D.str) v_kinds), .dat ((eT D.int) v_same), .dat ((eT (eP D.str (eT D.int))) v_facts)]) (ars := [.dat ((eT D.str) v_kinds), .dat ((eT D.int) v_same), .dat ((eT (eP D.str (eT D.int))) v_facts)]) Z_World (hr.mono (by decide)) rfl ⟨v_kinds, v_same, v_facts, _, rfl, .inl ⟨(g_.1), rfl, rfl⟩⟩ (mt_cdat (d := (eT D.str) v_kinds) (mt_cdat (d := (eT D.int) v_same) (mt_cdat (d := (eT (eP D.str (eT D.int))) v_facts) mt_nil))) (av_cons (ev_var 1 rfl (pv 1)) (av_cons (ev_var 2 rfl (pv 2)) (av_cons (ev_var 3 rfl (pv 3)) av_nil))))) ⟨v_world, (World_init c_ v_kinds v_same v_facts), rfl, .inl ⟨(g_.2.1), rfl⟩⟩) (fun h11_ => (ev_one (ev_not (ev_neO M_World_eq (hr.mono (by decide)) ne_World mo_World (ev_var 0 rfl (pv 0)) (EV.fzI (by exact ev_make (oc := o_World c_ (World_init c_ v_kinds v_same v_facts)) (rs := [.dat ((eT D.str) v_kinds), .dat ((eT D.int) v_same), .dat ((eT (eP D.str (eT D.int))) v_facts)]) (ars := [.dat ((eT D.str) v_kinds), .dat ((eT D.int) v_same), .dat ((eT (eP D.str (eT D.int))) v_facts)]) Z_World (hr.mono (by decide)) rfl ⟨v_kinds, v_same, v_facts, _, rfl, .inl ⟨(((g_.2.2.1) h11_).1), rfl, rfl⟩⟩ (mt_cdat (d := (eT D.str) v_kinds) (mt_cdat (d := (eT D.int) v_same) (mt_cdat (d := (eT (eP D.str (eT D.int))) v_facts) mt_nil))) (av_cons (ev_var 1 rfl (pv 1)) (av_cons (ev_var 2 rfl (pv 2)) (av_cons (ev_var 3 rfl (pv 3)) av_nil))))) ⟨v_world, (World_init c_ v_kinds v_same v_facts), rfl, .inl ⟨(((g_.2.2.1) h11_).2.1), rfl⟩⟩))))) rfl (by walk_at "weak"))
  · rcases hR with ⟨h_, rfl⟩ | hR
    · exact .inl ⟨(law_seen c_ v_world v_kinds v_same v_facts), .dat (D.bl (law_seen c_ v_world v_kinds v_same v_facts)), LO.IsRet.eq h_, rfl, rfl, finOk trivial⟩
    · exact hR.elim
/-! ### _law_asked -/
abbrev s_law_asked : Stmt := top 21
theorem sc_law_asked : FnScope ["row", "world", "same", "facts", "words", "k", "d", "sign", "numbers", "alike", "due", "low", "place", "n"] ["row", "world", "same", "facts", "words"] (defScope s_law_asked) := ⟨rfl, rfl, rfl, by decide +kernel, rfl, by decide +kernel, by decide +kernel⟩
theorem ok_law_asked (F : Fun K "_law_asked" "_law_asked" s_law_asked f fd) (hm : mg "_law_asked" = some (.ref f)) (b : Binds K fd ["row", "world", "same", "facts", "words"] []) (m_range : mg "range" = none) (m_len : mg "len" = none) (m_tuple : mg "tuple" = none) (m_max : mg "max" = none) (C_law_take : Cle P w K mg base 1 "_law_take" (R_law_take c_)) (M_World_contains : Mle P w K mg base 1 c_.World "__contains__" (R_World_contains c_)) : Cle P w K mg base 2 "_law_asked" (R_law_asked c_) := by
  refine cle_mk (S := Unit) (L := Unit) (R := (Bool × (List Int))) F sc_law_asked hm b (fun ars out h => by obtain ⟨_, _, _, _, _, _, rfl, _⟩ := h; rfl) fun cdv A outer s H E ars out as hr hR => ?_
  obtain ⟨v_row, v_world, v_same, v_facts, v_words, z0_, rfl, hR⟩ := hR
  refine ⟨[.own (some (as 0)) (.lst (v_row.map D.int)), .any, .any, .any, .any, .any, .any, .any, .any, .any, .any, .any, .any, .any], fun _ => [.any, .any, .any, .any, .any, .any, .any, .any, .any, .any, .any, .any, .any, .any], fun _ => [.any, .any, .any, .any, .any, .any, .any, .any, .any, .any, .any, .any, .any, .any], fun r_ => (.dat (D.bl r_.1), [.own (some (as 0)) (.lst (r_.2.map D.int)), .any, .any, .any, .any, .any, .any, .any, .any, .any, .any, .any, .any, .any]), lo_law_asked c_ v_row v_world v_same v_facts v_words, ?_, ?_⟩
  · unfold lo_law_asked
    refine ss_cons (S' := (List Int)) (G' := fun (v_row : (List Int)) => [.own (some (as 0)) (.lst (v_row.map D.int)), .dat ((e_World c_) v_world), .dat ((eT D.int) v_same), .dat ((eT (eP D.str (eT D.int))) v_facts), .dat ((eL D.str) v_words), .any, .any, .any, .any, .any, .any, .any, .any, .any]) (st_for (enc := D.int) (sh := (.name 5)) (Gs := fun (v_row : (List Int)) => [.own (some (as 0)) (.lst (v_row.map D.int)), .dat ((e_World c_) v_world), .dat ((eT D.int) v_same), .dat ((eT (eP D.str (eT D.int))) v_facts), .dat ((eL D.str) v_words), .any, .any, .any, .any, .any, .any, .any, .any, .any]) (xs := (rangeI 0 (8 : Int))) (st1_law_asked c_ v_world v_same v_facts v_words) (s0 := v_row) (by exact ivt_range1 rfl m_range ev_int (rng1 ⟨by decide, by decide⟩)) (sh_name 5 (pg_name (i := 5) sc_law_asked.nd rfl (by first | exact .inl rfl | exact .inr rfl))) (passes_of rfl) rfl (by walk_at "weak") (fun hB_ v_row v_k hx_ => ?_)) (fun v_row => ?_)
    · skip
      refine ⟨_, rfl, ?_⟩
      show SS _ _ _ _ _ _ _ (grd (((lo_law_take c_ v_row (4 : Int)).IsRet) ∧ True) ((LO.next ((law_take c_ v_row (4 : Int)).1, (law_take c_ v_row (4 : Int)).2) : LO (Int × (List Int)) (List Int) (Bool × (List Int))).bind fun x_ => match x_ with | (v_d, v_row) => (if ((decide ((0 : Int) < (v_same.length : Int))) || (decide (v_d = (0 : Int)))) then grd ((-1000000 ≤ v_d ∧ v_d ≤ 1000000) ∧ (∀ (v_row : (List Int)) (v_place : Int), ((v_place : Int) ∈ (rangeI 0 v_d)) → (((lo_law_take c_ v_row (v_same.length : Int)).IsRet) ∧ True)) ∧ True) ((LO.next ((compL (cs1_law_asked c_ v_same) (rangeI 0 v_d) v_row).2, (compL (cs1_law_asked c_ v_same) (rangeI 0 v_d) v_row).1) : LO ((List Int) × (List Int)) (List Int) (Bool × (List Int))).bind fun x_ => match x_ with | (v_numbers, v_row) => grd ((0 ≤ ((3 : Int) + v_d)) ∧ (((3 : Int) + v_d) < v_words.length) ∧ (∀ (v_n : Int), ((v_n : Int) ∈ v_numbers) → ((0 ≤ v_n) ∧ (v_n < v_same.length) ∧ True)) ∧ True) ((LO.next (memB ((v_words.getD (((3 : Int) + v_d)).toNat default), (v_numbers.map fun (v_n : Int) => (v_same.getD (v_n).toNat default))) v_facts) : LO Bool (List Int) (Bool × (List Int))).bind fun (v_due : Bool) => grd ((0 ≤ ((3 : Int) + v_d)) ∧ (((3 : Int) + v_d) < v_words.length) ∧ ((lo_World_contains c_ v_world ((v_words.getD (((3 : Int) + v_d)).toNat default), v_numbers)).IsRet) ∧ True) ((if (!decide ((World_contains c_ v_world ((v_words.getD (((3 : Int) + v_d)).toNat default), v_numbers)) = v_due)) then LO.ret (false, v_row) else LO.next () : LO Unit (List Int) (Bool × (List Int))).bind fun (_ : Unit) => LO.next v_row))) else LO.next v_row : LO (List Int) (List Int) (Bool × (List Int))).bind fun (v_row : (List Int)) => LO.next v_row))
      refine ss_grd (fun g_ => ?_)
      refine ss_cons (S' := (Int × (List Int))) (G' := fun x_ => match x_ with | (v_d, v_row) => [.own (some (as 0)) (.lst (v_row.map D.int)), .dat ((e_World c_) v_world), .dat ((eT D.int) v_same), .dat ((eT (eP D.str (eT D.int))) v_facts), .dat ((eL D.str) v_words), .dat (D.int v_k), .dat (D.int v_d), .any, .any, .any, .any, .any, .any, .any]) (st_set 6 sc_law_asked.nd rfl (by first | exact .inl rfl | exact .inr rfl) (ev_call (rs := [.bor 0, .dat (D.int (4 : Int))]) (ars := [.mu (.lst (v_row.map D.int)) (.lst (((law_take c_ v_row (4 : Int)).2).map D.int)), .dat (D.int (4 : Int))]) (rr := .dat (D.int ((law_take c_ v_row (4 : Int)).1))) C_law_take (hr.mono (by decide)) rfl ⟨v_row, (4 : Int), _, rfl, .inl ⟨(g_.1), rfl, rfl⟩⟩ (mt_cbor rfl rfl (mt_cdat (d := D.int (4 : Int)) mt_nil)) (av_cons (ev_bor 0 rfl (pv 0)) (av_cons ev_int av_nil))) weak_rfl) (fun x_ => ?_)
      obtain ⟨v_d, v_row⟩ := x_
      refine ss_cons (S' := (List Int)) (G' := fun (v_row : (List Int)) => [.own (some (as 0)) (.lst (v_row.map D.int)), .dat ((e_World c_) v_world), .dat ((eT D.int) v_same), .dat ((eT (eP D.str (eT D.int))) v_facts), .dat ((eL D.str) v_words), .dat (D.int v_k), .dat (D.int v_d), .any, .any, .any, .any, .any, .any, .any]) (st_if (WV.tv (wv_or (tv_gt (evt_len rfl m_len .t (ev_var 2 rfl (pv 2))) ev_int) (fun h1_ => (wv_or1 (tv_eqI (ev_var 6 rfl (pv 6)) ev_int))))) (fun h_ => ?_) (fun h_ => ?_)) (fun v_row => ?_)
      · skip
        refine ss_grd (fun g_ => ?_)
        refine ss_cons (S' := ((List Int) × (List Int))) (G' := fun x_ => match x_ with | (v_numbers, v_row) => [.own (some (as 0)) (.lst (v_row.map D.int)), .dat ((e_World c_) v_world), .dat ((eT D.int) v_same), .dat ((eT (eP D.str (eT D.int))) v_facts), .dat ((eL D.str) v_words), .dat (D.int v_k), .dat (D.int v_d), .any, .dat ((eT D.int) v_numbers), .any, .any, .any, .any, .any]) (st_set 8 sc_law_asked.nd rfl (by first | exact .inl rfl | exact .inr rfl) (evt_tuple (enc := D.int) (xs := (compL (cs1_law_asked c_ v_same) (rangeI 0 v_d) v_row).2) rfl m_tuple (.l .own) (ev_lc rfl sc_law_asked.nd (blkOk_by (own := [("place", 12)]) (by walk_at "blk")) (fun _ _ _ _ _ => (sh_name 12 (pg_name (i := 12) sc_law_asked.nd rfl (by first | exact .inl rfl | exact .inr rfl)))) (cp_comp (enc := D.int) (encb := D.int) (sh := (.name 12)) (own := [("place", 12)]) (Gs := fun (v_row : (List Int)) => [.own (some (as 0)) (.lst (v_row.map D.int)), .dat ((e_World c_) v_world), .dat ((eT D.int) v_same), .dat ((eT (eP D.str (eT D.int))) v_facts), .dat ((eL D.str) v_words), .dat (D.int v_k), .dat (D.int v_d), .any, .any, .any, .any, .any, .any, .any]) (cs1_law_asked c_ v_same) (fun i_ v_row => True) (by exact ivt_range1 rfl m_range (ev_var 6 rfl (pv 6)) (rng1 (g_.1))) (fun _ h => h) (by walk_at "weak") (fun v_row => (by intro n hn t ht; simp only [List.map_cons, List.map_nil, List.mem_cons, List.not_mem_nil, or_false] at hn; subst hn; cases ht; rfl)) trivial (fun _ => rsm1 (g_.1)) (fun hB_ i_ v_row v_place hx3_ hP_ => ⟨_, true, _, rfl, (fun _ _ _ _ _ => tts_nil), (by rw [if_pos rfl]; exact ⟨(law_take c_ v_row (v_same.length : Int)).1, _, rfl, (fun _ _ _ _ _ => (ev_call (rs := [.bor 0, .dat (D.int (v_same.length : Int))]) (ars := [.mu (.lst (v_row.map D.int)) (.lst (((law_take c_ v_row (v_same.length : Int)).2).map D.int)), .dat (D.int (v_same.length : Int))]) (rr := .dat (D.int ((law_take c_ v_row (v_same.length : Int)).1))) C_law_take (hr.mono (by decide)) rfl ⟨v_row, (v_same.length : Int), _, rfl, .inl ⟨(((g_.2.1) v_row v_place (List.mem_of_getElem? hx3_)).1), rfl, rfl⟩⟩ (mt_cbor rfl rfl (mt_cdat (d := D.int (v_same.length : Int)) mt_nil)) (av_cons (ev_bor 0 rfl (pv 0)) (av_cons (evt_len rfl m_len .t (ev_var 2 rfl (pv 2))) av_nil)))), (by walk_at "weak")⟩), trivial⟩)))) weak_rfl) (fun x_ => ?_)
        obtain ⟨v_numbers, v_row⟩ := x_
        refine ss_grd (fun g_ => ?_)
        refine ss_cons (S' := Bool) (G' := fun (v_due : Bool) => [.own (some (as 0)) (.lst (v_row.map D.int)), .dat ((e_World c_) v_world), .dat ((eT D.int) v_same), .dat ((eT (eP D.str (eT D.int))) v_facts), .dat ((eL D.str) v_words), .dat (D.int v_k), .dat (D.int v_d), .any, .dat ((eT D.int) v_numbers), .any, .dat (D.bl v_due), .any, .any, .any]) (st_set 10 sc_law_asked.nd rfl (by first | exact .inl rfl | exact .inr rfl) (ev_inM (eP D.str (eT D.int)) ((v_words.getD (((3 : Int) + v_d)).toNat default), (v_numbers.map fun (v_n : Int) => (v_same.getD (v_n).toNat default))) v_facts hr.u65 (EncEq.pair EncEq.str (EncEq.vt EncEq.int 1 dep_int (by decide)) 2 (dep_le dep_str (by decide)) (dep_le (dep_vt dep_int) (by decide)) (by decide)) (ev_tup (ds := [D.str (v_words.getD (((3 : Int) + v_d)).toNat default), (eT D.int) (v_numbers.map fun (v_n : Int) => (v_same.getD (v_n).toNat default))]) (av_cons (evt_ixL (enc := D.str) (ev_var 4 rfl (pv 4)) (ev_add ev_int (ev_var 6 rfl (pv 6))) .dat (g_.1) (g_.2.1)) (av_cons (evt_tuple (enc := D.int) (xs := (v_numbers.map fun (v_n : Int) => (v_same.getD (v_n).toNat default))) rfl m_tuple (.l .own) (ev_lc rfl sc_law_asked.nd (blkOk_by (own := [("n", 13)]) (by walk_at "blk")) (fun _ _ _ _ _ => (sh_name 13 (pg_name (i := 13) sc_law_asked.nd rfl (by first | exact .inl rfl | exact .inr rfl)))) (cp_map (enc := D.int) (encb := D.int) (sh := (.name 13)) (own := [("n", 13)]) (Γ0 := [.own (some (as 0)) (.lst (v_row.map D.int)), .dat ((e_World c_) v_world), .dat ((eT D.int) v_same), .dat ((eT (eP D.str (eT D.int))) v_facts), .dat ((eL D.str) v_words), .dat (D.int v_k), .dat (D.int v_d), .any, .dat ((eT D.int) v_numbers), .any, .any, .any, .any, .any]) (fun (v_n : Int) => (v_same.getD (v_n).toNat default)) (iv_tup (ev_var 8 rfl (pv 8))) (fun _ h => h) (by walk_at "weak") (by intro n hn t ht; simp only [List.map_cons, List.map_nil, List.mem_cons, List.not_mem_nil, or_false] at hn; subst hn; cases ht; rfl) (fun h => by simpa using h) (fun hB_ v_n hx4_ => ⟨_, _, rfl, (fun _ _ _ _ _ => (evt_ixT (enc := D.int) (ev_var 2 rfl (pv 2)) (ev_var 13 rfl (pv 13)) (((g_.2.2.1) v_n hx4_).1) (((g_.2.2.1) v_n hx4_).2.1))), (by walk_at "weak")⟩)))) av_nil))) (ev_var 3 rfl (pv 3)) .t) weak_rfl) (fun v_due => ?_)
        refine ss_grd (fun g_ => ?_)
        refine ss_cons (S' := Unit) (G' := fun (_ : Unit) => [.own (some (as 0)) (.lst (v_row.map D.int)), .dat ((e_World c_) v_world), .dat ((eT D.int) v_same), .dat ((eT (eP D.str (eT D.int))) v_facts), .dat ((eL D.str) v_words), .dat (D.int v_k), .dat (D.int v_d), .any, .dat ((eT D.int) v_numbers), .any, .dat (D.bl v_due), .any, .any, .any]) (st_if (tv_neB (ev_inO (kd := (eP D.str (eT D.int)) ((v_words.getD (((3 : Int) + v_d)).toNat default), v_numbers)) M_World_contains (hr.mono (by decide)) (ev_tup (ds := [D.str (v_words.getD (((3 : Int) + v_d)).toNat default), (eT D.int) v_numbers]) (av_cons (evt_ixL (enc := D.str) (ev_var 4 rfl (pv 4)) (ev_add ev_int (ev_var 6 rfl (pv 6))) .dat (g_.1) (g_.2.1)) (av_cons (ev_var 8 rfl (pv 8)) av_nil))) (ev_var 1 rfl (pv 1)) ⟨v_world, ((v_words.getD (((3 : Int) + v_d)).toNat default), v_numbers), rfl, .inl ⟨(g_.2.2.1), rfl⟩⟩) (ev_var 10 rfl (pv 10))) (fun h_ => ?_) (fun h_ => ?_)) (fun x_ => ?_)
        · skip
          exact ss_one (st_ret ev_bl rfl (by walk_at "weak"))
        · skip
          exact (ss_nil (by walk_at "weak"))
        exact (ss_nil (by walk_at "weak"))
      · skip
        exact (ss_nil (by walk_at "weak"))
      exact (ss_nil (by walk_at "weak"))
    refine ss_cons (S' := Unit) (G' := fun (_ : Unit) => [.own (some (as 0)) (.lst (v_row.map D.int)), .dat ((e_World c_) v_world), .dat ((eT D.int) v_same), .dat ((eT (eP D.str (eT D.int))) v_facts), .dat ((eL D.str) v_words), .any, .any, .any, .any, .any, .any, .any, .any, .any]) (st_for (enc := (eP D.str (eT D.int))) (sh := (.tup [(.name 7), (.name 8)])) (Gs := fun (_ : Unit) => [.own (some (as 0)) (.lst (v_row.map D.int)), .dat ((e_World c_) v_world), .dat ((eT D.int) v_same), .dat ((eT (eP D.str (eT D.int))) v_facts), .dat ((eL D.str) v_words), .any, .any, .any, .any, .any, .any, .any, .any, .any]) (xs := v_facts) (st2_law_asked c_ v_row v_world v_same) (s0 := ()) (iv_tup (ev_var 3 rfl (pv 3))) (sh_tup rfl (sh_cons (sh_name 7 (pg_name (i := 7) sc_law_asked.nd rfl (by first | exact .inl rfl | exact .inr rfl))) (sh_cons (sh_name 8 (pg_name (i := 8) sc_law_asked.nd rfl (by first | exact .inl rfl | exact .inr rfl))) sh_nil))) (passes_of rfl) rfl (by walk_at "weak") (fun hB_ s_ x_ hx_ => ?_)) (fun x_ => ?_)
    · skip
      obtain ⟨v_sign, v_numbers⟩ := x_
      refine ⟨_, rfl, ?_⟩
      show SS _ _ _ _ _ _ _ (grd ((∀ (v_low : Int), ((v_low : Int) ∈ v_numbers) → ((-1000000 ≤ (v_same.length : Int) ∧ (v_same.length : Int) ≤ 1000000) ∧ (∀ (v_n : Int), ((v_n : Int) ∈ (rangeI 0 (v_same.length : Int))) → ((0 ≤ v_n) ∧ (v_n < v_same.length) ∧ True)) ∧ (0 < (((rangeI 0 (v_same.length : Int)).filter fun (v_n : Int) => (decide ((v_same.getD (v_n).toNat default) = v_low))).map fun (v_n : Int) => v_n).length) ∧ True)) ∧ True) ((LO.next (v_numbers.map fun (v_low : Int) => (maxI (((rangeI 0 (v_same.length : Int)).filter fun (v_n : Int) => (decide ((v_same.getD (v_n).toNat default) = v_low))).map fun (v_n : Int) => v_n))) : LO (List Int) Unit (Bool × (List Int))).bind fun (v_alike : (List Int)) => grd (((lo_World_contains c_ v_world (v_sign, v_alike)).IsRet) ∧ True) ((if (!(World_contains c_ v_world (v_sign, v_alike))) then LO.ret (false, v_row) else LO.next () : LO Unit Unit (Bool × (List Int))).bind fun (_ : Unit) => LO.next ())))
      refine ss_grd (fun g_ => ?_)
      refine ss_cons (S' := (List Int)) (G' := fun (v_alike : (List Int)) => [.own (some (as 0)) (.lst (v_row.map D.int)), .dat ((e_World c_) v_world), .dat ((eT D.int) v_same), .dat ((eT (eP D.str (eT D.int))) v_facts), .dat ((eL D.str) v_words), .any, .any, .dat (D.str v_sign), .dat ((eT D.int) v_numbers), .dat ((eL D.int) v_alike), .any, .any, .any, .any]) (st_lc 9 rfl sc_law_asked.nd rfl rfl (sw_true rfl rfl rfl (by decide +kernel)) (blkOk_by (own := [("low", 11)]) (by walk_at "blk")) (fun _ _ _ _ _ => (sh_name 11 (pg_name (i := 11) sc_law_asked.nd rfl (by first | exact .inl rfl | exact .inr rfl)))) (CompOk.fz (cp_map (enc := D.int) (encb := D.int) (sh := (.name 11)) (own := [("low", 11)]) (Γ0 := [.own (some (as 0)) (.lst (v_row.map D.int)), .dat ((e_World c_) v_world), .dat ((eT D.int) v_same), .dat ((eT (eP D.str (eT D.int))) v_facts), .dat ((eL D.str) v_words), .any, .any, .dat (D.str v_sign), .dat ((eT D.int) v_numbers), .any, .any, .any, .any, .any]) (fun (v_low : Int) => (maxI (((rangeI 0 (v_same.length : Int)).filter fun (v_n : Int) => (decide ((v_same.getD (v_n).toNat default) = v_low))).map fun (v_n : Int) => v_n))) (iv_tup (ev_var 8 rfl (pv 8))) (fun _ h => h) (by walk_at "weak") (by intro n hn t ht; simp only [List.map_cons, List.map_nil, List.mem_cons, List.not_mem_nil, or_false] at hn; subst hn; cases ht; rfl) (fun h => by simpa using h) (fun hB_ v_low hx5_ => ⟨_, _, rfl, (fun _ _ _ _ _ => (evt_maxL rfl rfl m_max .own (((g_.1) v_low hx5_).2.2.1) (ev_lc rfl sc_law_asked.nd (blkOk_by (own := [("n", 13)]) (by walk_at "blk")) (fun _ _ _ _ _ => (sh_name 13 (pg_name (i := 13) sc_law_asked.nd rfl (by first | exact .inl rfl | exact .inr rfl)))) (cp_mapif (enc := D.int) (encb := D.int) (sh := (.name 13)) (own := [("n", 13)]) (Γ0 := [.own (some (as 0)) (.lst (v_row.map D.int)), .dat ((e_World c_) v_world), .dat ((eT D.int) v_same), .dat ((eT (eP D.str (eT D.int))) v_facts), .dat ((eL D.str) v_words), .any, .any, .dat (D.str v_sign), .dat ((eT D.int) v_numbers), .any, .any, .dat (D.int v_low), .any, .any]) (fun (v_n : Int) => (decide ((v_same.getD (v_n).toNat default) = v_low))) (fun (v_n : Int) => v_n) (by exact ivt_range1 rfl m_range (evt_len rfl m_len .t (ev_var 2 rfl (pv 2))) (rng1 (((g_.1) v_low hx5_).1))) (fun _ h => h) (by walk_at "weak") (by intro n hn t ht; simp only [List.map_cons, List.map_nil, List.mem_cons, List.not_mem_nil, or_false] at hn; subst hn; cases ht; rfl) (fun _ => rsm1 (((g_.1) v_low hx5_).1)) (fun hB_ v_n hx6_ => ⟨_, _, _, rfl, (fun _ _ _ _ _ => (tv_eqI (evt_ixT (enc := D.int) (ev_var 2 rfl (pv 2)) (ev_var 13 rfl (pv 13)) (((((g_.1) v_low hx5_).2.1) v_n hx6_).1) (((((g_.1) v_low hx5_).2.1) v_n hx6_).2.1)) (ev_var 11 rfl (pv 11)))), (fun h7_ _ _ _ _ _ => (ev_var 13 rfl (pv 13))), (by walk_at "weak"), (by walk_at "weak")⟩))))), (by walk_at "weak")⟩))) weak_rfl) (fun v_alike => ?_)
      refine ss_grd (fun g_ => ?_)
      refine ss_cons (S' := Unit) (G' := fun (_ : Unit) => [.own (some (as 0)) (.lst (v_row.map D.int)), .dat ((e_World c_) v_world), .dat ((eT D.int) v_same), .dat ((eT (eP D.str (eT D.int))) v_facts), .dat ((eL D.str) v_words), .any, .any, .dat (D.str v_sign), .dat ((eT D.int) v_numbers), .dat ((eL D.int) v_alike), .any, .any, .any, .any]) (st_if (tv_not (tv_inO (kd := (eP D.str (eT D.int)) (v_sign, v_alike)) M_World_contains (hr.mono (by decide)) (ev_tup (ds := [D.str v_sign, (eT D.int) v_alike]) (av_cons (ev_var 7 rfl (pv 7)) (av_cons (evt_tuple (enc := D.int) (xs := v_alike) rfl m_tuple (.l .dat) (ev_var 9 rfl (pv 9))) av_nil))) (ev_var 1 rfl (pv 1)) ⟨v_world, (v_sign, v_alike), rfl, .inl ⟨(g_.1), rfl⟩⟩)) (fun h_ => ?_) (fun h_ => ?_)) (fun x_ => ?_)
      · skip
        exact ss_one (st_ret ev_bl rfl (by walk_at "weak"))
      · skip
        exact (ss_nil (by walk_at "weak"))
      exact (ss_nil (by walk_at "weak"))
    exact ss_one (st_ret ev_bl rfl (by walk_at "weak"))
  · rcases hR with ⟨h_, rfl, rfl⟩ | hR
    · exact .inl ⟨(law_asked c_ v_row v_world v_same v_facts v_words), .dat (D.bl ((law_asked c_ v_row v_world v_same v_facts v_words).1)), LO.IsRet.eq h_, rfl, rfl, finOk ⟨rfl, rfl, trivial⟩⟩
    · exact hR.elim
/-! ### law -/
abbrev s_law : Stmt := top 22
theorem sc_law : FnScope ["script", "row", "words", "count", "kinds", "pairs", "firsts", "given", "facts", "world", "more", "new", "later", "added", "result", "same", "told", "last", "changed", "due", "actual"] ["script"] (defScope s_law) := ⟨rfl, rfl, rfl, by decide +kernel, rfl, by decide +kernel, by decide +kernel⟩
theorem ok_law (F : Fun K "law" "law" s_law f fd) (m_list : mg "list" = none) (m_len : mg "len" = none) (C_law_cell : Cle P w K mg base 1 "_law_cell" (R_law_cell c_)) (C_law_digits : Cle P w K mg base 1 "_law_digits" (R_law_digits c_)) (C_law_words : Cle P w K mg base 2 "_law_words" (R_law_words c_)) (C_law_take : Cle P w K mg base 1 "_law_take" (R_law_take c_)) (C_law_kinds : Cle P w K mg base 2 "_law_kinds" (R_law_kinds c_)) (C_law_pairs : Cle P w K mg base 2 "_law_pairs" (R_law_pairs c_)) (C_law_firsts : Cle P w K mg base 1 "_law_firsts" (R_law_firsts c_)) (C_law_facts : Cle P w K mg base 2 "_law_facts" (R_law_facts c_)) (C_law_told : Cle P w K mg base 1 "_law_told" (R_law_told c_)) (Z_World : Kle P w K mg base 3 "World" c_.World (R_World_init c_)) (M_World_joined : Mle P w K mg base 5 c_.World "joined" (R_World_joined c_)) (kC_World : Cls K c_.World) (C_law_seen : Cle P w K mg base 5 "_law_seen" (R_law_seen c_)) (C_law_asked : Cle P w K mg base 2 "_law_asked" (R_law_asked c_)) (M_World_eq : Mle P w K mg base 1 c_.World "__eq__" (R_World_eq c_)) (C_law_changed : Cle P w K mg base 2 "_law_changed" (R_law_changed c_)) (C_law_fault : Cle P w K mg base 1 "_law_fault" (R_law_fault c_)) (C_law_refused : Cle P w K mg base 5 "_law_refused" (R_law_refused c_)) : FnOk P w K mg base (L2.CX P w) 6 f fd ["script"] (spR ⟨K, P, w⟩ (R_law c_)) := by
  refine fn_mk (S := Unit) (L := Unit) (R := Bool) F sc_law (fun ars out h => by obtain ⟨_, rfl, _⟩ := h; rfl) fun cdv A outer s H E ars out as hr hR => ?_
  obtain ⟨v_script, rfl, hR⟩ := hR
  refine ⟨[.any, .any, .any, .any, .any, .any, .any, .any, .any, .any, .any, .any, .any, .any, .any, .any, .any, .any, .any, .any, .any], fun _ => [.any, .any, .any, .any, .any, .any, .any, .any, .any, .any, .any, .any, .any, .any, .any, .any, .any, .any, .any, .any, .any], fun _ => [.any, .any, .any, .any, .any, .any, .any, .any, .any, .any, .any, .any, .any, .any, .any, .any, .any, .any, .any, .any, .any], fun r_ => (.dat (D.bl r_), [.any, .any, .any, .any, .any, .any, .any, .any, .any, .any, .any, .any, .any, .any, .any, .any, .any, .any, .any, .any, .any]), lo_law c_ v_script, ?_, ?_⟩
  · unfold lo_law
    refine ss_grd (fun g_ => ?_)
    refine ss_cons (S' := (List Int)) (G' := fun (v_row : (List Int)) => [.dat ((eL D.int) v_script), .own none (.lst (v_row.map D.int)), .any, .any, .any, .any, .any, .any, .any, .any, .any, .any, .any, .any, .any, .any, .any, .any, .any, .any, .any]) (st_set 1 sc_law.nd rfl (by first | exact .inl rfl | exact .inr rfl) (ev_call (rs := [.dat (D.int (law_cell c_ v_script (0 : Int))), .dat (D.int (60 : Int))]) (ars := [.dat (D.int (law_cell c_ v_script (0 : Int))), .dat (D.int (60 : Int))]) (rr := .own (.lst ((law_digits c_ (law_cell c_ v_script (0 : Int)) (60 : Int)).map D.int))) C_law_digits (hr.mono (by decide)) rfl ⟨(law_cell c_ v_script (0 : Int)), (60 : Int), rfl, .inl ⟨(g_.2.1), rfl⟩⟩ (mt_cdat (d := D.int (law_cell c_ v_script (0 : Int))) (mt_cdat (d := D.int (60 : Int)) mt_nil)) (av_cons (ev_call (rs := [.dat ((eL D.int) v_script), .dat (D.int (0 : Int))]) (ars := [.dat ((eL D.int) v_script), .dat (D.int (0 : Int))]) (rr := .dat (D.int (law_cell c_ v_script (0 : Int)))) C_law_cell (hr.mono (by decide)) rfl ⟨v_script, (0 : Int), rfl, .inl ⟨(g_.1), rfl⟩⟩ (mt_cdat (d := (eL D.int) v_script) (mt_cdat (d := D.int (0 : Int)) mt_nil)) (av_cons (ev_var 0 rfl (pv 0)) (av_cons ev_int av_nil))) (av_cons ev_int av_nil))) weak_rfl) (fun v_row => ?_)
    refine ss_grd (fun g_ => ?_)
    refine ss_cons (S' := ((List Str) × (List Int))) (G' := fun x_ => match x_ with | (v_words, v_row) => [.dat ((eL D.int) v_script), .own none (.lst (v_row.map D.int)), .dat ((eL D.str) v_words), .any, .any, .any, .any, .any, .any, .any, .any, .any, .any, .any, .any, .any, .any, .any, .any, .any, .any]) (st_set 2 sc_law.nd rfl (by first | exact .inl rfl | exact .inr rfl) (EV.fzL (ev_call (rs := [.bor 1, .dat (D.int (8 : Int))]) (ars := [.mu (.lst (v_row.map D.int)) (.lst (((law_words c_ v_row (8 : Int)).2).map D.int)), .dat (D.int (8 : Int))]) (rr := .own (.lst (((law_words c_ v_row (8 : Int)).1).map D.str))) C_law_words (hr.mono (by decide)) rfl ⟨v_row, (8 : Int), _, rfl, .inl ⟨(g_.1), rfl, rfl⟩⟩ (mt_cbor rfl rfl (mt_cdat (d := D.int (8 : Int)) mt_nil)) (av_cons (ev_bor 1 rfl (pv 1)) (av_cons ev_int av_nil)))) weak_rfl) (fun x_ => ?_)
    obtain ⟨v_words, v_row⟩ := x_
    refine ss_grd (fun g_ => ?_)
    refine ss_cons (S' := (Int × (List Int))) (G' := fun x_ => match x_ with | (v_count, v_row) => [.dat ((eL D.int) v_script), .own none (.lst (v_row.map D.int)), .dat ((eL D.str) v_words), .dat (D.int v_count), .any, .any, .any, .any, .any, .any, .any, .any, .any, .any, .any, .any, .any, .any, .any, .any, .any]) (st_set 3 sc_law.nd rfl (by first | exact .inl rfl | exact .inr rfl) (ev_call (rs := [.bor 1, .dat (D.int (10 : Int))]) (ars := [.mu (.lst (v_row.map D.int)) (.lst (((law_take c_ v_row (10 : Int)).2).map D.int)), .dat (D.int (10 : Int))]) (rr := .dat (D.int ((law_take c_ v_row (10 : Int)).1))) C_law_take (hr.mono (by decide)) rfl ⟨v_row, (10 : Int), _, rfl, .inl ⟨(g_.1), rfl, rfl⟩⟩ (mt_cbor rfl rfl (mt_cdat (d := D.int (10 : Int)) mt_nil)) (av_cons (ev_bor 1 rfl (pv 1)) (av_cons ev_int av_nil))) weak_rfl) (fun x_ => ?_)
    obtain ⟨v_count, v_row⟩ := x_
    refine ss_grd (fun g_ => ?_)
    refine ss_cons (S' := (Int × (List Int))) (G' := fun x_ => match x_ with | (v_count, v_row) => [.dat ((eL D.int) v_script), .own none (.lst (v_row.map D.int)), .dat ((eL D.str) v_words), .dat (D.int v_count), .any, .any, .any, .any, .any, .any, .any, .any, .any, .any, .any, .any, .any, .any, .any, .any, .any]) (st_if (tv_eqI (ev_call (rs := [.bor 1, .dat (D.int (6 : Int))]) (ars := [.mu (.lst (v_row.map D.int)) (.lst (((law_take c_ v_row (6 : Int)).2).map D.int)), .dat (D.int (6 : Int))]) (rr := .dat (D.int ((law_take c_ v_row (6 : Int)).1))) C_law_take (hr.mono (by decide)) rfl ⟨v_row, (6 : Int), _, rfl, .inl ⟨(g_.1), rfl, rfl⟩⟩ (mt_cbor rfl rfl (mt_cdat (d := D.int (6 : Int)) mt_nil)) (av_cons (ev_bor 1 rfl (pv 1)) (av_cons ev_int av_nil))) ev_int) (fun h_ => ?_) (fun h_ => ?_)) (fun x_ => ?_)
    · skip
      refine ss_cons (S' := (Int × (List Int))) (G' := fun x_ => match x_ with | (v_count, v_row) => [.dat ((eL D.int) v_script), .own none (.lst (v_row.map D.int)), .dat ((eL D.str) v_words), .dat (D.int v_count), .any, .any, .any, .any, .any, .any, .any, .any, .any, .any, .any, .any, .any, .any, .any, .any, .any]) (st_set 3 sc_law.nd rfl (by first | exact .inl rfl | exact .inr rfl) ev_int weak_rfl) (fun x_ => ?_)
      obtain ⟨v_count, v_row⟩ := x_
      exact (ss_nil (by walk_at "weak"))
    · skip
      exact (ss_nil (by walk_at "weak"))
    obtain ⟨v_count, v_row⟩ := x_
    refine ss_grd (fun g_ => ?_)
    refine ss_cons (S' := (List Str)) (G' := fun (v_kinds : (List Str)) => [.dat ((eL D.int) v_script), .own none (.lst (v_row.map D.int)), .dat ((eL D.str) v_words), .dat (D.int v_count), .dat ((eT D.str) v_kinds), .any, .any, .any, .any, .any, .any, .any, .any, .any, .any, .any, .any, .any, .any, .any, .any]) (st_set 4 sc_law.nd rfl (by first | exact .inl rfl | exact .inr rfl) (ev_call (rs := [.own (.lst ((law_digits c_ (law_cell c_ v_script (1 : Int)) (60 : Int)).map D.int)), .dat ((eL D.str) v_words), .dat (D.int v_count)]) (ars := [.mu (.lst ((law_digits c_ (law_cell c_ v_script (1 : Int)) (60 : Int)).map D.int)) (.lst (((law_kinds c_ (law_digits c_ (law_cell c_ v_script (1 : Int)) (60 : Int)) v_words v_count).2).map D.int)), .dat ((eL D.str) v_words), .dat (D.int v_count)]) (rr := .dat ((eT D.str) ((law_kinds c_ (law_digits c_ (law_cell c_ v_script (1 : Int)) (60 : Int)) v_words v_count).1))) C_law_kinds (hr.mono (by decide)) rfl ⟨(law_digits c_ (law_cell c_ v_script (1 : Int)) (60 : Int)), v_words, v_count, _, rfl, .inl ⟨(g_.2.2.1), rfl, rfl⟩⟩ (mt_cown rfl (mt_cdat (d := (eL D.str) v_words) (mt_cdat (d := D.int v_count) mt_nil))) (av_cons (ev_call (rs := [.dat (D.int (law_cell c_ v_script (1 : Int))), .dat (D.int (60 : Int))]) (ars := [.dat (D.int (law_cell c_ v_script (1 : Int))), .dat (D.int (60 : Int))]) (rr := .own (.lst ((law_digits c_ (law_cell c_ v_script (1 : Int)) (60 : Int)).map D.int))) C_law_digits (hr.mono (by decide)) rfl ⟨(law_cell c_ v_script (1 : Int)), (60 : Int), rfl, .inl ⟨(g_.2.1), rfl⟩⟩ (mt_cdat (d := D.int (law_cell c_ v_script (1 : Int))) (mt_cdat (d := D.int (60 : Int)) mt_nil)) (av_cons (ev_call (rs := [.dat ((eL D.int) v_script), .dat (D.int (1 : Int))]) (ars := [.dat ((eL D.int) v_script), .dat (D.int (1 : Int))]) (rr := .dat (D.int (law_cell c_ v_script (1 : Int)))) C_law_cell (hr.mono (by decide)) rfl ⟨v_script, (1 : Int), rfl, .inl ⟨(g_.1), rfl⟩⟩ (mt_cdat (d := (eL D.int) v_script) (mt_cdat (d := D.int (1 : Int)) mt_nil)) (av_cons (ev_var 0 rfl (pv 0)) (av_cons ev_int av_nil))) (av_cons ev_int av_nil))) (av_cons (ev_var 2 rfl (pv 2)) (av_cons (ev_var 3 rfl (pv 3)) av_nil)))) weak_rfl) (fun v_kinds => ?_)
    refine ss_grd (fun g_ => ?_)
    refine ss_cons (S' := ((List (Int × Int)) × (List Int))) (G' := fun x_ => match x_ with | (v_pairs, v_row) => [.dat ((eL D.int) v_script), .own none (.lst (v_row.map D.int)), .dat ((eL D.str) v_words), .dat (D.int v_count), .dat ((eT D.str) v_kinds), .dat ((eL (eP D.int D.int)) v_pairs), .any, .any, .any, .any, .any, .any, .any, .any, .any, .any, .any, .any, .any, .any, .any]) (st_set 5 sc_law.nd rfl (by first | exact .inl rfl | exact .inr rfl) (EV.fzL (ev_call (rs := [.bor 1, .dat ((eT D.str) v_kinds), .dat (D.int (7 : Int))]) (ars := [.mu (.lst (v_row.map D.int)) (.lst (((law_pairs c_ v_row v_kinds (7 : Int)).2).map D.int)), .dat ((eT D.str) v_kinds), .dat (D.int (7 : Int))]) (rr := .own (.lst (((law_pairs c_ v_row v_kinds (7 : Int)).1).map (eP D.int D.int)))) C_law_pairs (hr.mono (by decide)) rfl ⟨v_row, v_kinds, (7 : Int), _, rfl, .inl ⟨(g_.1), rfl, rfl⟩⟩ (mt_cbor rfl rfl (mt_cdat (d := (eT D.str) v_kinds) (mt_cdat (d := D.int (7 : Int)) mt_nil))) (av_cons (ev_bor 1 rfl (pv 1)) (av_cons (ev_var 4 rfl (pv 4)) (av_cons ev_int av_nil))))) weak_rfl) (fun x_ => ?_)
    obtain ⟨v_pairs, v_row⟩ := x_
    refine ss_grd (fun g_ => ?_)
    refine ss_cons (S' := (List Int)) (G' := fun (v_firsts : (List Int)) => [.dat ((eL D.int) v_script), .own none (.lst (v_row.map D.int)), .dat ((eL D.str) v_words), .dat (D.int v_count), .dat ((eT D.str) v_kinds), .dat ((eL (eP D.int D.int)) v_pairs), .dat ((eT D.int) v_firsts), .any, .any, .any, .any, .any, .any, .any, .any, .any, .any, .any, .any, .any, .any]) (st_set 6 sc_law.nd rfl (by first | exact .inl rfl | exact .inr rfl) (ev_call (rs := [.dat (D.int v_count), .dat ((eL (eP D.int D.int)) v_pairs)]) (ars := [.dat (D.int v_count), .dat ((eL (eP D.int D.int)) v_pairs)]) (rr := .dat ((eT D.int) (law_firsts c_ v_count v_pairs))) C_law_firsts (hr.mono (by decide)) rfl ⟨v_count, v_pairs, rfl, .inl ⟨(g_.1), rfl⟩⟩ (mt_cdat (d := D.int v_count) (mt_cdat (d := (eL (eP D.int D.int)) v_pairs) mt_nil)) (av_cons (ev_var 3 rfl (pv 3)) (av_cons (ev_var 5 rfl (pv 5)) av_nil))) weak_rfl) (fun v_firsts => ?_)
    refine ss_grd (fun g_ => ?_)
    refine ss_cons (S' := (List (Str × (List Int)))) (G' := fun (v_given : (List (Str × (List Int)))) => [.dat ((eL D.int) v_script), .own none (.lst (v_row.map D.int)), .dat ((eL D.str) v_words), .dat (D.int v_count), .dat ((eT D.str) v_kinds), .dat ((eL (eP D.int D.int)) v_pairs), .dat ((eT D.int) v_firsts), .dat ((eL (eP D.str (eT D.int))) v_given), .any, .any, .any, .any, .any, .any, .any, .any, .any, .any, .any, .any, .any]) (st_set 7 sc_law.nd rfl (by first | exact .inl rfl | exact .inr rfl) (EV.fzL (ev_call (rs := [.own (.lst ((law_digits c_ (law_cell c_ v_script (2 : Int)) (60 : Int)).map D.int)), .dat ((eL D.str) v_words), .dat ((eT D.str) v_kinds), .dat (D.int (11 : Int))]) (ars := [.mu (.lst ((law_digits c_ (law_cell c_ v_script (2 : Int)) (60 : Int)).map D.int)) (.lst (((law_facts c_ (law_digits c_ (law_cell c_ v_script (2 : Int)) (60 : Int)) v_words v_kinds (11 : Int)).2).map D.int)), .dat ((eL D.str) v_words), .dat ((eT D.str) v_kinds), .dat (D.int (11 : Int))]) (rr := .own (.lst (((law_facts c_ (law_digits c_ (law_cell c_ v_script (2 : Int)) (60 : Int)) v_words v_kinds (11 : Int)).1).map (eP D.str (eT D.int))))) C_law_facts (hr.mono (by decide)) rfl ⟨(law_digits c_ (law_cell c_ v_script (2 : Int)) (60 : Int)), v_words, v_kinds, (11 : Int), _, rfl, .inl ⟨(g_.2.2.1), rfl, rfl⟩⟩ (mt_cown rfl (mt_cdat (d := (eL D.str) v_words) (mt_cdat (d := (eT D.str) v_kinds) (mt_cdat (d := D.int (11 : Int)) mt_nil)))) (av_cons (ev_call (rs := [.dat (D.int (law_cell c_ v_script (2 : Int))), .dat (D.int (60 : Int))]) (ars := [.dat (D.int (law_cell c_ v_script (2 : Int))), .dat (D.int (60 : Int))]) (rr := .own (.lst ((law_digits c_ (law_cell c_ v_script (2 : Int)) (60 : Int)).map D.int))) C_law_digits (hr.mono (by decide)) rfl ⟨(law_cell c_ v_script (2 : Int)), (60 : Int), rfl, .inl ⟨(g_.2.1), rfl⟩⟩ (mt_cdat (d := D.int (law_cell c_ v_script (2 : Int))) (mt_cdat (d := D.int (60 : Int)) mt_nil)) (av_cons (ev_call (rs := [.dat ((eL D.int) v_script), .dat (D.int (2 : Int))]) (ars := [.dat ((eL D.int) v_script), .dat (D.int (2 : Int))]) (rr := .dat (D.int (law_cell c_ v_script (2 : Int)))) C_law_cell (hr.mono (by decide)) rfl ⟨v_script, (2 : Int), rfl, .inl ⟨(g_.1), rfl⟩⟩ (mt_cdat (d := (eL D.int) v_script) (mt_cdat (d := D.int (2 : Int)) mt_nil)) (av_cons (ev_var 0 rfl (pv 0)) (av_cons ev_int av_nil))) (av_cons ev_int av_nil))) (av_cons (ev_var 2 rfl (pv 2)) (av_cons (ev_var 4 rfl (pv 4)) (av_cons ev_int av_nil)))))) weak_rfl) (fun v_given => ?_)
    refine ss_grd (fun g_ => ?_)
    refine ss_cons (S' := (List (Str × (List Int)))) (G' := fun (v_facts : (List (Str × (List Int)))) => [.dat ((eL D.int) v_script), .own none (.lst (v_row.map D.int)), .dat ((eL D.str) v_words), .dat (D.int v_count), .dat ((eT D.str) v_kinds), .dat ((eL (eP D.int D.int)) v_pairs), .dat ((eT D.int) v_firsts), .dat ((eL (eP D.str (eT D.int))) v_given), .dat ((eT (eP D.str (eT D.int))) v_facts), .any, .any, .any, .any, .any, .any, .any, .any, .any, .any, .any, .any]) (st_set 8 sc_law.nd rfl (by first | exact .inl rfl | exact .inr rfl) (ev_call (rs := [.dat ((eT D.int) v_firsts), .dat ((eL (eP D.str (eT D.int))) v_given)]) (ars := [.dat ((eT D.int) v_firsts), .dat ((eL (eP D.str (eT D.int))) v_given)]) (rr := .dat ((eT (eP D.str (eT D.int))) (law_told c_ v_firsts v_given))) C_law_told (hr.mono (by decide)) rfl ⟨v_firsts, v_given, rfl, .inl ⟨(g_.1), rfl⟩⟩ (mt_cdat (d := (eT D.int) v_firsts) (mt_cdat (d := (eL (eP D.str (eT D.int))) v_given) mt_nil)) (av_cons (ev_var 6 rfl (pv 6)) (av_cons (ev_var 7 rfl (pv 7)) av_nil))) weak_rfl) (fun v_facts => ?_)
    refine ss_grd (fun g_ => ?_)
    refine ss_cons (S' := T_World) (G' := fun (v_world : T_World) => [.dat ((eL D.int) v_script), .own none (.lst (v_row.map D.int)), .dat ((eL D.str) v_words), .dat (D.int v_count), .dat ((eT D.str) v_kinds), .dat ((eL (eP D.int D.int)) v_pairs), .dat ((eT D.int) v_firsts), .dat ((eL (eP D.str (eT D.int))) v_given), .dat ((eT (eP D.str (eT D.int))) v_facts), .dat ((e_World c_) v_world), .any, .any, .any, .any, .any, .any, .any, .any, .any, .any, .any]) (st_set 9 sc_law.nd rfl (by first | exact .inl rfl | exact .inr rfl) (EV.fzI (by exact ev_make (oc := o_World c_ (World_init c_ v_kinds v_firsts v_facts)) (rs := [.dat ((eT D.str) v_kinds), .dat ((eT D.int) v_firsts), .dat ((eT (eP D.str (eT D.int))) v_facts)]) (ars := [.dat ((eT D.str) v_kinds), .dat ((eT D.int) v_firsts), .dat ((eT (eP D.str (eT D.int))) v_facts)]) Z_World (hr.mono (by decide)) rfl ⟨v_kinds, v_firsts, v_facts, _, rfl, .inl ⟨(g_.1), rfl, rfl⟩⟩ (mt_cdat (d := (eT D.str) v_kinds) (mt_cdat (d := (eT D.int) v_firsts) (mt_cdat (d := (eT (eP D.str (eT D.int))) v_facts) mt_nil))) (av_cons (ev_var 4 rfl (pv 4)) (av_cons (ev_var 6 rfl (pv 6)) (av_cons (ev_var 8 rfl (pv 8)) av_nil))))) weak_rfl) (fun v_world => ?_)
    refine ss_grd (fun g_ => ?_)
    refine ss_cons (S' := (List Int)) (G' := fun (v_more : (List Int)) => [.dat ((eL D.int) v_script), .own none (.lst (v_row.map D.int)), .dat ((eL D.str) v_words), .dat (D.int v_count), .dat ((eT D.str) v_kinds), .dat ((eL (eP D.int D.int)) v_pairs), .dat ((eT D.int) v_firsts), .dat ((eL (eP D.str (eT D.int))) v_given), .dat ((eT (eP D.str (eT D.int))) v_facts), .dat ((e_World c_) v_world), .own none (.lst (v_more.map D.int)), .any, .any, .any, .any, .any, .any, .any, .any, .any, .any]) (st_set 10 sc_law.nd rfl (by first | exact .inl rfl | exact .inr rfl) (ev_call (rs := [.dat (D.int (law_cell c_ v_script (3 : Int))), .dat (D.int (60 : Int))]) (ars := [.dat (D.int (law_cell c_ v_script (3 : Int))), .dat (D.int (60 : Int))]) (rr := .own (.lst ((law_digits c_ (law_cell c_ v_script (3 : Int)) (60 : Int)).map D.int))) C_law_digits (hr.mono (by decide)) rfl ⟨(law_cell c_ v_script (3 : Int)), (60 : Int), rfl, .inl ⟨(g_.2.1), rfl⟩⟩ (mt_cdat (d := D.int (law_cell c_ v_script (3 : Int))) (mt_cdat (d := D.int (60 : Int)) mt_nil)) (av_cons (ev_call (rs := [.dat ((eL D.int) v_script), .dat (D.int (3 : Int))]) (ars := [.dat ((eL D.int) v_script), .dat (D.int (3 : Int))]) (rr := .dat (D.int (law_cell c_ v_script (3 : Int)))) C_law_cell (hr.mono (by decide)) rfl ⟨v_script, (3 : Int), rfl, .inl ⟨(g_.1), rfl⟩⟩ (mt_cdat (d := (eL D.int) v_script) (mt_cdat (d := D.int (3 : Int)) mt_nil)) (av_cons (ev_var 0 rfl (pv 0)) (av_cons ev_int av_nil))) (av_cons ev_int av_nil))) weak_rfl) (fun v_more => ?_)
    refine ss_grd (fun g_ => ?_)
    refine ss_cons (S' := ((List Str) × (List Int))) (G' := fun x_ => match x_ with | (v_new, v_more) => [.dat ((eL D.int) v_script), .own none (.lst (v_row.map D.int)), .dat ((eL D.str) v_words), .dat (D.int v_count), .dat ((eT D.str) v_kinds), .dat ((eL (eP D.int D.int)) v_pairs), .dat ((eT D.int) v_firsts), .dat ((eL (eP D.str (eT D.int))) v_given), .dat ((eT (eP D.str (eT D.int))) v_facts), .dat ((e_World c_) v_world), .own none (.lst (v_more.map D.int)), .dat ((eT D.str) v_new), .any, .any, .any, .any, .any, .any, .any, .any, .any]) (st_set 11 sc_law.nd rfl (by first | exact .inl rfl | exact .inr rfl) (ev_call (rs := [.bor 10, .dat ((eL D.str) v_words), .dat (D.int ((law_take c_ v_more (5 : Int)).1))]) (ars := [.mu (.lst (((law_take c_ v_more (5 : Int)).2).map D.int)) (.lst (((law_kinds c_ ((law_take c_ v_more (5 : Int)).2) v_words ((law_take c_ v_more (5 : Int)).1)).2).map D.int)), .dat ((eL D.str) v_words), .dat (D.int ((law_take c_ v_more (5 : Int)).1))]) (rr := .dat ((eT D.str) ((law_kinds c_ ((law_take c_ v_more (5 : Int)).2) v_words ((law_take c_ v_more (5 : Int)).1)).1))) C_law_kinds (hr.mono (by decide)) rfl ⟨(law_take c_ v_more (5 : Int)).2, v_words, (law_take c_ v_more (5 : Int)).1, _, rfl, .inl ⟨(g_.2.1), rfl, rfl⟩⟩ (mt_cbor rfl rfl (mt_cdat (d := (eL D.str) v_words) (mt_cdat (d := D.int ((law_take c_ v_more (5 : Int)).1)) mt_nil))) (av_cons (ev_bor 10 rfl (pv 10)) (av_cons (ev_var 2 rfl (pv 2)) (av_cons (ev_call (rs := [.bor 10, .dat (D.int (5 : Int))]) (ars := [.mu (.lst (v_more.map D.int)) (.lst (((law_take c_ v_more (5 : Int)).2).map D.int)), .dat (D.int (5 : Int))]) (rr := .dat (D.int ((law_take c_ v_more (5 : Int)).1))) C_law_take (hr.mono (by decide)) rfl ⟨v_more, (5 : Int), _, rfl, .inl ⟨(g_.1), rfl, rfl⟩⟩ (mt_cbor rfl rfl (mt_cdat (d := D.int (5 : Int)) mt_nil)) (av_cons (ev_bor 10 rfl (pv 10)) (av_cons ev_int av_nil))) av_nil)))) weak_rfl) (fun x_ => ?_)
    obtain ⟨v_new, v_more⟩ := x_
    refine ss_grd (fun g_ => ?_)
    refine ss_cons (S' := ((List (Int × Int)) × (List Int))) (G' := fun x_ => match x_ with | (v_later, v_more) => [.dat ((eL D.int) v_script), .own none (.lst (v_row.map D.int)), .dat ((eL D.str) v_words), .dat (D.int v_count), .dat ((eT D.str) v_kinds), .dat ((eL (eP D.int D.int)) v_pairs), .dat ((eT D.int) v_firsts), .dat ((eL (eP D.str (eT D.int))) v_given), .dat ((eT (eP D.str (eT D.int))) v_facts), .dat ((e_World c_) v_world), .own none (.lst (v_more.map D.int)), .dat ((eT D.str) v_new), .dat ((eL (eP D.int D.int)) v_later), .any, .any, .any, .any, .any, .any, .any, .any]) (st_set 12 sc_law.nd rfl (by first | exact .inl rfl | exact .inr rfl) (EV.fzL (ev_call (rs := [.bor 10, .dat ((eT D.str) (v_kinds ++ v_new)), .dat (D.int (5 : Int))]) (ars := [.mu (.lst (v_more.map D.int)) (.lst (((law_pairs c_ v_more (v_kinds ++ v_new) (5 : Int)).2).map D.int)), .dat ((eT D.str) (v_kinds ++ v_new)), .dat (D.int (5 : Int))]) (rr := .own (.lst (((law_pairs c_ v_more (v_kinds ++ v_new) (5 : Int)).1).map (eP D.int D.int)))) C_law_pairs (hr.mono (by decide)) rfl ⟨v_more, (v_kinds ++ v_new), (5 : Int), _, rfl, .inl ⟨(g_.2.1), rfl, rfl⟩⟩ (mt_cbor rfl rfl (mt_cdat (d := (eT D.str) (v_kinds ++ v_new)) (mt_cdat (d := D.int (5 : Int)) mt_nil))) (av_cons (ev_bor 10 rfl (pv 10)) (av_cons (evt_catT (enc := D.str) (xs := v_kinds) (ys := v_new) (ev_var 4 rfl (pv 4)) (ev_var 11 rfl (pv 11)) (small_line (g_.1))) (av_cons ev_int av_nil))))) weak_rfl) (fun x_ => ?_)
    obtain ⟨v_later, v_more⟩ := x_
    refine ss_grd (fun g_ => ?_)
    refine ss_cons (S' := ((List (Str × (List Int))) × (List Int))) (G' := fun x_ => match x_ with | (v_added, v_more) => [.dat ((eL D.int) v_script), .own none (.lst (v_row.map D.int)), .dat ((eL D.str) v_words), .dat (D.int v_count), .dat ((eT D.str) v_kinds), .dat ((eL (eP D.int D.int)) v_pairs), .dat ((eT D.int) v_firsts), .dat ((eL (eP D.str (eT D.int))) v_given), .dat ((eT (eP D.str (eT D.int))) v_facts), .dat ((e_World c_) v_world), .own none (.lst (v_more.map D.int)), .dat ((eT D.str) v_new), .dat ((eL (eP D.int D.int)) v_later), .dat ((eL (eP D.str (eT D.int))) v_added), .any, .any, .any, .any, .any, .any, .any]) (st_set 13 sc_law.nd rfl (by first | exact .inl rfl | exact .inr rfl) (EV.fzL (ev_call (rs := [.bor 10, .dat ((eL D.str) v_words), .dat ((eT D.str) (v_kinds ++ v_new)), .dat (D.int (9 : Int))]) (ars := [.mu (.lst (v_more.map D.int)) (.lst (((law_facts c_ v_more v_words (v_kinds ++ v_new) (9 : Int)).2).map D.int)), .dat ((eL D.str) v_words), .dat ((eT D.str) (v_kinds ++ v_new)), .dat (D.int (9 : Int))]) (rr := .own (.lst (((law_facts c_ v_more v_words (v_kinds ++ v_new) (9 : Int)).1).map (eP D.str (eT D.int))))) C_law_facts (hr.mono (by decide)) rfl ⟨v_more, v_words, (v_kinds ++ v_new), (9 : Int), _, rfl, .inl ⟨(g_.2.1), rfl, rfl⟩⟩ (mt_cbor rfl rfl (mt_cdat (d := (eL D.str) v_words) (mt_cdat (d := (eT D.str) (v_kinds ++ v_new)) (mt_cdat (d := D.int (9 : Int)) mt_nil)))) (av_cons (ev_bor 10 rfl (pv 10)) (av_cons (ev_var 2 rfl (pv 2)) (av_cons (evt_catT (enc := D.str) (xs := v_kinds) (ys := v_new) (ev_var 4 rfl (pv 4)) (ev_var 11 rfl (pv 11)) (small_line (g_.1))) (av_cons ev_int av_nil)))))) weak_rfl) (fun x_ => ?_)
    obtain ⟨v_added, v_more⟩ := x_
    refine ss_grd (fun g_ => ?_)
    refine ss_cons (S' := T_World) (G' := fun (v_result : T_World) => [.dat ((eL D.int) v_script), .own none (.lst (v_row.map D.int)), .dat ((eL D.str) v_words), .dat (D.int v_count), .dat ((eT D.str) v_kinds), .dat ((eL (eP D.int D.int)) v_pairs), .dat ((eT D.int) v_firsts), .dat ((eL (eP D.str (eT D.int))) v_given), .dat ((eT (eP D.str (eT D.int))) v_facts), .dat ((e_World c_) v_world), .own none (.lst (v_more.map D.int)), .dat ((eT D.str) v_new), .dat ((eL (eP D.int D.int)) v_later), .dat ((eL (eP D.str (eT D.int))) v_added), .dat ((e_World c_) v_result), .any, .any, .any, .any, .any, .any]) (st_set 14 sc_law.nd rfl (by first | exact .inl rfl | exact .inr rfl) (EV.fzI (ev_meth (rs := [.dat ((eL D.str) v_new), .dat ((eL (eP D.int D.int)) v_later), .dat ((eL (eP D.str (eT D.int))) v_added)]) (ars := [.dat ((eL D.str) v_new), .dat ((eL (eP D.int D.int)) v_later), .dat ((eL (eP D.str (eT D.int))) v_added)]) (rr := .own (o_World c_ (World_joined c_ v_world v_new v_later v_added))) M_World_joined (hr.mono (by decide)) kC_World (by decide) (ev_var 9 rfl (pv 9)) ⟨v_world, v_new, v_later, v_added, rfl, .inl ⟨(g_.1), rfl⟩⟩ (mt_cdat (d := (eL D.str) v_new) (mt_cdat (d := (eL (eP D.int D.int)) v_later) (mt_cdat (d := (eL (eP D.str (eT D.int))) v_added) mt_nil))) (av_cons (EV.fzL (evt_list (enc := D.str) rfl m_list .t (ev_var 11 rfl (pv 11)))) (av_cons (EV.fzL (evt_list (enc := (eP D.int D.int)) rfl m_list (.l .dat) (ev_var 12 rfl (pv 12)))) (av_cons (EV.fzL (evt_list (enc := (eP D.str (eT D.int))) rfl m_list (.l .dat) (ev_var 13 rfl (pv 13)))) av_nil))))) weak_rfl) (fun v_result => ?_)
    refine ss_grd (fun g_ => ?_)
    refine ss_cons (S' := (List Int)) (G' := fun (v_same : (List Int)) => [.dat ((eL D.int) v_script), .own none (.lst (v_row.map D.int)), .dat ((eL D.str) v_words), .dat (D.int v_count), .dat ((eT D.str) v_kinds), .dat ((eL (eP D.int D.int)) v_pairs), .dat ((eT D.int) v_firsts), .dat ((eL (eP D.str (eT D.int))) v_given), .dat ((eT (eP D.str (eT D.int))) v_facts), .dat ((e_World c_) v_world), .own none (.lst (v_more.map D.int)), .dat ((eT D.str) v_new), .dat ((eL (eP D.int D.int)) v_later), .dat ((eL (eP D.str (eT D.int))) v_added), .dat ((e_World c_) v_result), .dat ((eT D.int) v_same), .any, .any, .any, .any, .any]) (st_set 15 sc_law.nd rfl (by first | exact .inl rfl | exact .inr rfl) (ev_call (rs := [.dat (D.int (v_count + (v_new.length : Int))), .dat ((eL (eP D.int D.int)) (v_pairs ++ v_later))]) (ars := [.dat (D.int (v_count + (v_new.length : Int))), .dat ((eL (eP D.int D.int)) (v_pairs ++ v_later))]) (rr := .dat ((eT D.int) (law_firsts c_ (v_count + (v_new.length : Int)) (v_pairs ++ v_later)))) C_law_firsts (hr.mono (by decide)) rfl ⟨(v_count + (v_new.length : Int)), (v_pairs ++ v_later), rfl, .inl ⟨(g_.2.1), rfl⟩⟩ (mt_cdat (d := D.int (v_count + (v_new.length : Int))) (mt_cdat (d := (eL (eP D.int D.int)) (v_pairs ++ v_later)) mt_nil)) (av_cons (ev_add (ev_var 3 rfl (pv 3)) (evt_len rfl m_len .t (ev_var 11 rfl (pv 11)))) (av_cons (EV.fzL (evt_catL (enc := (eP D.int D.int)) (xs := v_pairs) (ys := v_later) (ev_var 5 rfl (pv 5)) (ev_var 12 rfl (pv 12)) .dat .dat (small_line (g_.1)))) av_nil))) weak_rfl) (fun v_same => ?_)
    refine ss_grd (fun g_ => ?_)
    refine ss_cons (S' := (List (Str × (List Int)))) (G' := fun (v_told : (List (Str × (List Int)))) => [.dat ((eL D.int) v_script), .own none (.lst (v_row.map D.int)), .dat ((eL D.str) v_words), .dat (D.int v_count), .dat ((eT D.str) v_kinds), .dat ((eL (eP D.int D.int)) v_pairs), .dat ((eT D.int) v_firsts), .dat ((eL (eP D.str (eT D.int))) v_given), .dat ((eT (eP D.str (eT D.int))) v_facts), .dat ((e_World c_) v_world), .own none (.lst (v_more.map D.int)), .dat ((eT D.str) v_new), .dat ((eL (eP D.int D.int)) v_later), .dat ((eL (eP D.str (eT D.int))) v_added), .dat ((e_World c_) v_result), .dat ((eT D.int) v_same), .dat ((eT (eP D.str (eT D.int))) v_told), .any, .any, .any, .any]) (st_set 16 sc_law.nd rfl (by first | exact .inl rfl | exact .inr rfl) (ev_call (rs := [.dat ((eT D.int) v_same), .dat ((eL (eP D.str (eT D.int))) (v_given ++ v_added))]) (ars := [.dat ((eT D.int) v_same), .dat ((eL (eP D.str (eT D.int))) (v_given ++ v_added))]) (rr := .dat ((eT (eP D.str (eT D.int))) (law_told c_ v_same (v_given ++ v_added)))) C_law_told (hr.mono (by decide)) rfl ⟨v_same, (v_given ++ v_added), rfl, .inl ⟨(g_.2.1), rfl⟩⟩ (mt_cdat (d := (eT D.int) v_same) (mt_cdat (d := (eL (eP D.str (eT D.int))) (v_given ++ v_added)) mt_nil)) (av_cons (ev_var 15 rfl (pv 15)) (av_cons (EV.fzL (evt_catL (enc := (eP D.str (eT D.int))) (xs := v_given) (ys := v_added) (ev_var 7 rfl (pv 7)) (ev_var 13 rfl (pv 13)) .dat .dat (small_line (g_.1)))) av_nil))) weak_rfl) (fun v_told => ?_)
    refine ss_grd (fun g_ => ?_)
    refine ss_cons (S' := Unit) (G' := fun (_ : Unit) => [.dat ((eL D.int) v_script), .own none (.lst (v_row.map D.int)), .dat ((eL D.str) v_words), .dat (D.int v_count), .dat ((eT D.str) v_kinds), .dat ((eL (eP D.int D.int)) v_pairs), .dat ((eT D.int) v_firsts), .dat ((eL (eP D.str (eT D.int))) v_given), .dat ((eT (eP D.str (eT D.int))) v_facts), .dat ((e_World c_) v_world), .own none (.lst (v_more.map D.int)), .dat ((eT D.str) v_new), .dat ((eL (eP D.int D.int)) v_later), .dat ((eL (eP D.str (eT D.int))) v_added), .dat ((e_World c_) v_result), .dat ((eT D.int) v_same), .dat ((eT (eP D.str (eT D.int))) v_told), .any, .any, .any, .any]) (st_if (WV.tv (wv_or (tv_not (tv_val (ev_call (rs := [.dat ((e_World c_) v_result), .dat ((eT D.str) (v_kinds ++ v_new)), .dat ((eT D.int) v_same), .dat ((eT (eP D.str (eT D.int))) v_told)]) (ars := [.dat ((e_World c_) v_result), .dat ((eT D.str) (v_kinds ++ v_new)), .dat ((eT D.int) v_same), .dat ((eT (eP D.str (eT D.int))) v_told)]) (rr := .dat (D.bl (law_seen c_ v_result (v_kinds ++ v_new) v_same v_told))) C_law_seen (hr.mono (by decide)) rfl ⟨v_result, (v_kinds ++ v_new), v_same, v_told, rfl, .inl ⟨(g_.2.1), rfl⟩⟩ (mt_cdat (d := (e_World c_) v_result) (mt_cdat (d := (eT D.str) (v_kinds ++ v_new)) (mt_cdat (d := (eT D.int) v_same) (mt_cdat (d := (eT (eP D.str (eT D.int))) v_told) mt_nil)))) (av_cons (ev_var 14 rfl (pv 14)) (av_cons (evt_catT (enc := D.str) (xs := v_kinds) (ys := v_new) (ev_var 4 rfl (pv 4)) (ev_var 11 rfl (pv 11)) (small_line (g_.1))) (av_cons (ev_var 15 rfl (pv 15)) (av_cons (ev_var 16 rfl (pv 16)) av_nil))))))) (fun h1_ => (wv_or1 (tv_not (tv_val (ev_call (rs := [.dat ((e_World c_) v_world), .dat ((eT D.str) v_kinds), .dat ((eT D.int) v_firsts), .dat ((eT (eP D.str (eT D.int))) v_facts)]) (ars := [.dat ((e_World c_) v_world), .dat ((eT D.str) v_kinds), .dat ((eT D.int) v_firsts), .dat ((eT (eP D.str (eT D.int))) v_facts)]) (rr := .dat (D.bl (law_seen c_ v_world v_kinds v_firsts v_facts))) C_law_seen (hr.mono (by decide)) rfl ⟨v_world, v_kinds, v_firsts, v_facts, rfl, .inl ⟨(((g_.2.2.1) h1_).1), rfl⟩⟩ (mt_cdat (d := (e_World c_) v_world) (mt_cdat (d := (eT D.str) v_kinds) (mt_cdat (d := (eT D.int) v_firsts) (mt_cdat (d := (eT (eP D.str (eT D.int))) v_facts) mt_nil)))) (av_cons (ev_var 9 rfl (pv 9)) (av_cons (ev_var 4 rfl (pv 4)) (av_cons (ev_var 6 rfl (pv 6)) (av_cons (ev_var 8 rfl (pv 8)) av_nil))))))))))) (fun h_ => ?_) (fun h_ => ?_)) (fun x_ => ?_)
    · skip
      exact ss_one (st_ret ev_bl rfl (by walk_at "weak"))
    · skip
      exact (ss_nil (by walk_at "weak"))
    refine ss_grd (fun g_ => ?_)
    refine ss_cons (S' := Unit) (G' := fun (_ : Unit) => [.dat ((eL D.int) v_script), .own none (.lst (v_row.map D.int)), .dat ((eL D.str) v_words), .dat (D.int v_count), .dat ((eT D.str) v_kinds), .dat ((eL (eP D.int D.int)) v_pairs), .dat ((eT D.int) v_firsts), .dat ((eL (eP D.str (eT D.int))) v_given), .dat ((eT (eP D.str (eT D.int))) v_facts), .dat ((e_World c_) v_world), .own none (.lst (v_more.map D.int)), .dat ((eT D.str) v_new), .dat ((eL (eP D.int D.int)) v_later), .dat ((eL (eP D.str (eT D.int))) v_added), .dat ((e_World c_) v_result), .dat ((eT D.int) v_same), .dat ((eT (eP D.str (eT D.int))) v_told), .any, .any, .any, .any]) (st_if (tv_not (tv_val (ev_call (rs := [.own (.lst ((law_digits c_ (law_cell c_ v_script (5 : Int)) (40 : Int)).map D.int)), .dat ((e_World c_) v_result), .dat ((eT D.int) v_same), .dat ((eT (eP D.str (eT D.int))) v_told), .dat ((eL D.str) v_words)]) (ars := [.mu (.lst ((law_digits c_ (law_cell c_ v_script (5 : Int)) (40 : Int)).map D.int)) (.lst (((law_asked c_ (law_digits c_ (law_cell c_ v_script (5 : Int)) (40 : Int)) v_result v_same v_told v_words).2).map D.int)), .dat ((e_World c_) v_result), .dat ((eT D.int) v_same), .dat ((eT (eP D.str (eT D.int))) v_told), .dat ((eL D.str) v_words)]) (rr := .dat (D.bl ((law_asked c_ (law_digits c_ (law_cell c_ v_script (5 : Int)) (40 : Int)) v_result v_same v_told v_words).1))) C_law_asked (hr.mono (by decide)) rfl ⟨(law_digits c_ (law_cell c_ v_script (5 : Int)) (40 : Int)), v_result, v_same, v_told, v_words, _, rfl, .inl ⟨(g_.2.2.1), rfl, rfl⟩⟩ (mt_cown rfl (mt_cdat (d := (e_World c_) v_result) (mt_cdat (d := (eT D.int) v_same) (mt_cdat (d := (eT (eP D.str (eT D.int))) v_told) (mt_cdat (d := (eL D.str) v_words) mt_nil))))) (av_cons (ev_call (rs := [.dat (D.int (law_cell c_ v_script (5 : Int))), .dat (D.int (40 : Int))]) (ars := [.dat (D.int (law_cell c_ v_script (5 : Int))), .dat (D.int (40 : Int))]) (rr := .own (.lst ((law_digits c_ (law_cell c_ v_script (5 : Int)) (40 : Int)).map D.int))) C_law_digits (hr.mono (by decide)) rfl ⟨(law_cell c_ v_script (5 : Int)), (40 : Int), rfl, .inl ⟨(g_.2.1), rfl⟩⟩ (mt_cdat (d := D.int (law_cell c_ v_script (5 : Int))) (mt_cdat (d := D.int (40 : Int)) mt_nil)) (av_cons (ev_call (rs := [.dat ((eL D.int) v_script), .dat (D.int (5 : Int))]) (ars := [.dat ((eL D.int) v_script), .dat (D.int (5 : Int))]) (rr := .dat (D.int (law_cell c_ v_script (5 : Int)))) C_law_cell (hr.mono (by decide)) rfl ⟨v_script, (5 : Int), rfl, .inl ⟨(g_.1), rfl⟩⟩ (mt_cdat (d := (eL D.int) v_script) (mt_cdat (d := D.int (5 : Int)) mt_nil)) (av_cons (ev_var 0 rfl (pv 0)) (av_cons ev_int av_nil))) (av_cons ev_int av_nil))) (av_cons (ev_var 14 rfl (pv 14)) (av_cons (ev_var 15 rfl (pv 15)) (av_cons (ev_var 16 rfl (pv 16)) (av_cons (ev_var 2 rfl (pv 2)) av_nil)))))))) (fun h_ => ?_) (fun h_ => ?_)) (fun x_ => ?_)
    · skip
      exact ss_one (st_ret ev_bl rfl (by walk_at "weak"))
    · skip
      exact (ss_nil (by walk_at "weak"))
    refine ss_grd (fun g_ => ?_)
    refine ss_cons (S' := Unit) (G' := fun (_ : Unit) => [.dat ((eL D.int) v_script), .own none (.lst (v_row.map D.int)), .dat ((eL D.str) v_words), .dat (D.int v_count), .dat ((eT D.str) v_kinds), .dat ((eL (eP D.int D.int)) v_pairs), .dat ((eT D.int) v_firsts), .dat ((eL (eP D.str (eT D.int))) v_given), .dat ((eT (eP D.str (eT D.int))) v_facts), .dat ((e_World c_) v_world), .own none (.lst (v_more.map D.int)), .dat ((eT D.str) v_new), .dat ((eL (eP D.int D.int)) v_later), .dat ((eL (eP D.str (eT D.int))) v_added), .dat ((e_World c_) v_result), .dat ((eT D.int) v_same), .dat ((eT (eP D.str (eT D.int))) v_told), .any, .any, .any, .any]) (st_if (tv_neB (ev_eqO M_World_eq (hr.mono (by decide)) (ev_var 9 rfl (pv 9)) (ev_var 14 rfl (pv 14)) ⟨v_world, v_result, rfl, .inl ⟨(g_.1), rfl⟩⟩) (ev_and (ev_eqT (enc := (eT D.str)) (u := (v_kinds ++ v_new)) (v := v_kinds) hr.units (EncEq.vt EncEq.str 1 dep_str (by decide)) (evt_catT (enc := D.str) (xs := v_kinds) (ys := v_new) (ev_var 4 rfl (pv 4)) (ev_var 11 rfl (pv 11)) (small_line (g_.2.1))) (ev_var 4 rfl (pv 4))) (fun h2_ => (ev_and (ev_eqT (enc := (eT D.int)) (u := v_same) (v := v_firsts) hr.units (EncEq.vt EncEq.int 1 dep_int (by decide)) (ev_var 15 rfl (pv 15)) (ev_var 6 rfl (pv 6))) (fun h3_ => (ev_one (ev_eqT (enc := (eT (eP D.str (eT D.int)))) (u := v_told) (v := v_facts) hr.units (EncEq.vt (EncEq.pair EncEq.str (EncEq.vt EncEq.int 1 dep_int (by decide)) 2 (dep_le dep_str (by decide)) (dep_le (dep_vt dep_int) (by decide)) (by decide)) 3 (dep_pair (n := 2) (dep_le dep_str (by decide)) (dep_le (dep_vt dep_int) (by decide))) (by decide)) (ev_var 16 rfl (pv 16)) (ev_var 8 rfl (pv 8))))))))) (fun h_ => ?_) (fun h_ => ?_)) (fun x_ => ?_)
    · skip
      exact ss_one (st_ret ev_bl rfl (by walk_at "weak"))
    · skip
      exact (ss_nil (by walk_at "weak"))
    refine ss_grd (fun g_ => ?_)
    refine ss_cons (S' := (List Int)) (G' := fun (v_last : (List Int)) => [.dat ((eL D.int) v_script), .own none (.lst (v_row.map D.int)), .dat ((eL D.str) v_words), .dat (D.int v_count), .dat ((eT D.str) v_kinds), .dat ((eL (eP D.int D.int)) v_pairs), .dat ((eT D.int) v_firsts), .dat ((eL (eP D.str (eT D.int))) v_given), .dat ((eT (eP D.str (eT D.int))) v_facts), .dat ((e_World c_) v_world), .own none (.lst (v_more.map D.int)), .dat ((eT D.str) v_new), .dat ((eL (eP D.int D.int)) v_later), .dat ((eL (eP D.str (eT D.int))) v_added), .dat ((e_World c_) v_result), .dat ((eT D.int) v_same), .dat ((eT (eP D.str (eT D.int))) v_told), .own none (.lst (v_last.map D.int)), .any, .any, .any]) (st_set 17 sc_law.nd rfl (by first | exact .inl rfl | exact .inr rfl) (ev_call (rs := [.dat (D.int (law_cell c_ v_script (4 : Int))), .dat (D.int (20 : Int))]) (ars := [.dat (D.int (law_cell c_ v_script (4 : Int))), .dat (D.int (20 : Int))]) (rr := .own (.lst ((law_digits c_ (law_cell c_ v_script (4 : Int)) (20 : Int)).map D.int))) C_law_digits (hr.mono (by decide)) rfl ⟨(law_cell c_ v_script (4 : Int)), (20 : Int), rfl, .inl ⟨(g_.2.1), rfl⟩⟩ (mt_cdat (d := D.int (law_cell c_ v_script (4 : Int))) (mt_cdat (d := D.int (20 : Int)) mt_nil)) (av_cons (ev_call (rs := [.dat ((eL D.int) v_script), .dat (D.int (4 : Int))]) (ars := [.dat ((eL D.int) v_script), .dat (D.int (4 : Int))]) (rr := .dat (D.int (law_cell c_ v_script (4 : Int)))) C_law_cell (hr.mono (by decide)) rfl ⟨v_script, (4 : Int), rfl, .inl ⟨(g_.1), rfl⟩⟩ (mt_cdat (d := (eL D.int) v_script) (mt_cdat (d := D.int (4 : Int)) mt_nil)) (av_cons (ev_var 0 rfl (pv 0)) (av_cons ev_int av_nil))) (av_cons ev_int av_nil))) weak_rfl) (fun v_last => ?_)
    refine ss_grd (fun g_ => ?_)
    refine ss_cons (S' := (((List Str) × (List Int) × (List (Str × (List Int)))) × (List Int))) (G' := fun x_ => match x_ with | (v_changed, v_last) => [.dat ((eL D.int) v_script), .own none (.lst (v_row.map D.int)), .dat ((eL D.str) v_words), .dat (D.int v_count), .dat ((eT D.str) v_kinds), .dat ((eL (eP D.int D.int)) v_pairs), .dat ((eT D.int) v_firsts), .dat ((eL (eP D.str (eT D.int))) v_given), .dat ((eT (eP D.str (eT D.int))) v_facts), .dat ((e_World c_) v_world), .own none (.lst (v_more.map D.int)), .dat ((eT D.str) v_new), .dat ((eL (eP D.int D.int)) v_later), .dat ((eL (eP D.str (eT D.int))) v_added), .dat ((e_World c_) v_result), .dat ((eT D.int) v_same), .dat ((eT (eP D.str (eT D.int))) v_told), .own none (.lst (v_last.map D.int)), .dat ((eP3 (eT D.str) (eT D.int) (eT (eP D.str (eT D.int)))) v_changed), .any, .any]) (st_set 18 sc_law.nd rfl (by first | exact .inl rfl | exact .inr rfl) (ev_call (rs := [.bor 17, .dat ((eT D.str) (v_kinds ++ v_new)), .dat ((eT D.int) v_same), .dat ((eT (eP D.str (eT D.int))) v_told), .dat ((eL D.str) v_words)]) (ars := [.mu (.lst (v_last.map D.int)) (.lst (((law_changed c_ v_last (v_kinds ++ v_new) v_same v_told v_words).2).map D.int)), .dat ((eT D.str) (v_kinds ++ v_new)), .dat ((eT D.int) v_same), .dat ((eT (eP D.str (eT D.int))) v_told), .dat ((eL D.str) v_words)]) (rr := .dat ((eP3 (eT D.str) (eT D.int) (eT (eP D.str (eT D.int)))) ((law_changed c_ v_last (v_kinds ++ v_new) v_same v_told v_words).1))) C_law_changed (hr.mono (by decide)) rfl ⟨v_last, (v_kinds ++ v_new), v_same, v_told, v_words, _, rfl, .inl ⟨(g_.2.1), rfl, rfl⟩⟩ (mt_cbor rfl rfl (mt_cdat (d := (eT D.str) (v_kinds ++ v_new)) (mt_cdat (d := (eT D.int) v_same) (mt_cdat (d := (eT (eP D.str (eT D.int))) v_told) (mt_cdat (d := (eL D.str) v_words) mt_nil))))) (av_cons (ev_bor 17 rfl (pv 17)) (av_cons (evt_catT (enc := D.str) (xs := v_kinds) (ys := v_new) (ev_var 4 rfl (pv 4)) (ev_var 11 rfl (pv 11)) (small_line (g_.1))) (av_cons (ev_var 15 rfl (pv 15)) (av_cons (ev_var 16 rfl (pv 16)) (av_cons (ev_var 2 rfl (pv 2)) av_nil)))))) weak_rfl) (fun x_ => ?_)
    obtain ⟨v_changed, v_last⟩ := x_
    refine ss_grd (fun g_ => ?_)
    refine ss_cons (S' := (Option (Str × Int))) (G' := fun (v_due : (Option (Str × Int))) => [.dat ((eL D.int) v_script), .own none (.lst (v_row.map D.int)), .dat ((eL D.str) v_words), .dat (D.int v_count), .dat ((eT D.str) v_kinds), .dat ((eL (eP D.int D.int)) v_pairs), .dat ((eT D.int) v_firsts), .dat ((eL (eP D.str (eT D.int))) v_given), .dat ((eT (eP D.str (eT D.int))) v_facts), .dat ((e_World c_) v_world), .own none (.lst (v_more.map D.int)), .dat ((eT D.str) v_new), .dat ((eL (eP D.int D.int)) v_later), .dat ((eL (eP D.str (eT D.int))) v_added), .dat ((e_World c_) v_result), .dat ((eT D.int) v_same), .dat ((eT (eP D.str (eT D.int))) v_told), .own none (.lst (v_last.map D.int)), .dat ((eP3 (eT D.str) (eT D.int) (eT (eP D.str (eT D.int)))) v_changed), .dat ((eO (eP D.str D.int)) v_due), .any]) (st_set 19 sc_law.nd rfl (by first | exact .inl rfl | exact .inr rfl) (ev_call (rs := [.dat ((eT D.str) (v_changed.1)), .dat ((eT D.int) (v_changed.2.1)), .dat ((eT (eP D.str (eT D.int))) (v_changed.2.2))]) (ars := [.dat ((eT D.str) (v_changed.1)), .dat ((eT D.int) (v_changed.2.1)), .dat ((eT (eP D.str (eT D.int))) (v_changed.2.2))]) (rr := .dat ((eO (eP D.str D.int)) (law_fault c_ (v_changed.1) (v_changed.2.1) (v_changed.2.2)))) C_law_fault (hr.mono (by decide)) rfl ⟨(v_changed.1), (v_changed.2.1), (v_changed.2.2), rfl, .inl ⟨(g_.1), rfl⟩⟩ (mt_cdat (d := (eT D.str) (v_changed.1)) (mt_cdat (d := (eT D.int) (v_changed.2.1)) (mt_cdat (d := (eT (eP D.str (eT D.int))) (v_changed.2.2)) mt_nil))) (av_cons (ev_ixT (d := (eT D.str) (v_changed.1)) (ev_var 18 rfl (pv 18)) ev_int (atI_nat (j := 0) rfl)) (av_cons (ev_ixT (d := (eT D.int) (v_changed.2.1)) (ev_var 18 rfl (pv 18)) ev_int (atI_nat (j := 1) rfl)) (av_cons (ev_ixT (d := (eT (eP D.str (eT D.int))) (v_changed.2.2)) (ev_var 18 rfl (pv 18)) ev_int (atI_nat (j := 2) rfl)) av_nil)))) weak_rfl) (fun v_due => ?_)
    refine ss_grd (fun g_ => ?_)
    refine ss_cons (S' := (Option (Str × Int))) (G' := fun (v_actual : (Option (Str × Int))) => [.dat ((eL D.int) v_script), .own none (.lst (v_row.map D.int)), .dat ((eL D.str) v_words), .dat (D.int v_count), .dat ((eT D.str) v_kinds), .dat ((eL (eP D.int D.int)) v_pairs), .dat ((eT D.int) v_firsts), .dat ((eL (eP D.str (eT D.int))) v_given), .dat ((eT (eP D.str (eT D.int))) v_facts), .dat ((e_World c_) v_world), .own none (.lst (v_more.map D.int)), .dat ((eT D.str) v_new), .dat ((eL (eP D.int D.int)) v_later), .dat ((eL (eP D.str (eT D.int))) v_added), .dat ((e_World c_) v_result), .dat ((eT D.int) v_same), .dat ((eT (eP D.str (eT D.int))) v_told), .own none (.lst (v_last.map D.int)), .dat ((eP3 (eT D.str) (eT D.int) (eT (eP D.str (eT D.int)))) v_changed), .dat ((eO (eP D.str D.int)) v_due), .dat ((eO (eP D.str D.int)) v_actual)]) (st_set 20 sc_law.nd rfl (by first | exact .inl rfl | exact .inr rfl) (ev_call (rs := [.dat ((eT D.str) (v_changed.1)), .dat ((eT D.int) (v_changed.2.1)), .dat ((eT (eP D.str (eT D.int))) (v_changed.2.2))]) (ars := [.dat ((eT D.str) (v_changed.1)), .dat ((eT D.int) (v_changed.2.1)), .dat ((eT (eP D.str (eT D.int))) (v_changed.2.2))]) (rr := .dat ((eO (eP D.str D.int)) (law_refused c_ (v_changed.1) (v_changed.2.1) (v_changed.2.2)))) C_law_refused (hr.mono (by decide)) rfl ⟨(v_changed.1), (v_changed.2.1), (v_changed.2.2), rfl, .inl ⟨(g_.1), rfl⟩⟩ (mt_cdat (d := (eT D.str) (v_changed.1)) (mt_cdat (d := (eT D.int) (v_changed.2.1)) (mt_cdat (d := (eT (eP D.str (eT D.int))) (v_changed.2.2)) mt_nil))) (av_cons (ev_ixT (d := (eT D.str) (v_changed.1)) (ev_var 18 rfl (pv 18)) ev_int (atI_nat (j := 0) rfl)) (av_cons (ev_ixT (d := (eT D.int) (v_changed.2.1)) (ev_var 18 rfl (pv 18)) ev_int (atI_nat (j := 1) rfl)) (av_cons (ev_ixT (d := (eT (eP D.str (eT D.int))) (v_changed.2.2)) (ev_var 18 rfl (pv 18)) ev_int (atI_nat (j := 2) rfl)) av_nil)))) weak_rfl) (fun v_actual => ?_)
    refine ss_cons (S' := Unit) (G' := fun (_ : Unit) => [.dat ((eL D.int) v_script), .own none (.lst (v_row.map D.int)), .dat ((eL D.str) v_words), .dat (D.int v_count), .dat ((eT D.str) v_kinds), .dat ((eL (eP D.int D.int)) v_pairs), .dat ((eT D.int) v_firsts), .dat ((eL (eP D.str (eT D.int))) v_given), .dat ((eT (eP D.str (eT D.int))) v_facts), .dat ((e_World c_) v_world), .own none (.lst (v_more.map D.int)), .dat ((eT D.str) v_new), .dat ((eL (eP D.int D.int)) v_later), .dat ((eL (eP D.str (eT D.int))) v_added), .dat ((e_World c_) v_result), .dat ((eT D.int) v_same), .dat ((eT (eP D.str (eT D.int))) v_told), .own none (.lst (v_last.map D.int)), .dat ((eP3 (eT D.str) (eT D.int) (eT (eP D.str (eT D.int)))) v_changed), .dat ((eO (eP D.str D.int)) v_due), .dat ((eO (eP D.str D.int)) v_actual)]) (st_if (tv_isNO (fun _ => rfl) (ev_var 19 rfl (pv 19))) (fun h_ => ?_) (fun h_ => ?_)) (fun x_ => ?_)
    · skip
      refine ss_grd (fun g_ => ?_)
      exact ss_one (st_ret (ev_and (ev_isNO (fun _ => rfl) (ev_var 20 rfl (pv 20))) (fun h4_ => (ev_one (ev_call (rs := [.dat ((e_World c_) (World_init c_ (v_changed.1) (v_changed.2.1) (v_changed.2.2))), .dat ((eT D.str) (v_changed.1)), .dat ((eT D.int) (v_changed.2.1)), .dat ((eT (eP D.str (eT D.int))) (v_changed.2.2))]) (ars := [.dat ((e_World c_) (World_init c_ (v_changed.1) (v_changed.2.1) (v_changed.2.2))), .dat ((eT D.str) (v_changed.1)), .dat ((eT D.int) (v_changed.2.1)), .dat ((eT (eP D.str (eT D.int))) (v_changed.2.2))]) (rr := .dat (D.bl (law_seen c_ (World_init c_ (v_changed.1) (v_changed.2.1) (v_changed.2.2)) (v_changed.1) (v_changed.2.1) (v_changed.2.2)))) C_law_seen (hr.mono (by decide)) rfl ⟨(World_init c_ (v_changed.1) (v_changed.2.1) (v_changed.2.2)), (v_changed.1), (v_changed.2.1), (v_changed.2.2), rfl, .inl ⟨(((g_.1) h4_).2.1), rfl⟩⟩ (mt_cdat (d := (e_World c_) (World_init c_ (v_changed.1) (v_changed.2.1) (v_changed.2.2))) (mt_cdat (d := (eT D.str) (v_changed.1)) (mt_cdat (d := (eT D.int) (v_changed.2.1)) (mt_cdat (d := (eT (eP D.str (eT D.int))) (v_changed.2.2)) mt_nil)))) (av_cons (EV.fzI (by exact ev_make (oc := o_World c_ (World_init c_ (v_changed.1) (v_changed.2.1) (v_changed.2.2))) (rs := [.dat ((eT D.str) (v_changed.1)), .dat ((eT D.int) (v_changed.2.1)), .dat ((eT (eP D.str (eT D.int))) (v_changed.2.2))]) (ars := [.dat ((eT D.str) (v_changed.1)), .dat ((eT D.int) (v_changed.2.1)), .dat ((eT (eP D.str (eT D.int))) (v_changed.2.2))]) Z_World (hr.mono (by decide)) rfl ⟨(v_changed.1), (v_changed.2.1), (v_changed.2.2), _, rfl, .inl ⟨(((g_.1) h4_).1), rfl, rfl⟩⟩ (mt_cdat (d := (eT D.str) (v_changed.1)) (mt_cdat (d := (eT D.int) (v_changed.2.1)) (mt_cdat (d := (eT (eP D.str (eT D.int))) (v_changed.2.2)) mt_nil))) (av_cons (ev_ixT (d := (eT D.str) (v_changed.1)) (ev_var 18 rfl (pv 18)) ev_int (atI_nat (j := 0) rfl)) (av_cons (ev_ixT (d := (eT D.int) (v_changed.2.1)) (ev_var 18 rfl (pv 18)) ev_int (atI_nat (j := 1) rfl)) (av_cons (ev_ixT (d := (eT (eP D.str (eT D.int))) (v_changed.2.2)) (ev_var 18 rfl (pv 18)) ev_int (atI_nat (j := 2) rfl)) av_nil))))) (av_cons (ev_ixT (d := (eT D.str) (v_changed.1)) (ev_var 18 rfl (pv 18)) ev_int (atI_nat (j := 0) rfl)) (av_cons (ev_ixT (d := (eT D.int) (v_changed.2.1)) (ev_var 18 rfl (pv 18)) ev_int (atI_nat (j := 1) rfl)) (av_cons (ev_ixT (d := (eT (eP D.str (eT D.int))) (v_changed.2.2)) (ev_var 18 rfl (pv 18)) ev_int (atI_nat (j := 2) rfl)) av_nil)))))))) rfl (by walk_at "weak"))
    · skip
      exact (ss_nil (by walk_at "weak"))
    exact ss_one (st_ret (ev_eqT (enc := (eO (eP D.str D.int))) (u := v_actual) (v := v_due) hr.units (EncEq.opt (EncEq.pair EncEq.str EncEq.int 1 (dep_le dep_str (by decide)) (dep_le dep_int (by decide)) (by decide)) (fun _ => ⟨_, rfl⟩)) (ev_var 20 rfl (pv 20)) (ev_var 19 rfl (pv 19))) rfl (by walk_at "weak"))
  · rcases hR with ⟨h_, rfl⟩ | hR
    · exact .inl ⟨(law c_ v_script), .dat (D.bl (law c_ v_script)), LO.IsRet.eq h_, rfl, rfl, finOk trivial⟩
    · exact hR.elim
end
end K05
set_option maxHeartbeats 40000000
namespace K05
open PySem PySem.Spec PyProof.Rows L2 PD
abbrev s_XBadWorld : Stmt := mth (top 3) 0
theorem nsc_BadWorld : NdefX.NScope ["self", "part", "at", "__class__"] ["self", "part", "at"] ["__class__"] (defScope s_XBadWorld) := NdefX.nscope_by (by decide +kernel)
abbrev s_IWorld : Stmt := mth (top 6) 3
theorem sc_IWorld : FnScope ["self"] ["self"] (defScope s_IWorld) := ⟨rfl, rfl, rfl, by decide +kernel, rfl, by decide +kernel, by decide +kernel⟩
def R_top (ars : List Ar) (out : Out) : Prop := ∃ ns : List Int, ars = [.dat (eL D.int ns)] ∧ out = .val (.dat (.bl true))
theorem top_law (c_ : Cs) {ars : List Ar} {out : Out} (h : R_top ars out) : R_law c_ ars out := by
  obtain ⟨ns, rfl, rfl⟩ := h
  refine ⟨ns, rfl, .inl ⟨⟨true, law_true c_ ns⟩, ?_⟩⟩
  unfold law
  rw [law_true c_ ns]
  rfl
theorem all_mk {l : PySem.W.OpenLaw} {w : World} {K : PySem.W.Frag} {h : Heap} {mg : Str → Option Value} {fa : Addr} (X : K.In h) (G : h.Ns mainGlobals mg) (hfa : mg "law" = some (.ref fa))
    {cA_CasesError cA_BadTheory cA_BadWorld cA_World f1 f2 f3 f4 f5 f6 f7 f8 f9 f10 f11 f12 f13 f14 f15 f16 f17 f18 f19 f20 f21 f22 f23 cc23 cda23 xN23 f24 : Addr} {od1 an1 od2 an2 od3 an3 od4 an4 od5 an5 od6 an6 od7 an7 od8 an8 od9 an9 od10 an10 od11 an11 od12 an12 od13 an13 od14 an14 od15 an15 od16 an16 od17 an17 od18 an18 od19 an19 od20 an20 od21 an21 od22 an22 od23 an23 xcdd23 xcld23 xdd23 od24 an24 : Option Addr} {sl1 sl2 sl3 sl4 sl5 sl6 sl7 sl8 sl9 sl10 sl11 sl12 sl13 sl14 sl15 sl16 sl17 sl18 sl19 sl20 sl21 sl22 sl23 xccs23 xcsl23 sl24 : Array (Option Value)} {oc1 kV1 dc1 pm1 cd1 ct1 oc2 kV2 dc2 pm2 cd2 ct2 oc3 kV3 dc3 pm3 cd3 ct3 oc4 kV4 dc4 pm4 cd4 ct4 oc5 kV5 dc5 pm5 cd5 ct5 oc6 kV6 dc6 pm6 cd6 ct6 oc7 kV7 dc7 pm7 cd7 ct7 oc8 kV8 dc8 pm8 cd8 ct8 oc9 kV9 dc9 pm9 cd9 ct9 oc10 kV10 dc10 pm10 cd10 ct10 oc11 kV11 dc11 pm11 cd11 ct11 oc12 kV12 dc12 pm12 cd12 ct12 oc13 kV13 dc13 pm13 cd13 ct13 oc14 kV14 dc14 pm14 cd14 ct14 oc15 kV15 dc15 pm15 cd15 ct15 oc16 kV16 dc16 pm16 cd16 ct16 oc17 kV17 dc17 pm17 cd17 ct17 oc18 kV18 dc18 pm18 cd18 ct18 oc19 kV19 dc19 pm19 cd19 ct19 oc20 kV20 dc20 pm20 cd20 ct20 oc21 kV21 dc21 pm21 cd21 ct21 oc22 kV22 dc22 pm22 cd22 ct22 oc23 kV23 dc23 pm23 ct23 xccl23 xcl23 oc24 kV24 dc24 pm24 cd24 ct24 : Value} {xfl23 xnm23 xq23 : Str} {xtk23 : Tok} {xvs23 : Array Value} {xbs23 xbm23 xsub23 : List Value} {xsn23 : List Str} {xab23 : Bool} {xcol23 : Option Bool} {xk023 xk123 xk223 xk323 xk523 : Option Value}
    (aC_CasesError : PySem.W.nsIn K mainGlobals "CasesError" = some (some (.ref cA_CasesError)))
    (aC_BadTheory : PySem.W.nsIn K mainGlobals "BadTheory" = some (some (.ref cA_BadTheory)))
    (aC_BadWorld : PySem.W.nsIn K mainGlobals "BadWorld" = some (some (.ref cA_BadWorld)))
    (aC_World : PySem.W.nsIn K mainGlobals "World" = some (some (.ref cA_World)))
    (a1 : PySem.W.nsIn K mainGlobals "world_rule_fault" = some (some (.ref f1)))
    (l1 : K.lookup f1 = some ⟨oc1, od1, .func (PySem.W.fnOf "world_rule_fault" "world_rule_fault" (defArgs s_world_rule_fault) (defBody s_world_rule_fault) (defScope s_world_rule_fault) .none kV1 dc1 pm1 an1 cd1 ct1), sl1⟩)
    (c1 : PySem.W.codeIn K cd1 "world_rule_fault" = true)
    (k1 : PySem.W.keepIn K (.ref f1) = true)
    (a2 : PySem.W.nsIn K mainGlobals "_law_cell" = some (some (.ref f2)))
    (l2 : K.lookup f2 = some ⟨oc2, od2, .func (PySem.W.fnOf "_law_cell" "_law_cell" (defArgs s_law_cell) (defBody s_law_cell) (defScope s_law_cell) .none kV2 dc2 pm2 an2 cd2 ct2), sl2⟩)
    (c2 : PySem.W.codeIn K cd2 "_law_cell" = true)
    (k2 : PySem.W.keepIn K (.ref f2) = true)
    (a3 : PySem.W.nsIn K mainGlobals "_law_digits" = some (some (.ref f3)))
    (l3 : K.lookup f3 = some ⟨oc3, od3, .func (PySem.W.fnOf "_law_digits" "_law_digits" (defArgs s_law_digits) (defBody s_law_digits) (defScope s_law_digits) .none kV3 dc3 pm3 an3 cd3 ct3), sl3⟩)
    (c3 : PySem.W.codeIn K cd3 "_law_digits" = true)
    (k3 : PySem.W.keepIn K (.ref f3) = true)
    (a4 : PySem.W.nsIn K mainGlobals "_law_take" = some (some (.ref f4)))
    (l4 : K.lookup f4 = some ⟨oc4, od4, .func (PySem.W.fnOf "_law_take" "_law_take" (defArgs s_law_take) (defBody s_law_take) (defScope s_law_take) .none kV4 dc4 pm4 an4 cd4 ct4), sl4⟩)
    (c4 : PySem.W.codeIn K cd4 "_law_take" = true)
    (k4 : PySem.W.keepIn K (.ref f4) = true)
    (a5 : PySem.W.nsIn K mainGlobals "_law_words" = some (some (.ref f5)))
    (l5 : K.lookup f5 = some ⟨oc5, od5, .func (PySem.W.fnOf "_law_words" "_law_words" (defArgs s_law_words) (defBody s_law_words) (defScope s_law_words) .none kV5 dc5 pm5 an5 cd5 ct5), sl5⟩)
    (c5 : PySem.W.codeIn K cd5 "_law_words" = true)
    (k5 : PySem.W.keepIn K (.ref f5) = true)
    (a6 : PySem.W.nsIn K mainGlobals "_law_kinds" = some (some (.ref f6)))
    (l6 : K.lookup f6 = some ⟨oc6, od6, .func (PySem.W.fnOf "_law_kinds" "_law_kinds" (defArgs s_law_kinds) (defBody s_law_kinds) (defScope s_law_kinds) .none kV6 dc6 pm6 an6 cd6 ct6), sl6⟩)
    (c6 : PySem.W.codeIn K cd6 "_law_kinds" = true)
    (k6 : PySem.W.keepIn K (.ref f6) = true)
    (a7 : PySem.W.nsIn K mainGlobals "_law_pairs" = some (some (.ref f7)))
    (l7 : K.lookup f7 = some ⟨oc7, od7, .func (PySem.W.fnOf "_law_pairs" "_law_pairs" (defArgs s_law_pairs) (defBody s_law_pairs) (defScope s_law_pairs) .none kV7 dc7 pm7 an7 cd7 ct7), sl7⟩)
    (c7 : PySem.W.codeIn K cd7 "_law_pairs" = true)
    (k7 : PySem.W.keepIn K (.ref f7) = true)
    (a8 : PySem.W.nsIn K mainGlobals "_law_facts" = some (some (.ref f8)))
    (l8 : K.lookup f8 = some ⟨oc8, od8, .func (PySem.W.fnOf "_law_facts" "_law_facts" (defArgs s_law_facts) (defBody s_law_facts) (defScope s_law_facts) .none kV8 dc8 pm8 an8 cd8 ct8), sl8⟩)
    (c8 : PySem.W.codeIn K cd8 "_law_facts" = true)
    (k8 : PySem.W.keepIn K (.ref f8) = true)
    (a9 : PySem.W.nsIn K mainGlobals "_law_firsts" = some (some (.ref f9)))
    (l9 : K.lookup f9 = some ⟨oc9, od9, .func (PySem.W.fnOf "_law_firsts" "_law_firsts" (defArgs s_law_firsts) (defBody s_law_firsts) (defScope s_law_firsts) .none kV9 dc9 pm9 an9 cd9 ct9), sl9⟩)
    (c9 : PySem.W.codeIn K cd9 "_law_firsts" = true)
    (k9 : PySem.W.keepIn K (.ref f9) = true)
    (a10 : PySem.W.nsIn K mainGlobals "_law_told" = some (some (.ref f10)))
    (l10 : K.lookup f10 = some ⟨oc10, od10, .func (PySem.W.fnOf "_law_told" "_law_told" (defArgs s_law_told) (defBody s_law_told) (defScope s_law_told) .none kV10 dc10 pm10 an10 cd10 ct10), sl10⟩)
    (c10 : PySem.W.codeIn K cd10 "_law_told" = true)
    (k10 : PySem.W.keepIn K (.ref f10) = true)
    (a11 : PySem.W.nsIn K mainGlobals "_law_fault" = some (some (.ref f11)))
    (l11 : K.lookup f11 = some ⟨oc11, od11, .func (PySem.W.fnOf "_law_fault" "_law_fault" (defArgs s_law_fault) (defBody s_law_fault) (defScope s_law_fault) .none kV11 dc11 pm11 an11 cd11 ct11), sl11⟩)
    (c11 : PySem.W.codeIn K cd11 "_law_fault" = true)
    (k11 : PySem.W.keepIn K (.ref f11) = true)
    (a12 : PySem.W.nsIn K mainGlobals "_law_changed" = some (some (.ref f12)))
    (l12 : K.lookup f12 = some ⟨oc12, od12, .func (PySem.W.fnOf "_law_changed" "_law_changed" (defArgs s_law_changed) (defBody s_law_changed) (defScope s_law_changed) .none kV12 dc12 pm12 an12 cd12 ct12), sl12⟩)
    (c12 : PySem.W.codeIn K cd12 "_law_changed" = true)
    (k12 : PySem.W.keepIn K (.ref f12) = true)
    (a13 : PySem.W.nsIn K mainGlobals "_law_refused" = some (some (.ref f13)))
    (l13 : K.lookup f13 = some ⟨oc13, od13, .func (PySem.W.fnOf "_law_refused" "_law_refused" (defArgs s_law_refused) (defBody s_law_refused) (defScope s_law_refused) .none kV13 dc13 pm13 an13 cd13 ct13), sl13⟩)
    (c13 : PySem.W.codeIn K cd13 "_law_refused" = true)
    (k13 : PySem.W.keepIn K (.ref f13) = true)
    (a14 : PySem.W.nsIn K mainGlobals "_law_seen" = some (some (.ref f14)))
    (l14 : K.lookup f14 = some ⟨oc14, od14, .func (PySem.W.fnOf "_law_seen" "_law_seen" (defArgs s_law_seen) (defBody s_law_seen) (defScope s_law_seen) .none kV14 dc14 pm14 an14 cd14 ct14), sl14⟩)
    (c14 : PySem.W.codeIn K cd14 "_law_seen" = true)
    (k14 : PySem.W.keepIn K (.ref f14) = true)
    (a15 : PySem.W.nsIn K mainGlobals "_law_asked" = some (some (.ref f15)))
    (l15 : K.lookup f15 = some ⟨oc15, od15, .func (PySem.W.fnOf "_law_asked" "_law_asked" (defArgs s_law_asked) (defBody s_law_asked) (defScope s_law_asked) .none kV15 dc15 pm15 an15 cd15 ct15), sl15⟩)
    (c15 : PySem.W.codeIn K cd15 "_law_asked" = true)
    (k15 : PySem.W.keepIn K (.ref f15) = true)
    (a16 : PySem.W.nsIn K mainGlobals "law" = some (some (.ref f16)))
    (l16 : K.lookup f16 = some ⟨oc16, od16, .func (PySem.W.fnOf "law" "law" (defArgs s_law) (defBody s_law) (defScope s_law) .none kV16 dc16 pm16 an16 cd16 ct16), sl16⟩)
    (c16 : PySem.W.codeIn K cd16 "law" = true)
    (k16 : PySem.W.keepIn K (.ref f16) = true)
    (t17 : PySem.W.findIn K (.ref cA_World) "__init__" = some (some (.ref f17)))
    (l17 : K.lookup f17 = some ⟨oc17, od17, .func (PySem.W.fnOf "__init__" "World.__init__" (defArgs s_World_init) (defBody s_World_init) (defScope s_World_init) .none kV17 dc17 pm17 an17 cd17 ct17), sl17⟩)
    (c17 : PySem.W.codeIn K cd17 "World.__init__" = true)
    (k17 : PySem.W.keepIn K (.ref f17) = true)
    (i17 : PySem.W.isFn K (.ref f17) = true)
    (t18 : PySem.W.findIn K (.ref cA_World) "__eq__" = some (some (.ref f18)))
    (l18 : K.lookup f18 = some ⟨oc18, od18, .func (PySem.W.fnOf "__eq__" "World.__eq__" (defArgs s_World_eq) (defBody s_World_eq) (defScope s_World_eq) .none kV18 dc18 pm18 an18 cd18 ct18), sl18⟩)
    (c18 : PySem.W.codeIn K cd18 "World.__eq__" = true)
    (k18 : PySem.W.keepIn K (.ref f18) = true)
    (i18 : PySem.W.isFn K (.ref f18) = true)
    (t19 : PySem.W.findIn K (.ref cA_World) "__contains__" = some (some (.ref f19)))
    (l19 : K.lookup f19 = some ⟨oc19, od19, .func (PySem.W.fnOf "__contains__" "World.__contains__" (defArgs s_World_contains) (defBody s_World_contains) (defScope s_World_contains) .none kV19 dc19 pm19 an19 cd19 ct19), sl19⟩)
    (c19 : PySem.W.codeIn K cd19 "World.__contains__" = true)
    (k19 : PySem.W.keepIn K (.ref f19) = true)
    (i19 : PySem.W.isFn K (.ref f19) = true)
    (t20 : PySem.W.findIn K (.ref cA_World) "first_things" = some (some (.ref f20)))
    (l20 : K.lookup f20 = some ⟨oc20, od20, .func (PySem.W.fnOf "first_things" "World.first_things" (defArgs s_World_first_things) (defBody s_World_first_things) (defScope s_World_first_things) .none kV20 dc20 pm20 an20 cd20 ct20), sl20⟩)
    (c20 : PySem.W.codeIn K cd20 "World.first_things" = true)
    (k20 : PySem.W.keepIn K (.ref f20) = true)
    (i20 : PySem.W.isFn K (.ref f20) = true)
    (t21 : PySem.W.findIn K (.ref cA_World) "of_kind" = some (some (.ref f21)))
    (l21 : K.lookup f21 = some ⟨oc21, od21, .func (PySem.W.fnOf "of_kind" "World.of_kind" (defArgs s_World_of_kind) (defBody s_World_of_kind) (defScope s_World_of_kind) .none kV21 dc21 pm21 an21 cd21 ct21), sl21⟩)
    (c21 : PySem.W.codeIn K cd21 "World.of_kind" = true)
    (k21 : PySem.W.keepIn K (.ref f21) = true)
    (i21 : PySem.W.isFn K (.ref f21) = true)
    (t22 : PySem.W.findIn K (.ref cA_World) "joined" = some (some (.ref f22)))
    (l22 : K.lookup f22 = some ⟨oc22, od22, .func (PySem.W.fnOf "joined" "World.joined" (defArgs s_World_joined) (defBody s_World_joined) (defScope s_World_joined) .none kV22 dc22 pm22 an22 cd22 ct22), sl22⟩)
    (c22 : PySem.W.codeIn K cd22 "World.joined" = true)
    (k22 : PySem.W.keepIn K (.ref f22) = true)
    (i22 : PySem.W.isFn K (.ref f22) = true)
    (z_len : PySem.W.nsIn K mainGlobals "len" = some none)
    (z_min : PySem.W.nsIn K mainGlobals "min" = some none)
    (z_enumerate : PySem.W.nsIn K mainGlobals "enumerate" = some none)
    (z_all : PySem.W.nsIn K mainGlobals "all" = some none)
    (t23 : PySem.W.findIn K (.ref cA_BadWorld) "__init__" = some (some (.ref f23)))
    (y23 : PySem.W.typeIn K (.ref f23) = some (.type "function"))
    (l23 : K.lookup f23 = some ⟨oc23, od23, .func (PySem.W.ksFn "__init__" "BadWorld.__init__" (defArgs s_XBadWorld) (defBody s_XBadWorld) (defScope s_XBadWorld) .none kV23 dc23 pm23 an23 (.ref cda23) ct23 cc23), sl23⟩)
    (c23 : PySem.W.codeIn K (.ref cda23) "BadWorld.__init__" = true)
    (d23 : K.lookup cda23 = some ⟨xccl23, xcdd23, .fields xvs23, xccs23⟩)
    (e23 : xvs23[2]? = some (.str xfl23 xtk23))
    (g23 : ((l.prog.main.file : Str) == xfl23) = true)
    (h23 : K.lookup cc23 = some ⟨xcl23, xcld23, .cell (some (.ref cA_BadWorld)), xcsl23⟩)
    (tp23 : (l.prog.main.scope.names.lookup ("super" : Str)).isSome = false)
    (s1_BadWorld : PySem.W.nsIn K cStatics "thirdparty.any" = some none)
    (s2_BadWorld : PySem.W.ks_superIn K cA_BadWorld cA_BadWorld "__init__" = some (some (.builtin "ValueError.__init__")))
    (s3_BadWorld : PySem.W.subIn K (.ref cA_BadWorld) (.type "ValueError") = some true)
    (s4_BadWorld : PySem.W.mroIn K cA_BadWorld (.ref cA_BadWorld) = some true)
    (x1_BadWorld : K.lookup cA_BadWorld = some (excClassObj xnm23 xq23 cA_BadWorld xN23 xbs23 xbm23 true xsn23 xsub23 xab23 xcol23 xdd23 xk023 xk123 xk223 xk323 xk523 "ValueError.__new__"))
    (x2_BadWorld : PySem.HandSPX.refsVE xbm23 = true)
    (x3_BadWorld : PySem.W.findIn K (.ref cA_BadWorld) "__setattr__" = some (some (.builtin "object.__setattr__")))
    (x4_BadWorld : PySem.W.subIn K (.ref cA_BadWorld) (.type "BaseException") = some true)
    (x5_BadWorld : PySem.W.typeIn K (.ref cA_BadWorld) = some (.type "type"))
    (x6_BadWorld : PySem.W.keepIn K (.ref cA_BadWorld) = true)
    (xq_BadWorld_part : PySem.W.findIn K (.ref cA_BadWorld) "part" = some none)
    (xq_BadWorld_at : PySem.W.findIn K (.ref cA_BadWorld) "at" = some none)
    (zsuper_BadWorld : PySem.W.nsIn K mainGlobals "super" = some none)
    (pg_World : PySem.W.plainGet K cA_World Str.empty = true)
    (hd_World : PySem.W.hasDictIn K cA_World = true)
    (po_World : PySem.W.plainOver K cA_World = true)
    (sa_World : PySem.W.findIn K (.ref cA_World) "__setattr__" = some (some (.builtin "object.__setattr__")))
    (nA_World_known : PySem.W.findIn K (.ref cA_World) "known" = some none)
    (nA_World_facts : PySem.W.findIn K (.ref cA_World) "facts" = some none)
    (nA_World_same : PySem.W.findIn K (.ref cA_World) "same" = some none)
    (nA_World_kinds : PySem.W.findIn K (.ref cA_World) "kinds" = some none)
    (z_isinstance : PySem.W.nsIn K mainGlobals "isinstance" = some none)
    (kO_World_World : PySem.W.kitOne K (.ref cA_World) (.ref cA_World) = some true)
    (oa_World : PySem.W.findIn K (.ref cA_World) "__class__" = some (some (.builtin "object.__class__")))
    (on_World : PySem.W.specialIn K (.builtin "object.__class__") "__get__" = some (some (.builtin "getset_descriptor.__get__")))
    (ot_World : PySem.W.takesIn K (.builtin "object.__class__") = some true)
    (om_World : PySem.W.mroIn K cA_World (.type "object") = some true)
    (z_tuple : PySem.W.nsIn K mainGlobals "tuple" = some none)
    (z_list : PySem.W.nsIn K mainGlobals "list" = some none)
    (z_range : PySem.W.nsIn K mainGlobals "range" = some none)
    (z_max : PySem.W.nsIn K mainGlobals "max" = some none)
    (z_sorted : PySem.W.nsIn K mainGlobals "sorted" = some none)
    (z_int : PySem.W.nsIn K mainGlobals "int" = some none)
    (z_abs : PySem.W.nsIn K mainGlobals "abs" = some none)
    (z_ValueError : PySem.W.nsIn K mainGlobals "ValueError" = some none)
    (kO_BadWorld_BadWorld : PySem.W.kitOne K (.ref cA_BadWorld) (.ref cA_BadWorld) = some true)
    (xihcl_BadWorld : PySem.W.isClsIn K cA_BadWorld = true)
    (xihga_BadWorld : PySem.W.findIn K (.ref cA_BadWorld) "__getattribute__" = some (some (.builtin "BaseException.__getattribute__")))
    (xihgt_BadWorld : PySem.W.findIn K (.ref cA_BadWorld) "__getattr__" = some none)
    (xihsub_BadWorld : PySem.W.subIn K (.ref cA_BadWorld) (.type "BaseException") = some true)
    (xiha_BadWorld : PySem.W.findIn K (.ref cA_BadWorld) "__class__" = some (some (.builtin "object.__class__")))
    (xihn_BadWorld : PySem.W.specialIn K (.builtin "object.__class__") "__get__" = some (some (.builtin "getset_descriptor.__get__")))
    (xihtk_BadWorld : PySem.W.takesIn K (.builtin "object.__class__") = some true)
    (xihm_BadWorld : PySem.W.mroIn K cA_BadWorld (.type "object") = some true)
    (kO_BadWorld_ValueError : PySem.W.kitOne K (.ref cA_BadWorld) (.type "ValueError") = some true)
    (kO_BadWorld_BadTheory : PySem.W.kitOne K (.ref cA_BadWorld) (.ref cA_BadTheory) = some false)
    (xfa_BadWorld : PySem.W.findIn K (.ref cA_BadWorld) "__getattribute__" = some (some (.builtin "BaseException.__getattribute__")))
    (xfg_BadWorld : PySem.W.findIn K (.ref cA_BadWorld) "__getattr__" = some none)
    (xfe_BadWorld : PySem.W.subIn K (.ref cA_BadWorld) (.type "BaseException") = some true)
    (xfd_BadWorld : PySem.W.hasDictIn K cA_BadWorld = true)
    (xn_BadWorld_part : PySem.W.findIn K (.ref cA_BadWorld) "part" = some none)
    (xn_BadWorld_at : PySem.W.findIn K (.ref cA_BadWorld) "at" = some none)
    (xm_BadWorld_CasesError : PySem.W.exmOne K (.ref cA_BadWorld) (.ref cA_CasesError) = some true)
    (t24 : PySem.W.findIn K (.ref cA_World) "__iter__" = some (some (.ref f24)))
    (l24 : K.lookup f24 = some ⟨oc24, od24, .func (PySem.W.fnOf "__iter__" "World.__iter__" (defArgs s_IWorld) (defBody s_IWorld) (defScope s_IWorld) .none kV24 dc24 pm24 an24 cd24 ct24), sl24⟩)
    (c24 : PySem.W.codeIn K cd24 "World.__iter__" = true)
    (k24 : PySem.W.keepIn K (.ref f24) = true)
    (i24 : PySem.W.isFn K (.ref f24) = true)
    (nl24 : PySem.W.findIn K (.ref cA_World) "__len__" = some none)
    (nh24 : PySem.W.findIn K (.ref cA_World) "__length_hint__" = some none)
    (ziter_World : PySem.W.nsIn K mainGlobals "iter" = some none)
    (ne_World : PySem.W.findIn K (.ref cA_World) "__ne__" = some (some (.builtin "object.__ne__")))
    (mo_World : PySem.W.mroIn K cA_World (.type "object") = some true)
    (mk_World : PySem.W.makesIn K cA_World = true)
    (kp_World : PySem.W.keepIn K (.ref cA_World) = true)
    : ∃ fd : FuncData, (∀ (s : Shared) (v : Value), BindsTo s fd ⟨[v], []⟩ [("script", v)]) ∧ ∀ base : Heap, K.In base → base.Ns mainGlobals mg → FnOk l.prog w K mg base (L2.CX l.prog w) 6 fa fd ["script"] (spR ⟨K, l.prog, w⟩ R_top) := by
  have e := hfa.symm.trans (PySem.W.mg_of X G a16)
  cases e
  have F1 := fun_mk (st := s_world_rule_fault) l1 c1 k1
  have m1 := PySem.W.mg_of X G a1
  have b1 := F1.binds (ps := ["kinds", "same", "facts"]) fun _ _ _ _ _ _ us hl => match us, hl with | [_, _, _], _ => rfl
  have F2 := fun_mk (st := s_law_cell) l2 c2 k2
  have m2 := PySem.W.mg_of X G a2
  have b2 := F2.binds (ps := ["script", "k"]) fun _ _ _ _ _ _ us hl => match us, hl with | [_, _], _ => rfl
  have F3 := fun_mk (st := s_law_digits) l3 c3 k3
  have m3 := PySem.W.mg_of X G a3
  have b3 := F3.binds (ps := ["cell", "many"]) fun _ _ _ _ _ _ us hl => match us, hl with | [_, _], _ => rfl
  have F4 := fun_mk (st := s_law_take) l4 c4 k4
  have m4 := PySem.W.mg_of X G a4
  have b4 := F4.binds (ps := ["row", "many"]) fun _ _ _ _ _ _ us hl => match us, hl with | [_, _], _ => rfl
  have F5 := fun_mk (st := s_law_words) l5 c5 k5
  have m5 := PySem.W.mg_of X G a5
  have b5 := F5.binds (ps := ["row", "count"]) fun _ _ _ _ _ _ us hl => match us, hl with | [_, _], _ => rfl
  have F6 := fun_mk (st := s_law_kinds) l6 c6 k6
  have m6 := PySem.W.mg_of X G a6
  have b6 := F6.binds (ps := ["row", "words", "count"]) fun _ _ _ _ _ _ us hl => match us, hl with | [_, _, _], _ => rfl
  have F7 := fun_mk (st := s_law_pairs) l7 c7 k7
  have m7 := PySem.W.mg_of X G a7
  have b7 := F7.binds (ps := ["row", "kinds", "most"]) fun _ _ _ _ _ _ us hl => match us, hl with | [_, _, _], _ => rfl
  have F8 := fun_mk (st := s_law_facts) l8 c8 k8
  have m8 := PySem.W.mg_of X G a8
  have b8 := F8.binds (ps := ["row", "words", "kinds", "most"]) fun _ _ _ _ _ _ us hl => match us, hl with | [_, _, _, _], _ => rfl
  have F9 := fun_mk (st := s_law_firsts) l9 c9 k9
  have m9 := PySem.W.mg_of X G a9
  have b9 := F9.binds (ps := ["count", "pairs"]) fun _ _ _ _ _ _ us hl => match us, hl with | [_, _], _ => rfl
  have F10 := fun_mk (st := s_law_told) l10 c10 k10
  have m10 := PySem.W.mg_of X G a10
  have b10 := F10.binds (ps := ["firsts", "facts"]) fun _ _ _ _ _ _ us hl => match us, hl with | [_, _], _ => rfl
  have F11 := fun_mk (st := s_law_fault) l11 c11 k11
  have m11 := PySem.W.mg_of X G a11
  have b11 := F11.binds (ps := ["kinds", "same", "facts"]) fun _ _ _ _ _ _ us hl => match us, hl with | [_, _, _], _ => rfl
  have F12 := fun_mk (st := s_law_changed) l12 c12 k12
  have m12 := PySem.W.mg_of X G a12
  have b12 := F12.binds (ps := ["row", "kinds", "same", "facts", "words"]) fun _ _ _ _ _ _ us hl => match us, hl with | [_, _, _, _, _], _ => rfl
  have F13 := fun_mk (st := s_law_refused) l13 c13 k13
  have m13 := PySem.W.mg_of X G a13
  have b13 := F13.binds (ps := ["kinds", "same", "facts"]) fun _ _ _ _ _ _ us hl => match us, hl with | [_, _, _], _ => rfl
  have F14 := fun_mk (st := s_law_seen) l14 c14 k14
  have m14 := PySem.W.mg_of X G a14
  have b14 := F14.binds (ps := ["world", "kinds", "same", "facts"]) fun _ _ _ _ _ _ us hl => match us, hl with | [_, _, _, _], _ => rfl
  have F15 := fun_mk (st := s_law_asked) l15 c15 k15
  have m15 := PySem.W.mg_of X G a15
  have b15 := F15.binds (ps := ["row", "world", "same", "facts", "words"]) fun _ _ _ _ _ _ us hl => match us, hl with | [_, _, _, _, _], _ => rfl
  have F16 := fun_mk (st := s_law) l16 c16 k16
  have F17 := fun_mk (st := s_World_init) l17 c17 k17
  have b17 := F17.binds (ps := ["self", "kinds", "same", "facts"]) fun _ _ _ _ _ _ us hl => match us, hl with | [_, _, _, _], _ => rfl
  have F18 := fun_mk (st := s_World_eq) l18 c18 k18
  have b18 := F18.binds (ps := ["self", "other"]) fun _ _ _ _ _ _ us hl => match us, hl with | [_, _], _ => rfl
  have F19 := fun_mk (st := s_World_contains) l19 c19 k19
  have b19 := F19.binds (ps := ["self", "fact"]) fun _ _ _ _ _ _ us hl => match us, hl with | [_, _], _ => rfl
  have F20 := fun_mk (st := s_World_first_things) l20 c20 k20
  have b20 := F20.binds (ps := ["self"]) fun _ _ _ _ _ _ us hl => match us, hl with | [_], _ => rfl
  have F21 := fun_mk (st := s_World_of_kind) l21 c21 k21
  have b21 := F21.binds (ps := ["self", "kind"]) fun _ _ _ _ _ _ us hl => match us, hl with | [_, _], _ => rfl
  have F22 := fun_mk (st := s_World_joined) l22 c22 k22
  have b22 := F22.binds (ps := ["self", "kinds", "pairs", "facts"]) fun _ _ _ _ _ _ us hl => match us, hl with | [_, _, _, _], _ => rfl
  have m_len := PySem.W.mg_none_of X G z_len
  have m_min := PySem.W.mg_none_of X G z_min
  have m_enumerate := PySem.W.mg_none_of X G z_enumerate
  have m_all := PySem.W.mg_none_of X G z_all
  have kC_World : Cls K cA_World := ⟨pg_World, hd_World, po_World, sa_World⟩
  have m_isinstance := PySem.W.mg_none_of X G z_isinstance
  have mg_World := PySem.W.mg_of X G aC_World
  have m_tuple := PySem.W.mg_none_of X G z_tuple
  have m_list := PySem.W.mg_none_of X G z_list
  have m_range := PySem.W.mg_none_of X G z_range
  have m_max := PySem.W.mg_none_of X G z_max
  have m_sorted := PySem.W.mg_none_of X G z_sorted
  have m_int := PySem.W.mg_none_of X G z_int
  have m_abs := PySem.W.mg_none_of X G z_abs
  have m_ValueError := PySem.W.mg_none_of X G z_ValueError
  have mg_BadWorld := PySem.W.mg_of X G aC_BadWorld
  have mg_BadTheory := PySem.W.mg_of X G aC_BadTheory
  have mg_CasesError := PySem.W.mg_of X G aC_CasesError
  have F24 := fun_mk (st := s_IWorld) l24 c24 k24
  have b24 := F24.binds (ps := ["self"]) fun _ _ _ _ _ _ us hl => match us, hl with | [_], _ => rfl
  have T_BadWorld : OexC K cA_BadWorld := ⟨⟨_, _, _, _, _, _, _, _, _, _, _, _, _, _, _, x1_BadWorld, x2_BadWorld⟩, x3_BadWorld, x4_BadWorld, x5_BadWorld, x6_BadWorld⟩
  have oI_World : OwI K cA_World := ⟨kC_World, oa_World, on_World, ot_World, om_World⟩
  have xi_BadWorld : ExI K cA_BadWorld := ⟨xihcl_BadWorld, xihga_BadWorld, xihgt_BadWorld, xihsub_BadWorld, xiha_BadWorld, xihn_BadWorld, xihtk_BadWorld, xihm_BadWorld⟩
  have xf_BadWorld : XfC K cA_BadWorld := ⟨xfa_BadWorld, xfg_BadWorld, xfe_BadWorld, xfd_BadWorld⟩
  have X_BadWorld : ∀ base : Heap, Xle l.prog w K mg base 1 "BadWorld" cA_BadWorld ["part", "at"] okV := fun base => ⟨⟨_, _, _, exc_fn2 (k := 0) (st := s_XBadWorld) (f := f23) (D := cA_BadWorld) (qual := "BadWorld.__init__") (x := "__init__") ⟨⟨_, _, _, _, _, _, _, _, rfl, l23⟩, c23, ⟨_, _, _, _, _, _, d23, e23, g23⟩, ⟨_, _, _, h23⟩, tp23⟩ ⟨s1_BadWorld, s2_BadWorld, s3_BadWorld, s4_BadWorld, T_BadWorld⟩ (PySem.W.mg_none_of X G zsuper_BadWorld) rfl rfl rfl nsc_BadWorld rfl (by decide +kernel) (by decide) xq_BadWorld_part xq_BadWorld_at (fun env => ⟨_, rfl⟩), t23, y23, PySem.W.mg_of X G aC_BadWorld, .all fun us hl => match us, hl with | [_, _, _], _ => rfl⟩, T_BadWorld⟩
  have I_World : ∀ base : Heap, Itl l.prog w K mg base 1 cA_World "facts" := fun base => ⟨_, _, ⟨t24, i24, nl24, nh24⟩, it_fn (k := 0) F24 sc_IWorld rfl (PySem.W.mg_none_of X G ziter_World) rfl kC_World nA_World_facts rfl, b24⟩
  have C_world_rule_fault : ∀ base : Heap, Cle l.prog w K mg base 1 "world_rule_fault" (R_world_rule_fault (⟨cA_CasesError, cA_BadTheory, cA_BadWorld, cA_World⟩ : Cs)) := fun base => ok_world_rule_fault F1 m1 b1 m_len m_min m_enumerate m_all
  have M_World_eq : ∀ base : Heap, Mle l.prog w K mg base 1 cA_World "__eq__" (R_World_eq (⟨cA_CasesError, cA_BadTheory, cA_BadWorld, cA_World⟩ : Cs)) := fun base => ⟨_, _, _, ok_World_eq F18 m_isinstance mg_World kO_World_World oI_World kC_World nA_World_kinds nA_World_same nA_World_facts, ⟨t18, i18, k18⟩, b18⟩
  have M_World_contains : ∀ base : Heap, Mle l.prog w K mg base 1 cA_World "__contains__" (R_World_contains (⟨cA_CasesError, cA_BadTheory, cA_BadWorld, cA_World⟩ : Cs)) := fun base => ⟨_, _, _, ok_World_contains F19 m_tuple kC_World nA_World_same nA_World_known, ⟨t19, i19, k19⟩, b19⟩
  have M_World_first_things : ∀ base : Heap, Mle l.prog w K mg base 1 cA_World "first_things" (R_World_first_things (⟨cA_CasesError, cA_BadTheory, cA_BadWorld, cA_World⟩ : Cs)) := fun base => ⟨_, _, _, ok_World_first_things F20 m_enumerate kC_World nA_World_same, ⟨t20, i20, k20⟩, b20⟩
  have M_World_of_kind : ∀ base : Heap, Mle l.prog w K mg base 1 cA_World "of_kind" (R_World_of_kind (⟨cA_CasesError, cA_BadTheory, cA_BadWorld, cA_World⟩ : Cs)) := fun base => ⟨_, _, _, ok_World_of_kind F21 m_enumerate kC_World nA_World_same nA_World_kinds, ⟨t21, i21, k21⟩, b21⟩
  have C_law_cell : ∀ base : Heap, Cle l.prog w K mg base 1 "_law_cell" (R_law_cell (⟨cA_CasesError, cA_BadTheory, cA_BadWorld, cA_World⟩ : Cs)) := fun base => ok_law_cell F2 m2 b2 m_len m_int
  have C_law_digits : ∀ base : Heap, Cle l.prog w K mg base 1 "_law_digits" (R_law_digits (⟨cA_CasesError, cA_BadTheory, cA_BadWorld, cA_World⟩ : Cs)) := fun base => ok_law_digits F3 m3 b3 m_abs m_int m_range
  have C_law_take : ∀ base : Heap, Cle l.prog w K mg base 1 "_law_take" (R_law_take (⟨cA_CasesError, cA_BadTheory, cA_BadWorld, cA_World⟩ : Cs)) := fun base => ok_law_take F4 m4 b4 m_len m_int
  have C_law_firsts : ∀ base : Heap, Cle l.prog w K mg base 1 "_law_firsts" (R_law_firsts (⟨cA_CasesError, cA_BadTheory, cA_BadWorld, cA_World⟩ : Cs)) := fun base => ok_law_firsts F9 m9 b9 m_range m_min m_max m_tuple
  have C_law_told : ∀ base : Heap, Cle l.prog w K mg base 1 "_law_told" (R_law_told (⟨cA_CasesError, cA_BadTheory, cA_BadWorld, cA_World⟩ : Cs)) := fun base => ok_law_told F10 m10 b10 m_tuple m_sorted
  have C_law_fault : ∀ base : Heap, Cle l.prog w K mg base 1 "_law_fault" (R_law_fault (⟨cA_CasesError, cA_BadTheory, cA_BadWorld, cA_World⟩ : Cs)) := fun base => ok_law_fault F11 m11 b11 m_len m_min m_range
  have C_law_words : ∀ base : Heap, Cle l.prog w K mg base 2 "_law_words" (R_law_words (⟨cA_CasesError, cA_BadTheory, cA_BadWorld, cA_World⟩ : Cs)) := fun base => ok_law_words F5 m5 b5 m_range (C_law_take base)
  have C_law_kinds : ∀ base : Heap, Cle l.prog w K mg base 2 "_law_kinds" (R_law_kinds (⟨cA_CasesError, cA_BadTheory, cA_BadWorld, cA_World⟩ : Cs)) := fun base => ok_law_kinds F6 m6 b6 m_range m_tuple (C_law_take base)
  have C_law_pairs : ∀ base : Heap, Cle l.prog w K mg base 2 "_law_pairs" (R_law_pairs (⟨cA_CasesError, cA_BadTheory, cA_BadWorld, cA_World⟩ : Cs)) := fun base => ok_law_pairs F7 m7 b7 m_range m_len (C_law_take base)
  have C_law_facts : ∀ base : Heap, Cle l.prog w K mg base 2 "_law_facts" (R_law_facts (⟨cA_CasesError, cA_BadTheory, cA_BadWorld, cA_World⟩ : Cs)) := fun base => ok_law_facts F8 m8 b8 m_range m_len m_tuple (C_law_take base)
  have C_law_changed : ∀ base : Heap, Cle l.prog w K mg base 2 "_law_changed" (R_law_changed (⟨cA_CasesError, cA_BadTheory, cA_BadWorld, cA_World⟩ : Cs)) := fun base => ok_law_changed F12 m12 b12 m_len m_max m_sorted m_tuple (C_law_take base)
  have C_law_asked : ∀ base : Heap, Cle l.prog w K mg base 2 "_law_asked" (R_law_asked (⟨cA_CasesError, cA_BadTheory, cA_BadWorld, cA_World⟩ : Cs)) := fun base => ok_law_asked F15 m15 b15 m_range m_len m_tuple m_max (C_law_take base) (M_World_contains base)
  have Z_World : ∀ base : Heap, Kle l.prog w K mg base 3 "World" cA_World (R_World_init (⟨cA_CasesError, cA_BadTheory, cA_BadWorld, cA_World⟩ : Cs)) := fun base => ⟨_, _, _, ok_World_init F17 (C_world_rule_fault base) (X_BadWorld base) kC_World nA_World_known nA_World_facts nA_World_same nA_World_kinds, ⟨mk_World, t17, i17, kp_World⟩, PySem.W.mg_of X G aC_World, b17⟩
  have M_World_joined : ∀ base : Heap, Mle l.prog w K mg base 5 cA_World "joined" (R_World_joined (⟨cA_CasesError, cA_BadTheory, cA_BadWorld, cA_World⟩ : Cs)) := fun base => ⟨_, _, _, ok_World_joined F22 m_len m_list m_range m_min m_max m_tuple m_sorted kC_World nA_World_kinds nA_World_same nA_World_facts (Z_World base), ⟨t22, i22, k22⟩, b22⟩
  have C_law_refused : ∀ base : Heap, Cle l.prog w K mg base 5 "_law_refused" (R_law_refused (⟨cA_CasesError, cA_BadTheory, cA_BadWorld, cA_World⟩ : Cs)) := fun base => ok_law_refused F13 m13 b13 m_isinstance m_ValueError (Z_World base) mg_BadWorld kO_BadWorld_BadWorld xi_BadWorld kO_BadWorld_ValueError mg_BadTheory kO_BadWorld_BadTheory xf_BadWorld xn_BadWorld_part xn_BadWorld_at mg_CasesError xm_BadWorld_CasesError
  have C_law_seen : ∀ base : Heap, Cle l.prog w K mg base 5 "_law_seen" (R_law_seen (⟨cA_CasesError, cA_BadTheory, cA_BadWorld, cA_World⟩ : Cs)) := fun base => ok_law_seen F14 m14 b14 m_isinstance m_tuple m_len m_range m_list m_sorted mg_World kO_World_World oI_World kC_World nA_World_kinds nA_World_same nA_World_facts (M_World_first_things base) (I_World base) (M_World_of_kind base) (Z_World base) (M_World_eq base) ne_World mo_World
  refine ⟨PySem.W.fnOf "law" "law" (defArgs s_law) (defBody s_law) (defScope s_law) .none kV16 dc16 pm16 an16 cd16 ct16, fun s v => .of_eq rfl, fun base _ _ => ?_⟩
  exact (ok_law (c_ := (⟨cA_CasesError, cA_BadTheory, cA_BadWorld, cA_World⟩ : Cs)) F16 m_list m_len (C_law_cell base) (C_law_digits base) (C_law_words base) (C_law_take base) (C_law_kinds base) (C_law_pairs base) (C_law_firsts base) (C_law_facts base) (C_law_told base) (Z_World base) (M_World_joined base) kC_World (C_law_seen base) (C_law_asked base) (M_World_eq base) (C_law_changed base) (C_law_fault base) (C_law_refused base)).imp fun vs H Q E ⟨ars, out, F, hR, q⟩ => ⟨ars, out, F, top_law _ hR, q⟩
end K05
set_option maxHeartbeats 40000000
open PySem PySem.W PyProof.Rows
set_option maxHeartbeats 0 in
theorem PySem.Challenge.cw_casesandwitnesses_k05_joined_worlds_holds : PySem.Challenge.rw_casesandwitnesses_k05_joined_worlds.Holds := by
  w_on; o_law; k_head; (case hw => w_witness2)
  k_fill
  refine L2.walk_of (l := PySem.Challenge.rw_casesandwitnesses_k05_joined_worlds) (n := 63) (k := 6) (x := "script") (CX := fun w => L2.CX (PySem.Challenge.rw_casesandwitnesses_k05_joined_worlds).prog w) (sp := fun w => PD.spR ⟨_, (PySem.Challenge.rw_casesandwitnesses_k05_joined_worlds).prog, w⟩ K05.R_top) rfl (by decide) rfl ⟨rfl, by decide, by decide⟩ (fun w h Y => PySem.W.kIn_of Y) ?F (fun _ _ a ns hl _ hS => PD.law_sp ⟨ns, rfl, rfl⟩ hS) (fun w H s e s' h => ?E)
  case E => obtain ⟨_, _, _, _, _, _, _, _, _, _, _, _, z⟩ := h; exact z
  case F =>
    intro w mg fa h KX G hmg
    refine' K05.all_mk KX G hmg ?aC_CasesError ?aC_BadTheory ?aC_BadWorld ?aC_World ?a1 ?l1 ?c1 ?k1 ?a2 ?l2 ?c2 ?k2 ?a3 ?l3 ?c3 ?k3 ?a4 ?l4 ?c4 ?k4 ?a5 ?l5 ?c5 ?k5 ?a6 ?l6 ?c6 ?k6 ?a7 ?l7 ?c7 ?k7 ?a8 ?l8 ?c8 ?k8 ?a9 ?l9 ?c9 ?k9 ?a10 ?l10 ?c10 ?k10 ?a11 ?l11 ?c11 ?k11 ?a12 ?l12 ?c12 ?k12 ?a13 ?l13 ?c13 ?k13 ?a14 ?l14 ?c14 ?k14 ?a15 ?l15 ?c15 ?k15 ?a16 ?l16 ?c16 ?k16 ?t17 ?l17 ?c17 ?k17 ?i17 ?t18 ?l18 ?c18 ?k18 ?i18 ?t19 ?l19 ?c19 ?k19 ?i19 ?t20 ?l20 ?c20 ?k20 ?i20 ?t21 ?l21 ?c21 ?k21 ?i21 ?t22 ?l22 ?c22 ?k22 ?i22 ?z_len ?z_min ?z_enumerate ?z_all ?t23 ?y23 ?l23 ?c23 ?d23 ?e23 ?g23 ?h23 ?tp23 ?s1_BadWorld ?s2_BadWorld ?s3_BadWorld ?s4_BadWorld ?x1_BadWorld ?x2_BadWorld ?x3_BadWorld ?x4_BadWorld ?x5_BadWorld ?x6_BadWorld ?xq_BadWorld_part ?xq_BadWorld_at ?zsuper_BadWorld ?pg_World ?hd_World ?po_World ?sa_World ?nA_World_known ?nA_World_facts ?nA_World_same ?nA_World_kinds ?z_isinstance ?kO_World_World ?oa_World ?on_World ?ot_World ?om_World ?z_tuple ?z_list ?z_range ?z_max ?z_sorted ?z_int ?z_abs ?z_ValueError ?kO_BadWorld_BadWorld ?xihcl_BadWorld ?xihga_BadWorld ?xihgt_BadWorld ?xihsub_BadWorld ?xiha_BadWorld ?xihn_BadWorld ?xihtk_BadWorld ?xihm_BadWorld ?kO_BadWorld_ValueError ?kO_BadWorld_BadTheory ?xfa_BadWorld ?xfg_BadWorld ?xfe_BadWorld ?xfd_BadWorld ?xn_BadWorld_part ?xn_BadWorld_at ?xm_BadWorld_CasesError ?t24 ?l24 ?c24 ?k24 ?i24 ?nl24 ?nh24 ?ziter_World ?ne_World ?mo_World ?mk_World ?kp_World
    (case aC_CasesError => k_is); (case aC_BadTheory => k_is); (case aC_BadWorld => k_is); (case aC_World => k_is); (case a1 => k_is); (case l1 => k_is); (case c1 => k_is); (case k1 => k_is); (case a2 => k_is); (case l2 => k_is); (case c2 => k_is); (case k2 => k_is); (case a3 => k_is); (case l3 => k_is); (case c3 => k_is); (case k3 => k_is); (case a4 => k_is); (case l4 => k_is); (case c4 => k_is); (case k4 => k_is); (case a5 => k_is); (case l5 => k_is); (case c5 => k_is); (case k5 => k_is); (case a6 => k_is); (case l6 => k_is); (case c6 => k_is); (case k6 => k_is); (case a7 => k_is); (case l7 => k_is); (case c7 => k_is); (case k7 => k_is); (case a8 => k_is); (case l8 => k_is); (case c8 => k_is); (case k8 => k_is); (case a9 => k_is); (case l9 => k_is); (case c9 => k_is); (case k9 => k_is); (case a10 => k_is); (case l10 => k_is); (case c10 => k_is); (case k10 => k_is); (case a11 => k_is); (case l11 => k_is); (case c11 => k_is); (case k11 => k_is); (case a12 => k_is); (case l12 => k_is); (case c12 => k_is); (case k12 => k_is); (case a13 => k_is); (case l13 => k_is); (case c13 => k_is); (case k13 => k_is); (case a14 => k_is); (case l14 => k_is); (case c14 => k_is); (case k14 => k_is); (case a15 => k_is); (case l15 => k_is); (case c15 => k_is); (case k15 => k_is); (case a16 => k_is); (case l16 => k_is); (case c16 => k_is); (case k16 => k_is); (case t17 => k_is); (case l17 => k_is); (case c17 => k_is); (case k17 => k_is); (case i17 => k_is); (case t18 => k_is); (case l18 => k_is); (case c18 => k_is); (case k18 => k_is); (case i18 => k_is); (case t19 => k_is); (case l19 => k_is); (case c19 => k_is); (case k19 => k_is); (case i19 => k_is); (case t20 => k_is); (case l20 => k_is); (case c20 => k_is); (case k20 => k_is); (case i20 => k_is); (case t21 => k_is); (case l21 => k_is); (case c21 => k_is); (case k21 => k_is); (case i21 => k_is); (case t22 => k_is); (case l22 => k_is); (case c22 => k_is); (case k22 => k_is); (case i22 => k_is); (case z_len => k_is); (case z_min => k_is); (case z_enumerate => k_is); (case z_all => k_is); (case t23 => k_is); (case y23 => k_is); (case l23 => k_is); (case c23 => k_is); (case d23 => k_is); (case e23 => (first | rfl | decide)); (case g23 => (first | rfl | decide +kernel)); (case h23 => k_is); (case tp23 => (first | rfl | decide +kernel)); (case s1_BadWorld => k_is); (case s2_BadWorld => ks_is); (case s3_BadWorld => k_is); (case s4_BadWorld => k_is); (case x1_BadWorld => k_is); (case x2_BadWorld => (first | rfl | decide)); (case x3_BadWorld => k_is); (case x4_BadWorld => k_is); (case x5_BadWorld => k_is); (case x6_BadWorld => k_is); (case xq_BadWorld_part => k_is); (case xq_BadWorld_at => k_is); (case zsuper_BadWorld => k_is); (case pg_World => k_is); (case hd_World => k_is); (case po_World => k_is); (case sa_World => k_is); (case nA_World_known => k_is); (case nA_World_facts => k_is); (case nA_World_same => k_is); (case nA_World_kinds => k_is); (case z_isinstance => k_is); (case kO_World_World => kit_is); (case oa_World => k_is); (case on_World => k_is); (case ot_World => k_is); (case om_World => k_is); (case z_tuple => k_is); (case z_list => k_is); (case z_range => k_is); (case z_max => k_is); (case z_sorted => k_is); (case z_int => k_is); (case z_abs => k_is); (case z_ValueError => k_is); (case kO_BadWorld_BadWorld => kit_is); (case xihcl_BadWorld => k_is); (case xihga_BadWorld => k_is); (case xihgt_BadWorld => k_is); (case xihsub_BadWorld => k_is); (case xiha_BadWorld => k_is); (case xihn_BadWorld => k_is); (case xihtk_BadWorld => k_is); (case xihm_BadWorld => k_is); (case kO_BadWorld_ValueError => kit_is); (case kO_BadWorld_BadTheory => kit_is); (case xfa_BadWorld => k_is); (case xfg_BadWorld => k_is); (case xfe_BadWorld => k_is); (case xfd_BadWorld => k_is); (case xn_BadWorld_part => k_is); (case xn_BadWorld_at => k_is); (case xm_BadWorld_CasesError => kts_exm); (case t24 => k_is); (case l24 => k_is); (case c24 => k_is); (case k24 => k_is); (case i24 => k_is); (case nl24 => k_is); (case nh24 => k_is); (case ziter_World => k_is); (case ne_World => k_is); (case mo_World => k_is); (case mk_World => k_is); (case kp_World => k_is)
