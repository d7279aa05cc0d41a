import PyProof.Rows.All
import Wide.All
import OpenK.AllK
import Wide.FinOn
import HandS.ForMost
import HandS.Flow
import HandS.Style
import HandS.IsInst
import KE.SortData
import KE.KRevSl
import PyProof.StrOps2
import HandS.Ends
import PySem.Challenge.RW_casesandwitnesses_k43_least_covers
set_option Elab.async false
set_option linter.all false
set_option maxRecDepth 100000
/-! PD: a layer of data over the hand layer: what stands in the frame and the heap is told as plain data. -/
namespace PD
open PySem PySem.Spec PyProof.Rows L2

/-- data -/
inductive D where
  | non | bl (b : Bool) | int (i : Int) | str (x : Str)
  | tup (xs : List D) | lst (xs : List D)
deriving Inhabited

mutual
/-- the value v stands for the data d, all of its objects within F -/
inductive Rep (K : PySem.W.Frag) (F : Hp) : V → D → Prop
  | non : Rep K F .non .non
  | bl (b : Bool) : Rep K F (.bl b) (.bl b)
  | int (i : Int) : Rep K F (.int i) (.int i)
  | str (x : Str) : Rep K F (.str x) (.str x)
  | tup {a : Addr} {vs : List V} {ds : List D} : SqT K F a vs → RepL K F vs ds → Rep K F (.ref a) (.tup ds)
  | lst {a : Addr} {vs : List V} {ds : List D} : SqL K F a vs → RepL K F vs ds → Rep K F (.ref a) (.lst ds)
inductive RepL (K : PySem.W.Frag) (F : Hp) : List V → List D → Prop
  | nil : RepL K F [] []
  | cons {v : V} {vs : List V} {d : D} {ds : List D} : Rep K F v d → RepL K F vs ds → RepL K F (v :: vs) (d :: ds)
end

def Le (F H : Hp) : Prop := ∀ a o, F a = some o → H a = some o
theorem Le.refl (F : Hp) : Le F F := fun _ _ h => h
theorem Le.trans {F G H : Hp} (a : Le F G) (b : Le G H) : Le F H := fun x o h => b x o (a x o h)
theorem Le.seqL {K : PySem.W.Frag} {F H : Hp} {a : Addr} {xs : List V} (e : Le F H) (h : SqL K F a xs) : SqL K H a xs := by
  rcases h with (h | ⟨o, h⟩) | h
  · exact .inl (.inl (e _ _ h))
  · exact .inl (.inr ⟨o, e _ _ h⟩)
  · exact .inr h
theorem Le.seqT {K : PySem.W.Frag} {F H : Hp} {a : Addr} {xs : List V} (e : Le F H) (h : SqT K F a xs) : SqT K H a xs := by
  rcases h with (h | ⟨o, h⟩) | h
  · exact .inl (.inl (e _ _ h))
  · exact .inl (.inr ⟨o, e _ _ h⟩)
  · exact .inr h
mutual
theorem Rep.mono {K : PySem.W.Frag} {F G : Hp} (l : Le F G) : ∀ {d : D} {v : V}, Rep K F v d → Rep K G v d
  | .non, _, .non => .non
  | .bl _, _, .bl b => .bl b
  | .int _, _, .int i => .int i
  | .str _, _, .str x => .str x
  | .tup _, _, .tup s r => .tup (l.seqT s) (RepL.mono l r)
  | .lst _, _, .lst s r => .lst (l.seqL s) (RepL.mono l r)
theorem RepL.mono {K : PySem.W.Frag} {F G : Hp} (l : Le F G) : ∀ {ds : List D} {vs : List V}, RepL K F vs ds → RepL K G vs ds
  | [], _, .nil => .nil
  | _ :: _, _, .cons a b => .cons (Rep.mono l a) (RepL.mono l b)
end
section
variable {K : PySem.W.Frag} {F : Hp}
theorem RepL.length : ∀ {vs : List V} {ds : List D}, RepL K F vs ds → vs.length = ds.length
  | _, _, .nil => rfl
  | _, _, .cons _ t => congrArg (· + 1) (RepL.length t)
theorem RepL.get : ∀ {vs : List V} {ds : List D} {i : Nat} {d : D}, RepL K F vs ds → ds[i]? = some d → ∃ v, vs[i]? = some v ∧ Rep K F v d
  | _, _, _, _, .nil, e => by simp at e
  | _, _, 0, _, .cons r _, e => by simp at e; subst e; exact ⟨_, rfl, r⟩
  | _, _, i + 1, d, .cons _ t, e => by
    obtain ⟨v, h1, h2⟩ := RepL.get (i := i) (d := d) t (by simpa using e)
    exact ⟨v, by simpa using h1, h2⟩
theorem RepL.getV : ∀ {vs : List V} {ds : List D} {i : Nat} {v : V}, RepL K F vs ds → vs[i]? = some v → ∃ d, ds[i]? = some d ∧ Rep K F v d
  | _, _, _, _, .nil, e => by simp at e
  | _, _, 0, _, .cons r _, e => by simp at e; subst e; exact ⟨_, rfl, r⟩
  | _, _, i + 1, v, .cons _ t, e => by
    obtain ⟨d, h1, h2⟩ := RepL.getV (i := i) (v := v) t (by simpa using e)
    exact ⟨d, by simpa using h1, h2⟩
theorem RepL.append : ∀ {vs ws : List V} {ds es : List D}, RepL K F vs ds → RepL K F ws es → RepL K F (vs ++ ws) (ds ++ es)
  | _, _, _, _, .nil, s => s
  | _, _, _, _, .cons r t, s => .cons r (RepL.append t s)
theorem RepL.one {v : V} {d : D} (r : Rep K F v d) : RepL K F [v] [d] := .cons r .nil
theorem RepL.take : ∀ {vs : List V} {ds : List D} (n : Nat), RepL K F vs ds → RepL K F (vs.take n) (ds.take n)
  | _, _, 0, _ => .nil
  | _, _, _ + 1, .nil => .nil
  | _, _, n + 1, .cons r t => .cons r (RepL.take n t)
theorem RepL.drop : ∀ {vs : List V} {ds : List D} (n : Nat), RepL K F vs ds → RepL K F (vs.drop n) (ds.drop n)
  | _, _, 0, r => r
  | _, _, _ + 1, .nil => .nil
  | _, _, n + 1, .cons _ t => RepL.drop n t
theorem RepL.reverse {vs : List V} {ds : List D} (h : RepL K F vs ds) : RepL K F vs.reverse ds.reverse := by
  induction vs generalizing ds with
  | nil => cases h; exact .nil
  | cons v vs ih =>
    cases h with
    | cons r t =>
      rw [List.reverse_cons, List.reverse_cons]
      exact RepL.append (ih t) (RepL.one r)
theorem RepL.dropLast {vs : List V} {ds : List D} (h : RepL K F vs ds) : RepL K F vs.dropLast ds.dropLast := by
  rw [List.dropLast_eq_take, List.dropLast_eq_take, h.length]
  exact h.take _
theorem RepL.ints : ∀ {ns : List Int} {vs : List V}, RepL K F vs (ns.map D.int) → vs = ns.map V.int
  | [], _, .nil => rfl
  | _ :: _, _, .cons r t => by cases r; rw [RepL.ints t]; rfl
theorem RepL.bls : ∀ {ns : List Bool} {vs : List V}, RepL K F vs (ns.map D.bl) → vs = ns.map V.bl
  | [], _, .nil => rfl
  | _ :: _, _, .cons r t => by cases r; rw [RepL.bls t]; rfl
theorem RepL.strs : ∀ {ns : List Str} {vs : List V}, RepL K F vs (ns.map D.str) → vs = ns.map V.str
  | [], _, .nil => rfl
  | _ :: _, _, .cons r t => by cases r; rw [RepL.strs t]; rfl
theorem repL_ints : ∀ (ns : List Int), RepL K F (ns.map V.int) (ns.map D.int)
  | [] => .nil
  | _ :: r => .cons (.int _) (repL_ints r)
theorem repL_strs : ∀ (ns : List Str), RepL K F (ns.map V.str) (ns.map D.str)
  | [] => .nil
  | _ :: r => .cons (.str _) (repL_strs r)
end

/-- what an owned object holds -/
inductive Oc where
  | lst (ds : List D)
def OcOk (K : PySem.W.Frag) (F : Hp) (ho : HO) : Oc → Prop
  | .lst ds => ∃ vs, ho = .lst vs ∧ RepL K F vs ds
def Oc.d : Oc → D
  | .lst ds => .lst ds
theorem OcOk.mono {K : PySem.W.Frag} {F G : Hp} {ho : HO} {c : Oc} (l : Le F G) (h : OcOk K F ho c) : OcOk K G ho c := by
  cases c with
  | lst ds => obtain ⟨vs, e, r⟩ := h; exact ⟨vs, e, r.mono l⟩
theorem OcOk.rep {K : PySem.W.Frag} {F : Hp} {ho : HO} {c : Oc} {a : Addr} (h : OcOk K F ho c) (e : F a = some ho) : Rep K F (.ref a) c.d := by
  cases c with
  | lst ds => obtain ⟨vs, rfl, r⟩ := h; exact .lst (SqL.of e) r

/-- a slot: nothing is known; data; an object that this slot alone refers to (by its address, where it is known) -/
inductive Sl where
  | any | dat (d : D) | own (o : Option Addr) (c : Oc)
abbrev Env' := List Sl
def SlOk (K : PySem.W.Frag) (F H : Hp) (o : Option V) : Sl → Prop
  | .any => True
  | .dat d => ∃ v, o = some v ∧ Rep K F v d
  | .own ao c => ∃ a ho, o = some (.ref a) ∧ (∀ b, ao = some b → b = a) ∧ H a = some ho ∧ F a = none ∧ OcOk K F ho c
def Owned (Γ : Env') (σ : L2.St) (a : Addr) : Prop := ∃ (i : Nat) (ao : Option Addr) (c : Oc), Γ[i]? = some (.own ao c) ∧ σ[i]? = some (some (.ref a))
structure Holds (K : PySem.W.Frag) (F : Hp) (Γ : Env') (σ : L2.St) (H : Hp) : Prop where
  le : Le F H
  len : Γ.length = σ.length
  sl : ∀ (i : Nat) (s : Sl), Γ[i]? = some s → SlOk K F H (σ[i]?.join) s
  dis : ∀ (i j : Nat) (ai aj : Option Addr) (ci cj : Oc) (a : Addr), Γ[i]? = some (.own ai ci) → Γ[j]? = some (.own aj cj) → σ[i]? = some (some (.ref a)) → σ[j]? = some (some (.ref a)) → i = j

/-- what may have changed: all but what O owns is as it was, and what F did not have it does not have now, but for new objects and what O owned -/
structure Ext (O : Addr → Prop) (F H F' H' : Hp) : Prop where
  mono : Le F F'
  keep : ∀ a o, H a = some o → F a = none → ¬ O a → H' a = some o ∧ F' a = none
  there : ∀ a o, H a = some o → ∃ o', H' a = some o'
theorem Ext.refl {O : Addr → Prop} {F H : Hp} : Ext O F H F H := ⟨Le.refl F, fun _ _ h f _ => ⟨h, f⟩, fun _ _ h => ⟨_, h⟩⟩
theorem Ext.trans {O O1 : Addr → Prop} {F H F1 H1 F2 H2 : Hp} (a : Ext O F H F1 H1) (b : Ext O1 F1 H1 F2 H2) (s : ∀ x, O1 x → O x ∨ H x = none) : Ext O F H F2 H2 where
  mono := a.mono.trans b.mono
  keep := fun x o h f n => by
    obtain ⟨h1, f1⟩ := a.keep x o h f n
    refine b.keep x o h1 f1 fun z => ?_
    rcases s x z with z | z
    · exact n z
    · rw [h] at z; cases z
  there := fun x o h => by
    obtain ⟨o1, h1⟩ := a.there x o h
    exact b.there x o1 h1
theorem Ext.fresh {O : Addr → Prop} {F H F' H' : Hp} (a : Ext O F H F' H') {x : Addr} (h : H' x = none) : H x = none := by
  cases q : H x with
  | none => rfl
  | some o => obtain ⟨o', e⟩ := a.there x o q; rw [h] at e; cases e

structure Post (K : PySem.W.Frag) (Γ : Env') (σ : L2.St) (F H : Hp) (Γ' : Env') (σ' : L2.St) (F' H' : Hp) : Prop where
  ext : Ext (Owned Γ σ) F H F' H'
  ok : Holds K F' Γ' σ' H'
  sub : ∀ a, Owned Γ' σ' a → Owned Γ σ a ∨ H a = none
section
variable {K : PySem.W.Frag} {Γ Γ1 Γ2 : Env'} {σ σ1 σ2 : L2.St} {F H F1 H1 F2 H2 : Hp}
theorem Post.refl (h : Holds K F Γ σ H) : Post K Γ σ F H Γ σ F H := ⟨.refl, h, fun _ h => .inl h⟩
theorem Post.trans (a : Post K Γ σ F H Γ1 σ1 F1 H1) (b : Post K Γ1 σ1 F1 H1 Γ2 σ2 F2 H2) : Post K Γ σ F H Γ2 σ2 F2 H2 :=
  ⟨a.ext.trans b.ext a.sub, b.ok, fun x hx => by
    rcases b.sub x hx with h | h
    · exact a.sub x h
    · exact .inr (a.ext.fresh h)⟩
end

/-- a result: data; a new object that nothing else refers to; the object of the slot i -/
inductive Rv where
  | dat (d : D) | own (c : Oc) | bor (i : Nat)
/-- A: where a new object may lie -/
def RvOk (K : PySem.W.Frag) (F : Hp) (Γ : Env') (σ : L2.St) (H : Hp) (A : Addr → Prop) (v : V) : Rv → Prop
  | .dat d => Rep K F v d
  | .own c => ∃ a ho, v = .ref a ∧ H a = some ho ∧ F a = none ∧ OcOk K F ho c ∧ ¬ Owned Γ σ a ∧ A a
  | .bor i => σ[i]? = some (some v)
theorem RvOk.later {K : PySem.W.Frag} {Γ Γ2 : Env'} {σ : L2.St} {F H F2 H2 : Hp} {A B : Addr → Prop} {v : V} {r : Rv} (h : RvOk K F Γ σ H A v r) (p : Post K Γ σ F H Γ2 σ F2 H2) (hA : ∀ a, A a → B a) : RvOk K F2 Γ2 σ H2 B v r := by
  cases r with
  | dat d => exact Rep.mono p.ext.mono h
  | own c =>
    obtain ⟨a, ho, e, h1, h2, h3, h4, h5⟩ := h
    obtain ⟨k1, k2⟩ := p.ext.keep a ho h1 h2 h4
    refine ⟨a, ho, e, k1, k2, h3.mono p.ext.mono, fun z => ?_, hA a h5⟩
    rcases p.sub a z with z | z
    · exact h4 z
    · rw [h1] at z; cases z
  | bor i => exact h

/-- the readings -/
def NewAt (Γ : Env') (σ : L2.St) (H : Hp) (a : Addr) : Prop := Owned Γ σ a ∨ H a = none
def tEV (K : PySem.W.Frag) (Γ : Env') (r : Rv) (Γ' : Env') : TE := fun σ H Q => ∃ F, Holds K F Γ σ H ∧ ∀ F' H' v, Post K Γ σ F H Γ' σ F' H' → RvOk K F' Γ' σ H' (NewAt Γ σ H) v r → Q v H'
def tTV (K : PySem.W.Frag) (Γ : Env') (b : Bool) (Γ' : Env') : TT := fun σ H Q => ∃ F, Holds K F Γ σ H ∧ ∀ F' H', Post K Γ σ F H Γ' σ F' H' → Q b H'
def tAV (K : PySem.W.Frag) (Γ : Env') (rs : List Rv) (Γ' : Env') : TA := fun σ H Q => ∃ F, Holds K F Γ σ H ∧ ∀ F' H' vs, Post K Γ σ F H Γ' σ F' H' → Paired (fun v r => RvOk K F' Γ' σ H' (NewAt Γ σ H) v r) vs rs → Q vs H'
/-- e, evaluated where Γ holds, gives r, and Γ' holds then -/
def EV (X : Cx) (Γ : Env') (e : Expr) (r : Rv) (Γ' : Env') : Prop := PE X e (tEV X.K Γ r Γ')
def TV (X : Cx) (Γ : Env') (e : Expr) (b : Bool) (Γ' : Env') : Prop := PT X e (tTV X.K Γ b Γ')
def AV (X : Cx) (Γ : Env') (es : List Expr) (rs : List Rv) (Γ' : Env') : Prop := PA X es (tAV X.K Γ rs Γ')
theorem PE.weak {X : Cx} {e : Expr} {t t' : TE} (h : PE X e t) (w : ∀ σ H Q, t' σ H Q → t σ H Q) : PE X e t' := ⟨fun pins s σ H Q I q => h.run pins s σ H Q I (w σ H Q q)⟩
theorem PT.weak {X : Cx} {e : Expr} {t t' : TT} (h : PT X e t) (w : ∀ σ H Q, t' σ H Q → t σ H Q) : PT X e t' := ⟨fun pins s σ H Q I q => h.run pins s σ H Q I (w σ H Q q)⟩
theorem PA.weak {X : Cx} {e : List Expr} {t t' : TA} (h : PA X e t) (w : ∀ σ H Q, t' σ H Q → t σ H Q) : PA X e t' := ⟨fun pos pins s σ H Q I q => h.run pos pins s σ H Q I (w σ H Q q)⟩
theorem PS.weak {X : Cx} {e : Stmt} {t t' : TS} (h : PS X e t) (w : ∀ D σ H, t' D σ H → t D σ H) : PS X e t' := ⟨fun pins s σ H D I q => h.run pins s σ H D I (w D σ H q)⟩
theorem PSs.weak {X : Cx} {e : List Stmt} {t t' : TS} (h : PSs X e t) (w : ∀ D σ H, t' D σ H → t D σ H) : PSs X e t' := ⟨fun pins s σ H D I q => h.run pins s σ H D I (w D σ H q)⟩
end PD
namespace PD
open PySem PySem.Spec PyProof.Rows L2
/-! ### heap steps -/
section
variable {K : PySem.W.Frag} {Γ Γ1 Γ2 : Env'} {σ σ1 σ2 : L2.St} {F H F1 H1 F2 H2 : Hp} {a p : Addr} {ho : HO} {c : Oc}
theorem Holds.slot (h : Holds K F Γ σ H) {i : Nat} {s : Sl} (e : Γ[i]? = some s) : SlOk K F H (σ[i]?.join) s := h.sl i s e
theorem join_some {o : Option (Option V)} {v : V} (h : o.join = some v) : o = some (some v) := by
  cases o with
  | none => cases h
  | some x => exact congrArg some h
theorem Holds.dat (h : Holds K F Γ σ H) {i : Nat} {d : D} (e : Γ[i]? = some (.dat d)) : ∃ v, σ[i]? = some (some v) ∧ Rep K F v d := by
  obtain ⟨v, h1, h2⟩ := h.slot e
  exact ⟨v, join_some h1, h2⟩
theorem Holds.own (h : Holds K F Γ σ H) {i : Nat} {ao : Option Addr} (e : Γ[i]? = some (.own ao c)) : ∃ a ho, σ[i]? = some (some (.ref a)) ∧ (∀ b, ao = some b → b = a) ∧ H a = some ho ∧ F a = none ∧ OcOk K F ho c := by
  obtain ⟨a, ho, h1, h2⟩ := h.slot e
  exact ⟨a, ho, join_some h1, h2⟩
theorem SlOk.mono {o : Option V} {s : Sl} (h : SlOk K F H o s) (l : Le F F1) (k : ∀ a ho, H a = some ho → F a = none → s ≠ .any → H1 a = some ho ∧ F1 a = none) : SlOk K F1 H1 o s := by
  cases s with
  | any => trivial
  | dat d => obtain ⟨v, e, r⟩ := h; exact ⟨v, e, r.mono l⟩
  | own ao c =>
    obtain ⟨a, ho, e, b, h1, h2, h3⟩ := h
    obtain ⟨k1, k2⟩ := k a ho h1 h2 (fun z => nomatch z)
    exact ⟨a, ho, e, b, k1, k2, h3.mono l⟩
/-- a new object, not within F -/
theorem Post.new (h : Holds K F Γ σ H) (n : H p = none) (o : HO) : Post K Γ σ F H Γ σ F (upd H p o) := by
  have nf : F p = none := by
    cases q : F p with
    | none => rfl
    | some u => have := h.le p u q; rw [n] at this; cases this
  refine ⟨⟨Le.refl F, fun b u hb fb _ => ⟨by rw [upd_ne (ne_of_none hb n)]; exact hb, fb⟩, fun b u hb => ⟨u, by rw [upd_ne (ne_of_none hb n)]; exact hb⟩⟩, ⟨fun b u fb => ?_, h.len, fun i s e => ?_, h.dis⟩, fun b hb => .inl hb⟩
  · have hb := h.le b u fb
    rw [upd_ne (ne_of_none hb n)]; exact hb
  · exact (h.sl i s e).mono (Le.refl F) fun b u hb fb _ => ⟨by rw [upd_ne (ne_of_none hb n)]; exact hb, fb⟩
theorem Holds.notOwned (h : Holds K F Γ σ H) (n : H p = none) : ¬ Owned Γ σ p := by
  rintro ⟨i, ao, c, e1, e2⟩
  obtain ⟨a, ho, e3, _, e4, _⟩ := h.own e1
  rw [e2] at e3; cases e3
  rw [n] at e4; cases e4
theorem Holds.free (h : Holds K F Γ σ H) (n : H p = none) : F p = none := by
  cases q : F p with
  | none => rfl
  | some u => have := h.le p u q; rw [n] at this; cases this
/-- an object that nothing owns goes into F -/
theorem Post.freeze (h : Holds K F Γ σ H) (e : H p = some ho) (nf : F p = none) (no : ¬ Owned Γ σ p) (A : Addr → Prop) : Le F (upd F p ho) ∧ Holds K (upd F p ho) Γ σ H := by
  have l : Le F (upd F p ho) := fun b u fb => by rw [upd_ne (ne_of_none fb nf)]; exact fb
  refine ⟨l, ⟨fun b u fb => ?_, h.len, fun i s e' => ?_, h.dis⟩⟩
  · by_cases hb : b = p
    · subst hb; rw [upd_same] at fb; cases fb; exact e
    · rw [upd_ne hb] at fb; exact h.le b u fb
  · have q := h.sl i s e'
    cases s with
    | any => trivial
    | dat d => obtain ⟨v, e1, r⟩ := q; exact ⟨v, e1, r.mono l⟩
    | own ao c =>
      obtain ⟨a, u, e1, b, h1, h2, h3⟩ := q
      refine ⟨a, u, e1, b, h1, ?_, h3.mono l⟩
      have ne : a ≠ p := fun z => no (by subst z; exact ⟨i, ao, c, e', join_some e1⟩)
      rw [upd_ne ne]; exact h2
/-- a new object within F -/
theorem Post.newF (h : Holds K F Γ σ H) (n : H p = none) (o : HO) : Post K Γ σ F H Γ σ (upd F p o) (upd H p o) := by
  have P1 := Post.new h n o
  have nf := h.free n
  obtain ⟨l, h2⟩ := Post.freeze P1.ok upd_same nf (h.notOwned n) (fun _ => True)
  refine ⟨⟨l, fun b u hb fb hO => ?_, P1.ext.there⟩, h2, fun b hb => .inl hb⟩
  obtain ⟨k1, k2⟩ := P1.ext.keep b u hb fb hO
  exact ⟨k1, by rw [upd_ne (ne_of_none hb n)]; exact fb⟩
/-- the object of a slot is written -/
theorem Post.write (h : Holds K F Γ σ H) {i : Nat} {ao : Option Addr} (e : Γ[i]? = some (.own ao c)) (es : σ[i]? = some (some (.ref a))) {c' : Oc} {o : HO} (ok : OcOk K F o c') :
    Post K Γ σ F H (Γ.set i (.own ao c')) σ F (upd H a o) := by
  obtain ⟨a', ho, e1, e2, e3, e4, _⟩ := h.own e
  rw [es] at e1; cases e1
  have hi : i < Γ.length := (List.getElem?_eq_some_iff.mp e).1
  have ow : Owned Γ σ a := ⟨i, ao, c, e, es⟩
  have fne : ∀ b u, F b = some u → b ≠ a := fun b u fb z => by subst z; rw [e4] at fb; cases fb
  refine ⟨⟨Le.refl F, fun b u hb fb hO => ⟨?_, fb⟩, fun b u hb => ?_⟩, ⟨fun b u fb => ?_, by rw [List.length_set]; exact h.len, fun j s ej => ?_, fun j k aj ak cj ck b ej ek sj sk => ?_⟩, fun b hb => .inl ?_⟩
  · rw [upd_ne (fun z => hO (by subst z; exact ow))]; exact hb
  · by_cases z : b = a
    · subst z; exact ⟨o, upd_same⟩
    · exact ⟨u, by rw [upd_ne z]; exact hb⟩
  · rw [upd_ne (fne b u fb)]; exact h.le b u fb
  · by_cases z : j = i
    · subst z
      rw [List.getElem?_set_self hi] at ej
      cases ej
      exact ⟨a, o, by rw [es]; rfl, e2, upd_same, e4, ok⟩
    · rw [List.getElem?_set_ne (Ne.symm z)] at ej
      have q := h.sl j s ej
      cases s with
      | any => trivial
      | dat d => exact q
      | own aj cj =>
        obtain ⟨a2, u, f1, f2, f3, f4, f5⟩ := q
        refine ⟨a2, u, f1, f2, ?_, f4, f5⟩
        rw [upd_ne (fun y => z ?_)]
        · exact f3
        · subst y
          exact h.dis j i aj ao cj c a2 ej e (join_some f1) es
  · have up : ∀ (m : Nat) (am : Option Addr) (cm : Oc), (Γ.set i (.own ao c'))[m]? = some (.own am cm) → ∃ am' cm', Γ[m]? = some (.own am' cm') := fun m am cm em => by
      by_cases z : m = i
      · subst z; exact ⟨_, _, e⟩
      · rw [List.getElem?_set_ne (Ne.symm z)] at em; exact ⟨_, _, em⟩
    obtain ⟨_, _, ej'⟩ := up j aj cj ej
    obtain ⟨_, _, ek'⟩ := up k ak ck ek
    exact h.dis j k _ _ _ _ b ej' ek' sj sk
  · obtain ⟨j, aj, cj, ej, sj⟩ := hb
    by_cases z : j = i
    · subst z; rw [es] at sj; cases sj; exact ow
    · rw [List.getElem?_set_ne (Ne.symm z)] at ej
      exact ⟨j, aj, cj, ej, sj⟩
/-- what is known of the slots may be forgotten; an owned object goes into F -/
theorem Holds.getD (h : Holds K F Γ σ H) {i : Nat} (hi : i < Γ.length) : ∃ o, σ[i]? = some o := by
  rw [h.len] at hi
  exact ⟨σ[i], List.getElem?_eq_getElem hi⟩
theorem Post.slotFreeze (h : Holds K F Γ σ H) {i : Nat} {ao : Option Addr} (e : Γ[i]? = some (.own ao c)) : ∃ F', Post K Γ σ F H (Γ.set i (.dat c.d)) σ F' H := by
  obtain ⟨a, ho, e1, e2, e3, e4, e5⟩ := h.own e
  have hi : i < Γ.length := (List.getElem?_eq_some_iff.mp e).1
  have l : Le F (upd F a ho) := fun b u fb => by rw [upd_ne (ne_of_none fb e4)]; exact fb
  have ow : Owned Γ σ a := ⟨i, ao, c, e, e1⟩
  refine ⟨upd F a ho, ⟨l, fun b u hb fb hO => ⟨hb, ?_⟩, fun b u hb => ⟨u, hb⟩⟩, ⟨fun b u fb => ?_, by rw [List.length_set]; exact h.len, fun j s ej => ?_, fun j k aj ak cj ck b ej ek sj sk => ?_⟩, fun b hb => .inl ?_⟩
  · rw [upd_ne (fun z => hO (by subst z; exact ow))]; exact fb
  · by_cases hb : b = a
    · subst hb; rw [upd_same] at fb; cases fb; exact e3
    · rw [upd_ne hb] at fb; exact h.le b u fb
  · by_cases z : j = i
    · subst z
      rw [List.getElem?_set_self hi] at ej
      cases ej
      exact ⟨.ref a, by rw [e1]; rfl, (e5.mono l).rep upd_same⟩
    · rw [List.getElem?_set_ne (Ne.symm z)] at ej
      have q := h.sl j s ej
      cases s with
      | any => trivial
      | dat d => obtain ⟨v, e1, r⟩ := q; exact ⟨v, e1, r.mono l⟩
      | own aj cj =>
        obtain ⟨a2, u, f1, f2, f3, f4, f5⟩ := q
        refine ⟨a2, u, f1, f2, f3, ?_, f5.mono l⟩
        rw [upd_ne (fun y => z ?_)]
        · exact f4
        · subst y
          exact h.dis j i aj ao cj c a2 ej e (join_some f1) e1
  · have up : ∀ (m : Nat) (am : Option Addr) (cm : Oc), (Γ.set i (.dat c.d))[m]? = some (.own am cm) → m ≠ i ∧ Γ[m]? = some (.own am cm) := fun m am cm em => by
      by_cases z : m = i
      · subst z; rw [List.getElem?_set_self hi] at em; cases em
      · rw [List.getElem?_set_ne (Ne.symm z)] at em; exact ⟨z, em⟩
    exact h.dis j k _ _ _ _ b (up j aj cj ej).2 (up k ak ck ek).2 sj sk
  · obtain ⟨j, aj, cj, ej, sj⟩ := hb
    by_cases z : j = i
    · subst z; rw [List.getElem?_set_self hi] at ej; cases ej
    · rw [List.getElem?_set_ne (Ne.symm z)] at ej
      exact ⟨j, aj, cj, ej, sj⟩
/-- a slot is stored -/
theorem Post.store (h : Holds K F Γ σ H) {i : Nat} {v : V} {s : Sl} (ok : SlOk K F H (some v) s) (new : ∀ a ao c, s = .own ao c → v = .ref a → ¬ Owned Γ σ a) (at' : ∀ a ao c, s = .own ao c → v = .ref a → Owned Γ σ a ∨ H1 a = none) :
    Holds K F (Γ.set i s) (σ.set i (some v)) H ∧ ∀ a, Owned (Γ.set i s) (σ.set i (some v)) a → Owned Γ σ a ∨ H1 a = none := by
  have low : ∀ (j : Nat) (aj : Option Addr) (cj : Oc) (b : Addr), (Γ.set i s)[j]? = some (.own aj cj) → (σ.set i (some v))[j]? = some (some (.ref b)) → (j = i ∧ s = .own aj cj ∧ v = .ref b) ∨ (j ≠ i ∧ Γ[j]? = some (.own aj cj) ∧ σ[j]? = some (some (.ref b))) := fun j aj cj b ej sj => by
    by_cases z : j = i
    · subst z
      have hj : j < Γ.length := by have := (List.getElem?_eq_some_iff.mp ej).1; rwa [List.length_set] at this
      have hj2 : j < σ.length := by rw [← h.len]; exact hj
      rw [List.getElem?_set_self hj] at ej
      rw [List.getElem?_set_self hj2] at sj
      cases ej; cases sj
      exact .inl ⟨rfl, rfl, rfl⟩
    · rw [List.getElem?_set_ne (Ne.symm z)] at ej sj
      exact .inr ⟨z, ej, sj⟩
  refine ⟨⟨h.le, by rw [List.length_set, List.length_set]; exact h.len, fun j t ej => ?_, fun j k aj ak cj ck b ej ek sj sk => ?_⟩, fun b hb => ?_⟩
  · by_cases z : j = i
    · subst z
      have hj : j < Γ.length := by have := (List.getElem?_eq_some_iff.mp ej).1; rwa [List.length_set] at this
      have hj2 : j < σ.length := by rw [← h.len]; exact hj
      rw [List.getElem?_set_self hj] at ej
      cases ej
      rw [List.getElem?_set_self hj2]
      exact ok
    · rw [List.getElem?_set_ne (Ne.symm z)] at ej
      rw [List.getElem?_set_ne (Ne.symm z)]
      exact h.sl j t ej
  · rcases low j aj cj b ej sj with ⟨z1, s1, v1⟩ | ⟨z1, s1, v1⟩ <;> rcases low k ak ck b ek sk with ⟨z2, s2, v2⟩ | ⟨z2, s2, v2⟩
    · rw [z1, z2]
    · exact absurd ⟨k, ak, ck, s2, v2⟩ (new b aj cj s1 v1)
    · exact absurd ⟨j, aj, cj, s1, v1⟩ (new b ak ck s2 v2)
    · exact h.dis j k aj ak cj ck b s1 s2 v1 v2
  · obtain ⟨j, aj, cj, ej, sj⟩ := hb
    rcases low j aj cj b ej sj with ⟨z1, s1, v1⟩ | ⟨z1, s1, v1⟩
    · exact at' b aj cj s1 v1
    · exact .inl ⟨j, aj, cj, s1, v1⟩
/-- what is known is forgotten -/
def Weak (Γ Γ' : Env') : Prop := Γ.length = Γ'.length ∧ ∀ (i : Nat) (s : Sl), Γ'[i]? = some s → s = .any ∨ Γ[i]? = some s
theorem Holds.weak (h : Holds K F Γ σ H) (w : Weak Γ Γ1) : Holds K F Γ1 σ H := by
  refine ⟨h.le, w.1.symm.trans h.len, fun i s e => ?_, fun i j ai aj ci cj a ei ej si sj => ?_⟩
  · rcases w.2 i s e with rfl | q
    · trivial
    · exact h.sl i s q
  · rcases w.2 i _ ei with q | q
    · cases q
    · rcases w.2 j _ ej with q' | q'
      · cases q'
      · exact h.dis i j ai aj ci cj a q q' si sj
theorem Owned.weak (w : Weak Γ Γ1) (h : Owned Γ1 σ a) : Owned Γ σ a := by
  obtain ⟨i, ao, c, e, s⟩ := h
  rcases w.2 i _ e with q | q
  · cases q
  · exact ⟨i, ao, c, q, s⟩
theorem Post.weak (p : Post K Γ σ F H Γ1 σ1 F1 H1) (w : Weak Γ1 Γ2) : Post K Γ σ F H Γ2 σ1 F1 H1 := ⟨p.ext, p.ok.weak w, fun a h => p.sub a (h.weak w)⟩
end
end PD
namespace PD
open PySem PySem.Spec PyProof.Rows L2
/-! ### expressions -/
section
variable {X : Cx} {Γ Γ1 Γ2 Γ3 : Env'} {e a b c : Expr} {pos : Pos} {r ra rb rc : Rv} {d : D}
theorem EV.of {t : TE} (h : PE X e t) (w : ∀ σ H Q, tEV X.K Γ r Γ1 σ H Q → t σ H Q) : EV X Γ e r Γ1 := PE.weak h w
/-- a value that needs no object -/
theorem EV.const {v : V} (h : PE X e (tC v)) (hr : ∀ F, Rep X.K F v d) : EV X Γ e (.dat d) Γ :=
  EV.of h fun σ H Q ⟨F, hH, q⟩ => q F H v (.refl hH) (hr F)
theorem ev_int {i : Int} {j} : EV X Γ (.Constant (.int i) j pos) (.dat (.int i)) Γ := EV.const pe_int fun F => .int i
theorem ev_bl {i : Bool} {j} : EV X Γ (.Constant (.bool i) j pos) (.dat (.bl i)) Γ := EV.const pe_bl fun F => .bl i
theorem ev_non {j} : EV X Γ (.Constant .none j pos) (.dat .non) Γ := EV.const pe_non fun F => .non
theorem ev_str {x : Str} {j} : EV X Γ (.Constant (.str x) j pos) (.dat (.str x)) Γ := EV.const pe_str fun F => .str x
theorem ev_var (i : Nat) {x : Str} (h : Γ[i]? = some (.dat d)) (p : PE X (.Name x pos) (tVar i)) : EV X Γ (.Name x pos) (.dat d) Γ :=
  EV.of p fun σ H Q ⟨F, hH, q⟩ => by
    obtain ⟨v, e1, r1⟩ := hH.dat h
    exact ⟨v, e1, q F H v (.refl hH) r1⟩
theorem ev_bor (i : Nat) {x : Str} {ao : Option Addr} {oc : Oc} (h : Γ[i]? = some (.own ao oc)) (p : PE X (.Name x pos) (tVar i)) : EV X Γ (.Name x pos) (.bor i) Γ :=
  EV.of p fun σ H Q ⟨F, hH, q⟩ => by
    obtain ⟨a, ho, e1, _⟩ := hH.own h
    exact ⟨.ref a, e1, q F H _ (.refl hH) e1⟩
/-- a new object goes into the data -/
theorem EV.fz {oc : Oc} (h : EV X Γ e (.own oc) Γ1) : EV X Γ e (.dat oc.d) Γ1 :=
  PE.weak h fun σ H Q ⟨F, hH, q⟩ => ⟨F, hH, fun F' H' v p ⟨x, ho, ev, h1, h2, h3, h4, h5⟩ => by
    subst ev
    obtain ⟨l, hf⟩ := Post.freeze p.ok h1 h2 h4 (fun _ => True)
    refine q (upd F' x ho) H' _ ⟨⟨p.ext.mono.trans l, fun y u hy fy no => ?_, p.ext.there⟩, hf, p.sub⟩ ((h3.mono l).rep upd_same)
    obtain ⟨k1, k2⟩ := p.ext.keep y u hy fy no
    refine ⟨k1, ?_⟩
    have ne : y ≠ x := fun z => by
      subst z
      rcases h5 with z | z
      · exact no z
      · rw [hy] at z; cases z
    rw [upd_ne ne]; exact k2⟩
/-- the object of a slot goes into the data -/
theorem EV.fzv {i : Nat} {ao : Option Addr} {oc : Oc} (h : EV X Γ e (.bor i) Γ1) (hi : Γ1[i]? = some (.own ao oc)) : EV X Γ e (.dat oc.d) (Γ1.set i (.dat oc.d)) :=
  PE.weak h fun σ H Q ⟨F, hH, q⟩ => ⟨F, hH, fun F' H' v p hv => by
    obtain ⟨F2, p2⟩ := Post.slotFreeze p.ok hi
    have hlt : i < Γ1.length := (List.getElem?_eq_some_iff.mp hi).1
    obtain ⟨w, e1, r1⟩ := p2.ok.dat (i := i) (d := oc.d) (List.getElem?_set_self hlt)
    have hv : σ[i]? = some (some v) := hv
    rw [hv] at e1; cases e1
    exact q F2 H' v (p.trans p2) r1⟩
theorem EV.weakΓ (h : EV X Γ e r Γ1) (w : Weak Γ1 Γ2) (nb : ∀ i, r = .bor i → True) : EV X Γ e r Γ2 :=
  PE.weak h fun σ H Q ⟨F, hH, q⟩ => ⟨F, hH, fun F' H' v p hv => q F' H' v (p.weak w) (by
    cases r with
    | dat d => exact hv
    | own oc => obtain ⟨x, ho, e1, h1, h2, h3, h4, h5⟩ := hv; exact ⟨x, ho, e1, h1, h2, h3, fun z => h4 (z.weak w), h5⟩
    | bor i => exact hv)⟩
/-- of a value alone: a bool, an int, a text, None -/
def D.flat : D → Bool
  | .non => true | .bl _ => true | .int _ => true | .str _ => true | _ => false
theorem Rep.flat {K : PySem.W.Frag} {F G : Hp} {v : V} (hf : d.flat = true) (h : Rep K F v d) : Rep K G v d := by
  cases h with
  | non => exact .non
  | bl b => exact .bl b
  | int i => exact .int i
  | str x => exact .str x
  | tup _ _ => cases hf
  | lst _ _ => cases hf
/-- all that is owned is lent to an expression that hands back a flat value -/
def frz : Sl → Sl
  | .own _ oc => .dat oc.d
  | s => s
theorem Holds.frz {K : PySem.W.Frag} {F H : Hp} {σ : L2.St} (h : Holds K F Γ σ H) : Holds K H (Γ.map PD.frz) σ H := by
  have no : ∀ (m : Nat) (am : Option Addr) (cm : Oc), (Γ.map PD.frz)[m]? ≠ some (.own am cm) := fun m am cm em => by
    rw [List.getElem?_map] at em
    cases q : Γ[m]? with
    | none => rw [q] at em; cases em
    | some s => rw [q] at em; cases s <;> cases em
  refine ⟨Le.refl H, by rw [List.length_map]; exact h.len, fun i s e => ?_, fun i j ai aj ci cj a ei ej si sj => absurd ei (no i ai ci)⟩
  rw [List.getElem?_map] at e
  cases q : Γ[i]? with
  | none => rw [q] at e; cases e
  | some t =>
    rw [q] at e
    cases e
    have z := h.sl i t q
    cases t with
    | any => trivial
    | dat d => obtain ⟨v, e1, r⟩ := z; exact ⟨v, e1, r.mono h.le⟩
    | own ao oc =>
      obtain ⟨x, ho, e1, e2, h1, h2, h3⟩ := z
      exact ⟨.ref x, e1, (h3.mono h.le).rep h1⟩
theorem Post.lent {K : PySem.W.Frag} {F H F' H' : Hp} {σ : L2.St} (h : Holds K F Γ σ H) (p : Post K (Γ.map frz) σ H H (Γ.map frz) σ F' H') : Post K Γ σ F H Γ σ F H' := by
  have k : Le H H' := p.ext.mono.trans p.ok.le
  refine ⟨⟨Le.refl F, fun a o e f _ => ⟨k a o e, f⟩, fun a o e => ⟨o, k a o e⟩⟩, ⟨h.le.trans k, h.len, fun i s e => ?_, h.dis⟩, fun a z => .inl z⟩
  exact (h.sl i s e).mono (Le.refl F) fun a o e f _ => ⟨k a o e, f⟩
theorem EV.lend (h : EV X (Γ.map frz) e (.dat d) (Γ.map frz)) (hf : d.flat = true) : EV X Γ e (.dat d) Γ :=
  PE.weak h fun σ H Q ⟨F, hH, q⟩ => ⟨H, hH.frz, fun F' H' v p hv => q F H' v (p.lent hH) (Rep.flat hf hv)⟩
theorem TV.lend {k : Bool} (h : TV X (Γ.map frz) e k (Γ.map frz)) : TV X Γ e k Γ :=
  PT.weak h fun σ H Q ⟨F, hH, q⟩ => ⟨H, hH.frz, fun F' H' p => q F H' (p.lent hH)⟩

/-! ### operators -/
/-- an operation on results: what its rule asks holds -/
def Op2 (K : PySem.W.Frag) (Γ : Env') (ra rb rv : Rv) (r : R2) : Prop := ∀ (F : Hp) (σ : L2.St) (H : Hp) (A : Addr → Prop) (x y : V) (Q : VK), Holds K F Γ σ H → RvOk K F Γ σ H A x ra → RvOk K F Γ σ H A y rb →
  (∀ F' H' v, Post K Γ σ F H Γ σ F' H' → RvOk K F' Γ σ H' (NewAt Γ σ H) v rv → Q v H') → r x y H Q
theorem RvOk.at {K : PySem.W.Frag} {F H : Hp} {σ : L2.St} {A B : Addr → Prop} {v : V} (h : RvOk K F Γ σ H A v r) (w : ∀ a, A a → B a) : RvOk K F Γ σ H B v r := by
  cases r with
  | dat d => exact h
  | own oc => obtain ⟨x, ho, e1, h1, h2, h3, h4, h5⟩ := h; exact ⟨x, ho, e1, h1, h2, h3, h4, w x h5⟩
  | bor i => exact h
theorem NewAt.back {K : PySem.W.Frag} {F H F1 H1 : Hp} {σ σ1 : L2.St} {a : Addr} (p : Post K Γ σ F H Γ1 σ1 F1 H1) (h : NewAt Γ1 σ1 H1 a) : NewAt Γ σ H a := by
  rcases h with h | h
  · exact p.sub a h
  · exact .inr (p.ext.fresh h)
theorem op2_run {K : PySem.W.Frag} {ta tb : TE} {t : R2} {rv : Rv} (ha : ∀ σ H Q, tEV K Γ ra Γ1 σ H Q → ta σ H Q) (hb : ∀ σ H Q, tEV K Γ1 rb Γ2 σ H Q → tb σ H Q) (ho : Op2 K Γ2 ra rb rv t) (σ : L2.St) (H : Hp) (Q : VK) (h : tEV K Γ rv Γ2 σ H Q) : tOp t ta tb σ H Q := by
  obtain ⟨F, hH, q⟩ := h
  refine ha σ H _ ⟨F, hH, fun F1 H1 x p1 hx => ?_⟩
  refine hb σ H1 _ ⟨F1, p1.ok, fun F2 H2 y p2 hy => ?_⟩
  have hx2 := hx.later p2 (B := fun _ => True) (fun _ _ => trivial)
  refine ho F2 σ H2 (fun _ => True) x y Q p2.ok hx2 (hy.at fun _ _ => trivial) fun F3 H3 v p3 hv => ?_
  have p := (p1.trans p2).trans p3
  exact q F3 H3 v p (hv.at fun a z => NewAt.back (p1.trans p2) z)
theorem ev_op {op : Operator} {t : R2} {rv : Rv} (ho : OpR X (binaryOp op) t) (h : Op2 X.K Γ2 ra rb rv t) (ha : EV X Γ a ra Γ1) (hb : EV X Γ1 b rb Γ2) : EV X Γ (.BinOp a op b pos) rv Γ2 :=
  PE.weak (pe_op ho ha hb) (op2_run (fun _ _ _ h => h) (fun _ _ _ h => h) h)
theorem ev_cmp {op : CmpOp} {t : R2} {rv : Rv} (ho : OpR X (compareOp op) t) (hm : behindInMarks op b = false) (h : Op2 X.K Γ2 ra rb rv t) (ha : EV X Γ a ra Γ1) (hb : EV X Γ1 b rb Γ2) : EV X Γ (.Compare a [op] [b] pos) rv Γ2 :=
  PE.weak (pe_cmpR ho ha hb hm) (op2_run (fun _ _ _ h => h) (fun _ _ _ h => h) h)
theorem tTest_run {K : PySem.W.Frag} {t : TE} {k : Bool} (ht : ∀ σ H Q, tEV K Γ (.dat (.bl k)) Γ1 σ H Q → t σ H Q) (σ : L2.St) (H : Hp) (Q : Bool → Hp → Prop) (h : tTV K Γ k Γ1 σ H Q) : tTest t σ H Q := by
  obtain ⟨F, hH, q⟩ := h
  refine ht σ H _ ⟨F, hH, fun F1 H1 x p1 hx => ?_⟩
  cases hx
  exact ⟨k, rfl, q F1 H1 p1⟩
theorem tv_cmp {op : CmpOp} {t : R2} {k : Bool} (ho : OpR X (compareOp op) t) (hm : behindInMarks op b = false) (h : Op2 X.K Γ2 ra rb (.dat (.bl k)) t) (ha : EV X Γ a ra Γ1) (hb : EV X Γ1 b rb Γ2) : TV X Γ (.Compare a [op] [b] pos) k Γ2 :=
  PT.weak (pt_cmpR ho ha hb hm) (tTest_run (op2_run (fun _ _ _ h => h) (fun _ _ _ h => h) h))
theorem tv_val {k : Bool} (h : EV X Γ e (.dat (.bl k)) Γ1) (he : ∀ whole, isTrue e X.env whole = (do let v ← whole; standAt e.pos; holding [v] (truthy v)) := by intro _; rfl) : TV X Γ e k Γ1 :=
  PT.weak (pt_val h he) (tTest_run (fun _ _ _ h => h))

/-- ints -/
theorem o2I {K : PySem.W.Frag} {C : Int → Int → Prop} {g : Int → Int → D} {gv : Int → Int → V} {i j : Int} (hg : ∀ F, Rep K F (gv i j) (g i j)) (hc : C i j) : Op2 K Γ (.dat (.int i)) (.dat (.int j)) (.dat (g i j)) (rI C gv) :=
  fun F σ H A x y Q hH hx hy q => by
    cases hx; cases hy
    exact ⟨i, j, rfl, rfl, hc, q F H _ (.refl hH) (hg F)⟩
theorem o2I0 {K : PySem.W.Frag} {g : Int → Int → D} {gv : Int → Int → V} {i j : Int} (hg : ∀ F, Rep K F (gv i j) (g i j)) : Op2 K Γ (.dat (.int i)) (.dat (.int j)) (.dat (g i j)) (rI0 gv) :=
  fun F σ H A x y Q hH hx hy q => by
    cases hx; cases hy
    exact ⟨i, j, rfl, rfl, q F H _ (.refl hH) (hg F)⟩
variable {i j : Int}
theorem ev_add (ha : EV X Γ a (.dat (.int i)) Γ1) (hb : EV X Γ1 b (.dat (.int j)) Γ2) : EV X Γ (.BinOp a .Add b pos) (.dat (.int (i + j))) Γ2 := ev_op op_add (o2I0 (g := fun i j => .int (i + j)) fun F => .int _) ha hb
theorem ev_sub (ha : EV X Γ a (.dat (.int i)) Γ1) (hb : EV X Γ1 b (.dat (.int j)) Γ2) : EV X Γ (.BinOp a .Sub b pos) (.dat (.int (i - j))) Γ2 := ev_op op_sub (o2I0 (g := fun i j => .int (i - j)) fun F => .int _) ha hb
theorem ev_mul (hc : CMul i j) (ha : EV X Γ a (.dat (.int i)) Γ1) (hb : EV X Γ1 b (.dat (.int j)) Γ2) : EV X Γ (.BinOp a .Mult b pos) (.dat (.int (i * j))) Γ2 := ev_op op_mul (o2I (g := fun i j => .int (i * j)) (fun F => .int _) hc) ha hb
theorem ev_fdiv (hc : CDiv i j) (ha : EV X Γ a (.dat (.int i)) Γ1) (hb : EV X Γ1 b (.dat (.int j)) Γ2) : EV X Γ (.BinOp a .FloorDiv b pos) (.dat (.int (i / j))) Γ2 := ev_op op_fdiv (o2I (g := fun i j => .int (i / j)) (fun F => .int _) hc) ha hb
theorem ev_mod (hc : 0 < j) (ha : EV X Γ a (.dat (.int i)) Γ1) (hb : EV X Γ1 b (.dat (.int j)) Γ2) : EV X Γ (.BinOp a .Mod b pos) (.dat (.int (i % j))) Γ2 := ev_op op_mod (o2I (g := fun i j => .int (i % j)) (fun F => .int _) hc) ha hb
theorem ev_pow (hc : CPow i j) (ha : EV X Γ a (.dat (.int i)) Γ1) (hb : EV X Γ1 b (.dat (.int j)) Γ2) : EV X Γ (.BinOp a .Pow b pos) (.dat (.int (i ^ j.toNat))) Γ2 := ev_op op_pow (o2I (g := fun i j => .int (i ^ j.toNat)) (fun F => .int _) hc) ha hb
theorem ev_lt (ha : EV X Γ a (.dat (.int i)) Γ1) (hb : EV X Γ1 b (.dat (.int j)) Γ2) : EV X Γ (.Compare a [.Lt] [b] pos) (.dat (.bl (decide (i < j)))) Γ2 := ev_cmp op_lt (nomark _) (o2I0 (g := fun i j => .bl (decide (i < j))) fun F => .bl _) ha hb
theorem ev_le (ha : EV X Γ a (.dat (.int i)) Γ1) (hb : EV X Γ1 b (.dat (.int j)) Γ2) : EV X Γ (.Compare a [.LtE] [b] pos) (.dat (.bl (decide (i ≤ j)))) Γ2 := ev_cmp op_le (nomark _) (o2I0 (g := fun i j => .bl (decide (i ≤ j))) fun F => .bl _) ha hb
theorem ev_gt (ha : EV X Γ a (.dat (.int i)) Γ1) (hb : EV X Γ1 b (.dat (.int j)) Γ2) : EV X Γ (.Compare a [.Gt] [b] pos) (.dat (.bl (decide (j < i)))) Γ2 := ev_cmp op_gt (nomark _) (o2I0 (g := fun i j => .bl (decide (j < i))) fun F => .bl _) ha hb
theorem ev_ge (ha : EV X Γ a (.dat (.int i)) Γ1) (hb : EV X Γ1 b (.dat (.int j)) Γ2) : EV X Γ (.Compare a [.GtE] [b] pos) (.dat (.bl (decide (j ≤ i)))) Γ2 := ev_cmp op_ge (nomark _) (o2I0 (g := fun i j => .bl (decide (j ≤ i))) fun F => .bl _) ha hb
theorem tv_lt (ha : EV X Γ a (.dat (.int i)) Γ1) (hb : EV X Γ1 b (.dat (.int j)) Γ2) : TV X Γ (.Compare a [.Lt] [b] pos) (decide (i < j)) Γ2 := tv_cmp op_lt (nomark _) (o2I0 (g := fun i j => .bl (decide (i < j))) fun F => .bl _) ha hb
theorem tv_le (ha : EV X Γ a (.dat (.int i)) Γ1) (hb : EV X Γ1 b (.dat (.int j)) Γ2) : TV X Γ (.Compare a [.LtE] [b] pos) (decide (i ≤ j)) Γ2 := tv_cmp op_le (nomark _) (o2I0 (g := fun i j => .bl (decide (i ≤ j))) fun F => .bl _) ha hb
theorem tv_gt (ha : EV X Γ a (.dat (.int i)) Γ1) (hb : EV X Γ1 b (.dat (.int j)) Γ2) : TV X Γ (.Compare a [.Gt] [b] pos) (decide (j < i)) Γ2 := tv_cmp op_gt (nomark _) (o2I0 (g := fun i j => .bl (decide (j < i))) fun F => .bl _) ha hb
theorem tv_ge (ha : EV X Γ a (.dat (.int i)) Γ1) (hb : EV X Γ1 b (.dat (.int j)) Γ2) : TV X Γ (.Compare a [.GtE] [b] pos) (decide (j ≤ i)) Γ2 := tv_cmp op_ge (nomark _) (o2I0 (g := fun i j => .bl (decide (j ≤ i))) fun F => .bl _) ha hb
/-- == of flat values: the same kind, or None and another -/
def D.v? : D → V
  | .bl b => .bl b | .int i => .int i | .str x => .str x | _ => .non
theorem Rep.v? {K : PySem.W.Frag} {F : Hp} {v : V} {d : D} (hf : d.flat = true) (h : Rep K F v d) : v = d.v? := by
  cases h with
  | non => rfl
  | bl b => rfl
  | int i => rfl
  | str x => rfl
  | tup _ _ => cases hf
  | lst _ _ => cases hf
def feq (d e : D) : Bool := decide (d.v? = e.v?)
theorem o2eq {K : PySem.W.Frag} {d e : D} (h1 : d.flat = true) (h2 : e.flat = true) (hs : scal d.v? e.v? = true) : Op2 K Γ (.dat d) (.dat e) (.dat (.bl (feq d e))) rEq :=
  fun F σ H A x y Q hH hx hy q => by
    have e1 := Rep.v? h1 hx
    have e2 := Rep.v? h2 hy
    subst e1 e2
    exact ⟨hs, q F H _ (.refl hH) (.bl _)⟩
theorem o2ne {K : PySem.W.Frag} {d e : D} (h1 : d.flat = true) (h2 : e.flat = true) (hs : scal d.v? e.v? = true) : Op2 K Γ (.dat d) (.dat e) (.dat (.bl (!feq d e))) rNe :=
  fun F σ H A x y Q hH hx hy q => by
    have e1 := Rep.v? h1 hx
    have e2 := Rep.v? h2 hy
    subst e1 e2
    exact ⟨hs, q F H _ (.refl hH) (.bl _)⟩
theorem feq_int (i j : Int) : feq (.int i) (.int j) = decide (i = j) := by unfold feq; exact decide_eq_decide.mpr ⟨fun h => V.int.inj h, fun h => congrArg V.int h⟩
theorem feq_bl (i j : Bool) : feq (.bl i) (.bl j) = decide (i = j) := by unfold feq; exact decide_eq_decide.mpr ⟨fun h => V.bl.inj h, fun h => congrArg V.bl h⟩
theorem feq_str (i j : Str) : feq (.str i) (.str j) = decide (i = j) := by unfold feq; exact decide_eq_decide.mpr ⟨fun h => V.str.inj h, fun h => congrArg V.str h⟩
theorem ev_eqI (ha : EV X Γ a (.dat (.int i)) Γ1) (hb : EV X Γ1 b (.dat (.int j)) Γ2) : EV X Γ (.Compare a [.Eq] [b] pos) (.dat (.bl (decide (i = j)))) Γ2 := by rw [← feq_int]; exact ev_cmp op_eq (nomark _) (o2eq rfl rfl rfl) ha hb
theorem tv_eqI (ha : EV X Γ a (.dat (.int i)) Γ1) (hb : EV X Γ1 b (.dat (.int j)) Γ2) : TV X Γ (.Compare a [.Eq] [b] pos) (decide (i = j)) Γ2 := by rw [← feq_int]; exact tv_cmp op_eq (nomark _) (o2eq rfl rfl rfl) ha hb
theorem ev_neI (ha : EV X Γ a (.dat (.int i)) Γ1) (hb : EV X Γ1 b (.dat (.int j)) Γ2) : EV X Γ (.Compare a [.NotEq] [b] pos) (.dat (.bl (!decide (i = j)))) Γ2 := by rw [← feq_int]; exact ev_cmp op_ne (nomark _) (o2ne rfl rfl rfl) ha hb
theorem tv_neI (ha : EV X Γ a (.dat (.int i)) Γ1) (hb : EV X Γ1 b (.dat (.int j)) Γ2) : TV X Γ (.Compare a [.NotEq] [b] pos) (!decide (i = j)) Γ2 := by rw [← feq_int]; exact tv_cmp op_ne (nomark _) (o2ne rfl rfl rfl) ha hb
theorem ev_eqS {i j : Str} (ha : EV X Γ a (.dat (.str i)) Γ1) (hb : EV X Γ1 b (.dat (.str j)) Γ2) : EV X Γ (.Compare a [.Eq] [b] pos) (.dat (.bl (decide (i = j)))) Γ2 := by rw [← feq_str]; exact ev_cmp op_eq (nomark _) (o2eq rfl rfl rfl) ha hb
theorem tv_eqS {i j : Str} (ha : EV X Γ a (.dat (.str i)) Γ1) (hb : EV X Γ1 b (.dat (.str j)) Γ2) : TV X Γ (.Compare a [.Eq] [b] pos) (decide (i = j)) Γ2 := by rw [← feq_str]; exact tv_cmp op_eq (nomark _) (o2eq rfl rfl rfl) ha hb
theorem ev_neS {i j : Str} (ha : EV X Γ a (.dat (.str i)) Γ1) (hb : EV X Γ1 b (.dat (.str j)) Γ2) : EV X Γ (.Compare a [.NotEq] [b] pos) (.dat (.bl (!decide (i = j)))) Γ2 := by rw [← feq_str]; exact ev_cmp op_ne (nomark _) (o2ne rfl rfl rfl) ha hb
theorem tv_neS {i j : Str} (ha : EV X Γ a (.dat (.str i)) Γ1) (hb : EV X Γ1 b (.dat (.str j)) Γ2) : TV X Γ (.Compare a [.NotEq] [b] pos) (!decide (i = j)) Γ2 := by rw [← feq_str]; exact tv_cmp op_ne (nomark _) (o2ne rfl rfl rfl) ha hb
theorem ev_eqB {i j : Bool} (ha : EV X Γ a (.dat (.bl i)) Γ1) (hb : EV X Γ1 b (.dat (.bl j)) Γ2) : EV X Γ (.Compare a [.Eq] [b] pos) (.dat (.bl (decide (i = j)))) Γ2 := by rw [← feq_bl]; exact ev_cmp op_eq (nomark _) (o2eq rfl rfl rfl) ha hb
theorem tv_eqB {i j : Bool} (ha : EV X Γ a (.dat (.bl i)) Γ1) (hb : EV X Γ1 b (.dat (.bl j)) Γ2) : TV X Γ (.Compare a [.Eq] [b] pos) (decide (i = j)) Γ2 := by rw [← feq_bl]; exact tv_cmp op_eq (nomark _) (o2eq rfl rfl rfl) ha hb
theorem ev_neB {i j : Bool} (ha : EV X Γ a (.dat (.bl i)) Γ1) (hb : EV X Γ1 b (.dat (.bl j)) Γ2) : EV X Γ (.Compare a [.NotEq] [b] pos) (.dat (.bl (!decide (i = j)))) Γ2 := by rw [← feq_bl]; exact ev_cmp op_ne (nomark _) (o2ne rfl rfl rfl) ha hb
theorem tv_neB {i j : Bool} (ha : EV X Γ a (.dat (.bl i)) Γ1) (hb : EV X Γ1 b (.dat (.bl j)) Γ2) : TV X Γ (.Compare a [.NotEq] [b] pos) (!decide (i = j)) Γ2 := by rw [← feq_bl]; exact tv_cmp op_ne (nomark _) (o2ne rfl rfl rfl) ha hb
/-- is None, is not None -/
def D.isNon : D → Bool
  | .non => true | _ => false
theorem Rep.isNon {K : PySem.W.Frag} {F : Hp} {v : V} {d : D} (h : Rep K F v d) : decide (v = .non) = d.isNon := by
  cases h <;> simp [D.isNon]
theorem RvOk.isNon {K : PySem.W.Frag} {F H : Hp} {σ : L2.St} {A : Addr → Prop} {v : V} (hH : Holds K F Γ σ H) (h : RvOk K F Γ σ H A v r) (k : Bool) (hk : match r with | .dat d => d.isNon = k | .own _ => k = false | .bor i => ∃ ao oc, Γ[i]? = some (.own ao oc) ∧ k = false) : decide (v = .non) = k := by
  cases r with
  | dat d => rw [Rep.isNon h]; exact hk
  | own oc => obtain ⟨x, ho, e1, _⟩ := h; subst e1; subst hk; rfl
  | bor i =>
    obtain ⟨ao, oc, e, rfl⟩ := hk
    obtain ⟨x, ho, e1, _⟩ := hH.own e
    have h : σ[i]? = some (some v) := h
    rw [h] at e1; cases e1; rfl
theorem ev_isN {j} {pos'} (ha : EV X Γ a (.dat d) Γ1) : EV X Γ (.Compare a [.Is] [.Constant .none j pos'] pos) (.dat (.bl d.isNon)) Γ1 :=
  PE.weak (pe_cmpR op_isN ha pe_non (nomark _)) fun σ H Q ⟨F, hH, q⟩ => ⟨F, hH, fun F' H' v p hv => ⟨rfl, by rw [Rep.isNon hv]; exact q F' H' _ p (.bl _)⟩⟩
theorem ev_notN {j} {pos'} (ha : EV X Γ a (.dat d) Γ1) : EV X Γ (.Compare a [.IsNot] [.Constant .none j pos'] pos) (.dat (.bl (!d.isNon))) Γ1 :=
  PE.weak (pe_cmpR op_notN ha pe_non (nomark _)) fun σ H Q ⟨F, hH, q⟩ => ⟨F, hH, fun F' H' v p hv => ⟨rfl, by rw [Rep.isNon hv]; exact q F' H' _ p (.bl _)⟩⟩
theorem tv_isN {j} {pos'} (ha : EV X Γ a (.dat d) Γ1) : TV X Γ (.Compare a [.Is] [.Constant .none j pos'] pos) d.isNon Γ1 :=
  PT.weak (pt_cmpR op_isN ha pe_non (nomark _)) fun σ H Q ⟨F, hH, q⟩ => ⟨F, hH, fun F' H' v p hv => ⟨rfl, _, rfl, by rw [Rep.isNon hv]; exact q F' H' p⟩⟩
theorem tv_notN {j} {pos'} (ha : EV X Γ a (.dat d) Γ1) : TV X Γ (.Compare a [.IsNot] [.Constant .none j pos'] pos) (!d.isNon) Γ1 :=
  PT.weak (pt_cmpR op_notN ha pe_non (nomark _)) fun σ H Q ⟨F, hH, q⟩ => ⟨F, hH, fun F' H' v p hv => ⟨rfl, _, rfl, by rw [Rep.isNon hv]; exact q F' H' p⟩⟩

/-! ### tests -/
def WV (X : Cx) (Γ : Env') (e : Expr) (b : Bool) (Γ' : Env') : Prop := PW X e (tTV X.K Γ b Γ')
theorem PW.weak {X : Cx} {e : Expr} {t t' : TT} (h : PW X e t) (w : ∀ σ H Q, t' σ H Q → t σ H Q) : PW X e t' := ⟨fun wh pins s σ H Q I q => h.run wh pins s σ H Q I (w σ H Q q)⟩
variable {k l : Bool} {rest : List Expr}
theorem WV.tv (h : WV X Γ e k Γ1) : TV X Γ e k Γ1 := PW.pt h
theorem wv_and1 (h : TV X Γ a k Γ1) : WV X Γ (.BoolOp .And [a] pos) k Γ1 := pw_and1 h
theorem wv_or1 (h : TV X Γ a k Γ1) : WV X Γ (.BoolOp .Or [a] pos) k Γ1 := pw_or1 h
theorem pw_no : PW X e (fun _ _ _ => False) := ⟨fun _ _ _ _ _ _ _ h => h.elim⟩
theorem pe_no : PE X e (fun _ _ _ => False) := ⟨fun _ _ _ _ _ _ h => h.elim⟩
/-- the second one is asked where the first one is true, and changes nothing that is owned -/
theorem wv_and (ha : TV X Γ a k Γ1) (hb : k = true → WV X Γ1 (.BoolOp .And (b :: rest) pos) l Γ1) : WV X Γ (.BoolOp .And (a :: b :: rest) pos) (k && l) Γ1 := by
  cases k with
  | true => exact PW.weak (pw_and ha (hb rfl)) fun σ H Q ⟨F, hH, q⟩ => ⟨F, hH, fun F' H' p => iteT ⟨F', p.ok, fun F2 H2 p2 => q F2 H2 (p.trans p2)⟩⟩
  | false => exact PW.weak (pw_and ha pw_no) fun σ H Q ⟨F, hH, q⟩ => ⟨F, hH, fun F' H' p => iteF (q F' H' p)⟩
theorem wv_or (ha : TV X Γ a k Γ1) (hb : k = false → WV X Γ1 (.BoolOp .Or (b :: rest) pos) l Γ1) : WV X Γ (.BoolOp .Or (a :: b :: rest) pos) (k || l) Γ1 := by
  cases k with
  | false => exact PW.weak (pw_or ha (hb rfl)) fun σ H Q ⟨F, hH, q⟩ => ⟨F, hH, fun F' H' p => iteF ⟨F', p.ok, fun F2 H2 p2 => q F2 H2 (p.trans p2)⟩⟩
  | true => exact PW.weak (pw_or ha pw_no) fun σ H Q ⟨F, hH, q⟩ => ⟨F, hH, fun F' H' p => iteT (q F' H' p)⟩
theorem tv_not (ha : TV X Γ a k Γ1) : TV X Γ (.UnaryOp .Not a pos) (!k) Γ1 := PT.weak (pt_not ha) fun σ H Q ⟨F, hH, q⟩ => ⟨F, hH, fun F' H' p => q F' H' p⟩
theorem ev_one {op} (h : EV X Γ a r Γ1) : EV X Γ (.BoolOp op [a] pos) r Γ1 := pe_one h
theorem ev_and (ha : EV X Γ a (.dat (.bl k)) Γ1) (hb : k = true → EV X Γ1 (.BoolOp .And (b :: rest) pos) (.dat (.bl l)) Γ1) : EV X Γ (.BoolOp .And (a :: b :: rest) pos) (.dat (.bl (k && l))) Γ1 := by
  cases k with
  | true => exact PE.weak (pe_and ha (hb rfl)) fun σ H Q ⟨F, hH, q⟩ => ⟨F, hH, fun F' H' v p hv => by cases hv; exact ⟨true, rfl, iteT ⟨F', p.ok, fun F2 H2 v2 p2 hv2 => q F2 H2 v2 (p.trans p2) hv2⟩⟩⟩
  | false => exact PE.weak (pe_and ha pe_no) fun σ H Q ⟨F, hH, q⟩ => ⟨F, hH, fun F' H' v p hv => by cases hv; exact ⟨false, rfl, iteF (q F' H' _ p (.bl _))⟩⟩
theorem ev_or (ha : EV X Γ a (.dat (.bl k)) Γ1) (hb : k = false → EV X Γ1 (.BoolOp .Or (b :: rest) pos) (.dat (.bl l)) Γ1) : EV X Γ (.BoolOp .Or (a :: b :: rest) pos) (.dat (.bl (k || l))) Γ1 := by
  cases k with
  | false => exact PE.weak (pe_or ha (hb rfl)) fun σ H Q ⟨F, hH, q⟩ => ⟨F, hH, fun F' H' v p hv => by cases hv; exact ⟨false, rfl, iteF ⟨F', p.ok, fun F2 H2 v2 p2 hv2 => q F2 H2 v2 (p.trans p2) hv2⟩⟩⟩
  | true => exact PE.weak (pe_or ha pe_no) fun σ H Q ⟨F, hH, q⟩ => ⟨F, hH, fun F' H' v p hv => by cases hv; exact ⟨true, rfl, iteT (q F' H' _ p (.bl _))⟩⟩
theorem ev_not (ha : EV X Γ a (.dat (.bl k)) Γ1) : EV X Γ (.UnaryOp .Not a pos) (.dat (.bl (!k))) Γ1 := PE.weak (pe_not ha) fun σ H Q ⟨F, hH, q⟩ => ⟨F, hH, fun F' H' v p hv => by cases hv; exact ⟨k, rfl, q F' H' _ p (.bl _)⟩⟩
/-- a if c else b, by cases on the test -/
theorem ev_ifT (hc : TV X Γ c true Γ1) (ha : EV X Γ1 a r Γ2) : EV X Γ (.IfExp c a b pos) r Γ2 :=
  PE.weak (pe_ifExp hc ha pe_no) fun σ H Q ⟨F, hH, q⟩ => ⟨F, hH, fun F' H' p => iteT ⟨F', p.ok, fun F2 H2 v2 p2 hv2 => q F2 H2 v2 (p.trans p2) (hv2.at fun _ z => NewAt.back p z)⟩⟩
theorem ev_ifF (hc : TV X Γ c false Γ1) (hb : EV X Γ1 b r Γ2) : EV X Γ (.IfExp c a b pos) r Γ2 :=
  PE.weak (pe_ifExp hc pe_no hb) fun σ H Q ⟨F, hH, q⟩ => ⟨F, hH, fun F' H' p => iteF ⟨F', p.ok, fun F2 H2 v2 p2 hv2 => q F2 H2 v2 (p.trans p2) (hv2.at fun _ z => NewAt.back p z)⟩⟩

/-! ### arguments, displays -/
theorem av_nil : AV X Γ [] [] Γ := PA.weak pa_nil fun σ H Q ⟨F, hH, q⟩ => q F H [] (.refl hH) .nil
theorem paired_later {K : PySem.W.Frag} {F H F2 H2 : Hp} {σ : L2.St} {A B : Addr → Prop} {vs : List V} {rs : List Rv} (h : Paired (fun v r => RvOk K F Γ σ H A v r) vs rs) (p : Post K Γ σ F H Γ2 σ F2 H2) (hA : ∀ a, A a → B a) : Paired (fun v r => RvOk K F2 Γ2 σ H2 B v r) vs rs :=
  Paired.mapP h fun v r x => x.later p hA
theorem paired_at {K : PySem.W.Frag} {F H : Hp} {σ : L2.St} {A B : Addr → Prop} {vs : List V} {rs : List Rv} (h : Paired (fun v r => RvOk K F Γ σ H A v r) vs rs) (hA : ∀ a, A a → B a) : Paired (fun v r => RvOk K F Γ σ H B v r) vs rs :=
  Paired.mapP h fun v r x => x.at hA
theorem av_cons {rs : List Rv} {es : List Expr} (ha : EV X Γ a r Γ1) (hr : AV X Γ1 es rs Γ2) (hs : starEach (a :: es) X.env = (false, eval a X.env) :: starEach es X.env := by rfl) : AV X Γ (a :: es) (r :: rs) Γ2 :=
  PA.weak (pa_cons ha hr hs) fun σ H Q ⟨F, hH, q⟩ => ⟨F, hH, fun F1 H1 v p1 hv => ⟨F1, p1.ok, fun F2 H2 vs p2 hvs => q F2 H2 _ (p1.trans p2) (.cons (hv.later p2 fun _ z => z) (paired_at hvs fun _ z => NewAt.back p1 z))⟩⟩
theorem repL_of {K : PySem.W.Frag} {F H : Hp} {σ : L2.St} {A : Addr → Prop} : ∀ {ds : List D} {vs : List V}, Paired (fun v r => RvOk K F Γ σ H A v r) vs (ds.map Rv.dat) → RepL K F vs ds
  | [], _, .nil => .nil
  | _ :: _, _, .cons r t => .cons r (repL_of t)
theorem len63 {n : Nat} (h : n ≤ 63) : n ≤ sizeLine := Nat.le_trans h (by decide)
theorem ev_tup {ds : List D} {es : List Expr} {k} (h : AV X Γ es (ds.map Rv.dat) Γ1) (hl : ds.length ≤ sizeLine := by exact len63 (Nat.le_of_ble_eq_true rfl)) : EV X Γ (.Tuple es k pos) (.dat (.tup ds)) Γ1 :=
  PE.weak (pe_tup h) fun σ H Q ⟨F, hH, q⟩ => ⟨F, hH, fun F1 H1 vs p1 hvs => by
    have rl := repL_of hvs
    refine ⟨by rw [rl.length]; exact hl, fun x hx => ?_⟩
    have p2 := Post.newF p1.ok hx (.tup vs)
    exact q _ _ _ (p1.trans p2) (.tup (SqT.of upd_same) (rl.mono p2.ext.mono))⟩
theorem ev_lst {ds : List D} {es : List Expr} (h : AV X Γ es (ds.map Rv.dat) Γ1) (hl : ds.length ≤ sizeLine := by exact len63 (Nat.le_of_ble_eq_true rfl)) : EV X Γ (.List es pos) (.own (.lst ds)) Γ1 :=
  PE.weak (pe_lst h) fun σ H Q ⟨F, hH, q⟩ => ⟨F, hH, fun F1 H1 vs p1 hvs => by
    have rl := repL_of hvs
    refine ⟨by rw [rl.length]; exact hl, fun x hx => ?_⟩
    have p2 := Post.new p1.ok hx (.lst vs)
    exact q _ _ _ (p1.trans p2) ⟨x, _, rfl, upd_same, p1.ok.free hx, ⟨vs, rfl, rl⟩, fun z => p1.ok.notOwned hx (by obtain ⟨i, ao, oc, e1, e2⟩ := z; exact ⟨i, ao, oc, e1, e2⟩), .inr (p1.ext.fresh hx)⟩⟩
/-- a new list behind a rule -/
theorem new_list {K : PySem.W.Frag} {F H F0 H0 : Hp} {Γ0 : Env'} {σ : L2.St} {vs : List V} {ds : List D} {x : Addr} {Q : VK} (p1 : Post K Γ0 σ F0 H0 Γ σ F H) (rl : RepL K F vs ds) (hx : H x = none)
    (q : ∀ F' H' v, Post K Γ0 σ F0 H0 Γ σ F' H' → RvOk K F' Γ σ H' (NewAt Γ0 σ H0) v (.own (.lst ds)) → Q v H') : Q (.ref x) (upd H x (.lst vs)) :=
  q _ _ _ (p1.trans (Post.new p1.ok hx (.lst vs))) ⟨x, _, rfl, upd_same, p1.ok.free hx, ⟨vs, rfl, rl⟩, fun z => p1.ok.notOwned hx (by obtain ⟨i, ao, oc, e1, e2⟩ := z; exact ⟨i, ao, oc, e1, e2⟩), .inr (p1.ext.fresh hx)⟩
theorem new_tup {K : PySem.W.Frag} {F H F0 H0 : Hp} {Γ0 : Env'} {σ : L2.St} {vs : List V} {ds : List D} {x : Addr} {Q : VK} (p1 : Post K Γ0 σ F0 H0 Γ σ F H) (rl : RepL K F vs ds) (hx : H x = none)
    (q : ∀ F' H' v, Post K Γ0 σ F0 H0 Γ σ F' H' → RvOk K F' Γ σ H' (NewAt Γ0 σ H0) v (.dat (.tup ds)) → Q v H') : Q (.ref x) (upd H x (.tup vs)) := by
  have p2 := Post.newF p1.ok hx (.tup vs)
  exact q _ _ _ (p1.trans p2) (.tup (SqT.of upd_same) (rl.mono p2.ext.mono))

/-! ### what a list holds, a tuple -/
inductive View (Γ : Env') : Rv → List D → Prop
  | dat {ds} : View Γ (.dat (.lst ds)) ds
  | own {ds} : View Γ (.own (.lst ds)) ds
  | bor {i : Nat} {ao ds} : Γ[i]? = some (.own ao (.lst ds)) → View Γ (.bor i) ds
theorem View.at {K : PySem.W.Frag} {F H : Hp} {σ : L2.St} {A : Addr → Prop} {v : V} {ds : List D} (w : View Γ r ds) (hH : Holds K F Γ σ H) (h : RvOk K F Γ σ H A v r) : ∃ a vs, v = .ref a ∧ SqL K H a vs ∧ RepL K F vs ds := by
  cases w with
  | dat =>
    cases h with
    | lst s t => exact ⟨_, _, rfl, hH.le.seqL s, t⟩
  | own =>
    obtain ⟨x, ho, e1, h1, h2, ⟨vs, rfl, t⟩, _⟩ := h
    exact ⟨x, vs, e1, SqL.of h1, t⟩
  | bor e =>
    obtain ⟨x, ho, e1, e2, h1, h2, ⟨vs, rfl, t⟩⟩ := hH.own e
    have h : σ[_]? = some (some v) := h
    rw [h] at e1; cases e1
    exact ⟨x, vs, rfl, SqL.of h1, t⟩
theorem Rep.tup_at {K : PySem.W.Frag} {F : Hp} {v : V} {ds : List D} (h : Rep K F v (.tup ds)) : ∃ a vs, v = .ref a ∧ SqT K F a vs ∧ RepL K F vs ds := by
  cases h with
  | tup s t => exact ⟨_, _, rfl, s, t⟩
/-- a list or a tuple -/
inductive VSeq (Γ : Env') : Rv → List D → Prop
  | l {r ds} : View Γ r ds → VSeq Γ r ds
  | t {ds} : VSeq Γ (.dat (.tup ds)) ds
theorem VSeq.at {K : PySem.W.Frag} {F H : Hp} {σ : L2.St} {A : Addr → Prop} {v : V} {ds : List D} (w : VSeq Γ r ds) (hH : Holds K F Γ σ H) (h : RvOk K F Γ σ H A v r) : ∃ a vs, v = .ref a ∧ (SqL K H a vs ∨ SqT K H a vs) ∧ RepL K F vs ds := by
  cases w with
  | l w =>
    obtain ⟨a, vs, e, s, t⟩ := w.at hH h
    exact ⟨a, vs, e, .inl s, t⟩
  | t =>
    obtain ⟨a, vs, e, s, t⟩ := Rep.tup_at h
    exact ⟨a, vs, e, .inr (hH.le.seqT s), t⟩
/-- an item -/
theorem o2ixL {K : PySem.W.Frag} {ds : List D} (w : View Γ ra ds) (h : atI ds i = some d) : Op2 K Γ ra (.dat (.int i)) (.dat d) (rIxL K) := fun F σ H A x y Q hH hx hy q => by
  cases hy
  obtain ⟨p, vs, e, s, t⟩ := w.at hH hx
  unfold atI at h
  cases e2 : ixN ds.length i with
  | none => rw [e2] at h; cases h
  | some j =>
    rw [e2] at h
    obtain ⟨v, h1, h2⟩ := t.get (show ds[j]? = some d from h)
    exact ⟨p, vs, i, v, e, rfl, s, by unfold atI; rw [t.length, e2]; exact h1, q F H v (.refl hH) h2⟩
theorem o2ixT {K : PySem.W.Frag} {ds : List D} (h : atI ds i = some d) : Op2 K Γ (.dat (.tup ds)) (.dat (.int i)) (.dat d) (rIxT K) := fun F σ H A x y Q hH hx hy q => by
  cases hy
  obtain ⟨p, vs, e, s, t⟩ := Rep.tup_at hx
  unfold atI at h
  cases e2 : ixN ds.length i with
  | none => rw [e2] at h; cases h
  | some j =>
    rw [e2] at h
    obtain ⟨v, h1, h2⟩ := t.get (show ds[j]? = some d from h)
    exact ⟨p, vs, i, v, e, rfl, hH.le.seqT s, by unfold atI; rw [t.length, e2]; exact h1, q F H v (.refl hH) h2⟩
theorem o2ixS {K : PySem.W.Frag} {z : Str} {cp : Nat} (hz : z.length ≤ sizeLine) (h : atI z.cps.toList i = some cp) : Op2 K Γ (.dat (.str z)) (.dat (.int i)) (.dat (.str ⟨#[cp]⟩)) rIxS := fun F σ H A x y Q hH hx hy q => by
  cases hx; cases hy
  exact ⟨z, i, cp, rfl, rfl, hz, h, q F H _ (.refl hH) (.str _)⟩
theorem ev_ix {t : R2} {rv : Rv} (ho : IxR X t) (hs : PlainIx b) (h : Op2 X.K Γ2 ra rb rv t) (ha : EV X Γ a ra Γ1) (hb : EV X Γ1 b rb Γ2) : EV X Γ (.Subscript a b pos) rv Γ2 :=
  PE.weak (pe_ix ho ha hb hs) (op2_run (fun _ _ _ h => h) (fun _ _ _ h => h) h)
theorem ev_ixL {ds : List D} (ha : EV X Γ a ra Γ1) (hb : EV X Γ1 b (.dat (.int i)) Γ2) (w : View Γ2 ra ds) (h : atI ds i = some d) (hs : PlainIx b := by exact fun _ _ => rfl) : EV X Γ (.Subscript a b pos) (.dat d) Γ2 := ev_ix ix_list hs (o2ixL w h) ha hb
theorem ev_ixT {ds : List D} (ha : EV X Γ a (.dat (.tup ds)) Γ1) (hb : EV X Γ1 b (.dat (.int i)) Γ2) (h : atI ds i = some d) (hs : PlainIx b := by exact fun _ _ => rfl) : EV X Γ (.Subscript a b pos) (.dat d) Γ2 := ev_ix ix_tup hs (o2ixT h) ha hb
theorem ev_ixS {z : Str} {cp : Nat} (ha : EV X Γ a (.dat (.str z)) Γ1) (hb : EV X Γ1 b (.dat (.int i)) Γ2) (hz : z.length ≤ sizeLine) (h : atI z.cps.toList i = some cp) (hs : PlainIx b := by exact fun _ _ => rfl) : EV X Γ (.Subscript a b pos) (.dat (.str ⟨#[cp]⟩)) Γ2 := ev_ix ix_str hs (o2ixS hz h) ha hb
end
end PD
namespace PD
open PySem PySem.Spec PyProof.Rows L2
/-! ### t + u of any tuples, xs + ys of any lists -/
def rCatT2 (K : PySem.W.Frag) : R2 := fun x y H Q => ∃ a b xs ys, x = .ref a ∧ y = .ref b ∧ SqT K H a xs ∧ SqT K H b ys ∧ xs.length + ys.length ≤ sizeLine ∧
  (xs = [] → Q (.ref b) H) ∧ (ys = [] → Q (.ref a) H) ∧ (∀ p, H p = none → Q (.ref p) (upd H p (.tup (xs ++ ys))))
theorem op_catT2 {X : Cx} : OpR X (binaryOp .Add) (rCatT2 X.K) := by
  intro pins s σ H x y v u Q I rx ry h
  obtain ⟨a, b, xs, ys, rfl, rfl, ha, hb, hz, q0, q1, q2⟩ := h
  by_cases hx : xs = []
  · cases rx
    cases ry
    obtain ⟨its, r1, p1, _⟩ := I.tuple ha
    obtain ⟨its2, r2, p2, _⟩ := I.tuple hb
    obtain ⟨⟨cls, dd, data, sl⟩, ho, hc, n, hd⟩ := id p1
    obtain ⟨⟨cls2, dd2, data2, sl2⟩, ho2, hc2, n2, hd2⟩ := id p2
    simp only at hc hd hc2 hd2
    subst hc hd hc2 hd2
    exact concat_meets ⟨_, ho, rfl⟩ ⟨_, ho2, rfl⟩ noFill_tuple_add seq_tuple_add PySem.F.slot_tuple_add PySem.F.entry_tuple_add (PySem.F.args_tuple_add_2 _ _)
      (tuple_addW0 a b its.toArray its2.toArray n n2 dd dd2 sl sl2 (by simp [r1.nil_iff.mpr hx])) ⟨ho, ho2, .ref b, H, I, rfl, q0 hx⟩
  · exact op_catT pins s σ H (.ref a) (.ref b) v u Q I rx ry ⟨a, b, xs, ys, rfl, rfl, ha, hb, hx, hz, q1, fun _ => q2⟩
def rCat2 (K : PySem.W.Frag) : R2 := fun x y H Q => ∃ l b xs zs, x = .ref l ∧ y = .ref b ∧ SqL K H l xs ∧ SqL K H b zs ∧ xs.length + zs.length ≤ sizeLine ∧ ∀ p, H p = none → Q (.ref p) (upd H p (.lst (xs ++ zs)))
theorem op_cat2 {X : Cx} : OpR X (binaryOp .Add) (rCat2 X.K) := by
  intro pins s σ H x y v u Q I rx ry h
  obtain ⟨l, b, xs, zs, rfl, rfl, hH, hB, hz, q⟩ := h
  cases rx
  cases ry
  obtain ⟨its, r, ⟨⟨cls, dd, data, sl⟩, n, e, hc, hdn, hd⟩, _⟩ := I.list hH
  obtain ⟨its2, r2, ⟨⟨cls2, dd2, data2, sl2⟩, n2, e2, hc2, hdn2, hd2⟩, _⟩ := I.list hB
  have hl := r.length
  have hl2 := r2.length
  simp only at hc hdn hd hc2 hdn2 hd2
  subst hc hdn hd hc2 hdn2 hd2
  refine concat_meets ⟨_, e, rfl⟩ ⟨_, e2, rfl⟩ noFill_list_add seq_list_add PySem.F.slot_list_add PySem.F.entry_list_add (PySem.F.args_list_add_2 _ _) (list_addW l b its.toArray its2.toArray n n2 none none sl sl2 (by rw [List.size_toArray, List.size_toArray]; omega)) ⟨e, e2, ?_⟩
  have ea : its.toArray ++ its2.toArray = (its ++ its2).toArray := by simp
  rw [ea]
  exact ⟨.ref _, _, I.lnew (t' := s.toks) (r.append r2) (by rw [List.length_append]; omega), rfl, q _ I.fresh⟩
section
variable {X : Cx} {Γ Γ1 Γ2 Γ3 : Env'} {e a b c : Expr} {pos : Pos} {r ra rb rc rv : Rv} {d : D} {ds es : List D} {i j : Int}
theorem RepL.nil_iff {K : PySem.W.Frag} {F : Hp} {vs : List V} {ds : List D} (h : RepL K F vs ds) : vs = [] ↔ ds = [] := by
  cases h with
  | nil => simp
  | cons _ _ => simp
theorem o2catT {K : PySem.W.Frag} (hz : ds.length + es.length ≤ sizeLine) : Op2 K Γ (.dat (.tup ds)) (.dat (.tup es)) (.dat (.tup (ds ++ es))) (rCatT2 K) := fun F σ H A x y Q hH hx hy q => by
  obtain ⟨p, vs, e1, s1, t1⟩ := Rep.tup_at hx
  obtain ⟨p2, ws, e2, s2, t2⟩ := Rep.tup_at hy
  refine ⟨p, p2, vs, ws, e1, e2, hH.le.seqT s1, hH.le.seqT s2, by rw [t1.length, t2.length]; exact hz, fun z => ?_, fun z => ?_, fun pp hp => new_tup (.refl hH) (t1.append t2) hp q⟩
  · have := t1.nil_iff.mp z
    subst this
    exact q F H _ (.refl hH) (.tup s2 t2)
  · have := t2.nil_iff.mp z
    subst this
    rw [List.append_nil] at q
    exact q F H _ (.refl hH) (.tup s1 t1)
theorem ev_catT (ha : EV X Γ a (.dat (.tup ds)) Γ1) (hb : EV X Γ1 b (.dat (.tup es)) Γ2) (hz : ds.length + es.length ≤ sizeLine) : EV X Γ (.BinOp a .Add b pos) (.dat (.tup (ds ++ es))) Γ2 := ev_op op_catT2 (o2catT hz) ha hb
theorem o2catL {K : PySem.W.Frag} (w1 : View Γ ra ds) (w2 : View Γ rb es) (hz : ds.length + es.length ≤ sizeLine) : Op2 K Γ ra rb (.own (.lst (ds ++ es))) (rCat2 K) := fun F σ H A x y Q hH hx hy q => by
  obtain ⟨p, vs, e1, s1, t1⟩ := w1.at hH hx
  obtain ⟨p2, ws, e2, s2, t2⟩ := w2.at hH hy
  exact ⟨p, p2, vs, ws, e1, e2, s1, s2, by rw [t1.length, t2.length]; exact hz, fun pp hp => new_list (.refl hH) (t1.append t2) hp q⟩
theorem ev_catL (ha : EV X Γ a ra Γ1) (hb : EV X Γ1 b rb Γ2) (w1 : View Γ2 ra ds) (w2 : View Γ2 rb es) (hz : ds.length + es.length ≤ sizeLine) : EV X Γ (.BinOp a .Add b pos) (.own (.lst (ds ++ es))) Γ2 := ev_op op_cat2 (o2catL w1 w2 hz) ha hb
/-- texts -/
theorem ev_catS {x y : Str} (ha : EV X Γ a (.dat (.str x)) Γ1) (hb : EV X Γ1 b (.dat (.str y)) Γ2) (hz : x.length + y.length ≤ sizeLine) : EV X Γ (.BinOp a .Add b pos) (.dat (.str (x ++ y))) Γ2 :=
  ev_op op_add_str (fun F σ H A x y Q hH hx hy q => by cases hx; cases hy; exact ⟨_, _, rfl, rfl, hz, q F H _ (.refl hH) (.str _)⟩) ha hb

/-! ### slices -/
def cutD (xs : List D) (lo hi : Option Int) : List D := (xs.drop (HT.sIx xs.length 0 lo)).take (HT.sIx xs.length xs.length hi - HT.sIx xs.length 0 lo)
theorem RepL.cut {K : PySem.W.Frag} {F : Hp} {vs : List V} (h : RepL K F vs ds) (lo hi : Option Int) : RepL K F (cutV vs lo hi) (cutD ds lo hi) := by
  unfold cutV cutD
  rw [h.length]
  exact (h.drop _).take _
/-- a bound of a slice -/
def OV (X : Cx) (Γ : Env') (e : Option Expr) (o : Option Int) (Γ' : Env') : Prop := ∃ t, PO X e t ∧ ∀ (σ : L2.St) (H : Hp) (Q : Option Int → Hp → Prop) (F : Hp), Holds X.K F Γ σ H → (∀ F' H', Post X.K Γ σ F H Γ' σ F' H' → Q o H') → t σ H Q
theorem ov_none : OV X Γ none none Γ := ⟨_, po_none, fun σ H Q F hH q => q F H (.refl hH)⟩
theorem ov_some (h : EV X Γ e (.dat (.int i)) Γ1) : OV X Γ (some e) (some i) Γ1 := ⟨_, po_some h, fun σ H Q F hH q => ⟨F, hH, fun F' H' v p hv => by cases hv; exact ⟨i, rfl, q F' H' p⟩⟩⟩
theorem ev_slL {lo hi : Option Expr} {l u : Option Int} {p2 : Pos} (ha : EV X Γ a ra Γ1) (hl : OV X Γ1 lo l Γ2) (hu : OV X Γ2 hi u Γ3) (w : View Γ3 ra ds) : EV X Γ (.Subscript a (.Slice lo hi none p2) pos) (.own (.lst (cutD ds l u))) Γ3 := by
  obtain ⟨t1, h1, w1⟩ := hl
  obtain ⟨t2, h2, w2⟩ := hu
  refine PE.weak (pe_slice sl_list ha h1 h2) fun σ H Q ⟨F, hH, q⟩ => ⟨F, hH, fun F1 H1 v q1 hv => w1 σ H1 _ F1 q1.ok fun F2 H2 q2 => w2 σ H2 _ F2 q2.ok fun F3 H3 q3 => ?_⟩
  obtain ⟨p, vs, e1, s1, t1⟩ := w.at q3.ok ((hv.later q2 (B := fun _ => True) (fun _ _ => trivial)).later q3 (fun _ z => z))
  exact ⟨p, vs, e1, s1, fun pp hp => new_list ((q1.trans q2).trans q3) (t1.cut l u) hp q⟩
theorem ev_revL {k : Nat} {p1 p2 p3 : Pos} (ha : EV X Γ a ra Γ1) (w : View Γ1 ra ds) : EV X Γ (.Subscript a (.Slice none none (some (.UnaryOp .USub (.Constant (.int 1) k p1) p2)) p3) pos) (.own (.lst ds.reverse)) Γ1 :=
  PE.weak (pe_revL ha) fun σ H Q ⟨F, hH, q⟩ => ⟨F, hH, fun F1 H1 v q1 hv => by
    obtain ⟨p, vs, e1, s1, t1⟩ := w.at q1.ok hv
    exact ⟨p, vs, e1, s1, fun pp hp => new_list q1 t1.reverse hp q⟩⟩

/-! ### calls of what is built in -/
/-- a call on results -/
def OpC (K : PySem.W.Frag) (Γ : Env') (rs : List Rv) (rv : Rv) (r : List V → Hp → VK → Prop) : Prop := ∀ (F : Hp) (σ : L2.St) (H : Hp) (A : Addr → Prop) (vs : List V) (Q : VK), Holds K F Γ σ H → Paired (fun v r => RvOk K F Γ σ H A v r) vs rs →
  (∀ F' H' v, Post K Γ σ F H Γ σ F' H' → RvOk K F' Γ σ H' (NewAt Γ σ H) v rv → Q v H') → r vs H Q
theorem opC_run {K : PySem.W.Frag} {rs : List Rv} {t : List V → Hp → VK → Prop} {ta : TA} (ha : ∀ σ H Q, tAV K Γ rs Γ1 σ H Q → ta σ H Q) (h : OpC K Γ1 rs rv t) (σ : L2.St) (H : Hp) (Q : VK) (hq : tEV K Γ rv Γ1 σ H Q) : tCB t ta σ H Q := by
  obtain ⟨F, hH, q⟩ := hq
  refine ha σ H _ ⟨F, hH, fun F1 H1 vs p hvs => ?_⟩
  exact h F1 σ H1 _ vs Q p.ok hvs fun F2 H2 v p2 hv => q F2 H2 v (p.trans p2) (hv.at fun _ z => NewAt.back p z)
variable {x : Str} {p : Pos} {rs : List Rv} {el : List Expr} {bid T : String} {t : List V → Hp → VK → Prop}
theorem ev_callB (hc : CallR X (.builtin bid) t) (hg : Gl X x) (hm : X.mg x = none) (hv : bootBuiltins x = some (.builtin bid)) (h : OpC X.K Γ1 rs rv t) (ha : AV X Γ (e :: el) rs Γ1) (hn : x ≠ "__name__" := by decide) (hdb : (x == ("__debug__" : Str)) = false := by decide)
    (he : starEach (e :: el) X.env = (false, eval e X.env) :: starEach el X.env := by rfl) (hpl : (backTo pos (starEach el X.env)).any (·.1) = false := by rfl) : EV X Γ (.Call (.Name x p) (e :: el) [] pos) rv Γ1 :=
  PE.weak (pe_callB hc hg hm hv ha hn hdb he hpl) (opC_run (fun _ _ _ h => h) h)
theorem ev_callTy (hc : CallR X (.type T) t) (hg : Gl X x) (hm : X.mg x = none) (hv : bootBuiltins x = some (.type T)) (h : OpC X.K Γ1 rs rv t) (ha : AV X Γ (e :: el) rs Γ1) (hn : x ≠ "__name__" := by decide) (hdb : (x == ("__debug__" : Str)) = false := by decide)
    (he : starEach (e :: el) X.env = (false, eval e X.env) :: starEach el X.env := by rfl) (hpl : (backTo pos (starEach el X.env)).any (·.1) = false := by rfl) : EV X Γ (.Call (.Name x p) (e :: el) [] pos) rv Γ1 :=
  PE.weak (pe_callTy hc hg hm hv ha hn hdb he hpl) (opC_run (fun _ _ _ h => h) h)
theorem oc_len {K : PySem.W.Frag} (w : VSeq Γ r ds) : OpC K Γ [r] (.dat (.int (ds.length : Nat))) (fun xs H Q => ∃ p ys, xs = [.ref p] ∧ (SqL K H p ys ∨ SqT K H p ys) ∧ Q (.int ys.length) H) := fun F σ H A vs Q hH hv q => by
  cases hv with
  | cons h t =>
    cases t
    obtain ⟨a, ws, e, s, t⟩ := w.at hH h
    subst e
    exact ⟨a, ws, rfl, s, by rw [t.length]; exact q F H _ (.refl hH) (.int _)⟩
theorem ev_len (hg : Gl X "len") (hm : X.mg "len" = none) (w : VSeq Γ1 r ds) (ha : EV X Γ a r Γ1) (hs : starEach [a] X.env = (false, eval a X.env) :: starEach [] X.env := by rfl) : EV X Γ (.Call (.Name "len" p) [a] [] pos) (.dat (.int (ds.length : Nat))) Γ1 :=
  ev_callB call_len_seq hg hm PySem.boot_len (oc_len w) (av_cons ha av_nil hs) (by decide) (by decide) hs rfl
theorem ev_lenS {z : Str} (hg : Gl X "len") (hm : X.mg "len" = none) (hz : z.length ≤ sizeLine) (ha : EV X Γ a (.dat (.str z)) Γ1) (hs : starEach [a] X.env = (false, eval a X.env) :: starEach [] X.env := by rfl) : EV X Γ (.Call (.Name "len" p) [a] [] pos) (.dat (.int (z.length : Nat))) Γ1 :=
  ev_callB call_len_str hg hm PySem.boot_len (fun F σ H A vs Q hH hv q => by
    cases hv with
    | cons h t => cases t; cases h; exact ⟨z, rfl, hz, q F H _ (.refl hH) (.int _)⟩) (av_cons ha av_nil hs) (by decide) (by decide) hs rfl
theorem ev_abs (hg : Gl X "abs") (hm : X.mg "abs" = none) (ha : EV X Γ a (.dat (.int i)) Γ1) (hs : starEach [a] X.env = (false, eval a X.env) :: starEach [] X.env := by rfl) : EV X Γ (.Call (.Name "abs" p) [a] [] pos) (.dat (.int (if i < 0 then -i else i))) Γ1 :=
  ev_callB call_abs hg hm (by decide +kernel) (fun F σ H A vs Q hH hv q => by
    cases hv with
    | cons h t => cases t; cases h; exact ⟨i, rfl, q F H _ (.refl hH) (.int _)⟩) (av_cons ha av_nil hs) (by decide) (by decide) hs rfl
theorem ev_int1 (hg : Gl X "int") (hm : X.mg "int" = none) (ha : EV X Γ a (.dat (.int i)) Γ1) (hs : starEach [a] X.env = (false, eval a X.env) :: starEach [] X.env := by rfl) : EV X Γ (.Call (.Name "int" p) [a] [] pos) (.dat (.int i)) Γ1 :=
  ev_callTy call_int1 hg hm (by decide +kernel) (fun F σ H A vs Q hH hv q => by
    cases hv with
    | cons h t => cases t; cases h; exact .inl ⟨i, rfl, q F H _ (.refl hH) (.int _)⟩) (av_cons ha av_nil hs) (by decide) (by decide) hs rfl
theorem ev_any {bs : List Bool} (hc : X.calm = true) (hg : Gl X "any") (hm : X.mg "any" = none) (w : View Γ1 r (bs.map D.bl)) (ha : EV X Γ a r Γ1) (hs : starEach [a] X.env = (false, eval a X.env) :: starEach [] X.env := by rfl) : EV X Γ (.Call (.Name "any" p) [a] [] pos) (.dat (.bl (bs.any id))) Γ1 :=
  ev_callB (cr_any hc) hg hm (by decide +kernel) (fun F σ H A vs Q hH hv q => by
    cases hv with
    | cons h t =>
      cases t
      obtain ⟨x, ws, e, s, t⟩ := w.at hH h
      subst e
      have := t.bls
      subst this
      exact ⟨x, bs, rfl, s, q F H _ (.refl hH) (.bl _)⟩) (av_cons ha av_nil hs) (by decide) (by decide) hs rfl
theorem ev_all {bs : List Bool} (hc : X.calm = true) (hg : Gl X "all") (hm : X.mg "all" = none) (w : View Γ1 r (bs.map D.bl)) (ha : EV X Γ a r Γ1) (hs : starEach [a] X.env = (false, eval a X.env) :: starEach [] X.env := by rfl) : EV X Γ (.Call (.Name "all" p) [a] [] pos) (.dat (.bl (bs.all id))) Γ1 :=
  ev_callB (cr_all hc) hg hm (by decide +kernel) (fun F σ H A vs Q hH hv q => by
    cases hv with
    | cons h t =>
      cases t
      obtain ⟨x, ws, e, s, t⟩ := w.at hH h
      subst e
      have := t.bls
      subst this
      exact ⟨x, bs, rfl, s, q F H _ (.refl hH) (.bl _)⟩) (av_cons ha av_nil hs) (by decide) (by decide) hs rfl
theorem ev_list (hg : Gl X "list") (hm : X.mg "list" = none) (w : VSeq Γ1 r ds) (ha : EV X Γ a r Γ1) (hs : starEach [a] X.env = (false, eval a X.env) :: starEach [] X.env := by rfl) : EV X Γ (.Call (.Name "list" p) [a] [] pos) (.own (.lst ds)) Γ1 :=
  ev_callTy call_list_of hg hm (by decide +kernel) (fun F σ H A vs Q hH hv q => by
    cases hv with
    | cons h t =>
      cases t
      obtain ⟨x, ws, e, s, t⟩ := w.at hH h
      subst e
      exact ⟨x, ws, rfl, s, fun l hl => new_list (.refl hH) t hl q⟩) (av_cons ha av_nil hs) (by decide) (by decide) hs rfl
theorem ev_tuple (hg : Gl X "tuple") (hm : X.mg "tuple" = none) (w : VSeq Γ1 r ds) (ha : EV X Γ a r Γ1) (hs : starEach [a] X.env = (false, eval a X.env) :: starEach [] X.env := by rfl) : EV X Γ (.Call (.Name "tuple" p) [a] [] pos) (.dat (.tup ds)) Γ1 :=
  ev_callTy call_tuple_of hg hm (by decide +kernel) (fun F σ H A vs Q hH hv q => by
    cases hv with
    | cons h t =>
      cases t
      cases w with
      | l w =>
        obtain ⟨x, ws, e, s, t⟩ := w.at hH h
        subst e
        exact ⟨x, ws, rfl, .inl ⟨s, fun l hl => new_tup (.refl hH) t hl q⟩⟩
      | t =>
        obtain ⟨x, ws, e, s, t⟩ := Rep.tup_at h
        subst e
        exact ⟨x, ws, rfl, .inr ⟨hH.le.seqT s, q F H _ (.refl hH) (.tup s t)⟩⟩) (av_cons ha av_nil hs) (by decide) (by decide) hs rfl

/-! ### isinstance of data -/
def D.ty : D → String
  | .non => "NoneType" | .bl _ => "bool" | .int _ => "int" | .str _ => "str" | .tup _ => "tuple" | .lst _ => "list"
theorem ty_seqT {K : PySem.W.Frag} {H : Hp} {a : Addr} {vs : List V} (h : SqT K H a vs) : TyX K H (.ref a) (.type "tuple") := by
  rcases h with (h | ⟨o, h⟩) | ⟨o, its, n, h1, h2, _⟩
  · exact .base (.tup h)
  · exact .fTuple h
  · exact .kTuple h1 h2
theorem ty_seqL {K : PySem.W.Frag} {H : Hp} {a : Addr} {vs : List V} (h : SqL K H a vs) : TyX K H (.ref a) (.type "list") := by
  rcases h with (h | ⟨o, h⟩) | ⟨o, its, n, h1, h2, _⟩
  · exact .base (.lst h)
  · exact .base (.frz h)
  · exact .kList h1 h2
theorem Rep.ty {K : PySem.W.Frag} {F H : Hp} {v : V} (l : Le F H) (h : Rep K F v d) : TyX K H v (.type d.ty) := by
  cases h with
  | non => exact .base .non
  | bl b => exact .base (.bl b)
  | int i => exact .base (.int i)
  | str x => exact .base (.str x)
  | tup s _ => exact ty_seqT (l.seqT s)
  | lst s _ => exact ty_seqL (l.seqL s)
theorem ev_isi {y : Str} {py : Pos} {k : Bool} (hg : Gl X "isinstance") (hm : X.mg "isinstance" = none) (hg2 : Gl X y) (hm2 : X.mg y = none) (hv2 : bootBuiltins y = some (.type T)) (ha : EV X Γ a (.dat d) Γ1) (hk : kitB d.ty T = some k)
    (hn : y ≠ "__name__" := by decide) (hdb : (y == ("__debug__" : Str)) = false := by decide) (hs2 : starEach (a :: [.Name y py]) X.env = (false, eval a X.env) :: starEach [.Name y py] X.env := by rfl)
    (hpl : (backTo pos (starEach [.Name y py] X.env)).any (·.1) = false := by rfl) :
    EV X Γ (.Call (.Name "isinstance" p) [a, .Name y py] [] pos) (.dat (.bl k)) Γ1 :=
  PE.weak (pe_callB call_isi hg hm (by decide +kernel) (pa_cons ha (pa_cons (pe_bltn (v := .ty T) hg2 hm2 hv2 rfl hn hdb) pa_nil rfl) hs2) (by decide) (by decide) hs2 hpl) fun σ H Q ⟨F, hH, q⟩ => ⟨F, hH, fun F1 H1 v p1 hv =>
    ⟨v, .ty T, .type d.ty, .type T, k, rfl, .ty T, Rep.ty p1.ok.le hv, kit_ty hk, q F1 H1 _ p1 (.bl k)⟩⟩
end
end PD
namespace PD
open PySem PySem.Spec PyProof.Rows L2
/-! ### in, methods of an owned list -/
section
variable {X : Cx} {Γ Γ1 Γ2 Γ3 : Env'} {e a b c : Expr} {pos p px apos : Pos} {r ra rb rc rv : Rv} {d : D} {ds es : List D} {i j : Int}
theorem inV_ints (i : Int) : ∀ ns : List Int, inV (.int i) (ns.map V.int) = decide (i ∈ ns)
  | [] => rfl
  | n :: ns => by
    have ih := inV_ints i ns
    unfold inV at ih ⊢
    rw [List.map_cons, List.any_cons, ih]
    show (n == i || decide (i ∈ ns)) = decide (i ∈ n :: ns)
    by_cases h : n = i
    · subst h; simp
    · have : (n == i) = false := beq_eq_false_iff_ne.mpr h
      rw [this, Bool.false_or]
      exact decide_eq_decide.mpr ⟨fun z => List.mem_cons_of_mem _ z, fun z => (List.mem_cons.mp z).resolve_left (Ne.symm h)⟩
theorem inV_strs (i : Str) : ∀ ns : List Str, inV (.str i) (ns.map V.str) = decide (i ∈ ns)
  | [] => rfl
  | n :: ns => by
    have ih := inV_strs i ns
    unfold inV at ih ⊢
    rw [List.map_cons, List.any_cons, ih]
    show (n == i || decide (i ∈ ns)) = decide (i ∈ n :: ns)
    by_cases h : n = i
    · subst h; simp
    · have : (n == i) = false := beq_eq_false_iff_ne.mpr h
      rw [this, Bool.false_or]
      exact decide_eq_decide.mpr ⟨fun z => List.mem_cons_of_mem _ z, fun z => (List.mem_cons.mp z).resolve_left (Ne.symm h)⟩
theorem flat_ints : ∀ ns : List Int, (ns.map V.int).all flatV = true
  | [] => rfl
  | _ :: ns => by rw [List.map_cons, List.all_cons, flat_ints ns]; rfl
theorem flat_strs : ∀ ns : List Str, (ns.map V.str).all flatV = true
  | [] => rfl
  | _ :: ns => by rw [List.map_cons, List.all_cons, flat_strs ns]; rfl
theorem o2inI {K : PySem.W.Frag} {ns : List Int} {neg : Bool} (w : VSeq Γ rb (ns.map D.int)) : Op2 K Γ (.dat (.int i)) rb (.dat (.bl (if neg then !decide (i ∈ ns) else decide (i ∈ ns)))) (rIn K neg) := fun F σ H A x y Q hH hx hy q => by
  cases hx
  obtain ⟨p, vs, e, s, t⟩ := w.at hH hy
  have := t.ints
  subst this
  refine ⟨p, _, e, s, rfl, flat_ints ns, ?_⟩
  rw [inV_ints]
  exact q F H _ (.refl hH) (.bl _)
theorem o2inS {K : PySem.W.Frag} {z : Str} {ns : List Str} {neg : Bool} (w : VSeq Γ rb (ns.map D.str)) : Op2 K Γ (.dat (.str z)) rb (.dat (.bl (if neg then !decide (z ∈ ns) else decide (z ∈ ns)))) (rIn K neg) := fun F σ H A x y Q hH hx hy q => by
  cases hx
  obtain ⟨p, vs, e, s, t⟩ := w.at hH hy
  have := t.strs
  subst this
  refine ⟨p, _, e, s, rfl, flat_strs ns, ?_⟩
  rw [inV_strs]
  exact q F H _ (.refl hH) (.bl _)
theorem ev_inI {ns : List Int} (ha : EV X Γ a (.dat (.int i)) Γ1) (hb : EV X Γ1 b rb Γ2) (w : VSeq Γ2 rb (ns.map D.int)) (hm : behindInMarks .In b = false := by rfl) : EV X Γ (.Compare a [.In] [b] pos) (.dat (.bl (decide (i ∈ ns)))) Γ2 := ev_cmp op_in_seq hm (o2inI (neg := false) w) ha hb
theorem tv_inI {ns : List Int} (ha : EV X Γ a (.dat (.int i)) Γ1) (hb : EV X Γ1 b rb Γ2) (w : VSeq Γ2 rb (ns.map D.int)) (hm : behindInMarks .In b = false := by rfl) : TV X Γ (.Compare a [.In] [b] pos) (decide (i ∈ ns)) Γ2 := tv_cmp op_in_seq hm (o2inI (neg := false) w) ha hb
theorem ev_inS {z : Str} {ns : List Str} (ha : EV X Γ a (.dat (.str z)) Γ1) (hb : EV X Γ1 b rb Γ2) (w : VSeq Γ2 rb (ns.map D.str)) (hm : behindInMarks .In b = false := by rfl) : EV X Γ (.Compare a [.In] [b] pos) (.dat (.bl (decide (z ∈ ns)))) Γ2 := ev_cmp op_in_seq hm (o2inS (neg := false) w) ha hb
theorem tv_inS {z : Str} {ns : List Str} (ha : EV X Γ a (.dat (.str z)) Γ1) (hb : EV X Γ1 b rb Γ2) (w : VSeq Γ2 rb (ns.map D.str)) (hm : behindInMarks .In b = false := by rfl) : TV X Γ (.Compare a [.In] [b] pos) (decide (z ∈ ns)) Γ2 := tv_cmp op_in_seq hm (o2inS (neg := false) w) ha hb
theorem ev_ninS {z : Str} {ns : List Str} (ha : EV X Γ a (.dat (.str z)) Γ1) (hb : EV X Γ1 b rb Γ2) (w : VSeq Γ2 rb (ns.map D.str)) (hm : behindInMarks .NotIn b = false := by rfl) : EV X Γ (.Compare a [.NotIn] [b] pos) (.dat (.bl (!decide (z ∈ ns)))) Γ2 := ev_cmp op_notIn_seq hm (o2inS (neg := true) w) ha hb
theorem tv_ninS {z : Str} {ns : List Str} (ha : EV X Γ a (.dat (.str z)) Γ1) (hb : EV X Γ1 b rb Γ2) (w : VSeq Γ2 rb (ns.map D.str)) (hm : behindInMarks .NotIn b = false := by rfl) : TV X Γ (.Compare a [.NotIn] [b] pos) (!decide (z ∈ ns)) Γ2 := tv_cmp op_notIn_seq hm (o2inS (neg := true) w) ha hb

variable {x : Str} {k : Nat} {ao : Option Addr}
theorem ev_append (hv : PE X (.Name x px) (tVar k)) (hk : Γ[k]? = some (.own ao (.lst es))) (ha : EV X Γ a (.dat d) Γ1) (hk1 : Γ1[k]? = some (.own ao (.lst ds))) (hz : ds.length < sizeLine)
    (hbase : attributeBase (.Name x px) "append" X.env (eval (.Name x px) X.env) = eval (.Name x px) X.env := by rfl)
    (hfew : ((backTo pos (starEach [a] X.env)).all (fun x => !x.1) && (backToKw pos (keywordEach [] X.env)).all (fun x => x.1.isSome) && decide ([a].length + ([] : List Keyword).length + (if ([] : List Keyword).isEmpty then 0 else 1) < 30)) = true := by rfl)
    (hline : (apos.endLine == pos.line) = true := by rfl) (hs : starEach [a] X.env = (false, eval a X.env) :: starEach [] X.env := by rfl) :
    EV X Γ (.Call (.Attribute (.Name x px) "append" apos) [a] [] pos) (.dat .non) (Γ1.set k (.own ao (.lst (ds ++ [d])))) :=
  PE.weak (pe_bm PySem.F.plainAttrs_list PySem.F.slot_list_append PySem.F.type_list_append mt_append hv (pa_cons ha pa_nil hs) hbase hfew hline hs rfl) fun σ H Q ⟨F, hH, q⟩ => by
    obtain ⟨x0, ho0, f1, f2, f3, f4, vs0, rfl, _⟩ := hH.own hk
    refine ⟨_, f1, .inl ⟨rfl, _, SqL.of f3⟩, F, hH, fun F1 H1 v p1 hv => ?_⟩
    obtain ⟨x1, ho1, g1, g2, g3, g4, vs1, rfl, g5⟩ := p1.ok.own hk1
    rw [f1] at g1; cases g1
    refine ⟨x0, vs1, v, rfl, rfl, g3, by rw [g5.length]; exact hz, ?_⟩
    have p2 := Post.write p1.ok hk1 f1 (c' := .lst (ds ++ [d])) (o := .lst (vs1 ++ [v])) ⟨_, rfl, g5.append (RepL.one hv)⟩
    exact q _ _ _ (p1.trans p2) .non
theorem ev_pop (hv : PE X (.Name x px) (tVar k)) (hk : Γ[k]? = some (.own ao (.lst ds))) (hl : ds[ds.length - 1]? = some d)
    (hbase : attributeBase (.Name x px) "pop" X.env (eval (.Name x px) X.env) = eval (.Name x px) X.env := by rfl) (hline : (apos.endLine == pos.line) = true := by rfl) :
    EV X Γ (.Call (.Attribute (.Name x px) "pop" apos) [] [] pos) (.dat d) (Γ.set k (.own ao (.lst ds.dropLast))) :=
  PE.weak (pe_bm0 PySem.F.plainAttrs_list PySem.F.slot_list_pop PySem.F.type_list_pop mt_pop hv hbase hline) fun σ H Q ⟨F, hH, q⟩ => by
    obtain ⟨x0, ho0, f1, f2, f3, f4, vs0, rfl, f5⟩ := hH.own hk
    obtain ⟨v, e1, e2⟩ := f5.get hl
    refine ⟨_, f1, .inl ⟨rfl, _, SqL.of f3⟩, x0, vs0, v, rfl, rfl, f3, by rw [f5.length]; exact e1, ?_⟩
    have p2 := Post.write hH hk f1 (c' := .lst ds.dropLast) (o := .lst vs0.dropLast) ⟨_, rfl, f5.dropLast⟩
    exact q _ _ _ p2 e2
/-- xs.index(x), x a text that is there -/
theorem strs_at {ns : List Str} {m : Nat} {v : V} (h : (ns.map V.str)[m]? = some v) : ∃ y, ns[m]? = some y ∧ v = .str y := by
  rw [List.getElem?_map] at h
  cases e : ns[m]? with
  | none => rw [e] at h; cases h
  | some y => rw [e] at h; cases h; exact ⟨y, rfl, rfl⟩
theorem ev_indexS {z : Str} {ns : List Str} {m : Nat} (he : EV X Γ e re Γ1) (ha : EV X Γ1 a (.dat (.str z)) Γ1) (w : View Γ1 re (ns.map D.str)) (hm : ns[m]? = some z) (hno : ∀ l, l < m → ns[l]? ≠ some z)
    (hbase : attributeBase e "index" X.env (eval e X.env) = eval e X.env := by rfl)
    (hfew : ((backTo pos (starEach [a] X.env)).all (fun x => !x.1) && (backToKw pos (keywordEach [] X.env)).all (fun x => x.1.isSome) && decide ([a].length + ([] : List Keyword).length + (if ([] : List Keyword).isEmpty then 0 else 1) < 30)) = true := by rfl)
    (hline : (apos.endLine == pos.line) = true := by rfl) (hs : starEach [a] X.env = (false, eval a X.env) :: starEach [] X.env := by rfl) :
    EV X Γ (.Call (.Attribute e "index" apos) [a] [] pos) (.dat (.int (m : Nat))) Γ1 :=
  PE.weak (pe_bm PySem.F.plainAttrs_list PySem.F.slot_list_index PySem.F.type_list_index mt_index he (pa_cons ha pa_nil hs) hbase hfew hline hs rfl) fun σ H Q ⟨F, hH, q⟩ => ⟨F, hH, fun F1 H1 v p1 hv => by
    obtain ⟨x0, vs0, rfl, s0, t0⟩ := w.at p1.ok hv
    refine ⟨.inl ⟨rfl, _, s0⟩, F1, p1.ok, fun F2 H2 u p2 hu => ?_⟩
    obtain ⟨x2, vs2, e2, s2, t2⟩ := w.at p2.ok (hv.later p2 (B := fun _ => True) (fun _ _ => trivial))
    cases e2
    cases hu
    have := t2.strs
    subst this
    refine ⟨x0, _, .str z, m, .str z, rfl, rfl, s2, rfl, flat_strs ns, by rw [List.getElem?_map, hm]; rfl, by simp [eqV], fun l z' hl hz' => ?_, q F2 H2 _ (p1.trans p2) (.int _)⟩
    obtain ⟨y, hy, rfl⟩ := strs_at hz'
    have ne : y ≠ z := fun h => hno l hl (by rw [hy, h])
    show (y == z) = false
    exact beq_eq_false_iff_ne.mpr ne⟩
end

/-! ### statements -/
/-- how a statement ends: behind it, at the loop's next turn, behind the loop, with a value -/
inductive LO (S L R : Type) where
  | next (s : S) | cnt (l : L) | brk (l : L) | ret (r : R)
def LO.bind {S S' L R : Type} : LO S L R → (S → LO S' L R) → LO S' L R
  | .next s, k => k s
  | .cnt l, _ => .cnt l
  | .brk l, _ => .brk l
  | .ret r, _ => .ret r
section
variable {X : Cx} {Γ Γ1 Γ2 Γ3 : Env'} {e a b c : Expr} {pos p px apos : Pos} {r ra rb rc rv : Rv} {d : D} {ds es : List D} {i j : Int} {S S' L R : Type} {G : S → Env'} {G' : S' → Env'} {Lp : L → Env'} {Kr : R → Rv × Env'} {st : Stmt} {rest : List Stmt} {o : LO S L R}
def qST (K : PySem.W.Frag) (Γ : Env') (G : S → Env') (Lp : L → Env') (Kr : R → Rv × Env') (D : Ends) (σ : L2.St) (F H : Hp) : LO S L R → Prop
  | .next s => ∀ F' H' σ', Post K Γ σ F H (G s) σ' F' H' → D.nx σ' H'
  | .cnt l => ∀ F' H' σ', Post K Γ σ F H (Lp l) σ' F' H' → D.ct σ' H'
  | .brk l => ∀ F' H' σ', Post K Γ σ F H (Lp l) σ' F' H' → D.bk σ' H'
  | .ret r => ∀ F' H' σ' v, Post K Γ σ F H (Kr r).2 σ' F' H' → RvOk K F' (Kr r).2 σ' H' (NewAt Γ σ H) v (Kr r).1 → D.rt v H'
theorem qST.later {K : PySem.W.Frag} {D : Ends} {σ σ1 : L2.St} {F H F1 H1 : Hp} (p1 : Post K Γ σ F H Γ1 σ1 F1 H1) (q : qST K Γ G Lp Kr D σ F H o) : qST K Γ1 G Lp Kr D σ1 F1 H1 o := by
  cases o with
  | next s => exact fun F2 H2 σ2 p2 => q F2 H2 σ2 (p1.trans p2)
  | cnt l => exact fun F2 H2 σ2 p2 => q F2 H2 σ2 (p1.trans p2)
  | brk l => exact fun F2 H2 σ2 p2 => q F2 H2 σ2 (p1.trans p2)
  | ret r => exact fun F2 H2 σ2 v p2 hv => q F2 H2 σ2 v (p1.trans p2) (hv.at fun _ z => NewAt.back p1 z)
def tST (K : PySem.W.Frag) (Γ : Env') (G : S → Env') (Lp : L → Env') (Kr : R → Rv × Env') (o : LO S L R) : TS := fun D σ H => ∃ F, Holds K F Γ σ H ∧ qST K Γ G Lp Kr D σ F H o
def ST (X : Cx) (Γ : Env') (st : Stmt) (G : S → Env') (Lp : L → Env') (Kr : R → Rv × Env') (o : LO S L R) : Prop := PS X st (tST X.K Γ G Lp Kr o)
def SS (X : Cx) (Γ : Env') (st : List Stmt) (G : S → Env') (Lp : L → Env') (Kr : R → Rv × Env') (o : LO S L R) : Prop := PSs X st (tST X.K Γ G Lp Kr o)
theorem ss_nil {s : S} (w : Weak Γ (G s)) : SS X Γ [] G Lp Kr (.next s) := PSs.weak pss_nil fun D σ H ⟨F, hH, q⟩ => q F H σ ((Post.refl hH).weak w)
theorem ss_cons {o1 : LO S' L R} {k : S' → LO S L R} (h1 : ST X Γ st G' Lp Kr o1) (h2 : ∀ s, o1 = .next s → SS X (G' s) rest G Lp Kr (k s)) : SS X Γ (st :: rest) G Lp Kr (o1.bind k) := by
  cases o1 with
  | next s => exact PSs.weak (pss_cons h1 (h2 s rfl)) fun D σ H ⟨F, hH, q⟩ => ⟨F, hH, fun F1 H1 σ1 p1 => ⟨F1, p1.ok, qST.later (o := k s) p1 q⟩⟩
  | cnt l => exact PSs.weak (pss_cons h1 pss_never) fun D σ H ⟨F, hH, q⟩ => ⟨F, hH, q⟩
  | brk l => exact PSs.weak (pss_cons h1 pss_never) fun D σ H ⟨F, hH, q⟩ => ⟨F, hH, q⟩
  | ret r => exact PSs.weak (pss_cons h1 pss_never) fun D σ H ⟨F, hH, q⟩ => ⟨F, hH, q⟩
/-- a last statement that does not go on -/
theorem ss_one {o : LO S L R} (h1 : ST X Γ st G Lp Kr o) : SS X Γ [st] G Lp Kr o := PSs.weak (pss_one h1) fun D σ H h => h
theorem st_pass {s : S} (w : Weak Γ (G s)) : ST X Γ (.Pass pos) G Lp Kr (.next s) := PS.weak ps_pass fun D σ H ⟨F, hH, q⟩ => q F H σ ((Post.refl hH).weak w)
theorem st_break {l : L} (w : Weak Γ (Lp l)) : ST X Γ (.Break pos) G Lp Kr (.brk l) := PS.weak ps_break fun D σ H ⟨F, hH, q⟩ => q F H σ ((Post.refl hH).weak w)
theorem st_cont {l : L} (w : Weak Γ (Lp l)) : ST X Γ (.Continue pos) G Lp Kr (.cnt l) := PS.weak ps_continue fun D σ H ⟨F, hH, q⟩ => q F H σ ((Post.refl hH).weak w)
/-- what comes out may be forgotten -/
theorem st_expr {s : S} (h : EV X Γ e r Γ1) (w : Weak Γ1 (G s)) (hs : swapsWith e none pos.line X.env = pure false := by rfl) : ST X Γ (.Expr e pos) G Lp Kr (.next s) :=
  PS.weak (ps_expr h hs) fun D σ H ⟨F, hH, q⟩ => ⟨F, hH, fun F1 H1 v p1 hv => q F1 H1 σ (p1.weak w)⟩
theorem st_ret {r : R} {rv : Rv} (h : EV X Γ e rv Γ1) (hr : (Kr r).1 = rv) (w : Weak Γ1 (Kr r).2) (nb : ∀ i, rv ≠ .bor i := by intro _ h; cases h) : ST X Γ (.Return (some e) pos) G Lp Kr (.ret r) :=
  PS.weak (ps_ret h) fun D σ H ⟨F, hH, q⟩ => ⟨F, hH, fun F1 H1 v p1 hv => q F1 H1 σ v (p1.weak w) (by
    rw [hr]
    cases rv with
    | dat d => exact hv
    | own oc => obtain ⟨x, ho, e1, h1, h2, h3, h4, h5⟩ := hv; exact ⟨x, ho, e1, h1, h2, h3, fun z => h4 (z.weak w), h5⟩
    | bor i => exact absurd rfl (nb i))⟩
theorem st_retN {r : R} (hr : (Kr r).1 = .dat .non) (w : Weak Γ (Kr r).2) : ST X Γ (.Return none pos) G Lp Kr (.ret r) :=
  PS.weak ps_retN fun D σ H ⟨F, hH, q⟩ => q F H σ .non ((Post.refl hH).weak w) (by rw [hr]; exact .non)
theorem st_if {A B : List Stmt} {k : Bool} {o1 o2 : LO S L R} (hc : TV X Γ c k Γ1) (hA : k = true → SS X Γ1 A G Lp Kr o1) (hB : k = false → SS X Γ1 B G Lp Kr o2) : ST X Γ (.If c A B pos) G Lp Kr (if k then o1 else o2) := by
  cases k with
  | true => exact PS.weak (ps_if hc (hA rfl) pss_never) fun D σ H ⟨F, hH, q⟩ => ⟨F, hH, fun F1 H1 p1 => iteT ⟨F1, p1.ok, qST.later (o := o1) p1 q⟩⟩
  | false => exact PS.weak (ps_if hc pss_never (hB rfl)) fun D σ H ⟨F, hH, q⟩ => ⟨F, hH, fun F1 H1 p1 => iteF ⟨F1, p1.ok, qST.later (o := o2) p1 q⟩⟩

/-! ### targets -/
/-- data goes to a target -/
def GV (X : Cx) (Γ : Env') (tg : Expr) (d : D) (Γ' : Env') (is : List Nat) : Prop := ∃ g, PG X tg g ∧ ∀ (F : Hp) (σ : L2.St) (H : Hp) (v : V) (Q : L2.St → Hp → Prop), Holds X.K F Γ σ H → Rep X.K F v d →
  (∀ σ', Post X.K Γ σ F H Γ' σ' F H → (∀ n, n ∉ is → σ'[n]? = σ[n]?) → σ'.length = σ.length → Q σ' H) → g v σ H Q
theorem Post.setD {K : PySem.W.Frag} {F H : Hp} {σ : L2.St} {v : V} (hH : Holds K F Γ σ H) (hv : Rep K F v d) (k : Nat) : Post K Γ σ F H (Γ.set k (.dat d)) (σ.set k (some v)) F H := by
  obtain ⟨h1, h2⟩ := Post.store (H1 := H) hH (i := k) (v := v) (s := .dat d) ⟨v, rfl, hv⟩ (fun _ _ _ z => nomatch z) (fun _ _ _ z => nomatch z)
  exact ⟨.refl, h1, h2⟩
theorem gv_name (k : Nat) {x : Str} (h : PG X (.Name x pos) (gName k)) : GV X Γ (.Name x pos) d (Γ.set k (.dat d)) [k] :=
  ⟨_, h, fun F σ H v Q hH hv q => q _ (Post.setD hH hv k) (fun n hn => List.getElem?_set_ne (fun z => hn (by simp [z]))) (by simp)⟩
/-- names, one after another -/
def setD (Γ : Env') : List (Nat × D) → Env'
  | [] => Γ
  | (k, d) :: r => setD (Γ.set k (.dat d)) r
def GVs (X : Cx) (es : List Expr) (ks : List Nat) : Prop := ∃ g, PGs X es g ∧ ∀ (ds : List D), ds.length = ks.length → ∀ (Γ : Env') (F : Hp) (σ : L2.St) (H : Hp) (vs : List V) (Q : L2.St → Hp → Prop), Holds X.K F Γ σ H → RepL X.K F vs ds →
  (∀ σ', Post X.K Γ σ F H (setD Γ (ks.zip ds)) σ' F H → (∀ n, n ∉ ks → σ'[n]? = σ[n]?) → σ'.length = σ.length → Q σ' H) → g vs σ H Q
theorem gvs_nil : GVs X [] [] := ⟨_, pgs_nil, fun ds hl Γ F σ H vs Q hH hv q => by
  cases ds with
  | nil => cases hv; exact ⟨rfl, q σ (.refl hH) (fun _ _ => rfl) rfl⟩
  | cons _ _ => cases hl⟩
theorem gvs_cons (k : Nat) {x : Str} {el : List Expr} {ks : List Nat} (h : PG X (.Name x pos) (gName k)) (t : GVs X el ks) (hs : (assignEach (.Name x pos :: el) X.env).map (·.2) = assign (.Name x pos) X.env :: (assignEach el X.env).map (·.2) := by rfl) : GVs X (.Name x pos :: el) (k :: ks) := by
  obtain ⟨g, h2, w⟩ := t
  refine ⟨_, pgs_cons h h2 hs, fun ds hl Γ F σ H vs Q hH hv q => ?_⟩
  cases ds with
  | nil => cases hl
  | cons d dr =>
    cases hv with
    | cons r t =>
      refine ⟨_, _, rfl, ?_⟩
      have p1 := Post.setD hH r k
      refine w dr (by simpa using hl) (Γ.set k (.dat d)) F _ H _ Q p1.ok t fun σ' p2 h3 h4 => q σ' (p1.trans p2) (fun n hn => ?_) (by rw [h4]; simp)
      simp only [List.mem_cons, not_or] at hn
      rw [h3 n hn.2]
      exact List.getElem?_set_ne (fun z => hn.1 z.symm)
theorem gv_tup {el : List Expr} {ks : List Nat} {m : Nat} (hc : X.calm = true) (h : GVs X el ks) (hl : ds.length = ks.length) (hn : (assignEach el X.env).length = ks.length := by rfl) (hst : (assignEach el X.env).findIdx? (·.1) = none := by rfl) : GV X Γ (.Tuple el m pos) (.tup ds) (setD Γ (ks.zip ds)) ks := by
  obtain ⟨g, h2, w⟩ := h
  refine ⟨_, pg_tup hc h2 hn hst, fun F σ H v Q hH hv q => ?_⟩
  obtain ⟨a, vs, rfl, s, t⟩ := Rep.tup_at hv
  exact ⟨a, vs, rfl, hH.le.seqT s, by rw [t.length]; exact hl, w ds hl Γ F σ H vs Q hH t q⟩

/-! ### assignments -/
/-- what a slot holds of a result -/
def slOf : Rv → Sl
  | .dat d => .dat d
  | .own c => .own none c
  | .bor _ => .any
theorem set_run {K : PySem.W.Frag} {te : TE} {k : Nat} {s : S} (hw : ∀ σ H Q, tEV K Γ r Γ1 σ H Q → te σ H Q) (w : Weak (Γ1.set k (slOf r)) (G s)) (D : Ends) (σ : L2.St) (H : Hp) (h : tST K Γ G Lp Kr (.next s : LO S L R) D σ H) : tAsg te (gName k) D σ H := by
  obtain ⟨F, hH, q⟩ := h
  refine hw σ H _ ⟨F, hH, fun F1 H1 v p1 hv => ?_⟩
  have st : Holds K F1 (Γ1.set k (slOf r)) (σ.set k (some v)) H1 ∧ ∀ y, Owned (Γ1.set k (slOf r)) (σ.set k (some v)) y → Owned Γ1 σ y ∨ (Owned Γ σ y ∨ H y = none) := by
    cases r with
    | dat d =>
      obtain ⟨h1, h2⟩ := Post.store (H1 := H1) p1.ok (i := k) (v := v) (s := .dat d) ⟨v, rfl, hv⟩ (fun _ _ _ z => nomatch z) (fun _ _ _ z => nomatch z)
      exact ⟨h1, fun y hy => .inr (by rcases h2 y hy with z | z; exact p1.sub y z; exact .inr (p1.ext.fresh z))⟩
    | own oc =>
      obtain ⟨y, ho, e1, g1, g2, g3, g4, g5⟩ := hv
      subst e1
      obtain ⟨h1, h2⟩ := Post.store (H1 := fun z => if z = y then none else H1 z) p1.ok (i := k) (v := .ref y) (s := .own none oc) ⟨y, ho, rfl, (fun b z => nomatch z), g1, g2, g3⟩
        (fun a ao c e1 e2 => by cases e2; exact g4) (fun a ao c e1 e2 => by cases e2; exact .inr (if_pos rfl))
      refine ⟨h1, fun z hz => ?_⟩
      rcases h2 z hz with q1 | q1
      · exact .inl q1
      · by_cases e : z = y
        · subst e; exact .inr g5
        · have q1 : (if z = y then none else H1 z) = none := q1
          rw [if_neg e] at q1
          exact .inr (.inr (p1.ext.fresh q1))
    | bor m =>
      obtain ⟨h1, h2⟩ := Post.store (H1 := H1) p1.ok (i := k) (v := v) (s := .any) trivial (fun _ _ _ z => nomatch z) (fun _ _ _ z => nomatch z)
      exact ⟨h1, fun y hy => .inr (by rcases h2 y hy with z | z; exact p1.sub y z; exact .inr (p1.ext.fresh z))⟩
  refine q F1 H1 _ ((⟨p1.ext, st.1, fun y hy => ?_⟩ : Post K Γ σ F H _ _ F1 H1).weak w)
  rcases st.2 y hy with z | z
  · exact p1.sub y z
  · exact z
theorem st_set (k : Nat) {x : Str} {s : S} {px : Pos} (hN : X.N.Nodup) (hi : X.N[k]? = some x) (hx : Loc X.env.scope x) (h : EV X Γ e r Γ1) (w : Weak (Γ1.set k (slOf r)) (G s)) (hs : swapsWith e (some (.Name x px)) pos.line X.env = pure false := by rfl)
    (hf : X.fn x = true ∨ X.env.scope.names.lookup x = some .local := by first | exact .inl rfl | exact .inr rfl | assumption) : ST X Γ (.Assign [.Name x px] e pos) G Lp Kr (.next s) :=
  PS.weak (ps_set hN hi hx h hs hf) (set_run (fun _ _ _ h => h) w)
/-- a, b = e -/
theorem st_unpack {tg : Expr} {s : S} {is : List Nat} (h : EV X Γ e (.dat d) Γ1) (hg : GV X Γ1 tg d Γ2 is) (w : Weak Γ2 (G s)) (hs : swapsWithSole [tg] e pos.line X.env = pure false := by rfl) (hw : swappedStores [tg] e X.env = pure none := by rfl)
    (h1 : (assignEach [tg] X.env).map (·.2) = [assign tg X.env] := by rfl) : ST X Γ (.Assign [tg] e pos) G Lp Kr (.next s) := by
  obtain ⟨g, hg, hq⟩ := hg
  exact PS.weak (ps_asg h hg hs hw h1) fun D σ H ⟨F, hH, q⟩ => ⟨F, hH, fun F1 H1 v p1 hv => hq F1 σ H1 v _ p1.ok hv fun σ' p2 _ _ => q F1 H1 σ' ((p1.trans p2).weak w)⟩
end
end PD
namespace PD
open PySem PySem.Spec PyProof.Rows L2
/-! ### sizes -/
def Sz (K : PySem.W.Frag) (H : Hp) : Prop := (∀ a xs, SqL K H a xs → xs.length ≤ sizeLine) ∧ ∀ a xs, SqT K H a xs → xs.length ≤ sizeLine
theorem Inv.sz' {X : Cx} {pins : List (Addr × Obj)} {σ : L2.St} {H : Hp} {s : Shared} (I : Inv X pins σ H s) : Sz X.K H :=
  ⟨fun a xs h => (I.list h).elim fun _ z => z.2.2, fun a xs h => (I.tuple h).elim fun _ z => z.2.2⟩
section
variable {X : Cx} {Γ Γ1 Γ2 Γ3 : Env'} {e a b c tg iter : Expr} {pos p px apos : Pos} {r ra rb rc rv : Rv} {d : D} {ds es : List D} {i j : Int} {S S' L R : Type} {G : S → Env'} {G' : S' → Env'} {Lp : L → Env'} {Kr : R → Rv × Env'} {st : Stmt} {rest : List Stmt} {o : LO S L R}
theorem PE.sz0 {t : TE} (h : PE X e t) : PE X e (fun σ H Q => Sz X.K H → t σ H Q) := ⟨fun pins s σ H Q I q => h.run pins s σ H Q I (q (Inv.sz' I))⟩
theorem PS.sz0 {t : TS} (h : PS X st t) : PS X st (fun D σ H => Sz X.K H → t D σ H) := ⟨fun pins s σ H D I q => h.run pins s σ H D I (q (Inv.sz' I))⟩
theorem PSs.sz0 {t : TS} (h : PSs X rest t) : PSs X rest (fun D σ H => Sz X.K H → t D σ H) := ⟨fun pins s σ H D I q => h.run pins s σ H D I (q (Inv.sz' I))⟩
theorem PI.sz {wi : TI} (h : PI X tg iter wi) : PI X tg iter (fun σ H R => wi σ H fun J H1 => Sz X.K H1 → R J H1) :=
  ⟨fun pins s σ H R I q => thn (h.run pins s σ H _ I q) fun v s1 h1 => thn h1 fun itv s2 ⟨it, fp, tn, J, H', e, I2, T, st, f, r⟩ => ⟨it, fp, tn, J, H', e, I2, T, st, f, r (Inv.sz' I2)⟩⟩
/-- the length of a list that a slot holds -/
def lenOk : Sl → Prop
  | .dat (.lst ds) => ds.length ≤ sizeLine
  | .dat (.tup ds) => ds.length ≤ sizeLine
  | .own _ (.lst ds) => ds.length ≤ sizeLine
  | _ => True
theorem Holds.lenOk {K : PySem.W.Frag} {F H : Hp} {σ : L2.St} (h : Holds K F Γ σ H) (z : Sz K H) (k : Nat) (s : Sl) (e : Γ[k]? = some s) : PD.lenOk s := by
  have q := h.sl k s e
  cases s with
  | any => trivial
  | dat d =>
    obtain ⟨v, _, r⟩ := q
    cases r with
    | lst s t => show List.length _ ≤ _; rw [← t.length]; exact z.1 _ _ (h.le.seqL s)
    | tup s t => show List.length _ ≤ _; rw [← t.length]; exact z.2 _ _ (h.le.seqT s)
    | non => trivial
    | bl b => trivial
    | int i => trivial
    | str x => trivial
  | own ao oc =>
    obtain ⟨x, ho, _, _, h1, _, h3⟩ := q
    cases oc with
    | lst ds =>
      obtain ⟨vs, rfl, t⟩ := h3
      show List.length _ ≤ _
      rw [← t.length]
      exact z.1 _ _ (SqL.of h1)
theorem ss_len (h : (∀ (k : Nat) s, Γ[k]? = some s → lenOk s) → SS X Γ rest G Lp Kr o) : SS X Γ rest G Lp Kr o :=
  ⟨fun pins s σ H D I ⟨F, hH, q⟩ => (h (hH.lenOk (Inv.sz' I))).run pins s σ H D I ⟨F, hH, q⟩⟩
theorem ev_len0 (h : (∀ (k : Nat) s, Γ[k]? = some s → lenOk s) → EV X Γ e r Γ1) : EV X Γ e r Γ1 :=
  ⟨fun pins s σ H Q I ⟨F, hH, q⟩ => (h (hH.lenOk (Inv.sz' I))).run pins s σ H Q I ⟨F, hH, q⟩⟩

/-! ### targets by their shape -/
inductive Sh where
  | name (k : Nat)
  | tup (ss : List Sh)
mutual
def Sh.set : Sh → Env' → D → Option Env'
  | .name k, Γ, d => some (Γ.set k (.dat d))
  | .tup ss, Γ, .tup ds => Sh.setL ss Γ ds
  | .tup _, _, _ => none
def Sh.setL : List Sh → Env' → List D → Option Env'
  | [], Γ, [] => some Γ
  | s :: ss, Γ, d :: ds => match Sh.set s Γ d with
    | some Γ' => Sh.setL ss Γ' ds
    | none => none
  | _, _, _ => none
end
mutual
def Sh.ix : Sh → List Nat
  | .name k => [k]
  | .tup ss => Sh.ixL ss
def Sh.ixL : List Sh → List Nat
  | [] => []
  | s :: ss => Sh.ix s ++ Sh.ixL ss
end
mutual
def Sh.g (K : PySem.W.Frag) : Sh → TG
  | .name k => gName k
  | .tup ss => gTup K ss.length (Sh.gL K ss)
def Sh.gL (K : PySem.W.Frag) : List Sh → TGs
  | [] => gNil
  | s :: ss => gCons (Sh.g K s) (Sh.gL K ss)
end
mutual
theorem Sh.run {K : PySem.W.Frag} {F H : Hp} {Q : L2.St → Hp → Prop} : ∀ (s : Sh) {Γ Γ' : Env'} {d : D} {v : V} {σ : L2.St}, s.set Γ d = some Γ' → Holds K F Γ σ H → Rep K F v d →
    (∀ σ', Post K Γ σ F H Γ' σ' F H → (∀ n, n ∉ s.ix → σ'[n]? = σ[n]?) → σ'.length = σ.length → Q σ' H) → s.g K v σ H Q
  | .name k, Γ, Γ', d, v, σ, e, hH, hv, q => by
    cases (Option.some.inj (show some (Γ.set k (.dat d)) = some Γ' from e))
    exact q _ (Post.setD hH hv k) (fun n hn => List.getElem?_set_ne (fun z => hn (by simp [Sh.ix, z]))) (by simp)
  | .tup ss, Γ, Γ', .tup ds, v, σ, e, hH, hv, q => by
    obtain ⟨a, vs, rfl, s, t⟩ := Rep.tup_at hv
    exact ⟨a, vs, rfl, hH.le.seqT s, by rw [t.length]; exact Sh.lenL ss e, Sh.runL ss e hH t q⟩
theorem Sh.lenL : ∀ (ss : List Sh) {Γ Γ' : Env'} {ds : List D}, Sh.setL ss Γ ds = some Γ' → ds.length = ss.length
  | [], _, _, [], _ => rfl
  | [], _, _, _ :: _, e => nomatch e
  | s :: ss, Γ, Γ', [], e => nomatch e
  | s :: ss, Γ, Γ', d :: ds, e => by
    have e : (match Sh.set s Γ d with | some Γ' => Sh.setL ss Γ' ds | none => none) = some Γ' := e
    cases q : Sh.set s Γ d with
    | none => rw [q] at e; cases e
    | some Γ1 => rw [q] at e; exact congrArg (· + 1) (Sh.lenL ss e)
theorem Sh.runL {K : PySem.W.Frag} {F H : Hp} {Q : L2.St → Hp → Prop} : ∀ (ss : List Sh) {Γ Γ' : Env'} {ds : List D} {vs : List V} {σ : L2.St}, Sh.setL ss Γ ds = some Γ' → Holds K F Γ σ H → RepL K F vs ds →
    (∀ σ', Post K Γ σ F H Γ' σ' F H → (∀ n, n ∉ Sh.ixL ss → σ'[n]? = σ[n]?) → σ'.length = σ.length → Q σ' H) → Sh.gL K ss vs σ H Q
  | [], Γ, Γ', [], vs, σ, e, hH, hv, q => by
    cases (Option.some.inj (show some Γ = some Γ' from e))
    cases hv
    exact ⟨rfl, q σ (.refl hH) (fun _ _ => rfl) rfl⟩
  | [], _, _, _ :: _, _, _, e, _, _, _ => nomatch e
  | s :: ss, Γ, Γ', [], _, _, e, _, _, _ => nomatch e
  | s :: ss, Γ, Γ', d :: ds, vs, σ, e, hH, hv, q => by
    have e : (match Sh.set s Γ d with | some Γ' => Sh.setL ss Γ' ds | none => none) = some Γ' := e
    cases q1 : Sh.set s Γ d with
    | none => rw [q1] at e; cases e
    | some Γ1 =>
      rw [q1] at e
      cases hv with
      | cons r t =>
        refine ⟨_, _, rfl, Sh.run s q1 hH r fun σ1 p1 k1 l1 => Sh.runL ss e p1.ok t fun σ2 p2 k2 l2 => q σ2 (p1.trans p2) (fun n hn => ?_) (l2.trans l1)⟩
        have hn : n ∉ Sh.ix s ++ Sh.ixL ss := hn
        simp only [List.mem_append, not_or] at hn
        rw [k2 n hn.2, k1 n hn.1]
end
theorem sh_name (k : Nat) {x : Str} (h : PG X (.Name x pos) (gName k)) : PG X (.Name x pos) ((Sh.name k).g X.K) := h
theorem sh_tup {el : List Expr} {ss : List Sh} {m : Nat} (hc : X.calm = true) (h : PGs X el (Sh.gL X.K ss)) (hn : (assignEach el X.env).length = ss.length := by rfl) (hst : (assignEach el X.env).findIdx? (·.1) = none := by rfl) : PG X (.Tuple el m pos) ((Sh.tup ss).g X.K) := pg_tup hc h hn hst
theorem sh_nil : PGs X [] (Sh.gL X.K []) := pgs_nil
theorem sh_cons {el : List Expr} {s : Sh} {ss : List Sh} (h1 : PG X e (s.g X.K)) (h2 : PGs X el (Sh.gL X.K ss)) (hs : (assignEach (e :: el) X.env).map (·.2) = assign e X.env :: (assignEach el X.env).map (·.2) := by rfl) : PGs X (e :: el) (Sh.gL X.K (s :: ss)) := pgs_cons h1 h2 hs
theorem gv_sh {s : Sh} (h : PG X tg (s.g X.K)) (e : s.set Γ d = some Γ1) : GV X Γ tg d Γ1 s.ix := ⟨_, h, fun F σ H v Q hH hv q => Sh.run s e hH hv q⟩

/-! ### what is walked -/
structure JOk (K : PySem.W.Frag) (F1 : Hp) (J : It) (ds : List D) : Prop where
  go : ∀ F' H', Le F1 F' → Le F' H' → ∀ (i : Nat) (d : D), ds[i]? = some d → J.go i H' ∧ ∀ x H2, J.yld i H' x H2 → ∃ F2, Ext (fun _ => False) F' H' F2 H2 ∧ Le F2 H2 ∧ Rep K F2 x d
  stop : ∀ F' H', Le F1 F' → Le F' H' → J.stop ds.length H'
def IV (X : Cx) (Γ : Env') (tg iter : Expr) (ds : List D) (Γ1 : Env') (B : Prop) : Prop := ∃ wi, PI X tg iter wi ∧ ∀ (σ : L2.St) (H : Hp) (R : It → Hp → Prop) (F : Hp), Holds X.K F Γ σ H →
  (∀ F1 H1 J, Post X.K Γ σ F H Γ1 σ F1 H1 → JOk X.K F1 J ds → B → R J H1) → wi σ H R
theorem iv_list (h : EV X Γ e (.dat (.lst ds)) Γ1) : IV X Γ tg e ds Γ1 (ds.length ≤ sizeLine) := ⟨_, PD.PI.sz (pi_list h), fun σ H R F hH q => ⟨F, hH, fun F1 H1 v p hv => by
  cases hv with
  | lst s t =>
    refine ⟨_, rfl, ⟨_, p.ok.le.seqL s⟩, fun z => q F1 H1 _ p ⟨fun F' H' l1 l2 i d hd => ?_, fun F' H' l1 l2 => ⟨_, (l1.trans l2).seqL s, by rw [t.length]; exact Nat.le_refl _⟩⟩ (by rw [← t.length]; exact z.1 _ _ (p.ok.le.seqL s))⟩
    obtain ⟨x, hx, rx⟩ := t.get hd
    refine ⟨⟨_, x, (l1.trans l2).seqL s, hx⟩, fun y H2 ⟨e1, e2⟩ => ?_⟩
    subst e1
    have := e2 _ ((l1.trans l2).seqL s)
    rw [hx] at this; cases this
    exact ⟨F', .refl, l2, rx.mono l1⟩⟩⟩
theorem iv_tup (h : EV X Γ e (.dat (.tup ds)) Γ1) : IV X Γ tg e ds Γ1 (ds.length ≤ sizeLine) := ⟨_, PD.PI.sz (pi_tup h), fun σ H R F hH q => ⟨F, hH, fun F1 H1 v p hv => by
  cases hv with
  | tup s t =>
    refine ⟨_, rfl, ⟨_, p.ok.le.seqT s⟩, fun z => q F1 H1 _ p ⟨fun F' H' l1 l2 i d hd => ?_, fun F' H' l1 l2 => ⟨_, (l1.trans l2).seqT s, by rw [t.length]; exact Nat.le_refl _⟩⟩ (by rw [← t.length]; exact z.2 _ _ (p.ok.le.seqT s))⟩
    obtain ⟨x, hx, rx⟩ := t.get hd
    refine ⟨⟨_, x, (l1.trans l2).seqT s, hx⟩, fun y H2 ⟨e1, e2⟩ => ?_⟩
    subst e1
    have := e2 _ ((l1.trans l2).seqT s)
    rw [hx] at this; cases this
    exact ⟨F', .refl, l2, rx.mono l1⟩⟩⟩
theorem jok_range {K : PySem.W.Frag} {F1 : Hp} (lo : Int) (n : Nat) : JOk K F1 (Itr lo n) ((List.range n).map fun i => D.int (lo + (i : Nat))) := by
  refine ⟨fun F' H' l1 l2 i d hd => ?_, fun F' H' l1 l2 => by simp [Itr]⟩
  rw [List.getElem?_map] at hd
  cases e : (List.range n)[i]? with
  | none => rw [e] at hd; cases hd
  | some k =>
    rw [e] at hd
    obtain ⟨h1, h2⟩ := List.getElem?_eq_some_iff.mp e
    simp at h1 h2
    subst h2
    cases hd
    exact ⟨h1, fun x H2 ⟨e1, e2⟩ => by subst e1 e2; exact ⟨F', .refl, l2, .int _⟩⟩
theorem iv_range1 {n : Int} (hg : Gl X "range") (hm : X.mg "range" = none) (ha : EV X Γ a (.dat (.int n)) Γ1) (h1 : -(2 ^ 62) ≤ n) (h2 : n < 2 ^ 62) (hs : starEach [a] X.env = [(false, eval a X.env)] := by rfl) :
    IV X Γ tg (.Call (.Name "range" p) [a] [] pos) ((List.range n.toNat).map fun i => D.int (0 + (i : Nat))) Γ1 True :=
  ⟨_, pi_range1 hg hm (pa_cons ha pa_nil hs) hs, fun σ H R F hH q => ⟨F, hH, fun F1 H1 v p hv => by cases hv; exact ⟨n, rfl, h1, h2, q F1 H1 _ p (jok_range 0 n.toNat) trivial⟩⟩⟩
theorem iv_range2 {n m : Int} (hg : Gl X "range") (hm : X.mg "range" = none) (ha : EV X Γ a (.dat (.int n)) Γ1) (hb : EV X Γ1 b (.dat (.int m)) Γ2) (h1 : -(2 ^ 62) ≤ n ∧ n < 2 ^ 62 ∧ -(2 ^ 62) ≤ m ∧ m < 2 ^ 62) (hs : starEach [a, b] X.env = [(false, eval a X.env), (false, eval b X.env)] := by rfl) (hs2 : starEach [b] X.env = [(false, eval b X.env)] := by rfl) :
    IV X Γ tg (.Call (.Name "range" p) [a, b] [] pos) ((List.range (m - n).toNat).map fun i => D.int (n + (i : Nat))) Γ2 True :=
  ⟨_, pi_range2 hg hm (pa_cons ha (pa_cons hb pa_nil hs2) (by rw [hs, hs2])) hs hs2, fun σ H R F hH q => ⟨F, hH, fun F1 H1 v p1 hv => ⟨F1, p1.ok, fun F2 H2 u p2 hu => by
    cases hv; cases hu
    exact ⟨n, m, rfl, h1, q F2 H2 _ (p1.trans p2) (jok_range n (m - n).toNat) trivial⟩⟩⟩⟩

theorem Post.grow {K : PySem.W.Frag} {F H F2 H2 : Hp} {σ : L2.St} (h : Holds K F Γ σ H) (x : Ext (fun _ => False) F H F2 H2) (l : Le F2 H2) : Post K Γ σ F H Γ σ F2 H2 :=
  ⟨⟨x.mono, fun a o ha fa _ => x.keep a o ha fa (fun z => z), x.there⟩, ⟨l, h.len, fun i s e => (h.sl i s e).mono x.mono fun a ho ha fa _ => x.keep a ho ha fa (fun z => z), h.dis⟩, fun a z => .inl z⟩

/-! ### for -/
variable {α : Type} {enc : α → D} {body : List Stmt} {Gs : S → Env'} {sh : Sh} {B : Prop}
def forL (step : S → α → LO S S R) : List α → S → LO S L R
  | [], s => .next s
  | x :: xs, s => match step s x with
    | .next s' => forL step xs s'
    | .cnt s' => forL step xs s'
    | .brk s' => .next s'
    | .ret r => .ret r
theorem st_for (step : S → α → LO S S R) {xs : List α} {s0 : S} (P : Nat → S → Prop) (hi : IV X Γ tg iter (xs.map enc) Γ1 B) (hg : PG X tg (sh.g X.K)) (hp : PassesOwn (model X.prog X.w) X.A X.env X.xe) (hc : X.calm = true) (w0 : Weak Γ1 (Gs s0)) (hP : P 0 s0)
    (hb : B → ∀ i s x, xs[i]? = some x → P i s → (∃ Γa, sh.set (Gs s) (enc x) = some Γa ∧ SS X Γa body Gs Gs Kr (step s x)) ∧ ∀ s', step s x = .next s' ∨ step s x = .cnt s' → P (i + 1) s')
    (hs : ∀ x, foldedSetIterable iter X.env x = pure x := by intro _; rfl) : ST X Γ (.For tg iter body [] pos) Gs Lp Kr (forL (L := L) step xs s0) := by
  obtain ⟨wi, hi, hw⟩ := hi
  -- one reading of the body for all turns
  have hbody : PSs X body (fun D σ H => ∃ Γa s x, SS X Γa body Gs Gs Kr (step s x) ∧ tST X.K Γa Gs Gs Kr (step s x) D σ H) := ⟨fun pins s σ H D I ⟨Γa, s1, x, h1, h2⟩ => h1.run pins s σ H D I h2⟩
  refine PS.weak (ps_for hp hc hi hg hbody hs) fun D σ H ⟨F, hH, q⟩ => ?_
  refine hw σ H _ F hH fun F1 H1 J p1 jok hB => ?_
  refine ⟨fun i m σ' H' => ∃ F' s, m = xs.length - i ∧ i ≤ xs.length ∧ Post X.K Γ σ F H (Gs s) σ' F' H' ∧ Le F1 F' ∧ P i s ∧ forL (L := L) step (xs.drop i) s = forL step xs s0, ⟨xs.length, F1, s0, rfl, Nat.zero_le _, p1.weak w0, Le.refl _, hP, rfl⟩, ?_⟩
  rintro i m σ' H' ⟨F', s, rfl, hin, p', l', hPi, hrest⟩
  by_cases hlt : i < xs.length
  · have hx : xs[i]? = some xs[i] := List.getElem?_eq_getElem hlt
    have hdx : (xs.map enc)[i]? = some (enc xs[i]) := by rw [List.getElem?_map, hx]; rfl
    obtain ⟨go, yl⟩ := jok.go F' H' l' p'.ok.le i _ hdx
    obtain ⟨⟨Γa, hset, hbd⟩, hnext⟩ := hb hB i s xs[i] hx hPi
    have hd : xs.drop i = xs[i] :: xs.drop (i + 1) := List.drop_eq_getElem_cons hlt
    rw [hd] at hrest
    have hrest : (match step s xs[i] with | .next s' => forL step (xs.drop (i + 1)) s' | .cnt s' => forL step (xs.drop (i + 1)) s' | .brk s' => .next s' | .ret r => .ret r) = forL (L := L) step xs s0 := hrest
    refine .inr ⟨go, fun σ2 H2 => ∃ F2 s2, Post X.K Γ σ F H (Gs s2) σ2 F2 H2 ∧ Le F1 F2 ∧ P (i + 1) s2 ∧ forL (L := L) step (xs.drop (i + 1)) s2 = forL step xs s0, fun σ2 H2 ⟨F2, s2, a1, a2, a3, a4⟩ => ⟨xs.length - (i + 1), by omega, F2, s2, rfl, hlt, a1, a2, a3, a4⟩, fun x H2 hy => ?_⟩
    obtain ⟨F2, x2, l2, r2⟩ := yl x H2 hy
    have p2 := Post.grow p'.ok x2 l2
    refine Sh.run sh hset p2.ok r2 fun σ3 p3 _ _ => ⟨Γa, s, xs[i], hbd, F2, p3.ok, ?_⟩
    have pa := (p'.trans p2).trans p3
    have la : Le F1 F2 := l'.trans x2.mono
    revert hrest hnext
    cases step s xs[i] with
    | next s2 => exact fun hnext hrest F4 H4 σ4 p4 => ⟨F4, s2, pa.trans p4, la.trans p4.ext.mono, hnext s2 (.inl rfl), hrest⟩
    | cnt s2 => exact fun hnext hrest F4 H4 σ4 p4 => ⟨F4, s2, pa.trans p4, la.trans p4.ext.mono, hnext s2 (.inr rfl), hrest⟩
    | brk s2 =>
      intro hnext hrest F4 H4 σ4 p4
      rw [← hrest] at q
      exact q F4 H4 σ4 (pa.trans p4)
    | ret r =>
      intro hnext hrest F4 H4 σ4 v p4 hv
      rw [← hrest] at q
      exact q F4 H4 σ4 v (pa.trans p4) (hv.at fun _ z => NewAt.back pa z)
  · have e : i = xs.length := by omega
    subst e
    refine .inl ⟨by have := jok.stop F' H' l' p'.ok.le; rwa [List.length_map] at this, ?_⟩
    rw [List.drop_length] at hrest
    have hrest : LO.next s = forL (L := L) step xs s0 := hrest
    rw [← hrest] at q
    exact q F' H' σ' p'
/-- a loop that does not leave early is a fold -/
theorem forL_fold (f : S → α → S) (xs : List α) (s : S) : forL (L := L) (R := R) (fun s x => .next (f s x)) xs s = .next (xs.foldl f s) := by
  induction xs generalizing s with
  | nil => rfl
  | cons x xs ih => exact ih (f s x)
end
end PD
namespace PD
open PySem PySem.Spec PyProof.Rows L2
/-! ### comprehensions -/
theorem wipe_off {σ : L2.St} {n : Nat} : ∀ {vs : List Nat}, n ∉ vs → (wipe σ vs)[n]? = σ[n]?
  | [], _ => rfl
  | v :: vs, h => by
    simp only [List.mem_cons, not_or] at h
    unfold wipe
    rw [List.getElem?_set_ne (Ne.symm h.1)]
    exact wipe_off h.2
theorem wipe_on {σ : L2.St} {n : Nat} : ∀ {vs : List Nat}, n ∈ vs → n < σ.length → (wipe σ vs)[n]? = some none
  | v :: vs, h, hn => by
    unfold wipe
    by_cases e : v = n
    · subst e
      rw [List.getElem?_set_self (by rw [wipe_length]; exact hn)]
    · rw [List.getElem?_set_ne e]
      exact wipe_on ((List.mem_cons.mp h).resolve_left (Ne.symm e)) hn
theorem wipe_ext {σ τ : L2.St} {vs : List Nat} (hl : τ.length = σ.length) (h : ∀ n, n ∉ vs → τ[n]? = σ[n]?) : wipe τ vs = wipe σ vs := by
  refine List.ext_getElem? fun n => ?_
  by_cases hn : n ∈ vs
  · by_cases hlt : n < σ.length
    · rw [wipe_on hn (by rw [hl]; exact hlt), wipe_on hn hlt]
    · rw [List.getElem?_eq_none (by rw [wipe_length, hl]; omega), List.getElem?_eq_none (by rw [wipe_length]; omega)]
  · rw [wipe_off hn, wipe_off hn, h n hn]
theorem wipe_idem {σ : L2.St} {vs : List Nat} : wipe (wipe σ vs) vs = wipe σ vs := wipe_ext (wipe_length σ vs) fun n hn => wipe_off hn
theorem wipe_ext_of {σ τ : L2.St} {vs : List Nat} (hl : τ.length = (wipe σ vs).length) (h : ∀ n, n ∉ vs → τ[n]? = (wipe σ vs)[n]?) : wipe τ vs = wipe σ vs := (wipe_ext hl h).trans wipe_idem
section
variable {X : Cx} {Γ Γ1 Γ2 Γ3 : Env'} {e a b c tg iter elt : Expr} {pos p px apos : Pos} {r ra rb rc rv : Rv} {d : D} {ds es : List D} {i j : Int} {S S' L R : Type} {G : S → Env'} {G' : S' → Env'} {Lp : L → Env'} {Kr : R → Rv × Env'} {st : Stmt} {rest : List Stmt} {o : LO S L R}
theorem Post.upd {K : PySem.W.Frag} {F H F1 H1 : Hp} {σ σ1 : L2.St} {D : Addr} {ho : HO} (p : Post K Γ σ F H Γ1 σ1 F1 H1) (n : H D = none) (f : F1 D = none) (no : ¬ Owned Γ1 σ1 D) : Post K Γ σ F H Γ1 σ1 F1 (L2.upd H1 D ho) := by
  refine ⟨⟨p.ext.mono, fun a o h hf nO => ?_, fun a o h => ?_⟩, ⟨fun a o fa => ?_, p.ok.len, fun k s e => ?_, p.ok.dis⟩, p.sub⟩
  · obtain ⟨k1, k2⟩ := p.ext.keep a o h hf nO
    exact ⟨by rw [upd_ne (ne_of_none h n)]; exact k1, k2⟩
  · obtain ⟨o', k1⟩ := p.ext.there a o h
    exact ⟨o', by rw [upd_ne (ne_of_none h n)]; exact k1⟩
  · rw [upd_ne (ne_of_none fa f)]; exact p.ok.le a o fa
  · have q := p.ok.sl k s e
    cases s with
    | any => trivial
    | dat d => exact q
    | own ao c =>
      obtain ⟨x, u, e1, e2, h1, h2, h3⟩ := q
      exact ⟨x, u, e1, e2, by rw [upd_ne (fun z => no (by subst z; exact ⟨k, ao, c, e, join_some e1⟩))]; exact h1, h2, h3⟩
/-- the slots of a block forgotten, and back -/
theorem Post.wiped {K : PySem.W.Frag} {F H F1 H1 : Hp} {σ : L2.St} {vs : List Nat} (p : Post K Γ σ F H Γ1 σ F1 H1) (w : Weak Γ1 Γ2) (hv : ∀ n, n ∈ vs → ∀ s, Γ2[n]? = some s → s = .any) : Post K Γ σ F H Γ2 (wipe σ vs) F1 H1 := by
  have p' := p.weak w
  have nv : ∀ (k : Nat) (ao : Option Addr) (c : Oc), Γ2[k]? = some (.own ao c) → k ∉ vs := fun k ao c e hk => nomatch (hv k hk _ e)
  refine ⟨p'.ext, ⟨p'.ok.le, by rw [wipe_length]; exact p'.ok.len, fun k s e => ?_, fun k l ak al ck cl x ek el sk sl => ?_⟩, fun x ⟨k, ao, c, e, s⟩ => ?_⟩
  · by_cases hk : k ∈ vs
    · rw [hv k hk s e]; trivial
    · rw [wipe_off hk]; exact p'.ok.sl k s e
  · rw [wipe_off (nv k ak ck ek)] at sk
    rw [wipe_off (nv l al cl el)] at sl
    exact p'.ok.dis k l ak al ck cl x ek el sk sl
  · rw [wipe_off (nv k ao c e)] at s
    exact p'.sub x ⟨k, ao, c, e, s⟩
theorem Post.wiped' {K : PySem.W.Frag} {F H F1 H1 : Hp} {σ σ1 : L2.St} {vs : List Nat} (p : Post K Γ σ F H Γ1 σ1 F1 H1) (w : Weak Γ1 Γ2) (hv : ∀ n, n ∈ vs → ∀ s, Γ2[n]? = some s → s = .any) : Post K Γ σ F H Γ2 (wipe σ1 vs) F1 H1 := by
  have p' := p.weak w
  have nv : ∀ (k : Nat) (ao : Option Addr) (c : Oc), Γ2[k]? = some (.own ao c) → k ∉ vs := fun k ao c e hk => nomatch (hv k hk _ e)
  refine ⟨p'.ext, ⟨p'.ok.le, by rw [wipe_length]; exact p'.ok.len, fun k s e => ?_, fun k l ak al ck cl x ek el sk sl => ?_⟩, fun x ⟨k, ao, c, e, s⟩ => ?_⟩
  · by_cases hk : k ∈ vs
    · rw [hv k hk s e]; trivial
    · rw [wipe_off hk]; exact p'.ok.sl k s e
  · rw [wipe_off (nv k ak ck ek)] at sk
    rw [wipe_off (nv l al cl el)] at sl
    exact p'.ok.dis k l ak al ck cl x ek el sk sl
  · rw [wipe_off (nv k ao c e)] at s
    exact p'.sub x ⟨k, ao, c, e, s⟩
theorem Post.unwiped {K : PySem.W.Frag} {F H F1 H1 : Hp} {σ : L2.St} {vs : List Nat} (p : Post K Γ σ F H Γ2 (wipe σ vs) F1 H1) (hv : ∀ n, n ∈ vs → ∀ s, Γ2[n]? = some s → s = .any) : Post K Γ σ F H Γ2 σ F1 H1 := by
  have nv : ∀ (k : Nat) (ao : Option Addr) (c : Oc), Γ2[k]? = some (.own ao c) → k ∉ vs := fun k ao c e hk => nomatch (hv k hk _ e)
  refine ⟨p.ext, ⟨p.ok.le, by rw [p.ok.len, wipe_length], fun k s e => ?_, fun k l ak al ck cl x ek el sk sl => ?_⟩, fun x ⟨k, ao, c, e, s⟩ => ?_⟩
  · by_cases hk : k ∈ vs
    · rw [hv k hk s e]; trivial
    · have := p.ok.sl k s e
      rw [wipe_off hk] at this; exact this
  · refine p.ok.dis k l ak al ck cl x ek el ?_ ?_
    · rw [wipe_off (nv k ak ck ek)]; exact sk
    · rw [wipe_off (nv l al cl el)]; exact sl
  · exact p.sub x ⟨k, ao, c, e, by rw [wipe_off (nv k ao c e)]; exact s⟩
def TTs (X : Cx) (Γ : Env') (ifs : List Expr) (k : Bool) (Γ' : Env') : Prop := PTs X ifs (tTV X.K Γ k Γ')
theorem PTs.weak {ifs : List Expr} {t t' : TT} (h : PTs X ifs t) (w : ∀ σ H Q, t' σ H Q → t σ H Q) : PTs X ifs t' := ⟨fun pins s σ H Q I q => h.run pins s σ H Q I (w σ H Q q)⟩
theorem tts_nil : TTs X Γ [] true Γ := PTs.weak pts_nil fun σ H Q ⟨F, hH, q⟩ => q F H (.refl hH)
theorem tts_one {k : Bool} (h : TV X Γ c k Γ1) : TTs X Γ [c] k Γ1 := pts_one h
/-- the context of a block -/
abbrev Bk (X : Cx) (scope : Scope) (s : Shared) (H : Hp) (C : Addr) (cl : List (Str × Addr)) (fp : List Addr) : Cx := X.blk s H scope (compEnvC scope cl C X.env) fp
variable {α β : Type} {enc : α → D} {encb : β → D} {Gs : S → Env'} {sh : Sh} {B : Prop} {ifs : List Expr} {scope : Scope} {own : List (Str × Nat)}
def compL (step : S → α → S × Option β) : List α → S → S × List β
  | [], s => (s, [])
  | x :: xs, s => match step s x with
    | (s', none) => compL step xs s'
    | (s', some y) => ((compL step xs s').1, y :: (compL step xs s').2)
/-- a comprehension's parts; what its reading asks -/
def CompOk (X : Cx) (Γ : Env') (elt tg iter : Expr) (ifs : List Expr) (scope : Scope) (own : List (Str × Nat)) (sh : Sh) (r : Rv) (Γ' : Env') : Prop :=
  ∃ wi tt te, PI X tg iter wi ∧ (∀ s H C cl fp, PTs (Bk X scope s H C cl fp) ifs tt) ∧ (∀ s H C cl fp, PE (Bk X scope s H C cl fp) elt te) ∧ ∀ σ H Q, tEV X.K Γ r Γ' σ H Q → tLc wi (sh.g X.K) tt te (own.map (·.2)) σ H Q
theorem ev_lc {q : Env'} (hc : X.calm = true) (hN : X.N.Nodup) (ok : BlkOk X.N X.env.scope scope own) (hg : ∀ s H C cl fp, PG (Bk X scope s H C cl fp) tg (sh.g X.K)) (h : CompOk X Γ elt tg iter ifs scope own sh r q)
    (hs : ∀ x, foldedSetIterable iter X.env x = pure x := by intro _; rfl) : EV X Γ (.ListComp elt [⟨tg, iter, ifs, 0⟩] scope pos) r q := by
  obtain ⟨wi, tt, te, hi, ht, he, hw⟩ := h
  exact PE.weak (pe_lc (own := own) hc hN hi ok hg ht he hs) hw
theorem st_lc {q : Env'} (k : Nat) {y : Str} {py spos : Pos} {s : S} (hc : X.calm = true) (hN : X.N.Nodup) (hy : X.N[k]? = some y) (hyl : X.env.scope.names.lookup y = some .local)
    (hsw : swapsWith (.ListComp elt [⟨tg, iter, ifs, 0⟩] scope pos) (some (.Name y py)) spos.line X.env = pure true) (ok : BlkOk X.N X.env.scope scope own) (hg : ∀ s H C cl fp, PG (Bk X scope s H C cl fp) tg (sh.g X.K))
    (h : CompOk X Γ elt tg iter ifs scope own sh r q) (w : Weak (q.set k (slOf r)) (G s)) (hs : ∀ x, foldedSetIterable iter X.env x = pure x := by intro _; rfl) :
    ST X Γ (.Assign [.Name y py] (.ListComp elt [⟨tg, iter, ifs, 0⟩] scope pos) spos) G Lp Kr (.next s) := by
  obtain ⟨wi, tt, te, hi, ht, he, hw⟩ := h
  exact PS.weak (ps_setLc (i := k) (own := own) hc hN hy hyl hsw hi ok hg ht he hs) (fun D σ H h => set_run hw w D σ H h)
theorem cp_comp (step : S → α → S × Option β) {xs : List α} {s0 : S} (P : Nat → S → Prop) (hi : IV X Γ tg iter (xs.map enc) Γ1 B)
    (hix : ∀ n, n ∈ sh.ix → n ∈ own.map (·.2)) (w0 : Weak Γ1 (Gs s0)) (hv : ∀ s n, n ∈ own.map (·.2) → ∀ t, (Gs s)[n]? = some t → t = .any) (hP : P 0 s0) (hB : B → xs.length ≤ sizeLine)
    (hb : B → ∀ i s x, xs[i]? = some x → P i s → ∃ Γa k Γb, sh.set (Gs s) (enc x) = some Γa ∧ (∀ s H C cl fp, TTs (Bk X scope s H C cl fp) Γa ifs k Γb) ∧
      (if k = true then ∃ y Γc, (step s x).2 = some y ∧ (∀ s H C cl fp, EV (Bk X scope s H C cl fp) Γb elt (.dat (encb y)) Γc) ∧ Weak Γc (Gs (step s x).1) else (step s x).2 = none ∧ Weak Γb (Gs (step s x).1)) ∧ P (i + 1) (step s x).1) :
    CompOk X Γ elt tg iter ifs scope own sh (.own (.lst ((compL step xs s0).2.map encb))) (Gs (compL step xs s0).1) := by
  obtain ⟨wi, hi, hw⟩ := hi
  have ht : ∀ s H C cl fp, PTs (Bk X scope s H C cl fp) ifs (fun σ H Q => ∃ Γa k Γb, (∀ s H C cl fp, TTs (Bk X scope s H C cl fp) Γa ifs k Γb) ∧ tTV X.K Γa k Γb σ H Q) :=
    fun s H C cl fp => ⟨fun pins s' σ H' Q I ⟨Γa, k, Γb, h1, h2⟩ => (h1 s H C cl fp).run pins s' σ H' Q I h2⟩
  have he : ∀ s H C cl fp, PE (Bk X scope s H C cl fp) elt (fun σ H Q => ∃ Γb rv Γc, (∀ s H C cl fp, EV (Bk X scope s H C cl fp) Γb elt rv Γc) ∧ tEV X.K Γb rv Γc σ H Q) :=
    fun s H C cl fp => ⟨fun pins s' σ H' Q I ⟨Γb, rv, Γc, h1, h2⟩ => (h1 s H C cl fp).run pins s' σ H' Q I h2⟩
  refine ⟨wi, _, _, hi, ht, he, fun σ H Q ⟨F, hH, q⟩ => ?_⟩
  refine hw σ H _ F hH fun F1 H1 J p1 jok hBv => fun D hD => ?_
  have fD : F1 D = none := p1.ok.free hD
  have nD : H D = none := p1.ext.fresh hD
  -- what holds of the list at D
  refine ⟨fun i m H' => ∃ F' s vs acc, m = xs.length - i ∧ i ≤ xs.length ∧ Post X.K Γ σ F H (Gs s) (wipe σ (own.map (·.2))) F' H' ∧ Le F1 F' ∧ P i s ∧ acc.length ≤ i ∧ H' D = some (.lst vs) ∧ F' D = none ∧ ¬ Owned (Gs s) (wipe σ (own.map (·.2))) D ∧ RepL X.K F' vs (acc.map encb) ∧
      (compL step (xs.drop i) s).1 = (compL step xs s0).1 ∧ acc ++ (compL step (xs.drop i) s).2 = (compL step xs s0).2, ⟨xs.length, F1, s0, [], [], rfl, Nat.zero_le _, ?_, Le.refl _, hP, Nat.le_refl _, upd_same, fD, ?_, .nil, rfl, rfl⟩, ?_⟩
  · have pw := p1.wiped w0 (hv s0)
    exact pw.upd nD fD (pw.ok.notOwned hD)
  · have pw := p1.wiped w0 (hv s0)
    exact pw.ok.notOwned hD
  rintro i m H' ⟨F', s, vs, acc, rfl, hin, p', l', hPi, hacc, hD', fD', oD', rD', e1, e2⟩
  by_cases hlt : i < xs.length
  · have hx : xs[i]? = some xs[i] := List.getElem?_eq_getElem hlt
    have hdx : (xs.map enc)[i]? = some (enc xs[i]) := by rw [List.getElem?_map, hx]; rfl
    obtain ⟨go, yl⟩ := jok.go F' H' l' p'.ok.le i _ hdx
    obtain ⟨Γa, k, Γb, hset, htt, hel, hPn⟩ := hb hBv i s xs[i] hx hPi
    have hd : xs.drop i = xs[i] :: xs.drop (i + 1) := List.drop_eq_getElem_cons hlt
    rw [hd] at e1 e2
    have eqL : compL step (xs[i] :: xs.drop (i + 1)) s = (match step s xs[i] with | (s', none) => compL step (xs.drop (i + 1)) s' | (s', some y) => ((compL step (xs.drop (i + 1)) s').1, y :: (compL step (xs.drop (i + 1)) s').2)) := rfl
    rw [eqL] at e1 e2
    generalize hst : step s xs[i] = sp at e1 e2 hel hPn
    obtain ⟨s2, oy⟩ := sp
    refine .inr ⟨go, fun H2 => ∃ F2 vs acc, Post X.K Γ σ F H (Gs s2) (wipe σ (own.map (·.2))) F2 H2 ∧ Le F1 F2 ∧ acc.length ≤ i + 1 ∧ H2 D = some (.lst vs) ∧ F2 D = none ∧ ¬ Owned (Gs s2) (wipe σ (own.map (·.2))) D ∧ RepL X.K F2 vs (acc.map encb) ∧
      (compL step (xs.drop (i + 1)) s2).1 = (compL step xs s0).1 ∧ acc ++ (compL step (xs.drop (i + 1)) s2).2 = (compL step xs s0).2, fun H2 ⟨F2, vs, acc, a1, a2, a3, a4, a5, a6, a7, a8, a9⟩ => ⟨xs.length - (i + 1), by omega, F2, s2, vs, acc, rfl, hlt, a1, a2, hPn, a3, a4, a5, a6, a7, a8, a9⟩, fun x H2 hy => ?_⟩
    obtain ⟨F2, x2, l2, r2⟩ := yl x H2 hy
    have p2 := Post.grow p'.ok x2 l2
    obtain ⟨d2, fd2⟩ := p2.ext.keep D _ hD' fD' oD'
    refine Sh.run sh hset p2.ok r2 fun σ3 p3 k3 l3 => ⟨wipe_ext_of l3 (fun n hn => k3 n fun z => hn (hix n z)), Γa, k, Γb, htt, F2, p3.ok, fun F4 H4 p4 => ?_⟩
    -- behind the tests
    have pt := p3.trans p4
    have back : ∀ {F5 H5 : Hp} {Γc : Env'}, Post X.K (Gs s) (wipe σ (own.map (·.2))) F2 H2 Γc σ3 F5 H5 → Weak Γc (Gs s2) → Post X.K (Gs s) (wipe σ (own.map (·.2))) F2 H2 (Gs s2) (wipe σ (own.map (·.2))) F5 H5 := fun {F5 H5 Γc} p5 w5 => by
      have := p5.wiped' w5 (hv s2)
      rw [show wipe σ3 (own.map (·.2)) = wipe (wipe σ (own.map (·.2))) (own.map (·.2)) from wipe_ext l3 (fun n hn => k3 n fun z => hn (hix n z)), wipe_idem] at this
      exact this
    have oD2 : ¬ Owned (Gs s) (wipe σ (own.map (·.2))) D := oD'
    cases k with
    | false =>
      rw [if_neg Bool.false_ne_true] at hel
      refine iteF ?_
      obtain ⟨hy2, hw2⟩ := hel
      have hy2 : oy = none := hy2
      subst hy2
      have pb := back pt hw2
      obtain ⟨d5, fd5⟩ := pb.ext.keep D _ d2 fd2 oD2
      refine ⟨F4, vs, acc, (p'.trans p2).trans pb, (l'.trans p2.ext.mono).trans pb.ext.mono, by omega, d5, fd5, fun z => ?_, rD'.mono (p2.ext.mono.trans pb.ext.mono), e1, e2⟩
      rcases pb.sub D z with z | z
      · exact oD2 z
      · rw [d2] at z; cases z
    | true =>
      rw [if_pos rfl] at hel
      refine iteT ?_
      obtain ⟨y, Γc, hy2, hev, hw2⟩ := hel
      have hy2 : oy = some y := hy2
      subst hy2
      refine ⟨Γb, _, Γc, hev, F4, p4.ok, fun F5 H5 v p5 hv5 => ?_⟩
      have pb := back (pt.trans p5) hw2
      obtain ⟨d5, fd5⟩ := pb.ext.keep D _ d2 fd2 oD2
      have oD5 : ¬ Owned (Gs s2) (wipe σ (own.map (·.2))) D := fun z => by
        rcases pb.sub D z with z | z
        · exact oD2 z
        · rw [d2] at z; cases z
      have rD5 := rD'.mono (p2.ext.mono.trans pb.ext.mono)
      refine ⟨vs, d5, by rw [rD5.length, List.length_map]; exact Nat.lt_of_le_of_lt hacc (Nat.lt_of_lt_of_le hlt (hB hBv)), F5, vs ++ [v], acc ++ [y], ?_, (l'.trans p2.ext.mono).trans pb.ext.mono, by rw [List.length_append]; exact Nat.succ_le_succ hacc, upd_same, fd5, oD5, ?_, e1, by rw [List.append_assoc]; exact e2⟩
      · exact ((p'.trans p2).trans pb).upd nD fd5 oD5
      · rw [List.map_append]
        exact rD5.append (RepL.one hv5)
  · have e : i = xs.length := by omega
    subst e
    refine .inl ⟨by have := jok.stop F' H' l' p'.ok.le; rwa [List.length_map] at this, ?_⟩
    rw [List.drop_length] at e1 e2
    have e1 : s = (compL step xs s0).1 := e1
    have e2 : acc ++ [] = (compL step xs s0).2 := e2
    rw [List.append_nil] at e2
    rw [e2] at rD'
    rw [← e1] at q
    have pu := p'.unwiped (hv _)
    refine q F' H' _ pu ⟨D, _, rfl, hD', fD', ⟨vs, rfl, rD'⟩, fun z => oD' ?_, .inr nD⟩
    obtain ⟨n, ao, c, g1, g2⟩ := z
    exact ⟨n, ao, c, g1, by rw [wipe_off (fun hn => nomatch (hv _ n hn _ g1))]; exact g2⟩
end
end PD
namespace PD
open PySem PySem.Spec PyProof.Rows L2
/-! ### defs -/
/-- an argument: data, or an object that is handed over, with what it holds behind the call -/
inductive Ar where
  | dat (d : D) | mu (c c' : Oc)
def ArOk (K : PySem.W.Frag) (F H : Hp) (v : V) : Ar → Prop
  | .dat d => Rep K F v d
  | .mu c _ => ∃ a ho, v = .ref a ∧ H a = some ho ∧ F a = none ∧ OcOk K F ho c
/-- what comes back: data, a new object -/
inductive Rr where
  | dat (d : D) | own (c : Oc)
def Rr.rv : Rr → Rv
  | .dat d => .dat d
  | .own c => .own c
def RrOk (K : PySem.W.Frag) (F H H0 : Hp) (v : V) : Rr → Prop
  | .dat d => Rep K F v d
  | .own c => ∃ a ho, v = .ref a ∧ H a = some ho ∧ F a = none ∧ OcOk K F ho c ∧ H0 a = none
def MutAt (vs : List V) (ars : List Ar) (a : Addr) : Prop := ∃ (i : Nat) (c c' : Oc), ars[i]? = some (.mu c c') ∧ vs[i]? = some (.ref a)
structure Before (K : PySem.W.Frag) (F H : Hp) (vs : List V) (ars : List Ar) : Prop where
  le : Le F H
  ok : Paired (fun v a => ArOk K F H v a) vs ars
  dis : ∀ (i j : Nat) (ci ci' cj cj' : Oc) (a : Addr), ars[i]? = some (.mu ci ci') → ars[j]? = some (.mu cj cj') → vs[i]? = some (.ref a) → vs[j]? = some (.ref a) → i = j
structure After (K : PySem.W.Frag) (F H : Hp) (vs : List V) (ars : List Ar) (rr : Rr) (F' H' : Hp) (v : V) : Prop where
  ext : Ext (MutAt vs ars) F H F' H'
  le : Le F' H'
  mus : ∀ (i : Nat) (c c' : Oc) (a : Addr), ars[i]? = some (.mu c c') → vs[i]? = some (.ref a) → ∃ ho, H' a = some ho ∧ F' a = none ∧ OcOk K F' ho c'
  res : RrOk K F' H' H v rr
/-- the promise -/
def spR (K : PySem.W.Frag) (Rel : List Ar → Rr → Prop) : Sp := fun vs H Q _ => ∃ ars rr F, Rel ars rr ∧ Before K F H vs ars ∧ ∀ F' H' v, After K F H vs ars rr F' H' v → Q v H'
/-- a def that may be called by its name -/
structure Cle (P : Program) (w : World) (K : PySem.W.Frag) (mg : Str → Option Value) (base : Heap) (k : Nat) (x : Str) (Rel : List Ar → Rr → Prop) : Prop where
  ex : ∃ (f : Addr) (fd : FuncData) (ps : List Str), FnOk P w K mg base CX0 k f fd ps (spR K Rel) ∧ mg x = some (.ref f) ∧ PySem.W.keepIn K (.ref f) = true ∧ Binds K fd ps []
theorem paired_get {α β : Type} {R : α → β → Prop} : ∀ {l : List α} {m : List β} {i : Nat} {y : β}, Paired R l m → m[i]? = some y → ∃ x, l[i]? = some x ∧ R x y
  | _, _, _, _, .nil, e => by simp at e
  | _, _, 0, _, .cons r _, e => by simp at e; subst e; exact ⟨_, rfl, r⟩
  | _, _, i + 1, y, .cons _ t, e => by
    obtain ⟨x, h1, h2⟩ := paired_get (i := i) (y := y) t (by simpa using e)
    exact ⟨x, by simpa using h1, h2⟩
theorem paired_getL {α β : Type} {R : α → β → Prop} : ∀ {l : List α} {m : List β} {i : Nat} {x : α}, Paired R l m → l[i]? = some x → ∃ y, m[i]? = some y ∧ R x y
  | _, _, _, _, .nil, e => by simp at e
  | _, _, 0, _, .cons r _, e => by simp at e; subst e; exact ⟨_, rfl, r⟩
  | _, _, i + 1, x, .cons _ t, e => by
    obtain ⟨y, h1, h2⟩ := paired_getL (i := i) (x := x) t (by simpa using e)
    exact ⟨y, by simpa using h1, h2⟩
theorem paired_mk {α β : Type} {R : α → β → Prop} : ∀ {l : List α} {m : List β}, l.length = m.length → (∀ (i : Nat) x y, l[i]? = some x → m[i]? = some y → R x y) → Paired R l m
  | [], [], _, _ => .nil
  | x :: l, y :: m, hl, h => .cons (h 0 x y rfl rfl) (paired_mk (by simpa using hl) fun i a b e1 e2 => h (i + 1) a b (by simpa using e1) (by simpa using e2))
/-- results are handed over as arguments; Γ' holds then -/
structure MtOk (Γ : Env') (rs : List Rv) (ars : List Ar) (Γ' : Env') : Prop where
  lenΓ : Γ'.length = Γ.length
  len : rs.length = ars.length
  at' : ∀ (j : Nat) s, Γ'[j]? = some s → (Γ[j]? = some s ∧ ∀ (i : Nat), rs[i]? ≠ some (.bor j)) ∨ (∃ (i : Nat) (ao : Option Addr) (c c' : Oc), rs[i]? = some (.bor j) ∧ ars[i]? = some (.mu c c') ∧ Γ[j]? = some (.own ao c) ∧ s = .own ao c')
  arg : ∀ (i : Nat) r a, rs[i]? = some r → ars[i]? = some a → (∃ d, r = .dat d ∧ a = .dat d) ∨ (∃ c c', r = .own c ∧ a = .mu c c') ∨ ∃ j ao c c', r = .bor j ∧ a = .mu c c' ∧ Γ[j]? = some (.own ao c)
  inj : ∀ (i i' : Nat) j, rs[i]? = some (.bor j) → rs[i']? = some (.bor j) → i = i'
  tmp : ∀ (i i' : Nat) c c', rs[i]? = some (.own c) → rs[i']? = some (.own c') → i = i'
section
variable {X : Cx} {Γ Γ1 Γ2 Γ3 : Env'} {e a b c : Expr} {pos p px apos : Pos} {r ra rb rc rv : Rv} {d : D} {ds es : List D} {i j : Int} {rs : List Rv} {ars : List Ar} {rr : Rr} {Rel : List Ar → Rr → Prop} {el : List Expr} {x : Str} {k : Nat}
theorem call_post {K : PySem.W.Frag} {F H F1 H1 F' H' : Hp} {σ : L2.St} {vs : List V} {v : V} (hH : Holds K F Γ σ H) (p1 : Post K Γ σ F H Γ1 σ F1 H1) (hv : Paired (fun v r => RvOk K F1 Γ1 σ H1 (NewAt Γ σ H) v r) vs rs) (m : MtOk Γ1 rs ars Γ2) :
    Before K F1 H1 vs ars ∧ (After K F1 H1 vs ars rr F' H' v → Post K Γ σ F H Γ2 σ F' H' ∧ RvOk K F' Γ2 σ H' (NewAt Γ σ H) v rr.rv) := by
  have hl := Paired.length hv
  -- where a handed object lies
  have mutw : ∀ x, MutAt vs ars x → (∃ (i j : Nat) (ao : Option Addr) (c c' : Oc), rs[i]? = some (.bor j) ∧ vs[i]? = some (.ref x) ∧ ars[i]? = some (.mu c c') ∧ Γ1[j]? = some (.own ao c) ∧ σ[j]? = some (some (.ref x))) ∨
      (∃ (i : Nat) (c c' : Oc) (ho : HO), rs[i]? = some (.own c) ∧ vs[i]? = some (.ref x) ∧ ars[i]? = some (.mu c c') ∧ H1 x = some ho ∧ F1 x = none ∧ OcOk K F1 ho c ∧ ¬ Owned Γ1 σ x ∧ NewAt Γ σ H x) := fun x ⟨i, c, c', e1, e2⟩ => by
    obtain ⟨r, hr, ok⟩ := paired_getL hv e2
    rcases m.arg i r _ hr e1 with ⟨d, _, z⟩ | ⟨c1, c1', rfl, z⟩ | ⟨j, ao, c1, c1', rfl, z, q⟩
    · cases z
    · cases z
      obtain ⟨y, ho, ey, g1, g2, g3, g4, g5⟩ := ok
      cases ey
      exact .inr ⟨i, c, c', ho, hr, e2, e1, g1, g2, g3, g4, g5⟩
    · cases z
      exact .inl ⟨i, j, ao, c, c', hr, e2, e1, q, ok⟩
  have bef : Before K F1 H1 vs ars := by
    refine ⟨p1.ok.le, paired_mk (hl.trans m.len) fun i v a e1 e2 => ?_, fun i j ci ci' cj cj' x e1 e2 e3 e4 => ?_⟩
    · obtain ⟨r, hr, ok⟩ := paired_getL hv e1
      rcases m.arg i r a hr e2 with ⟨d, rfl, rfl⟩ | ⟨c1, c1', rfl, rfl⟩ | ⟨j, ao, c1, c1', rfl, rfl, q⟩
      · exact ok
      · obtain ⟨y, ho, ey, g1, g2, g3, _⟩ := ok
        exact ⟨y, ho, ey, g1, g2, g3⟩
      · obtain ⟨y, ho, f1, _, f3, f4, f5⟩ := p1.ok.own q
        have ok : σ[j]? = some (some v) := ok
        rw [ok] at f1; cases f1
        exact ⟨y, ho, rfl, f3, f4, f5⟩
    · obtain ⟨r, hr, ok⟩ := paired_getL hv e3
      obtain ⟨r2, hr2, ok2⟩ := paired_getL hv e4
      rcases m.arg i r _ hr e1 with ⟨d, _, z⟩ | ⟨c1, c1', rfl, z⟩ | ⟨n, ao, c1, c1', rfl, z, q⟩
      · cases z
      · obtain ⟨y, ho, ey, g1, g2, g3, g4, g5⟩ := ok
        cases ey
        rcases m.arg j r2 _ hr2 e2 with ⟨d, _, z⟩ | ⟨c2, c2', rfl, z⟩ | ⟨n, ao, c2, c2', rfl, z, q⟩
        · cases z
        · exact m.tmp i j _ _ hr hr2
        · exact absurd ⟨n, ao, c2, q, ok2⟩ g4
      · rcases m.arg j r2 _ hr2 e2 with ⟨d, _, z⟩ | ⟨c2, c2', rfl, z⟩ | ⟨n2, ao2, c2, c2', rfl, z, q2⟩
        · cases z
        · obtain ⟨y, ho, ey, g1, g2, g3, g4, g5⟩ := ok2
          cases ey
          exact absurd ⟨n, ao, c1, q, ok⟩ g4
        · have := p1.ok.dis n n2 _ _ _ _ x q q2 ok ok2
          subst this
          exact m.inj i j n hr hr2
  refine ⟨bef, fun af => ?_⟩
  have own2 : ∀ x, Owned Γ2 σ x → Owned Γ1 σ x := fun x ⟨j, ao, c, e1, e2⟩ => by
    rcases m.at' j _ e1 with ⟨z, _⟩ | ⟨i, ao', c1, c1', _, _, z, e⟩
    · exact ⟨j, ao, c, z, e2⟩
    · exact ⟨j, ao', c1, z, e2⟩
  have P2 : Post K Γ σ F H Γ2 σ F' H' := by
    refine ⟨⟨p1.ext.mono.trans af.ext.mono, fun x o h f nO => ?_, fun x o h => ?_⟩, ⟨af.le, m.lenΓ.trans p1.ok.len, fun j s e => ?_, fun i j ai aj ci cj x ei ej si sj => ?_⟩, fun x hx => p1.sub x (own2 x hx)⟩
    · obtain ⟨k1, k2⟩ := p1.ext.keep x o h f nO
      refine af.ext.keep x o k1 k2 fun z => ?_
      rcases mutw x z with ⟨i, j, ao, c, c', _, _, _, q1, q2⟩ | ⟨i, c, c', ho, _, _, _, _, _, _, _, q⟩
      · rcases p1.sub x ⟨j, ao, c, q1, q2⟩ with z | z
        · exact nO z
        · rw [h] at z; cases z
      · rcases q with z | z
        · exact nO z
        · rw [h] at z; cases z
    · obtain ⟨o1, h1⟩ := p1.ext.there x o h
      exact af.ext.there x o1 h1
    · rcases m.at' j s e with ⟨z, nb⟩ | ⟨i, ao, c1, c1', hr, ha, z, rfl⟩
      · have q := p1.ok.sl j s z
        cases s with
        | any => trivial
        | dat d => obtain ⟨v, e1, r⟩ := q; exact ⟨v, e1, r.mono af.ext.mono⟩
        | own ao oc =>
          obtain ⟨x, ho, e1, e2, h1, h2, h3⟩ := q
          obtain ⟨k1, k2⟩ := af.ext.keep x ho h1 h2 fun w => by
            rcases mutw x w with ⟨i, n, ao', c, c', hb, _, _, q1, q2⟩ | ⟨i, c, c', ho', _, _, _, _, _, _, q, _⟩
            · have := p1.ok.dis j n _ _ _ _ x z q1 (join_some e1) q2
              subst this
              exact nb i hb
            · exact q ⟨j, ao, oc, z, join_some e1⟩
          exact ⟨x, ho, e1, e2, k1, k2, h3.mono af.ext.mono⟩
      · obtain ⟨x, ho, f1, f2, f3, f4, f5⟩ := p1.ok.own z
        obtain ⟨v', hv', _⟩ := paired_get hv hr
        have okb : σ[j]? = some (some v') := by
          obtain ⟨r2, hr2, ok2⟩ := paired_getL hv hv'
          rw [hr] at hr2; cases hr2
          exact ok2
        rw [f1] at okb; cases okb
        obtain ⟨ho', g1, g2, g3⟩ := af.mus i c1 c1' x ha hv'
        exact ⟨x, ho', by rw [f1]; rfl, f2, g1, g2, g3⟩
    · have up : ∀ (n : Nat) (an : Option Addr) (cn : Oc), Γ2[n]? = some (.own an cn) → ∃ an' cn', Γ1[n]? = some (.own an' cn') := fun n an cn en => by
        rcases m.at' n _ en with ⟨z, _⟩ | ⟨i, ao', c1, c1', _, _, z, e⟩
        · exact ⟨_, _, z⟩
        · exact ⟨_, _, z⟩
      obtain ⟨_, _, ei'⟩ := up i ai ci ei
      obtain ⟨_, _, ej'⟩ := up j aj cj ej
      exact p1.ok.dis i j _ _ _ _ x ei' ej' si sj
  refine ⟨P2, ?_⟩
  have hres := af.res
  cases rr with
  | dat d => exact hres
  | own oc =>
    obtain ⟨x, ho, e, h1, h2, h3, h4⟩ := hres
    refine ⟨x, ho, e, h1, h2, h3, fun z => ?_, .inr (p1.ext.fresh h4)⟩
    exact p1.ok.notOwned h4 (own2 x z)
theorem ev_call (C : Cle X.prog X.w X.K X.mg X.base k x Rel) (hr : Room k X.A) (hg : Gl X x) (hR : Rel ars rr) (m : MtOk Γ1 rs ars Γ2) (ha : AV X Γ (e :: el) rs Γ1)
    (hdb : (x == ("__debug__" : Str)) = false := by decide) (he : starEach (e :: el) X.env = (false, eval e X.env) :: starEach el X.env := by rfl) (hpl : (backTo pos (starEach el X.env)).any (·.1) = false := by rfl) :
    EV X Γ (.Call (.Name x p) (e :: el) [] pos) rr.rv Γ2 := by
  obtain ⟨f, fd, ps, hF, hm, hk, hb⟩ := C.ex
  refine PE.weak (pe_call (E := E0) hF hr hg hm hk hb .nil (fun _ _ _ _ _ _ _ h => h.elim) ha hdb he hpl) fun σ H Q ⟨F, hH, q⟩ => ⟨F, hH, fun F1 H1 vs p1 hv => ?_⟩
  refine ⟨ars, rr, F1, hR, ?_, fun F' H' v af => ?_⟩
  · rw [List.append_nil]
    exact (call_post (rr := rr) (F' := F1) (H' := H1) (v := .non) hH p1 hv m).1
  · rw [List.append_nil] at af
    obtain ⟨p2, hres⟩ := (call_post hH p1 hv m).2 af
    exact q F' H' v p2 hres

/-! ### handing over -/
theorem map_dat_at {ds : List D} {i : Nat} {r : Rv} (h : (ds.map Rv.dat)[i]? = some r) : ∃ d, ds[i]? = some d ∧ r = .dat d := by
  rw [List.getElem?_map] at h
  cases e : ds[i]? with
  | none => rw [e] at h; cases h
  | some d => rw [e] at h; cases h; exact ⟨d, rfl, rfl⟩
theorem mt_dat (ds : List D) : MtOk Γ (ds.map .dat) (ds.map .dat) Γ := by
  refine ⟨rfl, by simp, fun j s e => .inl ⟨e, fun i h => ?_⟩, fun i r a h1 h2 => .inl ?_, fun i i' j h _ => ?_, fun i i' c c' h _ => ?_⟩
  · obtain ⟨d, _, z⟩ := map_dat_at h; cases z
  · obtain ⟨d, hd, rfl⟩ := map_dat_at h1
    rw [List.getElem?_map, hd] at h2
    cases h2
    exact ⟨d, rfl, rfl⟩
  · obtain ⟨d, _, z⟩ := map_dat_at h; cases z
  · obtain ⟨d, _, z⟩ := map_dat_at h; cases z
/-- one that is not data, among data -/
theorem mid_at {α : Type} {f : D → α} {ds es : List D} {y : α} {i : Nat} {r : α} (h : (ds.map f ++ y :: es.map f)[i]? = some r) : (i = ds.length ∧ r = y) ∨ (i ≠ ds.length ∧ ∃ d, r = f d ∧ ∀ {β : Type} (g : D → β) (z : β), (ds.map g ++ z :: es.map g)[i]? = some (g d)) := by
  by_cases h1 : i < ds.length
  · rw [List.getElem?_append_left (by simpa using h1), List.getElem?_map, List.getElem?_eq_getElem h1] at h
    cases h
    refine .inr ⟨by omega, ds[i], rfl, fun g z => ?_⟩
    rw [List.getElem?_append_left (by simpa using h1), List.getElem?_map, List.getElem?_eq_getElem h1]; rfl
  · rw [List.getElem?_append_right (by simpa using h1), List.length_map] at h
    by_cases h2 : i = ds.length
    · subst h2
      simp at h
      exact .inl ⟨rfl, h.symm⟩
    · obtain ⟨n, hn⟩ : ∃ n, i - ds.length = n + 1 := ⟨i - ds.length - 1, by omega⟩
      rw [hn, List.getElem?_cons_succ, List.getElem?_map] at h
      cases e : es[n]? with
      | none => rw [e] at h; cases h
      | some d =>
        rw [e] at h; cases h
        refine .inr ⟨h2, d, rfl, fun g z => ?_⟩
        rw [List.getElem?_append_right (by simpa using h1), List.length_map, hn, List.getElem?_cons_succ, List.getElem?_map, e]; rfl
theorem mt_bor (ds es : List D) {n : Nat} {ao : Option Addr} {oc oc' : Oc} (hn : Γ[n]? = some (.own ao oc)) : MtOk Γ (ds.map .dat ++ .bor n :: es.map .dat) (ds.map .dat ++ .mu oc oc' :: es.map .dat) (Γ.set n (.own ao oc')) := by
  have hlt : n < Γ.length := (List.getElem?_eq_some_iff.mp hn).1
  have hb : (ds.map Rv.dat ++ Rv.bor n :: es.map Rv.dat)[ds.length]? = some (.bor n) := by simp
  have hm : (ds.map Ar.dat ++ Ar.mu oc oc' :: es.map Ar.dat)[ds.length]? = some (.mu oc oc') := by simp
  refine ⟨by simp, by simp, fun j s e => ?_, fun i r a h1 h2 => ?_, fun i i' j h h' => ?_, fun i i' c c' h _ => ?_⟩
  · by_cases z : j = n
    · subst z
      rw [List.getElem?_set_self hlt] at e
      cases e
      exact .inr ⟨ds.length, ao, oc, oc', hb, hm, hn, rfl⟩
    · rw [List.getElem?_set_ne (Ne.symm z)] at e
      refine .inl ⟨e, fun i h => ?_⟩
      rcases mid_at h with ⟨_, q⟩ | ⟨_, d, q, _⟩
      · cases q; exact z rfl
      · cases q
  · rcases mid_at h1 with ⟨rfl, rfl⟩ | ⟨_, d, rfl, q⟩
    · rw [hm] at h2; cases h2
      exact .inr (.inr ⟨n, ao, oc, oc', rfl, rfl, hn⟩)
    · rw [q Ar.dat] at h2; cases h2
      exact .inl ⟨d, rfl, rfl⟩
  · rcases mid_at h with ⟨rfl, q⟩ | ⟨_, d, q, _⟩
    · rcases mid_at h' with ⟨rfl, q⟩ | ⟨_, d, q, _⟩
      · rfl
      · cases q
    · cases q
  · rcases mid_at h with ⟨_, q⟩ | ⟨_, d, q, _⟩
    · cases q
    · cases q
theorem mt_own (ds es : List D) {oc oc' : Oc} : MtOk Γ (ds.map .dat ++ .own oc :: es.map .dat) (ds.map .dat ++ .mu oc oc' :: es.map .dat) Γ := by
  have hm : (ds.map Ar.dat ++ Ar.mu oc oc' :: es.map Ar.dat)[ds.length]? = some (.mu oc oc') := by simp
  refine ⟨rfl, by simp, fun j s e => .inl ⟨e, fun i h => ?_⟩, fun i r a h1 h2 => ?_, fun i i' j h h' => ?_, fun i i' c c' h h' => ?_⟩
  · rcases mid_at h with ⟨_, q⟩ | ⟨_, d, q, _⟩
    · cases q
    · cases q
  · rcases mid_at h1 with ⟨rfl, rfl⟩ | ⟨_, d, rfl, q⟩
    · rw [hm] at h2; cases h2
      exact .inr (.inl ⟨oc, oc', rfl, rfl⟩)
    · rw [q Ar.dat] at h2; cases h2
      exact .inl ⟨d, rfl, rfl⟩
  · rcases mid_at h with ⟨_, q⟩ | ⟨_, d, q, _⟩
    · cases q
    · cases q
  · rcases mid_at h with ⟨rfl, _⟩ | ⟨_, d, q, _⟩
    · rcases mid_at h' with ⟨rfl, _⟩ | ⟨_, d, q, _⟩
      · rfl
      · cases q
    · cases q

/-! ### a def's body -/
def arSl (as : Nat → Addr) : Nat → List Ar → Env'
  | _, [] => []
  | n, .dat d :: r => .dat d :: arSl as (n + 1) r
  | n, .mu c _ :: r => .own (some (as n)) c :: arSl as (n + 1) r
theorem arSl_at {as : Nat → Addr} : ∀ {ars : List Ar} {n i : Nat} {s : Sl}, (arSl as n ars)[i]? = some s → ∃ a, ars[i]? = some a ∧ match a with | .dat d => s = .dat d | .mu c _ => s = .own (some (as (n + i))) c
  | [], _, _, _, h => by cases h
  | .dat d :: r, n, 0, s, h => by cases h; exact ⟨_, rfl, rfl⟩
  | .mu c c' :: r, n, 0, s, h => by cases h; exact ⟨_, rfl, rfl⟩
  | .dat d :: r, n, i + 1, s, h => by
    obtain ⟨a, e, q⟩ := arSl_at (ars := r) (n := n + 1) (i := i) (s := s) h
    exact ⟨a, e, by rw [show n + (i + 1) = n + 1 + i by omega]; exact q⟩
  | .mu c c' :: r, n, i + 1, s, h => by
    obtain ⟨a, e, q⟩ := arSl_at (ars := r) (n := n + 1) (i := i) (s := s) h
    exact ⟨a, e, by rw [show n + (i + 1) = n + 1 + i by omega]; exact q⟩
theorem arSl_length {as : Nat → Addr} : ∀ {ars : List Ar} {n : Nat}, (arSl as n ars).length = ars.length
  | [], _ => rfl
  | .dat d :: r, n => congrArg (· + 1) arSl_length
  | .mu c c' :: r, n => congrArg (· + 1) arSl_length
def env0 (as : Nat → Addr) (ars : List Ar) (n : Nat) : Env' := arSl as 0 ars ++ List.replicate (n - ars.length) .any
def FinOk (as : Nat → Addr) (ars : List Ar) (fin : Env') : Prop := ∀ (i : Nat) c c', ars[i]? = some (.mu c c') → fin[i]? = some (.own (some (as i)) c')
theorem fn_mk {P : Program} {w : World} {K : PySem.W.Frag} {mg : Str → Option Value} {base : Heap} {S L R : Type} {qual : Str} {st : Stmt} {f : Addr} {fd : FuncData} {N ps : List Str} (hF : Fun K x qual st f fd) (hS : FnScope N ps (defScope st))
    (hlen : ∀ ars rr, Rel ars rr → ars.length = ps.length)
    (body : ∀ (cdv : Value) (A : Around) (outer : List Env) (s : Shared) (H : Hp) (E : XK) ars rr (as : Nat → Addr), Room k (A.deeper (envOfC qual (defScope st) s.heap.objs.size f cdv)) → Rel ars rr →
      ∃ (G : S → Env') (Lp : L → Env') (Kr : R → Rv × Env') (o : LO S L R), SS (cxOf CX0 P w K mg base N qual (defScope st) f cdv A outer s H E).nox (env0 as ars N.length) (defBody st) G Lp Kr o ∧
        ((∃ r, o = .ret r ∧ (Kr r).1 = rr.rv ∧ FinOk as ars (Kr r).2) ∨ ∃ s, o = .next s ∧ rr = .dat .non ∧ FinOk as ars (G s))) : FnOk P w K mg base CX0 (k + 1) f fd ps (spR K Rel) := by
  refine hF.ok hS (fun vs H Q E h => ?_) (fun cdv A outer s H vs Q E hr h => ?_)
  · obtain ⟨ars, rr, F, hR, bf, _⟩ := h
    rw [Paired.length bf.ok]
    exact hlen ars rr hR
  · obtain ⟨ars, rr, F, hR, bf, q⟩ := h
    let as : Nat → Addr := fun i => match vs[i]? with | some (.ref a) => a | _ => 0
    obtain ⟨G, Lp, Kr, o, hbody, hend⟩ := body cdv A outer s H E ars rr as hr hR
    refine ⟨_, hbody, F, ?_, ?_⟩
    all_goals
      have hN : N.take ps.length = ps := hS.pre
      have hpl : ps.length ≤ N.length := by have := congrArg List.length hN; rw [List.length_take] at this; omega
      have hla := hlen ars rr hR
      have hlv : vs.length = ars.length := Paired.length bf.ok
      have lenσ : (L2.start N vs).length = N.length := by unfold L2.start; rw [List.length_append, List.length_map, List.length_replicate]; omega
      have lenΓ : (env0 as ars N.length).length = N.length := by unfold env0; rw [List.length_append, arSl_length, List.length_replicate]; omega
      have at0 : ∀ (i : Nat) s, (env0 as ars N.length)[i]? = some s → s = .any ∨ ∃ a v, ars[i]? = some a ∧ vs[i]? = some v ∧ (L2.start N vs)[i]? = some (some v) ∧ match a with | .dat d => s = .dat d | .mu c _ => s = .own (some (as i)) c := fun i s e => by
        unfold env0 at e
        by_cases hi : i < ars.length
        · rw [List.getElem?_append_left (by rw [arSl_length]; exact hi)] at e
          obtain ⟨a, e1, e2⟩ := arSl_at e
          have hv : vs[i]? = some vs[i] := List.getElem?_eq_getElem (by omega)
          refine .inr ⟨a, vs[i], e1, hv, ?_, by rw [Nat.zero_add] at e2; exact e2⟩
          unfold L2.start
          rw [List.getElem?_append_left (by rw [List.length_map]; omega), List.getElem?_map, hv]; rfl
        · rw [List.getElem?_append_right (by rw [arSl_length]; omega)] at e
          exact .inl (by have := List.mem_of_getElem? e; exact (List.mem_replicate.mp this).2)
      have asv : ∀ (i : Nat) a, vs[i]? = some (.ref a) → as i = a := fun i a e => by show (match vs[i]? with | some (.ref a) => a | _ => 0) = a; rw [e]
      have ownAt : ∀ x, Owned (env0 as ars N.length) (L2.start N vs) x → MutAt vs ars x := fun x ⟨i, ao, c, e1, e2⟩ => by
        rcases at0 i _ e1 with z | ⟨a, v, g1, g2, g3, g4⟩
        · cases z
        · cases a with
          | dat d => cases g4
          | mu c1 c1' =>
            cases g4
            rw [e2] at g3; cases g3
            exact ⟨i, _, _, g1, g2⟩
    · refine ⟨bf.le, by rw [lenΓ, lenσ], fun i s e => ?_, fun i j ai aj ci cj x ei ej si sj => ?_⟩
      · rcases at0 i s e with rfl | ⟨a, v, g1, g2, g3, g4⟩
        · trivial
        · obtain ⟨v', h1, ok⟩ := paired_get bf.ok g1
          rw [g2] at h1; cases h1
          cases a with
          | dat d => subst g4; exact ⟨v, by rw [g3]; rfl, ok⟩
          | mu c1 c1' =>
            subst g4
            obtain ⟨y, ho, rfl, h2, h3, h4⟩ := ok
            exact ⟨y, ho, by rw [g3]; rfl, fun b hb => by cases hb; exact asv i y g2, h2, h3, h4⟩
      · rcases at0 i _ ei with z | ⟨a1, v1, g1, g2, g3, g4⟩
        · cases z
        · rcases at0 j _ ej with z | ⟨a2, v2, k1, k2, k3, k4⟩
          · cases z
          · rw [si] at g3; cases g3
            rw [sj] at k3; cases k3
            cases a1 with
            | dat d => cases g4
            | mu c1 c1' =>
              cases a2 with
              | dat d => cases k4
              | mu c2 c2' => exact bf.dis i j c1 c1' c2 c2' x g1 k1 g2 k2
    · have fin : ∀ {F' H' : Hp} {σ' : L2.St} {Γ' : Env'} {v : V}, Post K (env0 as ars N.length) (L2.start N vs) F H Γ' σ' F' H' → FinOk as ars Γ' → RrOk K F' H' H v rr → Q v H' := fun {F' H' σ' Γ' v} p hf hres => by
        refine q F' H' v ⟨⟨p.ext.mono, fun x o h f nm => p.ext.keep x o h f fun z => nm (ownAt x z), p.ext.there⟩, p.ok.le, fun i c c' x e1 e2 => ?_, hres⟩
        obtain ⟨y, ho, h1, h2, h3, h4, h5⟩ := p.ok.own (hf i c c' e1)
        have := h2 _ rfl
        rw [asv i x e2] at this
        subst this
        exact ⟨ho, h3, h4, h5⟩
      rcases hend with ⟨r, rfl, hk, hf⟩ | ⟨s1, rfl, rfl, hf⟩
      · intro F' H' σ' v p hv
        rw [hk] at hv
        refine fin p hf ?_
        cases rr with
        | dat d => exact hv
        | own oc =>
          obtain ⟨y, ho, e1, h1, h2, h3, h4, h5⟩ := hv
          refine ⟨y, ho, e1, h1, h2, h3, ?_⟩
          rcases h5 with z | z
          · -- an object that was handed over is not handed back
            obtain ⟨i, c, c', g1, g2⟩ := ownAt y z
            obtain ⟨y', ho', k1, k2, k3, _⟩ := p.ok.own (hf i c c' g1)
            have := k2 _ rfl
            rw [asv i y g2] at this
            subst this
            exact absurd ⟨i, _, _, hf i c c' g1, k1⟩ h4
          · exact z
      · intro F' H' σ' p
        exact fin p hf .non
theorem cle_mk {P : Program} {w : World} {K : PySem.W.Frag} {mg : Str → Option Value} {base : Heap} {S L R : Type} {qual : Str} {st : Stmt} {f : Addr} {fd : FuncData} {N ps : List Str} (hF : Fun K x qual st f fd) (hS : FnScope N ps (defScope st)) (hm : mg x = some (.ref f)) (hb : Binds K fd ps [])
    (hlen : ∀ ars rr, Rel ars rr → ars.length = ps.length)
    (body : ∀ (cdv : Value) (A : Around) (outer : List Env) (s : Shared) (H : Hp) (E : XK) ars rr (as : Nat → Addr), Room k (A.deeper (envOfC qual (defScope st) s.heap.objs.size f cdv)) → Rel ars rr →
      ∃ (G : S → Env') (Lp : L → Env') (Kr : R → Rv × Env') (o : LO S L R), SS (cxOf CX0 P w K mg base N qual (defScope st) f cdv A outer s H E).nox (env0 as ars N.length) (defBody st) G Lp Kr o ∧
        ((∃ r, o = .ret r ∧ (Kr r).1 = rr.rv ∧ FinOk as ars (Kr r).2) ∨ ∃ s, o = .next s ∧ rr = .dat .non ∧ FinOk as ars (G s))) : Cle P w K mg base (k + 1) x Rel :=
  ⟨f, fd, ps, fn_mk hF hS hlen body, hm, hF.kp, hb⟩
end
end PD
namespace PD
open PySem PySem.Spec PyProof.Rows L2
/-! ### data as the library's data: ==, <, sorted -/
mutual
def D.py : D → PyData
  | .non => .none
  | .bl b => .bool b
  | .int i => .int i
  | .str x => .str x
  | .tup xs => .tuple (D.pyL xs)
  | .lst xs => .list (D.pyL xs)
def D.pyL : List D → List PyData
  | [] => []
  | x :: xs => D.py x :: D.pyL xs
end
theorem pyL_map : ∀ xs : List D, D.pyL xs = xs.map D.py
  | [] => rfl
  | x :: xs => by rw [D.pyL, pyL_map xs]; rfl
mutual
theorem Rep.dp {K : PySem.W.Frag} {F H : Hp} (l : Le F H) : ∀ {d : D} {v : V}, Rep K F v d → Dp K H v d.py
  | .non, _, .non => .non
  | .bl _, _, .bl b => .bl b
  | .int _, _, .int i => .int i
  | .str _, _, .str x => .str x
  | .tup _, _, .tup s r => .tup (l.seqT s) (RepL.dp l r)
  | .lst _, _, .lst s r => .lst (l.seqL s) (RepL.dp l r)
theorem RepL.dp {K : PySem.W.Frag} {F H : Hp} (l : Le F H) : ∀ {ds : List D} {vs : List V}, RepL K F vs ds → DpAll K H vs (D.pyL ds)
  | [], _, .nil => .nil
  | _ :: _, _, .cons a b => .cons (Rep.dp l a) (RepL.dp l b)
end
def rLtD (K : PySem.W.Frag) : R2 := fun x y H Q => ∃ d e, Dp K H x d ∧ Dp K H y e ∧ PySem.W.alike d e = true ∧ d ≠ .none ∧ d.depth ≤ 64 ∧ Q (.bl (PySem.W.dataLt d e)) H
theorem op_ltD {X : Cx} (hu : X.A.units + 64 < cLine) : OpR X (compareOp .Lt) (rLtD X.K) := by
  intro pins s σ H x y v u Q I rx ry h
  obtain ⟨d, e, hd, he, ha, hn, hp, q⟩ := h
  obtain ⟨as, r1⟩ := Dp.reads I d x v hd rx
  obtain ⟨bs, r2⟩ := Dp.reads I e y u he ry
  exact PySem.W.rcLt_alike d e X.A s v u as bs r1 r2 ha hn (by have := Nat.min_le_left d.depth e.depth; omega) X.prog X.w X.xe _ ⟨.bl _, H, I, rfl, q⟩
/-- sorted(xs), xs a list or a tuple of data -/
def leD (a b : D) : Bool := !PySem.W.dataLt b.py a.py
def rSortD (K : PySem.W.Frag) : List V → Hp → VK → Prop := fun xs H Q => ∃ p ys F ds, xs = [.ref p] ∧ (SqL K H p ys ∨ SqT K H p ys) ∧ Le F H ∧ RepL K F ys ds ∧ PySem.W.AllAlike (ds.map D.py) ∧ PySem.W.Sortable (ds.map D.py) ∧ (∀ d ∈ ds, d.py.depth ≤ 50) ∧
  ∀ l ws, H l = none → RepL K F ws (ds.mergeSort leD) → Q (.ref l) (upd H l (.lst ws))
open PySem.W in
theorem call_sortD {X : Cx} (hu : X.A.units + 64 < cLine) : CallR X (.builtin "sorted") (rSortD X.K) := by
  intro pins s σ H xs us Q I r h
  obtain ⟨p, ys, F, ds, rfl, hq, hF, rl, hal, hk, hdep, q⟩ := h
  cases r with
  | cons rp rt =>
  cases rt
  cases rp
  -- the items
  have hit : ∃ (its : List Value) (o : Obj) (n : Nat) (T : String), Vals ys its ∧ s.heap.get? p = some o ∧ o.cls = .type T ∧ o.data = .seq its.toArray n ∧ (T = "list" ∨ T = "tuple") ∧ ys.length ≤ sizeLine := by
    rcases hq with hq | hq
    · obtain ⟨its, rv, ⟨o, n, e, hc, _, hd⟩, hz⟩ := I.list hq
      exact ⟨its, o, n, "list", rv, e, hc, hd, .inl rfl, hz⟩
    · obtain ⟨its, rv, ⟨o, e, hc, n, hd⟩, hz⟩ := I.tuple hq
      exact ⟨its, o, n, "tuple", rv, e, hc, hd, .inr rfl, hz⟩
  obtain ⟨its, o, n, T, rv, ho, hc, hd, hT, hz⟩ := hit
  have hl := rv.length
  have hz' : its.length ≤ sizeLine := by omega
  refine Calls.call_function_entry kind_sorted plain_sorted entry_sorted (args_sorted1 _) ?_
  unfold Builtin.«sorted»
  refine wpAny_bind (m := checkCount "sorted" 1 1 _) (wpAny_pure ?_)
  refine wpAny_bind (wpAny_collect_seq p hT ho hc hd (fun h' kh => ?_) (by rw [List.size_toArray]; exact hz'))
  refine wpAny_bind (wpAny_newList ?_ hz')
  have I1 : Inv X pins σ H { s with heap := h' } := I.kept (t' := s.toks) kh
  have hoL : (h'.push (seqObj "list" its.toArray 0)).get? h'.objs.size = some (seqObj "list" its.toArray 0) := Heap.get?_push_size _ rfl
  have kp : ∀ b ob, s.heap.get? b = some ob → (h'.push (seqObj "list" its.toArray 0)).get? b = some ob := fun b ob e => Heap.get?_push_of_some _ (kh b ob e)
  show wpAny _ _ _ _ _ { s with heap := h'.push (seqObj "list" its.toArray 0) }
  -- what the items read as
  have each : ∀ {ys : List V} {its : List Value} {ds : List D}, Vals ys its → RepL X.K F ys ds → EachIs (fun u d => ∃ v, RelV v u ∧ Rep X.K F v d) its ds := by
    intro ys its ds rv rl
    induction rv generalizing ds with
    | nil => cases rl; exact .nil
    | cons r t ih => cases rl with | cons r2 t2 => exact .cons ⟨_, r, r2⟩ (ih t2)
  have e0 := each rv rl
  have er : EachIs (fun u d => ∃ as, Reads s.heap u (D.py d) as) its ds := e0.mono fun u d ⟨v, r1, r2⟩ => Dp.reads I _ v u (Rep.dp hF r2) r1
  have er' : EachIs (fun u d => ∃ as, Reads (sortingHeap (h'.push (seqObj "list" its.toArray 0)) h'.objs.size its) u (D.py d) as) its ds := er.mono fun u d ⟨as, rr⟩ => ⟨as, PyProof.Rows.Reads.keeps (fun b ob e => by
    have hb : b ≠ h'.objs.size := Nat.ne_of_lt (Heap.lt_size (kh b ob e))
    exact sortingHeap_old hb (kp b ob e)) rr⟩
  refine wpAny_bind (wpAny_holding (wpAny_call_entry slot_list_sort ⟨_, hoL, rfl⟩ entry_list_sort (list_sort_vals (κ := dataKind (sortingHeap (h'.push (seqObj "list" its.toArray 0)) h'.objs.size its) (ds.map D.py)) hoL
    (SortsAt.data (s := { s with heap := sortingHeap (h'.push (seqObj "list" its.toArray 0)) h'.objs.size its }) (each_map (R := fun v d => ∃ as, Reads (sortingHeap (h'.push (seqObj "list" its.toArray 0)) h'.objs.size its) v d as) D.py er') hal hk (fun d hd => ?_)) hz' ⟨_, rfl, ?_⟩) (args_list_sort _)))
  · obtain ⟨b, hb, rfl⟩ := List.mem_map.mp hd
    have := hdep b hb
    show X.A.units + 1 + 1 + b.py.depth < cLine
    omega
  refine wpAny_pure ⟨_, rfl, ?_⟩
  -- the new list
  have out := sortVals_data (h' := sortingHeap (h'.push (seqObj "list" its.toArray 0)) h'.objs.size its) false e0 er' hal
  have hsrt : dataLe false D.py = leD := by funext a b; rfl
  rw [hsrt] at out
  generalize hov : sortVals (dataKind (sortingHeap (h'.push (seqObj "list" its.toArray 0)) h'.objs.size its) (ds.map D.py)) false its its = ov at out
  have hlen : ov.length = its.length := by rw [← hov]; exact sortVals_length false rfl
  have back : ∀ {us : List Value} {es : List D}, EachIs (fun u d => ∃ v, RelV v u ∧ Rep X.K F v d) us es → ∃ ws, Vals ws us ∧ RepL X.K F ws es := by
    intro us es h
    induction h with
    | nil => exact ⟨[], .nil, .nil⟩
    | cons h1 _ ih =>
      obtain ⟨v, r1, r2⟩ := h1
      obtain ⟨ws, h1, h2⟩ := ih
      exact ⟨v :: ws, .cons r1 h1, .cons r2 h2⟩
  obtain ⟨ws, w1, w2⟩ := back out
  obtain ⟨ep, hat⟩ := sortedHeap_at (out := ov.toArray) hoL
  refine ⟨.ref h'.objs.size, _, I1.laid (t' := s.toks) (o := .lst ws) (fun b ob e => ?_) (Nat.le_refl _) ?_, rfl, q h'.objs.size ws (I1.hok.fresh (Nat.le_refl _)) w2⟩
  · have hb : b < h'.objs.size := Heap.lt_size e
    exact (sortedHeap_old (Nat.ne_of_lt hb) (by rw [size_push']; exact Nat.lt_succ_of_lt hb)).trans (Heap.get?_push_of_some _ e)
  · exact ⟨by rw [w1.length, hlen]; exact hz', ov, ep, w1, hat⟩
section
variable {X : Cx} {Γ Γ1 Γ2 Γ3 : Env'} {e a b c : Expr} {pos p px apos : Pos} {r ra rb rc rv : Rv} {d : D} {ds es : List D}
theorem ev_sorted (hu : X.A.units + 64 < cLine) (hg : Gl X "sorted") (hm : X.mg "sorted" = none) (w : VSeq Γ1 r ds) (hal : PySem.W.AllAlike (ds.map D.py)) (hk : PySem.W.Sortable (ds.map D.py)) (hdep : ∀ d ∈ ds, d.py.depth ≤ 50) (ha : EV X Γ a r Γ1) (hs : starEach [a] X.env = (false, eval a X.env) :: starEach [] X.env := by rfl) :
    EV X Γ (.Call (.Name "sorted" p) [a] [] pos) (.own (.lst (ds.mergeSort leD))) Γ1 :=
  ev_callB (call_sortD hu) hg hm (by decide +kernel) (fun F σ H A vs Q hH hv q => by
    cases hv with
    | cons h t =>
      cases t
      obtain ⟨x, ws, e, s, t⟩ := w.at hH h
      subst e
      have t' : ∃ F', Le F' H ∧ RepL X.K F' ws ds ∧ Le F F' := ⟨F, hH.le, t, Le.refl F⟩
      exact ⟨x, ws, F, ds, rfl, s, hH.le, t, hal, hk, hdep, fun l ws' hl rw' => new_list (.refl hH) rw' hl q⟩) (av_cons ha av_nil hs) (by decide) (by decide) hs rfl
/-- the sorted list in typed words -/
def leT {α : Type} (enc : α → D) (a b : α) : Bool := leD (enc a) (enc b)
theorem sorted_map {α : Type} (enc : α → D) (xs : List α) : (xs.map enc).mergeSort leD = (xs.mergeSort (leT enc)).map enc := (PySem.W.sort_maps enc fun _ _ _ _ => rfl).symm
end
end PD
namespace PD
open PySem PySem.Spec PyProof.Rows L2
/-! ### slices of tuples: the whole, turned round -/
section
variable {prog : Program} {w : World} {A : Around} {E : Value → Shared → Prop} {s : Shared}
theorem tupleIsExact_ {t : Addr} {items : Array Value} {Q : Bool → Shared → Prop} (ht : IsTup s.heap t items) (h : Q true s) : wpAny (model prog w) A (Builtin.Tuple.tupleIsExact (.ref t)) Q E s := by
  obtain ⟨o, ho, hc, _⟩ := id ht
  unfold Builtin.Tuple.tupleIsExact
  refine wpAny_bind (wpAny_typeOf (T := "tuple") ⟨o, ho, hc⟩ (wpAny_pure ?_))
  exact h
theorem getItem_tuple_whole {t sl : Addr} {items : Array Value} {vl vu : Value} {lo hi : Option Int} {Q : Value → Shared → Prop} (ht : IsTup s.heap t items) (hs : s.heap.IsSliceOf sl vl vu .none) (pl : IsPart vl lo) (pu : IsPart vu hi)
    (hw : HT.sIx items.size 0 lo = 0 ∧ HT.sIx items.size items.size hi = items.size) (h : Q (.ref t) s) : wpAny (model prog w) A (getItem (.ref t) (.ref sl)) Q E s := by
  obtain ⟨os, hos, hcs, hds⟩ := id hs
  have hTs : s.TypeIs (.ref sl) "slice" := ⟨os, hos, hcs⟩
  unfold getItem
  try with_reducible refine wpAny_holding ?_
  first | refine wpAny_bind (wpAny_pure ?_) | skip
  refine wpAny_bind (wpAny_sequenceKey ht.typeIs (by decide) ?_)
  refine wpAny_bind (wpAny_callSpecial?_slot (name := Str.ofString "__getitem__") ht.typeIs PyProof.Rows.slot_tuple_getitem
    (wpAny_call_entry PyProof.Rows.slot_tuple_getitem ht.typeIs entry_tuple_getitem ?_ (args_tuple_getitem _ _)))
  show wpAny _ _ (Builtin.Tuple.tupleItemsOf (.ref t) >>= _) _ _ s
  refine wpAny_bind (tupleItemsOf_ ht ?_)
  refine wpAny_bind (wpAny_typeOf hTs ?_)
  rw [if_pos (by decide)]
  refine wpAny_bind (HT.sliceApplied_gen hs pl pu ?_)
  show wpAny _ _ (if (((HT.sIx items.size 0 lo : Nat) : Int) == 0 && (1 : Int) == 1 && (HT.sIx items.size items.size hi - HT.sIx items.size 0 lo) == items.size) = true then _ else _) _ _ s
  rw [hw.1, hw.2, if_pos (by simp)]
  refine wpAny_bind (tupleIsExact_ ht ?_)
  rw [if_pos rfl]
  first
    | exact wpAny_bind (wpAny_rule (wpAny_pure ⟨_, rfl, wpAny_pure h⟩))
    | exact wpAny_bind (wpAny_rule (wpAny_bind (wpAny_pure (wpAny_pure ⟨_, rfl, wpAny_pure h⟩))))
    | exact wpAny_bind (wpAny_bind (wpAny_rule (wpAny_pure (wpAny_pure ⟨_, rfl, wpAny_pure h⟩))))
    | exact wpAny_bind (wpAny_bind (wpAny_rule (wpAny_bind (wpAny_pure (wpAny_pure ⟨_, rfl, wpAny_pure h⟩)))))
theorem sliceApplied_rev {sl : Addr} {vk : Value} {n : Nat} {Q : Int × Int × Nat → Shared → Prop} (hs : s.heap.IsSliceOf sl .none .none vk) (pk : IsPart vk (some (-1)))
    (h : Q ((n : Int) - 1, -1, n) s) : wpAny (model prog w) A (Builtin.Slice.sliceApplied (.ref sl) (pure (n : Int))) Q E s := by
  obtain ⟨os, hos, hcs, hds⟩ := id hs
  unfold Builtin.Slice.sliceApplied Builtin.Slice.sliceFields
  refine wpAny_bind (wpAny_bind (wpAny_field hos hds (x := .none) rfl (wpAny_bind (wpAny_field hos hds (x := .none) rfl (wpAny_bind (wpAny_field hos hds (x := vk) rfl (wpAny_pure ?_)))))))
  refine wpAny_bind (HT.slicePart_ pk ?_)
  show wpAny _ _ (if ((-1 : Int) == 0) = true then _ else _) _ _ s
  rw [if_neg (by decide)]
  refine wpAny_bind (slicePart_none (wpAny_bind (slicePart_none (wpAny_bind (wpAny_pure ?_)))))
  show wpAny _ _ (pure ((n : Int) - 1, (-1 : Int), Builtin.Slice.slicePlaces ((n : Int) - 1) (-1) (-1))) _ _ s
  have e : Builtin.Slice.slicePlaces ((n : Int) - 1) (-1) (-1) = n := by
    unfold Builtin.Slice.slicePlaces
    have h1 : ¬ ((-1 : Int) > 0) := by decide
    simp only [h1, if_false]
    split
    · rw [show (- -1 : Int) = 1 by decide, Int.ediv_one]; omega
    · omega
  rw [e]
  exact wpAny_pure h
theorem fm_congr {α β : Type} {f g : α → Option β} : ∀ {l : List α}, (∀ x ∈ l, f x = g x) → l.filterMap f = l.filterMap g
  | [], _ => rfl
  | x :: l, h => by
    rw [List.filterMap_cons, List.filterMap_cons, h x List.mem_cons_self, fm_congr fun y hy => h y (List.mem_cons_of_mem _ hy)]
theorem rev_pick (xs : Array Value) : ((List.range xs.size).filterMap fun (k : Nat) => xs[((xs.size : Int) - 1 + (k : Int) * -1).toNat]?).toArray = xs.toList.reverse.toArray := by
  have e : ∀ k ∈ List.range xs.size, xs[((xs.size : Int) - 1 + (k : Int) * -1).toNat]? = (fun j => xs[j]?) (xs.size - 1 - k) := fun k hk => by
    have := List.mem_range.mp hk
    show xs[((xs.size : Int) - 1 + (k : Int) * -1).toNat]? = xs[xs.size - 1 - k]?
    congr 1
    omega
  rw [fm_congr e]
  rw [show (List.range xs.size).filterMap (fun k => (fun j => xs[j]?) (xs.size - 1 - k)) = ((List.range xs.size).map fun k => xs.size - 1 - k).filterMap (fun j => xs[j]?) from (List.filterMap_map ..).symm]
  rw [PySem.W.krv_range, List.filterMap_reverse, PySem.W.krv_all]
theorem getItem_tuple_rev {t sl : Addr} {items : Array Value} {vk : Value} {Q : Value → Shared → Prop} (ht : IsTup s.heap t items) (hs : s.heap.IsSliceOf sl .none .none vk) (pk : IsPart vk (some (-1))) (hsz : items.size ≤ sizeLine)
    (h : Q (.ref s.heap.objs.size) { s with heap := s.heap.push { cls := .type "tuple", data := .seq items.toList.reverse.toArray } }) : wpAny (model prog w) A (getItem (.ref t) (.ref sl)) Q E s := by
  obtain ⟨os, hos, hcs, hds⟩ := id hs
  have htake : sizeOk (.seq items.toList.reverse.toArray) := by
    show items.toList.reverse.toArray.size ≤ sizeLine
    simpa using hsz
  have hTs : s.TypeIs (.ref sl) "slice" := ⟨os, hos, hcs⟩
  unfold getItem
  try with_reducible refine wpAny_holding ?_
  first | refine wpAny_bind (wpAny_pure ?_) | skip
  refine wpAny_bind (wpAny_sequenceKey ht.typeIs (by decide) ?_)
  refine wpAny_bind (wpAny_callSpecial?_slot (name := Str.ofString "__getitem__") ht.typeIs PyProof.Rows.slot_tuple_getitem
    (wpAny_call_entry PyProof.Rows.slot_tuple_getitem ht.typeIs entry_tuple_getitem ?_ (args_tuple_getitem _ _)))
  show wpAny _ _ (Builtin.Tuple.tupleItemsOf (.ref t) >>= _) _ _ s
  refine wpAny_bind (tupleItemsOf_ ht ?_)
  refine wpAny_bind (wpAny_typeOf hTs ?_)
  rw [if_pos (by decide)]
  refine wpAny_bind (sliceApplied_rev hs pk ?_)
  show wpAny _ _ (if (((items.size : Nat) : Int) - 1 == 0 && (-1 : Int) == 1 && items.size == items.size) = true then _ else _) _ _ s
  rw [if_neg (by simp), rev_pick]
  first
    | exact wpAny_bind (m := Builtin.Tuple.tupleExact _) (wpAny_newObj_type (wpAny_pure ⟨_, rfl, wpAny_pure h⟩) htake)
    | exact wpAny_bind (m := Builtin.Tuple.tupleExact _) (wpAny_newObj_type (wpAny_bind (wpAny_pure (wpAny_pure ⟨_, rfl, wpAny_pure h⟩))) htake)
    | exact wpAny_bind (wpAny_bind (m := Builtin.Tuple.tupleExact _) (wpAny_newObj_type (wpAny_pure (wpAny_pure ⟨_, rfl, wpAny_pure h⟩)) htake))
    | exact wpAny_bind (wpAny_bind (m := Builtin.Tuple.tupleExact _) (wpAny_newObj_type (wpAny_pure ⟨_, rfl, wpAny_pure h⟩) htake))
end
section
variable {X : Cx} {Γ Γ1 Γ2 Γ3 : Env'} {e a b c : Expr} {pos p px apos : Pos} {r ra rb rc rv : Rv} {d : D} {ds es : List D} {i j : Int}
def rSlT2 (K : PySem.W.Frag) : V → Option Int → Option Int → Hp → VK → Prop := fun x lo hi H Q => ∃ a xs, x = .ref a ∧ SqT K H a xs ∧ (cutV xs lo hi = xs → Q (.ref a) H) ∧ ∀ p, H p = none → Q (.ref p) (upd H p (.tup (cutV xs lo hi)))
theorem sl_tup2 : SlR X (rSlT2 X.K) := by
  intro pins s σ H x v vl vu lo hi sl Q I rx hs pl pu h
  obtain ⟨a, xs, rfl, hx, q1, q2⟩ := h
  by_cases hw : HT.sIx xs.length 0 lo = 0 ∧ HT.sIx xs.length xs.length hi = xs.length
  · cases rx
    obtain ⟨its, r, ht, hz⟩ := I.tuple hx
    have hlen : its.toArray.size = xs.length := by rw [List.size_toArray]; exact r.length.symm
    refine ⟨"tuple", _, PyProof.Rows.slot_tuple_getitem.lookup, ht.typeIs, ?_⟩
    exact getItem_tuple_whole ht hs pl pu (by rw [hlen]; exact hw) ⟨.ref a, H, I, rfl, q1 (by unfold cutV; rw [hw.1, hw.2]; simp)⟩
  · exact sl_tup pins s σ H (.ref a) v vl vu lo hi sl Q I rx hs pl pu ⟨a, xs, rfl, hx, hw, q2⟩
theorem ev_slT {lo hi : Option Expr} {l u : Option Int} {p2 : Pos} (ha : EV X Γ a (.dat (.tup ds)) Γ1) (hl : OV X Γ1 lo l Γ2) (hu : OV X Γ2 hi u Γ3) : EV X Γ (.Subscript a (.Slice lo hi none p2) pos) (.dat (.tup (cutD ds l u))) Γ3 := by
  obtain ⟨t1, h1, w1⟩ := hl
  obtain ⟨t2, h2, w2⟩ := hu
  refine PE.weak (pe_slice sl_tup2 ha h1 h2) fun σ H Q ⟨F, hH, q⟩ => ⟨F, hH, fun F1 H1 v q1 hv => w1 σ H1 _ F1 q1.ok fun F2 H2 q2 => w2 σ H2 _ F2 q2.ok fun F3 H3 q3 => ?_⟩
  obtain ⟨p, vs, e1, s1, t1⟩ := Rep.tup_at (Rep.mono (q2.ext.mono.trans q3.ext.mono) hv)
  have pp := (q1.trans q2).trans q3
  refine ⟨p, vs, e1, q3.ok.le.seqT s1, fun z => q F3 H3 _ pp ?_, fun y hy => new_tup pp (t1.cut l u) hy q⟩
  have tc := t1.cut l u
  rw [z] at tc
  exact .tup s1 tc
def tRevT (K : PySem.W.Frag) (te : TE) : TE := fun σ H Q => te σ H fun x H1 => ∃ a xs, x = .ref a ∧ SqT K H1 a xs ∧ ∀ p, H1 p = none → Q (.ref p) (upd H1 p (.tup xs.reverse))
theorem pe_revT {e : Expr} {te : TE} {k : Nat} {p1 p2 p3 pos : Pos} (he : PE X e te) : PE X (.Subscript e (.Slice none none (some (.UnaryOp .USub (.Constant (.int 1) k p1) p2)) p3) pos) (tRevT X.K te) := by
  refine ⟨fun pins s σ H Q I h => ?_⟩
  refine Subscript_ (thn (he.run pins s σ H _ I h) fun v s1 ⟨x, H1, I1, r1, q1⟩ => ?_)
  obtain ⟨a, xs, ex, hx, q⟩ := q1
  subst ex
  cases r1
  have hst : PO X (some (.UnaryOp .USub (.Constant (.int 1) k p1) p2)) (tPart (tUn (rU fun i => .int (-i)) (tC (.int 1)))) := po_some (pe_un un_neg pe_int)
  refine wpAny_Slice (thn (po_none.run pins s1 σ H1 (fun o H2 => o = none ∧ H2 = H1) I1 ⟨rfl, rfl⟩) fun vl s2 ⟨l, H2, I2, pl, el, e2⟩ => ?_)
  subst el e2
  refine thn (po_none.run pins s2 σ H2 (fun o H3 => o = none ∧ H3 = H2) I2 ⟨rfl, rfl⟩) fun vu s3 ⟨u, H3, I3, pu, eu, e3⟩ => ?_
  subst eu e3
  refine thn (hst.run pins s3 σ H3 (fun o H4 => o = some (-1) ∧ H4 = H3) I3 ⟨1, rfl, -1, rfl, rfl, rfl⟩) fun vs s4 ⟨o, H4, I4, ps, eo, e4⟩ => ?_
  subst eo e4
  have I5 : Inv X pins σ H4 { s4 with heap := s4.heap.push { cls := .type "slice", data := .fields #[vl, vu, vs] } } := I4.kept (t' := s4.toks) fun b ob q => Heap.get?_push_of_some _ q
  obtain ⟨its, r, ht, hz⟩ := I5.tuple hx
  have hlen := r.length
  cases pl
  cases pu
  show wpAny (model X.prog X.w) X.A (subscriptTail e (.Slice none none (some (.UnaryOp .USub (.Constant (.int 1) k p1) p2)) p3) (.ref a) (.ref s4.heap.objs.size)) (EP X pins σ Q) X.xe { s4 with heap := s4.heap.push { cls := .type "slice", data := .fields #[.none, .none, vs] } }
  refine tail_any (ops := [.ref a, .ref s4.heap.objs.size]) ht.typeIs (PyProof.Rows.slot_tuple_getitem.lookup) ?_ (by with_unfolding_all rfl)
  refine getItem_tuple_rev ht (Heap.IsSliceOf.new _ .none .none vs) ps (by rw [List.size_toArray]; omega) ?_
  refine ⟨.ref _, _, I5.laid (t' := s4.toks) (o := .tup xs.reverse) (fun b ob q => Heap.get?_push_of_some _ q) (Nat.le_refl _) ?_, rfl, q _ (I5.hok.fresh (Nat.le_refl _))⟩
  exact ⟨by rw [List.length_reverse]; exact hz, _, by simpa using r.reverse, IsTup.new _ _⟩
theorem ev_revT {k : Nat} {p1 p2 p3 : Pos} (ha : EV X Γ a (.dat (.tup ds)) Γ1) : EV X Γ (.Subscript a (.Slice none none (some (.UnaryOp .USub (.Constant (.int 1) k p1) p2)) p3) pos) (.dat (.tup ds.reverse)) Γ1 :=
  PE.weak (pe_revT ha) fun σ H Q ⟨F, hH, q⟩ => ⟨F, hH, fun F1 H1 v q1 hv => by
    obtain ⟨p, vs, e1, s1, t1⟩ := Rep.tup_at hv
    exact ⟨p, vs, e1, q1.ok.le.seqT s1, fun pp hp => new_tup q1 t1.reverse hp q⟩⟩
end
end PD
namespace PD
open PySem PySem.Spec PyProof.Rows L2
/-! ### text times int -/
def strRep (x : Str) (n : Int) : Str := ⟨(List.replicate n.toNat x.cps.toList).flatten.toArray⟩
theorem foldl_cps (x : Array Nat) : ∀ (k : Nat) (acc : Array Nat), (List.replicate k x).foldl (· ++ ·) acc = acc ++ (List.replicate k x.toList).flatten.toArray
  | 0, acc => by simp
  | k + 1, acc => by
    rw [List.replicate_succ, List.foldl_cons, foldl_cps x k, List.replicate_succ, List.flatten_cons]
    apply Array.ext'
    simp
theorem strRep_eq (x : Str) (n : Int) : strRep x n = ⟨(List.replicate n.toNat x.cps).foldl (· ++ ·) #[]⟩ := by
  unfold strRep
  rw [foldl_cps]
  simp
theorem strRep_none {x : Str} {n : Int} (h : n < 1) : strRep x n = Str.empty := by
  unfold strRep
  rw [show n.toNat = 0 by omega]
  rfl
theorem strRep_same {x : Str} {n : Int} (h : (n == 1 || x.length == 0) = true) (h1 : ¬ n < 1) : strRep x n = x := by
  unfold strRep
  rcases Bool.or_eq_true_iff.mp h with q | q
  · have : n = 1 := by simpa using q
    subst this
    show (⟨_⟩ : Str) = ⟨x.cps⟩
    congr 1
    simp
  · have q : x.length = 0 := by simpa using q
    have q : x.cps = #[] := Array.eq_empty_of_size_eq_zero q
    show (⟨_⟩ : Str) = ⟨x.cps⟩
    rw [q]
    congr 1
    simp
theorem strRep_len (x : Str) (n : Int) : (strRep x n).length = n.toNat * x.length := by
  unfold strRep Str.length
  simp
theorem op_mulS {X : Cx} : OpR X (binaryOp .Mult) (fun x y H Q => ∃ z n, x = .str z ∧ y = .int n ∧ z.length ≤ 4000 ∧ 0 ≤ n ∧ n ≤ 4000 ∧ Q (.str (strRep z n)) H) := by
  intro pins s σ H x y v u Q I rx ry h
  obtain ⟨z, n, rfl, rfl, hz, h0, h1, q⟩ := h
  obtain ⟨t, rfl⟩ := rx
  obtain ⟨t', rfl⟩ := ry
  have hzn : z.length * n.toNat ≤ 16000000 := by
    have h3 : n.toNat ≤ 4000 := by omega
    calc z.length * n.toNat ≤ 4000 * 4000 := Nat.mul_le_mul hz h3
      _ = 16000000 := by decide
  refine PySem.P.mul_str (by
      have e1 : ¬ n < -(2 ^ 63 : Int) := by omega
      have e2 : ¬ n ≥ 2 ^ 63 := by omega
      rw [decide_eq_false e1, decide_eq_false e2]; rfl) (fun hn _ => ?_) (fun _ _ => ?_) ?_
  · have hn' : 0 < n := by omega
    have : (4000 : Int) ≤ (2 ^ 63 - 1) / n := by
      refine (Int.le_ediv_iff_mul_le hn').mpr ?_
      have : (4000 : Int) * n ≤ 4000 * 4000 := by omega
      omega
    omega
  · unfold Builtin.Str.tooLong
    have : sizeLine = 16777216 := by rw [sizeLine_eq]
    simp only [decide_eq_false_iff_not]
    omega
  · by_cases hn : n < 1
    · rw [if_pos hn]
      rw [strRep_none hn] at q
      exact ⟨by decide, .str _, H, I.tok _, ⟨_, rfl⟩, q⟩
    · rw [if_neg hn]
      by_cases hs : (n == 1 || z.length == 0) = true
      · rw [if_pos hs]
        rw [strRep_same hs hn] at q
        exact ⟨.str _, H, I, ⟨_, rfl⟩, q⟩
      · rw [if_neg hs, ← strRep_eq]
        refine ⟨?_, .str _, H, I.tok _, ⟨_, rfl⟩, q⟩
        rw [strRep_len, Nat.mul_comm]
        exact Nat.le_trans hzn (by decide)
section
variable {X : Cx} {Γ Γ1 Γ2 Γ3 : Env'} {e a b c : Expr} {pos p px apos : Pos} {r ra rb rc rv : Rv} {d : D} {ds es : List D} {i j : Int}
theorem ev_mulS {z : Str} (hz : z.length ≤ 4000) (h0 : 0 ≤ i) (h1 : i ≤ 4000) (ha : EV X Γ a (.dat (.str z)) Γ1) (hb : EV X Γ1 b (.dat (.int i)) Γ2) : EV X Γ (.BinOp a .Mult b pos) (.dat (.str (strRep z i))) Γ2 :=
  ev_op op_mulS (fun F σ H A x y Q hH hx hy q => by cases hx; cases hy; exact ⟨_, _, rfl, rfl, hz, h0, h1, q F H _ (.refl hH) (.str _)⟩) ha hb
end
end PD
namespace PD
open PySem PySem.Spec PyProof.Rows L2
/-! ### small words for a walk -/
theorem weak_rfl {Γ : Env'} : Weak Γ Γ := ⟨rfl, fun _ _ h => .inr h⟩
theorem weak_nil : Weak [] [] := weak_rfl
theorem weak_eq {Γ Γ' : Env'} {s : Sl} (h : Weak Γ Γ') : Weak (s :: Γ) (s :: Γ') := ⟨congrArg (· + 1) h.1, fun i t e => match i, e with
  | 0, e => .inr e
  | i + 1, e => h.2 i t e⟩
theorem weak_any {Γ Γ' : Env'} {s : Sl} (h : Weak Γ Γ') : Weak (s :: Γ) (.any :: Γ') := ⟨congrArg (· + 1) h.1, fun i t e => match i, e with
  | 0, e => .inl (by cases e; rfl)
  | i + 1, e => h.2 i t e⟩
def finB (as : Nat → Addr) : Nat → List Ar → Env' → Prop
  | _, [], _ => True
  | n, .dat _ :: r, _ :: f => finB as (n + 1) r f
  | n, .mu _ c' :: r, .own (some a) x :: f => a = as n ∧ x = c' ∧ finB as (n + 1) r f
  | _, _, _ => False
theorem finB_at {as : Nat → Addr} : ∀ {ars : List Ar} {n : Nat} {fin : Env'}, finB as n ars fin → ∀ (i : Nat) c c', ars[i]? = some (.mu c c') → fin[i]? = some (.own (some (as (n + i))) c')
  | [], _, _, _, _, _, _, e => by cases e
  | .dat d :: r, n, [], h, _, _, _, _ => h.elim
  | .dat d :: r, n, s :: f, h, 0, c, c', e => by cases e
  | .dat d :: r, n, s :: f, h, i + 1, c, c', e => by
    have := finB_at (ars := r) (n := n + 1) (fin := f) h i c c' e
    rw [show n + (i + 1) = n + 1 + i by omega]; exact this
  | .mu c1 c1' :: r, n, .own (some a) x :: f, h, 0, c, c', e => by
    obtain ⟨rfl, rfl, _⟩ := h
    cases e; rfl
  | .mu c1 c1' :: r, n, .own (some a) x :: f, h, i + 1, c, c', e => by
    have := finB_at (ars := r) (n := n + 1) (fin := f) h.2.2 i c c' e
    rw [show n + (i + 1) = n + 1 + i by omega]; exact this
theorem finOk {as : Nat → Addr} {ars : List Ar} {fin : Env'} (h : finB as 0 ars fin) : FinOk as ars fin := fun i c c' e => by
  have := finB_at h i c c' e
  rw [Nat.zero_add] at this; exact this
theorem bind_ret {S S' L R : Type} {o : LO S L R} {k : S → LO S' L R} {r : R} : (LO.ret r : LO S L R).bind k = .ret r := rfl
end PD
namespace PD
open PySem PySem.Spec PyProof.Rows L2
/-! ### typed data -/
instance : Inhabited Str := ⟨Str.empty⟩
abbrev eL {α : Type} (f : α → D) (xs : List α) : D := .lst (xs.map f)
abbrev eT {α : Type} (f : α → D) (xs : List α) : D := .tup (xs.map f)
abbrev eP {α β : Type} (f : α → D) (g : β → D) (p : α × β) : D := .tup [f p.1, g p.2]
abbrev eP3 {α β γ : Type} (f : α → D) (g : β → D) (h : γ → D) (p : α × β × γ) : D := .tup [f p.1, g p.2.1, h p.2.2]
abbrev eP4 {α β γ δ : Type} (f : α → D) (g : β → D) (h : γ → D) (k : δ → D) (p : α × β × γ × δ) : D := .tup [f p.1, g p.2.1, h p.2.2.1, k p.2.2.2]
abbrev eD (d : D) : D := d
def eO {α : Type} (f : α → D) : Option α → D
  | none => .non
  | some x => f x
def cutL {α : Type} (xs : List α) (lo hi : Option Int) : List α := (xs.drop (HT.sIx xs.length 0 lo)).take (HT.sIx xs.length xs.length hi - HT.sIx xs.length 0 lo)
section
variable {α β : Type} {enc : α → D} {encb : β → D} {xs ys : List α}
theorem cut_map (lo hi : Option Int) : cutD (xs.map enc) lo hi = (cutL xs lo hi).map enc := by
  unfold cutD cutL
  rw [List.length_map, ← List.map_drop, ← List.map_take]
theorem at_map [Inhabited α] {k : Int} (h0 : 0 ≤ k) (h1 : k < xs.length) : atI (xs.map enc) k = some (enc (xs.getD k.toNat default)) := by
  obtain ⟨n, rfl⟩ := Int.eq_ofNat_of_zero_le h0
  have hn : n < xs.length := by omega
  refine atI_nat ?_
  rw [List.getElem?_map, List.getElem?_eq_getElem hn]
  simp [hn]
theorem at_last [Inhabited α] (h : 0 < xs.length) : atI (xs.map enc) (-1) = some (enc (xs.getD (xs.length - 1) default)) := by
  obtain ⟨ys, y, rfl⟩ : ∃ ys y, xs = ys ++ [y] := ⟨xs.dropLast, xs.getLast (by intro z; rw [z] at h; cases h), (List.dropLast_concat_getLast _).symm⟩
  rw [List.map_append, List.map_singleton, atI_last]
  simp
theorem compL_map (f : α → β) : ∀ xs : List α, compL (fun (_ : Unit) x => ((), some (f x))) xs () = ((), xs.map f)
  | [] => rfl
  | x :: xs => by
    have := compL_map f xs
    show ((compL (fun (_ : Unit) x => ((), some (f x))) xs ()).1, f x :: (compL (fun (_ : Unit) x => ((), some (f x))) xs ()).2) = _
    rw [this]; rfl
theorem compL_if (c : α → Bool) (f : α → β) : ∀ xs : List α, compL (fun (_ : Unit) x => ((), if c x then some (f x) else none)) xs () = ((), (xs.filter c).map f)
  | [] => rfl
  | x :: xs => by
    have ih := compL_if c f xs
    cases hc : c x with
    | true =>
      rw [List.filter_cons_of_pos hc]
      have e : compL (fun (_ : Unit) x => ((), if c x then some (f x) else none)) (x :: xs) () = ((compL (fun (_ : Unit) x => ((), if c x then some (f x) else none)) xs ()).1, f x :: (compL (fun (_ : Unit) x => ((), if c x then some (f x) else none)) xs ()).2) := by
        rw [compL]; simp [hc]
      rw [e, ih]; rfl
    | false =>
      rw [List.filter_cons_of_neg (by rw [hc]; exact Bool.false_ne_true)]
      have e : compL (fun (_ : Unit) x => ((), if c x then some (f x) else none)) (x :: xs) () = compL (fun (_ : Unit) x => ((), if c x then some (f x) else none)) xs () := by
        rw [compL]; simp [hc]
      rw [e, ih]
end
section
variable {X : Cx} {Γ Γ1 Γ2 Γ3 : Env'} {e a b c tg iter elt : Expr} {pos p px apos : Pos} {r ra rb rc rv : Rv} {d : D} {i j : Int} {α β : Type} {enc : α → D} {encb : β → D} {xs ys : List α} {x : Str} {k : Nat} {ao : Option Addr}
theorem evt_ixL [Inhabited α] (ha : EV X Γ a ra Γ1) (hb : EV X Γ1 b (.dat (.int i)) Γ2) (w : View Γ2 ra (xs.map enc)) (h0 : 0 ≤ i) (h1 : i < xs.length) (hs : PlainIx b := by exact fun _ _ => rfl) : EV X Γ (.Subscript a b pos) (.dat (enc (xs.getD i.toNat default))) Γ2 := ev_ixL ha hb w (at_map h0 h1) hs
theorem evt_ixT [Inhabited α] (ha : EV X Γ a (.dat (.tup (xs.map enc))) Γ1) (hb : EV X Γ1 b (.dat (.int i)) Γ2) (h0 : 0 ≤ i) (h1 : i < xs.length) (hs : PlainIx b := by exact fun _ _ => rfl) : EV X Γ (.Subscript a b pos) (.dat (enc (xs.getD i.toNat default))) Γ2 := ev_ixT ha hb (at_map h0 h1) hs
theorem evt_catL (ha : EV X Γ a ra Γ1) (hb : EV X Γ1 b rb Γ2) (w1 : View Γ2 ra (xs.map enc)) (w2 : View Γ2 rb (ys.map enc)) (hz : xs.length + ys.length ≤ sizeLine) : EV X Γ (.BinOp a .Add b pos) (.own (.lst ((xs ++ ys).map enc))) Γ2 := by
  rw [List.map_append]; exact ev_catL ha hb w1 w2 (by simpa using hz)
theorem evt_catT (ha : EV X Γ a (.dat (.tup (xs.map enc))) Γ1) (hb : EV X Γ1 b (.dat (.tup (ys.map enc))) Γ2) (hz : xs.length + ys.length ≤ sizeLine) : EV X Γ (.BinOp a .Add b pos) (.dat (.tup ((xs ++ ys).map enc))) Γ2 := by
  rw [List.map_append]; exact ev_catT ha hb (by simpa using hz)
theorem evt_slL {lo hi : Option Expr} {l u : Option Int} {p2 : Pos} (ha : EV X Γ a ra Γ1) (hl : OV X Γ1 lo l Γ2) (hu : OV X Γ2 hi u Γ3) (w : View Γ3 ra (xs.map enc)) : EV X Γ (.Subscript a (.Slice lo hi none p2) pos) (.own (.lst ((cutL xs l u).map enc))) Γ3 := by
  rw [← cut_map]; exact ev_slL ha hl hu w
theorem evt_slT {lo hi : Option Expr} {l u : Option Int} {p2 : Pos} (ha : EV X Γ a (.dat (.tup (xs.map enc))) Γ1) (hl : OV X Γ1 lo l Γ2) (hu : OV X Γ2 hi u Γ3) : EV X Γ (.Subscript a (.Slice lo hi none p2) pos) (.dat (.tup ((cutL xs l u).map enc))) Γ3 := by
  rw [← cut_map]; exact ev_slT ha hl hu
theorem evt_revL {k : Nat} {p1 p2 p3 : Pos} (ha : EV X Γ a ra Γ1) (w : View Γ1 ra (xs.map enc)) : EV X Γ (.Subscript a (.Slice none none (some (.UnaryOp .USub (.Constant (.int 1) k p1) p2)) p3) pos) (.own (.lst (xs.reverse.map enc))) Γ1 := by
  rw [List.map_reverse]; exact ev_revL ha w
theorem evt_revT {k : Nat} {p1 p2 p3 : Pos} (ha : EV X Γ a (.dat (.tup (xs.map enc))) Γ1) : EV X Γ (.Subscript a (.Slice none none (some (.UnaryOp .USub (.Constant (.int 1) k p1) p2)) p3) pos) (.dat (.tup (xs.reverse.map enc))) Γ1 := by
  rw [List.map_reverse]; exact ev_revT ha
theorem evt_len (hg : Gl X "len") (hm : X.mg "len" = none) (w : VSeq Γ1 r (xs.map enc)) (ha : EV X Γ a r Γ1) (hs : starEach [a] X.env = (false, eval a X.env) :: starEach [] X.env := by rfl) : EV X Γ (.Call (.Name "len" p) [a] [] pos) (.dat (.int (xs.length : Nat))) Γ1 := by
  have := ev_len (p := p) (pos := pos) hg hm w ha hs
  rwa [List.length_map] at this
theorem evt_append {v : α} (hv : PE X (.Name x px) (tVar k)) (hk : Γ[k]? = some (.own ao (.lst (ys.map enc)))) (ha : EV X Γ a (.dat (enc v)) Γ1) (hk1 : Γ1[k]? = some (.own ao (.lst (xs.map enc)))) (hz : xs.length < sizeLine)
    (hbase : attributeBase (.Name x px) "append" X.env (eval (.Name x px) X.env) = eval (.Name x px) X.env := by rfl)
    (hfew : ((backTo pos (starEach [a] X.env)).all (fun x => !x.1) && (backToKw pos (keywordEach [] X.env)).all (fun x => x.1.isSome) && decide ([a].length + ([] : List Keyword).length + (if ([] : List Keyword).isEmpty then 0 else 1) < 30)) = true := by rfl)
    (hline : (apos.endLine == pos.line) = true := by rfl) (hs : starEach [a] X.env = (false, eval a X.env) :: starEach [] X.env := by rfl) :
    EV X Γ (.Call (.Attribute (.Name x px) "append" apos) [a] [] pos) (.dat .non) (Γ1.set k (.own ao (.lst ((xs ++ [v]).map enc)))) := by
  rw [List.map_append]
  exact ev_append hv hk ha hk1 (by simpa using hz) hbase hfew hline hs
theorem evt_pop [Inhabited α] (hv : PE X (.Name x px) (tVar k)) (hk : Γ[k]? = some (.own ao (.lst (xs.map enc)))) (hl : 0 < xs.length)
    (hbase : attributeBase (.Name x px) "pop" X.env (eval (.Name x px) X.env) = eval (.Name x px) X.env := by rfl) (hline : (apos.endLine == pos.line) = true := by rfl) :
    EV X Γ (.Call (.Attribute (.Name x px) "pop" apos) [] [] pos) (.dat (enc (xs.getLastD default))) (Γ.set k (.own ao (.lst (xs.dropLast.map enc)))) := by
  rw [List.map_dropLast]
  refine ev_pop hv hk ?_ hbase hline
  rw [List.length_map, List.getElem?_map, List.getElem?_eq_getElem (by omega)]
  cases xs with
  | nil => cases hl
  | cons y r =>
    simp only [Option.map_some, List.getLastD_cons]
    congr 2
    rw [← List.getLast_eq_getElem (List.cons_ne_nil y r)]
    cases r with
    | nil => rfl
    | cons z t => simp [List.getLastD, List.getLast_cons]
theorem evt_list (hg : Gl X "list") (hm : X.mg "list" = none) (w : VSeq Γ1 r (xs.map enc)) (ha : EV X Γ a r Γ1) (hs : starEach [a] X.env = (false, eval a X.env) :: starEach [] X.env := by rfl) : EV X Γ (.Call (.Name "list" p) [a] [] pos) (.own (.lst (xs.map enc))) Γ1 := ev_list hg hm w ha hs
theorem evt_tuple (hg : Gl X "tuple") (hm : X.mg "tuple" = none) (w : VSeq Γ1 r (xs.map enc)) (ha : EV X Γ a r Γ1) (hs : starEach [a] X.env = (false, eval a X.env) :: starEach [] X.env := by rfl) : EV X Γ (.Call (.Name "tuple" p) [a] [] pos) (.dat (.tup (xs.map enc))) Γ1 := ev_tuple hg hm w ha hs
/-- the position of the first -/
def findI {α : Type} [DecidableEq α] (xs : List α) (x : α) : Int := ((xs.findIdx fun y => decide (y = x)) : Nat)
theorem evt_indexS {z : Str} {ns : List Str} (he : EV X Γ e re Γ1) (ha : EV X Γ1 a (.dat (.str z)) Γ1) (w : View Γ1 re (ns.map D.str)) (hm : z ∈ ns)
    (hbase : attributeBase e "index" X.env (eval e X.env) = eval e X.env := by rfl)
    (hfew : ((backTo pos (starEach [a] X.env)).all (fun x => !x.1) && (backToKw pos (keywordEach [] X.env)).all (fun x => x.1.isSome) && decide ([a].length + ([] : List Keyword).length + (if ([] : List Keyword).isEmpty then 0 else 1) < 30)) = true := by rfl)
    (hline : (apos.endLine == pos.line) = true := by rfl) (hs : starEach [a] X.env = (false, eval a X.env) :: starEach [] X.env := by rfl) :
    EV X Γ (.Call (.Attribute e "index" apos) [a] [] pos) (.dat (.int (findI ns z))) Γ1 := by
  have hlt : (ns.findIdx fun y => decide (y = z)) < ns.length := List.findIdx_lt_length_of_exists ⟨z, hm, by simp⟩
  refine ev_indexS he ha w ?_ (fun l hl h => ?_) hbase hfew hline hs
  · rw [List.getElem?_eq_getElem hlt]
    have := List.findIdx_getElem (w := hlt)
    simpa using this
  · have := List.not_of_lt_findIdx hl
    rw [List.getElem?_eq_getElem (by omega)] at h
    have h := Option.some.inj h
    simp [h] at this
/-- comprehensions without a state -/
theorem cp_map {B : Prop} {sh : Sh} {scope : Scope} {own : List (Str × Nat)} {Γ0 : Env'} (f : α → β) (hi : IV X Γ tg iter (xs.map enc) Γ1 B)
    (hix : ∀ n, n ∈ sh.ix → n ∈ own.map (·.2)) (w0 : Weak Γ1 Γ0) (hv : ∀ n, n ∈ own.map (·.2) → ∀ t, Γ0[n]? = some t → t = .any) (hB : B → xs.length ≤ sizeLine)
    (hb : B → ∀ x, x ∈ xs → ∃ Γa Γc, sh.set Γ0 (enc x) = some Γa ∧ (∀ s H C cl fp, EV (Bk X scope s H C cl fp) Γa elt (.dat (encb (f x))) Γc) ∧ Weak Γc Γ0) :
    CompOk X Γ elt tg iter [] scope own sh (.own (.lst ((xs.map f).map encb))) Γ0 := by
  have := cp_comp (X := X) (elt := elt) (scope := scope) (own := own) (sh := sh) (encb := encb) (Gs := fun _ : Unit => Γ0) (fun (_ : Unit) x => ((), some (f x))) (s0 := ()) (fun _ _ => True) hi hix w0 (fun _ => hv) trivial hB (fun hBt n s x hx _ => by
    obtain ⟨Γa, Γc, h1, h2, h3⟩ := hb hBt x (List.mem_of_getElem? hx)
    exact ⟨Γa, true, Γa, h1, fun _ _ _ _ _ => tts_nil, by rw [if_pos rfl]; exact ⟨f x, Γc, rfl, h2, h3⟩, trivial⟩)
  rwa [compL_map] at this
theorem cp_mapif {B : Prop} {sh : Sh} {scope : Scope} {own : List (Str × Nat)} {Γ0 : Env'} {cnd : Expr} (g : α → Bool) (f : α → β) (hi : IV X Γ tg iter (xs.map enc) Γ1 B)
    (hix : ∀ n, n ∈ sh.ix → n ∈ own.map (·.2)) (w0 : Weak Γ1 Γ0) (hv : ∀ n, n ∈ own.map (·.2) → ∀ t, Γ0[n]? = some t → t = .any) (hB : B → xs.length ≤ sizeLine)
    (hb : B → ∀ x, x ∈ xs → ∃ Γa Γb Γc, sh.set Γ0 (enc x) = some Γa ∧ (∀ s H C cl fp, TV (Bk X scope s H C cl fp) Γa cnd (g x) Γb) ∧ (g x = true → ∀ s H C cl fp, EV (Bk X scope s H C cl fp) Γb elt (.dat (encb (f x))) Γc) ∧ Weak Γb Γ0 ∧ Weak Γc Γ0) :
    CompOk X Γ elt tg iter [cnd] scope own sh (.own (.lst (((xs.filter g).map f).map encb))) Γ0 := by
  have := cp_comp (X := X) (elt := elt) (scope := scope) (own := own) (sh := sh) (encb := encb) (Gs := fun _ : Unit => Γ0) (fun (_ : Unit) x => ((), if g x then some (f x) else none)) (s0 := ()) (fun _ _ => True) hi hix w0 (fun _ => hv) trivial hB (fun hBt n s x hx _ => by
    obtain ⟨Γa, Γb, Γc, h1, h2, h3, h4, h5⟩ := hb hBt x (List.mem_of_getElem? hx)
    refine ⟨Γa, g x, Γb, h1, fun s H C cl fp => tts_one (h2 s H C cl fp), ?_, trivial⟩
    by_cases hgx : g x = true
    · rw [if_pos hgx]; exact ⟨f x, Γc, by simp [hgx], h3 hgx, h5⟩
    · rw [if_neg hgx]; exact ⟨by simp [hgx], h4⟩)
  rwa [compL_if] at this
/-- range -/
def rangeI (lo hi : Int) : List Int := (List.range (hi - lo).toNat).map fun i => lo + (i : Nat)
theorem rangeI_at {lo hi : Int} {n : Nat} {x : Int} (h : (rangeI lo hi)[n]? = some x) : lo ≤ x ∧ x < hi ∧ x = lo + n := by
  unfold rangeI at h
  rw [List.getElem?_map] at h
  cases e : (List.range (hi - lo).toNat)[n]? with
  | none => rw [e] at h; cases h
  | some m =>
    rw [e] at h
    obtain ⟨h1, h2⟩ := List.getElem?_eq_some_iff.mp e
    simp at h1 h2
    subst h2
    have h : lo + (n : Int) = x := Option.some.inj h
    omega
theorem rangeI_mem {lo hi x : Int} (h : x ∈ rangeI lo hi) : lo ≤ x ∧ x < hi := by
  obtain ⟨n, hn⟩ := List.mem_iff_getElem?.mp h
  have := rangeI_at hn
  omega
theorem rangeI_len (lo hi : Int) : (rangeI lo hi).length = (hi - lo).toNat := by unfold rangeI; simp
theorem ivt_range1 {n : Int} (hg : Gl X "range") (hm : X.mg "range" = none) (ha : EV X Γ a (.dat (.int n)) Γ1) (h1 : -(2 ^ 62) ≤ n ∧ n < 2 ^ 62) (hs : starEach [a] X.env = [(false, eval a X.env)] := by rfl) :
    IV X Γ tg (.Call (.Name "range" p) [a] [] pos) ((rangeI 0 n).map D.int) Γ1 True := by
  have := iv_range1 (tg := tg) (p := p) (pos := pos) hg hm ha h1.1 h1.2 hs
  unfold rangeI
  rw [List.map_map, Int.sub_zero]
  exact this
theorem ivt_range2 {n m : Int} (hg : Gl X "range") (hm : X.mg "range" = none) (ha : EV X Γ a (.dat (.int n)) Γ1) (hb : EV X Γ1 b (.dat (.int m)) Γ2) (h1 : -(2 ^ 62) ≤ n ∧ n < 2 ^ 62 ∧ -(2 ^ 62) ≤ m ∧ m < 2 ^ 62) (hs : starEach [a, b] X.env = [(false, eval a X.env), (false, eval b X.env)] := by rfl) (hs2 : starEach [b] X.env = [(false, eval b X.env)] := by rfl) :
    IV X Γ tg (.Call (.Name "range" p) [a, b] [] pos) ((rangeI n m).map D.int) Γ2 True := by
  have := iv_range2 (tg := tg) (p := p) (pos := pos) hg hm ha hb h1 hs hs2
  unfold rangeI
  rw [List.map_map]
  exact this
/-- sorted -/
structure EncOrd {α : Type} (enc : α → D) : Prop where
  al : ∀ a b, PySem.W.alike (enc a).py (enc b).py = true
  dep : ∀ a, (enc a).py.depth ≤ 50
def EncTop {α : Type} (enc : α → D) : Prop := (∀ a, ∃ x r, (enc a).py = .tuple (x :: r)) ∨ ∀ a, (enc a).py ≠ .none ∧ ∀ xs, (enc a).py ≠ .tuple xs
theorem evt_sorted (hu : X.A.units + 64 < cLine) (hg : Gl X "sorted") (hm : X.mg "sorted" = none) (ho : EncOrd enc) (ht : EncTop enc) (w : VSeq Γ1 r (xs.map enc)) (ha : EV X Γ a r Γ1) (hs : starEach [a] X.env = (false, eval a X.env) :: starEach [] X.env := by rfl) :
    EV X Γ (.Call (.Name "sorted" p) [a] [] pos) (.own (.lst ((xs.mergeSort (leT enc)).map enc))) Γ1 := by
  have := ev_sorted (p := p) (pos := pos) hu hg hm w (fun d hd e he => by
    simp only [List.map_map, List.mem_map, Function.comp] at hd he
    obtain ⟨x, _, rfl⟩ := hd
    obtain ⟨y, _, rfl⟩ := he
    exact ho.al x y) (by
    rcases ht with h | h
    · refine .inl fun d hd => ?_
      simp only [List.map_map, List.mem_map, Function.comp] at hd
      obtain ⟨x, _, rfl⟩ := hd
      exact h x
    · refine .inr fun d hd => ?_
      simp only [List.map_map, List.mem_map, Function.comp] at hd
      obtain ⟨x, _, rfl⟩ := hd
      exact h x) (fun d hd => by
    obtain ⟨x, _, rfl⟩ := List.mem_map.mp hd
    exact ho.dep x) ha hs
  rwa [sorted_map] at this
theorem EncOrd.int : EncOrd D.int := ⟨fun _ _ => by simp [D.py, PySem.W.alike], fun _ => by simp [D.py, PyData.depth]⟩
theorem EncOrd.str : EncOrd D.str := ⟨fun _ _ => by simp [D.py, PySem.W.alike], fun _ => by simp [D.py, PyData.depth]⟩
theorem EncTop.int : EncTop D.int := .inr fun _ => ⟨by simp [D.py], fun _ => by simp [D.py]⟩
theorem EncTop.str : EncTop D.str := .inr fun _ => ⟨by simp [D.py], fun _ => by simp [D.py]⟩
theorem EncTop.pair {f : α → D} {g : β → D} : EncTop (eP f g) := .inl fun a => ⟨_, _, by simp only [D.py, D.pyL]; rfl⟩
theorem alikeAll_map (h : ∀ a b, PySem.W.alike (enc a).py (enc b).py = true) : ∀ xs ys : List α, PySem.W.alikeAll (D.pyL (xs.map enc)) (D.pyL (ys.map enc)) = true
  | [], _ => by simp [D.pyL, PySem.W.alikeAll]
  | _ :: _, [] => by simp [D.pyL, PySem.W.alikeAll]
  | x :: xs, y :: ys => by
    simp only [List.map_cons, D.pyL, PySem.W.alikeAll]
    rw [h x y, alikeAll_map h xs ys]; rfl
theorem depthAll_map {n : Nat} (h : ∀ a, (enc a).py.depth ≤ n) : ∀ xs : List α, PyData.depthAll (D.pyL (xs.map enc)) ≤ n
  | [] => by simp [D.pyL, PyData.depthAll]
  | x :: xs => by
    have h1 := h x
    have h2 := depthAll_map h xs
    simp only [List.map_cons, D.pyL, PyData.depthAll]
    omega
end
end PD
namespace PD
open PySem PySem.Spec PyProof.Rows L2
/-! ### what the printed walks use -/
def LO.get {S L R : Type} [Inhabited R] : LO S L R → R
  | .ret r => r
  | _ => default
/-- it hands back; it hands back or goes on -/
inductive Rt {S L R : Type} : LO S L R → Prop
  | ret {r : R} : Rt (.ret r)
inductive Nr {S L R : Type} : LO S L R → Prop
  | ret {r : R} : Nr (.ret r)
  | next {s : S} : Nr (.next s)
section
variable {S S' L R α : Type}
theorem Rt.eq [Inhabited R] {o : LO S L R} (h : Rt o) : o = .ret o.get := by cases h; rfl
theorem rt_ret {r : R} : Rt (.ret r : LO S L R) := .ret
theorem rt_bind {o : LO S L R} {k : S → LO S' L R} (h : Nr o) (hk : ∀ s, Rt (k s)) : Rt (o.bind k) := by
  cases h with
  | ret => exact .ret
  | next => exact hk _
theorem nr_ret {r : R} : Nr (.ret r : LO S L R) := .ret
theorem nr_next {s : S} : Nr (.next s : LO S L R) := .next
theorem nr_bind {o : LO S L R} {k : S → LO S' L R} (h : Nr o) (hk : ∀ s, Nr (k s)) : Nr (o.bind k) := by
  cases h with
  | ret => exact .ret
  | next => exact hk _
theorem nr_for {step : S → α → LO S S R} : ∀ {xs : List α} {s : S}, Nr (forL (L := L) step xs s)
  | [], s => .next
  | x :: xs, s => by
    show Nr (match step s x with | .next s' => forL step xs s' | .cnt s' => forL step xs s' | .brk s' => .next s' | .ret r => .ret r)
    cases step s x with
    | next s' => exact nr_for
    | cnt s' => exact nr_for
    | brk s' => exact .next
    | ret r => exact .ret
end
section
variable {X : Cx} {Γ Γ1 Γ2 Γ3 : Env'} {e a b c tg iter elt : Expr} {pos p px apos : Pos} {r ra rb rc rv : Rv} {d : D} {i j : Int} {α β : Type} {enc : α → D} {encb : β → D} {xs ys : List α} {x : Str} {k : Nat} {ao : Option Addr} {S S' L R : Type} {G : S → Env'} {G' : S' → Env'} {Lp : L → Env'} {Kr : R → Rv × Env'} {st : Stmt} {rest : List Stmt} {o : LO S L R}
theorem tEV_fz {K : PySem.W.Frag} {oc : Oc} {σ : L2.St} {H : Hp} {Q : VK} (h : tEV K Γ (.dat oc.d) Γ1 σ H Q) : tEV K Γ (.own oc) Γ1 σ H Q := by
  obtain ⟨F, hH, q⟩ := h
  refine ⟨F, hH, fun F' H' v p ⟨x, ho, ev, h1, h2, h3, h4, h5⟩ => ?_⟩
  subst ev
  obtain ⟨l, hf⟩ := Post.freeze p.ok h1 h2 h4 (fun _ => True)
  refine q (upd F' x ho) H' _ ⟨⟨p.ext.mono.trans l, fun y u hy fy no => ?_, p.ext.there⟩, hf, p.sub⟩ ((h3.mono l).rep upd_same)
  obtain ⟨k1, k2⟩ := p.ext.keep y u hy fy no
  refine ⟨k1, ?_⟩
  have ne : y ≠ x := fun z => by
    subst z
    rcases h5 with z | z
    · exact no z
    · rw [hy] at z; cases z
  rw [upd_ne ne]; exact k2
theorem CompOk.fz {ifs : List Expr} {scope : Scope} {own : List (Str × Nat)} {sh : Sh} {oc : Oc} (h : CompOk X Γ elt tg iter ifs scope own sh (.own oc) Γ1) : CompOk X Γ elt tg iter ifs scope own sh (.dat oc.d) Γ1 := by
  obtain ⟨wi, tt, te, hi, ht, he, hw⟩ := h
  exact ⟨wi, tt, te, hi, ht, he, fun σ H Q h => hw σ H Q (tEV_fz h)⟩
theorem ev_ite {k : Bool} {u v : α} (hc : TV X Γ c k Γ1) (ha : k = true → EV X Γ1 a (.dat (enc u)) Γ2) (hb : k = false → EV X Γ1 b (.dat (enc v)) Γ2) : EV X Γ (.IfExp c a b pos) (.dat (enc (if k then u else v))) Γ2 := by
  cases k with
  | true => exact ev_ifT hc (ha rfl)
  | false => exact ev_ifF hc (hb rfl)
theorem range_small {n : Int} (h : n ≤ 1000000) : (rangeI 0 n).length ≤ sizeLine := by
  rw [rangeI_len, sizeLine_eq]; omega
theorem range_small2 {m n : Int} (h : n - m ≤ 1000000) : (rangeI m n).length ≤ sizeLine := by
  rw [rangeI_len, sizeLine_eq]; omega
theorem small_line {n : Nat} (h : n ≤ 16777216) : n ≤ sizeLine := by rw [sizeLine_eq]; exact h
theorem small_line' {n : Nat} (h : n < 16777216) : n < sizeLine := by rw [sizeLine_eq]; exact h
/-- an if that goes on has taken its other branch -/
theorem if_next1 {k : Bool} {r : R} {s s' : S} (h : (if k then (LO.ret r : LO S L R) else .next s) = .next s') : k = false ∧ s = s' := by
  cases k with
  | true => cases h
  | false => cases h; exact ⟨rfl, rfl⟩
theorem dec_t {P : Prop} [Decidable P] (h : decide P = true) : P := of_decide_eq_true h
theorem dec_f {P : Prop} [Decidable P] (h : decide P = false) : ¬ P := of_decide_eq_false h
end
/-- a text's sign -/
def strAt (z : Str) (i : Int) : Str := ⟨#[z.cps.toList.getD i.toNat 0]⟩
section
variable {X : Cx} {Γ Γ1 Γ2 Γ3 : Env'} {e a b c tg iter elt : Expr} {pos p px apos : Pos} {r ra rb rc rv : Rv} {d : D} {i j : Int} {α β : Type} {enc : α → D} {encb : β → D} {xs ys : List α}
theorem evt_ixS {z : Str} (ha : EV X Γ a (.dat (.str z)) Γ1) (hb : EV X Γ1 b (.dat (.int i)) Γ2) (hz : z.length ≤ sizeLine) (h0 : 0 ≤ i) (h1 : i < z.length) (hs : PlainIx b := by exact fun _ _ => rfl) : EV X Γ (.Subscript a b pos) (.dat (.str (strAt z i))) Γ2 := by
  obtain ⟨n, rfl⟩ := Int.eq_ofNat_of_zero_le h0
  have hn : n < z.cps.toList.length := by
    have : z.length = z.cps.toList.length := by simp [Str.length]
    omega
  refine ev_ixS ha hb hz (atI_nat ?_) hs
  rw [List.getElem?_eq_getElem hn, List.getD_eq_getElem?_getD]
  show some _ = some ((z.cps.toList[n]?).getD 0)
  rw [List.getElem?_eq_getElem hn]; rfl
theorem tv_list (w : View Γ1 r (xs.map enc)) (ha : EV X Γ a r Γ1) (he : ∀ whole, isTrue a X.env whole = (do let v ← whole; standAt a.pos; holding [v] (truthy v)) := by intro _; rfl) : TV X Γ a (!xs.isEmpty) Γ1 :=
  PT.weak (pt_truth ha he) fun σ H Q ⟨F, hH, q⟩ => ⟨F, hH, fun F1 H1 v p hv => by
    obtain ⟨x, vs, rfl, s, t⟩ := w.at p.ok hv
    refine ⟨!xs.isEmpty, .inl ⟨vs, s, ?_⟩, q F1 H1 p⟩
    have := t.length
    rw [List.length_map] at this
    cases vs <;> cases xs <;> simp_all⟩
end
/-- what a value is -/
def D.isB : D → Bool
  | .bl _ => true | _ => false
def D.isI : D → Bool
  | .int _ => true | .bl _ => true | _ => false
def D.isS : D → Bool
  | .str _ => true | _ => false
def D.isT : D → Bool
  | .tup _ => true | _ => false
def D.isL : D → Bool
  | .lst _ => true | _ => false
theorem kit_b : ∀ d : D, kitB d.ty "bool" = some d.isB
  | .non => (by decide +kernel : kitB "NoneType" "bool" = some false)
  | .bl _ => (by decide +kernel : kitB "bool" "bool" = some true)
  | .int _ => (by decide +kernel : kitB "int" "bool" = some false)
  | .str _ => (by decide +kernel : kitB "str" "bool" = some false)
  | .tup _ => (by decide +kernel : kitB "tuple" "bool" = some false)
  | .lst _ => (by decide +kernel : kitB "list" "bool" = some false)
theorem kit_i : ∀ d : D, kitB d.ty "int" = some d.isI
  | .non => (by decide +kernel : kitB "NoneType" "int" = some false)
  | .bl _ => (by decide +kernel : kitB "bool" "int" = some true)
  | .int _ => (by decide +kernel : kitB "int" "int" = some true)
  | .str _ => (by decide +kernel : kitB "str" "int" = some false)
  | .tup _ => (by decide +kernel : kitB "tuple" "int" = some false)
  | .lst _ => (by decide +kernel : kitB "list" "int" = some false)
theorem kit_s : ∀ d : D, kitB d.ty "str" = some d.isS
  | .non => (by decide +kernel : kitB "NoneType" "str" = some false)
  | .bl _ => (by decide +kernel : kitB "bool" "str" = some false)
  | .int _ => (by decide +kernel : kitB "int" "str" = some false)
  | .str _ => (by decide +kernel : kitB "str" "str" = some true)
  | .tup _ => (by decide +kernel : kitB "tuple" "str" = some false)
  | .lst _ => (by decide +kernel : kitB "list" "str" = some false)
theorem kit_t : ∀ d : D, kitB d.ty "tuple" = some d.isT
  | .non => (by decide +kernel : kitB "NoneType" "tuple" = some false)
  | .bl _ => (by decide +kernel : kitB "bool" "tuple" = some false)
  | .int _ => (by decide +kernel : kitB "int" "tuple" = some false)
  | .str _ => (by decide +kernel : kitB "str" "tuple" = some false)
  | .tup _ => (by decide +kernel : kitB "tuple" "tuple" = some true)
  | .lst _ => (by decide +kernel : kitB "list" "tuple" = some false)
theorem kit_l : ∀ d : D, kitB d.ty "list" = some d.isL
  | .non => (by decide +kernel : kitB "NoneType" "list" = some false)
  | .bl _ => (by decide +kernel : kitB "bool" "list" = some false)
  | .int _ => (by decide +kernel : kitB "int" "list" = some false)
  | .str _ => (by decide +kernel : kitB "str" "list" = some false)
  | .tup _ => (by decide +kernel : kitB "tuple" "list" = some false)
  | .lst _ => (by decide +kernel : kitB "list" "list" = some true)
end PD
namespace PD
open PySem PySem.Spec PyProof.Rows L2
section
variable {X : Cx} {Γ Γ1 Γ2 Γ3 Γ' : Env'} {e a b c tg iter elt : Expr} {pos p px apos : Pos} {r ra rb rc rv : Rv} {d d1 d2 : D} {i j : Int} {α β : Type} {enc : α → D} {encb : β → D} {xs ys : List α} {k l : Bool} {rest : List Expr}
theorem EncOrd.vt (h : EncOrd enc) (hd : ∀ a, (enc a).py.depth ≤ 20) : EncOrd (eT enc) := ⟨fun a b => by
    simp only [D.py, PySem.W.alike]
    exact alikeAll_map h.al a b, fun a => by
    have := depthAll_map hd a
    simp only [D.py, PyData.depth]; omega⟩
theorem EncOrd.pair {f : α → D} {g : β → D} (h : EncOrd f) (h2 : EncOrd g) (hd : ∀ a, (f a).py.depth ≤ 20) (hd2 : ∀ a, (g a).py.depth ≤ 20) : EncOrd (eP f g) := ⟨fun a b => by
    simp only [D.py, D.pyL, PySem.W.alike, PySem.W.alikeAll, h.al, h2.al, Bool.and_self], fun a => by
    have := hd a.1
    have := hd2 a.2
    simp only [D.py, D.pyL, PyData.depth, PyData.depthAll]; omega⟩
theorem dep_int : ∀ a, (D.int a).py.depth ≤ 1 := fun _ => by simp [D.py, PyData.depth]
theorem dep_str : ∀ a, (D.str a).py.depth ≤ 1 := fun _ => by simp [D.py, PyData.depth]
theorem dep_vt {n : Nat} (h : ∀ a, (enc a).py.depth ≤ n) : ∀ a, (eT enc a).py.depth ≤ n + 1 := fun a => by
  have := depthAll_map h a
  simp only [D.py, PyData.depth]; omega
theorem dep_pair {f : α → D} {g : β → D} {n : Nat} (h : ∀ a, (f a).py.depth ≤ n) (h2 : ∀ a, (g a).py.depth ≤ n) : ∀ a, (eP f g a).py.depth ≤ n + 1 := fun a => by
  have := h a.1
  have := h2 a.2
  simp only [D.py, D.pyL, PyData.depth, PyData.depthAll]; omega
theorem dep_le {n m : Nat} (h : ∀ a, (enc a).py.depth ≤ n) (hm : n ≤ m) : ∀ a, (enc a).py.depth ≤ m := fun a => Nat.le_trans (h a) hm
/-- a test that changes an owned list in its second part -/
theorem wv_andM (ha : TV X Γ a k Γ1) (hb : k = true → WV X Γ1 (.BoolOp .And (b :: rest) pos) l Γ2) (w1 : k = false → Weak Γ1 Γ') (w2 : k = true → Weak Γ2 Γ') : WV X Γ (.BoolOp .And (a :: b :: rest) pos) (k && l) Γ' := by
  cases k with
  | true => exact PW.weak (pw_and ha (hb rfl)) fun σ H Q ⟨F, hH, q⟩ => ⟨F, hH, fun F' H' p => iteT ⟨F', p.ok, fun F2 H2 p2 => q F2 H2 ((p.trans p2).weak (w2 rfl))⟩⟩
  | false => exact PW.weak (pw_and ha pw_no) fun σ H Q ⟨F, hH, q⟩ => ⟨F, hH, fun F' H' p => iteF (q F' H' (p.weak (w1 rfl)))⟩
theorem wv_orM (ha : TV X Γ a k Γ1) (hb : k = false → WV X Γ1 (.BoolOp .Or (b :: rest) pos) l Γ2) (w1 : k = true → Weak Γ1 Γ') (w2 : k = false → Weak Γ2 Γ') : WV X Γ (.BoolOp .Or (a :: b :: rest) pos) (k || l) Γ' := by
  cases k with
  | false => exact PW.weak (pw_or ha (hb rfl)) fun σ H Q ⟨F, hH, q⟩ => ⟨F, hH, fun F' H' p => iteF ⟨F', p.ok, fun F2 H2 p2 => q F2 H2 ((p.trans p2).weak (w2 rfl))⟩⟩
  | true => exact PW.weak (pw_or ha pw_no) fun σ H Q ⟨F, hH, q⟩ => ⟨F, hH, fun F' H' p => iteT (q F' H' (p.weak (w1 rfl)))⟩
/-- flat values of one kind -/
def sameK : D → D → Bool
  | .bl _, .bl _ => true
  | .int _, .int _ => true
  | .str _, .str _ => true
  | _, _ => false
def eqF : D → D → Bool
  | .bl a, .bl b => decide (a = b)
  | .int a, .int b => decide (a = b)
  | .str a, .str b => decide (a = b)
  | _, _ => false
theorem ev_eqF (h : sameK d1 d2 = true) (ha : EV X Γ a (.dat d1) Γ1) (hb : EV X Γ1 b (.dat d2) Γ2) : EV X Γ (.Compare a [.Eq] [b] pos) (.dat (.bl (eqF d1 d2))) Γ2 := by
  cases d1 <;> cases d2 <;> simp only [sameK] at h <;> first | exact ev_eqB ha hb | exact ev_eqI ha hb | exact ev_eqS ha hb | cases h
theorem tv_eqF (h : sameK d1 d2 = true) (ha : EV X Γ a (.dat d1) Γ1) (hb : EV X Γ1 b (.dat d2) Γ2) : TV X Γ (.Compare a [.Eq] [b] pos) (eqF d1 d2) Γ2 := by
  cases d1 <;> cases d2 <;> simp only [sameK] at h <;> first | exact tv_eqB ha hb | exact tv_eqI ha hb | exact tv_eqS ha hb | cases h
/-- what a tuple or a list holds -/
def D.items : D → List D
  | .tup ds => ds
  | .lst ds => ds
  | _ => []
def D.isQ : D → Bool
  | .tup _ => true
  | .lst _ => true
  | _ => false
theorem ev_lenD (hg : Gl X "len") (hm : X.mg "len" = none) (h : d.isQ = true) (ha : EV X Γ a (.dat d) Γ1) (hs : starEach [a] X.env = (false, eval a X.env) :: starEach [] X.env := by rfl) : EV X Γ (.Call (.Name "len" p) [a] [] pos) (.dat (.int (d.items.length : Nat))) Γ1 := by
  cases d with
  | tup ds => exact ev_len hg hm .t ha hs
  | lst ds => exact ev_len hg hm (.l .dat) ha hs
  | _ => cases h
theorem at_items {ds : List D} (h0 : 0 ≤ i) (h1 : i < ds.length) : atI ds i = some (ds.getD i.toNat default) := by
  have := at_map (enc := eD) (xs := ds) h0 h1
  rwa [List.map_id'] at this
theorem ev_ixD (h : d.isQ = true) (h0 : 0 ≤ i) (h1 : i < d.items.length) (ha : EV X Γ a (.dat d) Γ1) (hb : EV X Γ1 b (.dat (.int i)) Γ2) (hs : PlainIx b := by exact fun _ _ => rfl) : EV X Γ (.Subscript a b pos) (.dat (d.items.getD i.toNat default)) Γ2 := by
  cases d with
  | tup ds => exact ev_ixT ha hb (at_items h0 h1) hs
  | lst ds => exact ev_ixL ha hb .dat (at_items h0 h1) hs
  | _ => cases h
end
end PD
namespace PD
open PySem PySem.Spec PyProof.Rows L2
section
variable {Γ Γ' : Env'} {rs : List Rv} {ars : List Ar} {d : D} {n : Nat} {ao : Option Addr} {c c' : Oc}
def noBor (n : Nat) (rs : List Rv) : Bool := rs.all fun r => match r with | .bor m => m != n | _ => true
def noOwn (rs : List Rv) : Bool := rs.all fun r => match r with | .own _ => false | _ => true
theorem noBor_at (h : noBor n rs = true) (i : Nat) : rs[i]? ≠ some (.bor n) := fun e => by
  have := List.all_eq_true.mp h _ (List.mem_of_getElem? e)
  simp at this
theorem noOwn_at (h : noOwn rs = true) (i : Nat) (c : Oc) : rs[i]? ≠ some (.own c) := fun e => by
  have := List.all_eq_true.mp h _ (List.mem_of_getElem? e)
  simp at this
theorem mt_nil : MtOk Γ [] [] Γ := ⟨rfl, rfl, fun j s e => .inl ⟨e, (fun i h => by cases h)⟩, (fun i r a h => by cases h), (fun i i' j h => by cases h), (fun i i' c c' h => by cases h)⟩
theorem mt_cdat (m : MtOk Γ rs ars Γ') : MtOk Γ (.dat d :: rs) (.dat d :: ars) Γ' := by
  refine ⟨m.lenΓ, by simp [m.len], fun j s e => ?_, fun i r a h1 h2 => ?_, fun i i' j h h' => ?_, fun i i' c c' h h' => ?_⟩
  · rcases m.at' j s e with ⟨h1, h2⟩ | ⟨i, ao, c, c', h1, h2, h3, h4⟩
    · refine .inl ⟨h1, fun i => ?_⟩
      cases i with
      | zero => intro z; cases z
      | succ i => exact h2 i
    · exact .inr ⟨i + 1, ao, c, c', h1, h2, h3, h4⟩
  · cases i with
    | zero => cases h1; cases h2; exact .inl ⟨d, rfl, rfl⟩
    | succ i => exact m.arg i r a h1 h2
  · cases i with
    | zero => cases h
    | succ i =>
      cases i' with
      | zero => cases h'
      | succ i' => rw [m.inj i i' j h h']
  · cases i with
    | zero => cases h
    | succ i =>
      cases i' with
      | zero => cases h'
      | succ i' => rw [m.tmp i i' c c' h h']
theorem mt_cbor (hn : Γ[n]? = some (.own ao c)) (nb : noBor n rs = true) (m : MtOk Γ rs ars Γ') : MtOk Γ (.bor n :: rs) (.mu c c' :: ars) (Γ'.set n (.own ao c')) := by
  have hlt : n < Γ.length := (List.getElem?_eq_some_iff.mp hn).1
  refine ⟨by simp [m.lenΓ], by simp [m.len], fun j s e => ?_, fun i r a h1 h2 => ?_, fun i i' j h h' => ?_, fun i i' d d' h h' => ?_⟩
  · by_cases z : j = n
    · subst z
      rw [List.getElem?_set_self (by rw [m.lenΓ]; exact hlt)] at e
      cases e
      exact .inr ⟨0, ao, c, c', rfl, rfl, hn, rfl⟩
    · rw [List.getElem?_set_ne (Ne.symm z)] at e
      rcases m.at' j s e with ⟨h1, h2⟩ | ⟨i, ao, c, c', h1, h2, h3, h4⟩
      · refine .inl ⟨h1, fun i => ?_⟩
        cases i with
        | zero => intro y; cases y; exact z rfl
        | succ i => exact h2 i
      · exact .inr ⟨i + 1, ao, c, c', h1, h2, h3, h4⟩
  · cases i with
    | zero => cases h1; cases h2; exact .inr (.inr ⟨n, ao, c, c', rfl, rfl, hn⟩)
    | succ i => exact m.arg i r a h1 h2
  · cases i with
    | zero =>
      cases h
      cases i' with
      | zero => rfl
      | succ i' => exact (noBor_at nb i' h').elim
    | succ i =>
      cases i' with
      | zero => cases h'; exact (noBor_at nb i h).elim
      | succ i' => rw [m.inj i i' j h h']
  · cases i with
    | zero => cases h
    | succ i =>
      cases i' with
      | zero => cases h'
      | succ i' => rw [m.tmp i i' d d' h h']
theorem mt_cown (nb : noOwn rs = true) (m : MtOk Γ rs ars Γ') : MtOk Γ (.own c :: rs) (.mu c c' :: ars) Γ' := by
  refine ⟨m.lenΓ, by simp [m.len], fun j s e => ?_, fun i r a h1 h2 => ?_, fun i i' j h h' => ?_, fun i i' d d' h h' => ?_⟩
  · rcases m.at' j s e with ⟨h1, h2⟩ | ⟨i, ao, c, c', h1, h2, h3, h4⟩
    · refine .inl ⟨h1, fun i => ?_⟩
      cases i with
      | zero => intro z; cases z
      | succ i => exact h2 i
    · exact .inr ⟨i + 1, ao, c, c', h1, h2, h3, h4⟩
  · cases i with
    | zero => cases h1; cases h2; exact .inr (.inl ⟨c, c', rfl, rfl⟩)
    | succ i => exact m.arg i r a h1 h2
  · cases i with
    | zero => cases h
    | succ i =>
      cases i' with
      | zero => cases h'
      | succ i' => rw [m.inj i i' j h h']
  · cases i with
    | zero =>
      cases i' with
      | zero => rfl
      | succ i' => exact (noOwn_at nb i' d' h').elim
    | succ i =>
      cases i' with
      | zero => exact (noOwn_at nb i d h).elim
      | succ i' => rw [m.tmp i i' d d' h h']
end
def relS (scope sc : Scope) : Scope := { scope with names := scope.names.map fun (n, k) => if (k == .free && sc.kind == .function && sc.names.lookup n == some .cell) then (n, .cell) else (n, k) }
theorem bk_sc {scope : Scope} {cl : List (Str × Addr)} {C : Addr} {env : Env} : (compEnvC scope cl C env).scope = relS scope env.scope := rfl
theorem cx_N {CX : CXT} {P : Program} {w : World} {K : PySem.W.Frag} {mg : Str → Option Value} {base : Heap} {N : List Str} {qual : Str} {scope : Scope} {f : Addr} {cd : Value} {A : Around} {outer : List Env} {s : Shared} {H : Hp} {E : XK} : (cxOf CX P w K mg base N qual scope f cd A outer s H E).N = N := rfl
theorem cx_sc {CX : CXT} {P : Program} {w : World} {K : PySem.W.Frag} {mg : Str → Option Value} {base : Heap} {N : List Str} {qual : Str} {scope : Scope} {f : Addr} {cd : Value} {A : Around} {outer : List Env} {s : Shared} {H : Hp} {E : XK} : (cxOf CX P w K mg base N qual scope f cd A outer s H E).env.scope = scope := rfl
/-- a slot gives up its object -/
theorem EV.give {X : Cx} {Γ Γ1 : Env'} {e : Expr} {i : Nat} {oc : Oc} (h : EV X Γ e (.bor i) Γ1) (hi : Γ1[i]? = some (.own none oc)) : EV X Γ e (.own oc) (Γ1.set i .any) :=
  PE.weak h fun σ H Q ⟨F, hH, q⟩ => ⟨F, hH, fun F' H' v p hv => by
    have hlt : i < Γ1.length := (List.getElem?_eq_some_iff.mp hi).1
    have w : Weak Γ1 (Γ1.set i .any) := ⟨by simp, fun j s e => by
      by_cases z : j = i
      · subst z; rw [List.getElem?_set_self hlt] at e; cases e; exact .inl rfl
      · rw [List.getElem?_set_ne (Ne.symm z)] at e; exact .inr e⟩
    have hv : σ[i]? = some (some v) := hv
    obtain ⟨a, ho, e1, _, h1, h2, h3⟩ := p.ok.sl i _ hi
    rw [hv] at e1
    cases e1
    refine q F' H' _ (p.weak w) ⟨a, ho, rfl, h1, h2, h3, fun ⟨j, aj, cj, ej, sj⟩ => ?_, p.sub a ⟨i, _, _, hi, hv⟩⟩
    by_cases z : j = i
    · subst z; rw [List.getElem?_set_self hlt] at ej; cases ej
    · rw [List.getElem?_set_ne (Ne.symm z)] at ej
      exact z (p.ok.dis j i aj none cj oc a ej hi sj hv)⟩
/-- it does not go on -/
inductive NN {S L R : Type} : LO S L R → Prop
  | ret {r : R} : NN (.ret r)
  | cnt {l : L} : NN (.cnt l)
  | brk {l : L} : NN (.brk l)
section
variable {S S' L R α : Type}
theorem nn_ret {r : R} : NN (.ret r : LO S L R) := .ret
theorem nn_cnt {l : L} : NN (.cnt l : LO S L R) := .cnt
theorem nn_brk {l : L} : NN (.brk l : LO S L R) := .brk
theorem nn_bind {o : LO S L R} {k : S → LO S' L R} (hk : ∀ s, NN (k s)) : NN (o.bind k) := by
  cases o with
  | next s => exact hk s
  | cnt l => exact .cnt
  | brk l => exact .brk
  | ret r => exact .ret
theorem if_nextR {k : Bool} {o : LO S L R} {s s' : S} (h : (if k then o else .next s) = .next s') (ho : NN o) : k = false ∧ s = s' := by
  cases k with
  | true =>
    rw [if_pos rfl] at h
    subst h
    cases ho
  | false => cases h; exact ⟨rfl, rfl⟩
theorem forL_inv {step : S → α → LO S S R} (P : Nat → S → Prop) : ∀ {xs : List α} {n : Nat} {s s' : S}, P n s → (∀ i s x, xs[i]? = some x → P (n + i) s → ∀ s', step s x = .next s' ∨ step s x = .cnt s' → P (n + i + 1) s') → (∀ i s x s', xs[i]? = some x → P (n + i) s → step s x = .brk s' → P (n + xs.length) s') → forL (L := L) step xs s = .next s' → P (n + xs.length) s'
  | [], n, s, s', h, _, _, e => by cases e; exact h
  | x :: xs, n, s, s', h, hs, hb, e => by
    have go : ∀ t, (step s x = .next t ∨ step s x = .cnt t) → forL (L := L) step xs t = .next s' → P (n + (x :: xs).length) s' := fun t ht e => by
      have h1 := hs 0 s x rfl h t ht
      have := forL_inv P (n := n + 1) h1 (fun i s y hy hp s' hh => by
        have := hs (i + 1) s y hy (by rw [show n + (i + 1) = n + 1 + i by omega]; exact hp) s' hh
        rwa [show n + (i + 1) + 1 = n + 1 + i + 1 by omega] at this) (fun i s y s' hy hp hh => by
        have := hb (i + 1) s y s' hy (by rw [show n + (i + 1) = n + 1 + i by omega]; exact hp) hh
        rwa [show n + (x :: xs).length = n + 1 + xs.length by simp; omega] at this) e
      rwa [show n + (x :: xs).length = n + 1 + xs.length by simp; omega]
    unfold forL at e
    cases hx : step s x with
    | next t => rw [hx] at e; exact go t (.inl hx) e
    | cnt t => rw [hx] at e; exact go t (.inr hx) e
    | brk t => rw [hx] at e; cases e; exact hb 0 s x _ rfl h hx
    | ret r => rw [hx] at e; cases e
end
abbrev eH {α β : Type} (f : α → D) (g : β → D) (p : α × β) : D := .lst [f p.1, g p.2]
abbrev eH3 {α β γ : Type} (f : α → D) (g : β → D) (h : γ → D) (p : α × β × γ) : D := .lst [f p.1, g p.2.1, h p.2.2]
end PD
namespace PD
open PySem PySem.Spec PyProof.Rows L2
theorem isQ_of {d : D} (h : d.isT = true ∨ d.isL = true) : d.isQ = true := by
  cases d <;> simp [D.isT, D.isL, D.isQ] at *
theorem isQ_two {d e : D} (h : e.isT = true ∨ e.isL = true) (h2 : d.isT = e.isT ∧ d.isL = e.isL) : d.isQ = true := by
  refine isQ_of ?_
  rw [h2.1, h2.2]; exact h
theorem strAt_len (z : Str) (i : Int) : (strAt z i).length = 1 := rfl
theorem strRep_le {x : Str} {n : Int} {k m : Nat} (h1 : x.length ≤ k) (h2 : n ≤ m) : (strRep x n).length ≤ m * k := by
  rw [strRep_len]
  exact Nat.mul_le_mul (by omega) h1
theorem sameK_b {d e : D} (h1 : e.isB = true) (h2 : d.isB = true) : sameK d e = true := by
  cases d <;> simp [D.isB] at h2 <;> cases e <;> simp [D.isB] at h1 <;> rfl
theorem sameK_i {d e : D} (h : e.isB = false ∧ d.isB = false) (h1 : e.isI = true) (h2 : d.isI = true) : sameK d e = true := by
  cases d <;> simp [D.isB, D.isI] at h h2 <;> cases e <;> simp [D.isB, D.isI] at h h1 <;> rfl
theorem sameK_s {d e : D} (h1 : e.isS = true) (h2 : d.isS = true) : sameK d e = true := by
  cases d <;> simp [D.isS] at h2 <;> cases e <;> simp [D.isS] at h1 <;> rfl
/-- a loop whose states are known -/
theorem forL_fun {S L R α : Type} {step : S → α → LO S S R} (g : Nat → S) : ∀ {xs : List α} {n : Nat}, (∀ i x, xs[i]? = some x → step (g (n + i)) x = .next (g (n + i + 1))) → forL (L := L) step xs (g n) = .next (g (n + xs.length))
  | [], n, _ => rfl
  | x :: xs, n, h => by
    have h0 := h 0 x rfl
    rw [Nat.add_zero] at h0
    unfold forL
    rw [h0]
    have := forL_fun (step := step) (L := L) g (xs := xs) (n := n + 1) (fun i y hy => by
      have := h (i + 1) y hy
      rwa [show n + (i + 1) = n + 1 + i by omega] at this)
    simp only [List.length_cons]
    rw [this, show n + 1 + xs.length = n + (xs.length + 1) by omega]
/-! ### like -/
mutual
def D.nodes : D → Nat
  | .tup ds => 1 + D.nodesL ds
  | .lst ds => 1 + D.nodesL ds
  | _ => 1
def D.nodesL : List D → Nat
  | [] => 0
  | d :: ds => D.nodes d + D.nodesL ds
end
theorem D.nodes_pos (d : D) : 1 ≤ d.nodes := by cases d <;> simp only [D.nodes] <;> omega
theorem D.nodesL_append : ∀ a b : List D, D.nodesL (a ++ b) = D.nodesL a + D.nodesL b
  | [], b => by simp [D.nodesL]
  | x :: a, b => by
    show D.nodes x + D.nodesL (a ++ b) = D.nodes x + D.nodesL a + D.nodesL b
    rw [D.nodesL_append a b]; omega
theorem D.nodesL_len : ∀ a : List D, a.length ≤ D.nodesL a
  | [] => Nat.le_refl 0
  | x :: a => by
    have := D.nodesL_len a
    have := D.nodes_pos x
    simp only [List.length_cons, D.nodesL]; omega
theorem D.nodes_q {d : D} (h : d.isQ = true) : d.nodes = 1 + D.nodesL d.items := by
  cases d <;> simp [D.isQ, D.nodes, D.items] at *
theorem D.ext_q {d e : D} (h : e.isT = true ∨ e.isL = true) (h2 : d.isT = e.isT ∧ d.isL = e.isL) : d = e ↔ d.items = e.items := by
  cases e <;> simp [D.isT, D.isL] at h <;> cases d <;> simp [D.isT, D.isL, D.items] at *
theorem D.ne_q {d e : D} (h2 : ¬ (d.isT = e.isT ∧ d.isL = e.isL)) : d ≠ e := fun z => h2 (by rw [z]; exact ⟨rfl, rfl⟩)
/-- the pairs of two lists, by their places -/
theorem pairs_at (a b : List D) (h : a.length = b.length) : (rangeI 0 (b.length : Int)).map (fun n => (a.getD n.toNat default, b.getD n.toNat default)) = a.zip b := by
  unfold rangeI
  rw [List.map_map]
  apply List.ext_getElem
  · simp [h]
  · intro i h1 h2
    simp at h1 h2
    have h3 : i < a.length := by omega
    simp [List.getD_eq_getElem?_getD, h1, h3]
theorem zip_eq : ∀ (a b : List D), a.length = b.length → ((∀ p ∈ a.zip b, p.1 = p.2) ↔ a = b)
  | [], [], _ => by simp
  | x :: a, y :: b, h => by
    have ih := zip_eq a b (by simpa using h)
    simp only [List.zip_cons_cons, List.mem_cons, forall_eq_or_imp, ih, List.cons.injEq]
theorem zip_nodes : ∀ (a b : List D), a.length = b.length → D.nodesL ((a.zip b).map (·.2)) = D.nodesL b
  | [], [], _ => rfl
  | x :: a, y :: b, h => by
    have ih := zip_nodes a b (by simpa using h)
    simp only [List.zip_cons_cons, List.map_cons, D.nodesL, ih]
theorem pop_nodes : ∀ (ps : List (D × D)), 0 < ps.length → D.nodesL (ps.dropLast.map (·.2)) + (ps.getLastD default).2.nodes = D.nodesL (ps.map (·.2)) := by
  intro ps h
  obtain ⟨ys, y, rfl⟩ : ∃ ys y, ps = ys ++ [y] := ⟨ps.dropLast, ps.getLast (by intro z; rw [z] at h; cases h), (List.dropLast_concat_getLast _).symm⟩
  simp [D.nodesL_append, D.nodesL]
theorem alike_len {ps : List (D × D)} {o : D} {i B : Nat} (hq : o.isT = true ∨ o.isL = true) (hw : D.nodesL (ps.dropLast.map (·.2)) + o.nodes = D.nodesL (ps.map (·.2))) (hP : D.nodesL (ps.map (·.2)) + i ≤ B) : ps.dropLast.length + o.items.length ≤ B := by
  have h1 := D.nodes_q (isQ_of hq)
  have h2 := D.nodesL_len o.items
  have h3 := D.nodesL_len (ps.dropLast.map (·.2))
  rw [List.length_map] at h3
  omega
/-- a loop that only goes on -/
theorem forL_foldM {S L R α : Type} {step : S → α → LO S S R} (f : S → α → S) : ∀ {xs : List α} {s : S}, (∀ x ∈ xs, ∀ s, step s x = .next (f s x)) → forL (L := L) step xs s = .next (xs.foldl f s)
  | [], s, _ => rfl
  | x :: xs, s, h => by
    unfold forL
    rw [h x (.head _) s]
    exact forL_foldM f (fun y hy s => h y (.tail _ hy) s)
theorem foldl_snoc {α β : Type} (f : α → β) : ∀ (xs : List α) (t : List β), xs.foldl (fun t x => t ++ [f x]) t = t ++ xs.map f
  | [], t => by simp
  | x :: xs, t => by rw [List.foldl_cons, foldl_snoc f xs]; simp
/-- a list of constants, by its bounds -/
theorem lit_le {xs : List Int} (lo hi : Int) (h : (xs.all fun x => decide (lo ≤ x) && decide (x ≤ hi)) = true) (h0 : lo ≤ 0 ∧ 0 ≤ hi) (i : Nat) : lo ≤ xs.getD i default ∧ xs.getD i default ≤ hi := by
  rw [List.getD_eq_getElem?_getD]
  cases e : xs[i]? with
  | none => exact h0
  | some x =>
    have := List.all_eq_true.mp h x (List.mem_of_getElem? e)
    simpa using this
theorem cutL_from {α : Type} {xs : List α} {t : Int} (h : 0 ≤ t) : cutL xs (some t) none = xs.drop t.toNat := by
  obtain ⟨n, rfl⟩ := Int.eq_ofNat_of_zero_le h
  unfold cutL
  rw [HT.sIx_nat, HT.sIx_none, Int.toNat_natCast]
  by_cases k : n ≤ xs.length
  · rw [Nat.min_eq_left k, List.take_of_length_le (by simp)]
  · rw [Nat.min_eq_right (by omega), List.drop_of_length_le (by omega), List.drop_of_length_le (by omega)]; simp
theorem cutL_to {α : Type} {xs : List α} {t : Int} (h : 0 ≤ t) : cutL xs none (some t) = xs.take t.toNat := by
  obtain ⟨n, rfl⟩ := Int.eq_ofNat_of_zero_le h
  unfold cutL
  rw [HT.sIx_nat, HT.sIx_none, Int.toNat_natCast, List.drop_zero, Nat.sub_zero]
  by_cases k : n ≤ xs.length
  · rw [Nat.min_eq_left k]
  · rw [Nat.min_eq_right (by omega), List.take_of_length_le (Nat.le_refl _), List.take_of_length_le (by omega)]
theorem cutL_sub {α : Type} {xs : List α} {a b : Option Int} : (cutL xs a b).Sublist xs := (List.take_sublist _ _).trans (List.drop_sublist _ _)
section
variable {S S' L R : Type}
theorem lob_ite {c : Bool} {a b : LO S L R} {k : S → LO S' L R} : (if c = true then a else b).bind k = if c = true then a.bind k else b.bind k := by cases c <;> rfl
theorem lob_next {s : S} {k : S → LO S' L R} : (LO.next s : LO S L R).bind k = k s := rfl
theorem lob_cnt {l : L} {k : S → LO S' L R} : (LO.cnt l : LO S L R).bind k = .cnt l := rfl
theorem lob_brk {l : L} {k : S → LO S' L R} : (LO.brk l : LO S L R).bind k = .brk l := rfl
theorem lob_ret {r : R} {k : S → LO S' L R} : (LO.ret r : LO S L R).bind k = .ret r := rfl
end
end PD
namespace PD
open PySem PySem.Spec PyProof.Rows L2
theorem repL_intsF {K : PySem.W.Frag} {F : Hp} : ∀ (ns : List Int), RepL K F (ns.map V.int) (ns.map D.int) := repL_ints
/-- the law's own end -/
theorem law_sp {K : PySem.W.Frag} {H : Hp} {a : Addr} {ns : List Int} {Rel : List Ar → Rr → Prop} (h : Rel [.dat (eL D.int ns)] (.dat (.bl true))) (hS : SqL K H a (ns.map V.int)) : spR K Rel [.ref a] H (fun v _ => v = .bl true) (fun _ _ _ => False) := by
  refine ⟨_, _, H, h, ⟨Le.refl H, .cons (.lst hS (repL_ints ns)) .nil, fun i j ci ci' cj cj' b e => ?_⟩, fun F' H' v ha => ?_⟩
  · cases i with
    | zero => cases e
    | succ i => cases e
  · have : Rep K F' v (.bl true) := ha.res
    cases this
    rfl
end PD
namespace K43
open PySem PySem.Spec PyProof.Rows L2 PD
/-! ### rows -/
abbrev Row := List Int
def Asc (a : Row) : Prop := a.Pairwise (· < ·)
def sub (a b : Row) : Bool := a.all fun x => decide (x ∈ b)
theorem sub_iff {a b : Row} : sub a b = true ↔ ∀ x ∈ a, x ∈ b := by simp [sub]
theorem sub_refl (a : Row) : sub a a = true := sub_iff.mpr fun _ h => h
theorem sub_trans {a b c : Row} (h : sub a b = true) (h2 : sub b c = true) : sub a c = true := sub_iff.mpr fun x hx => sub_iff.mp h2 x (sub_iff.mp h x hx)
theorem Asc.sublist : ∀ {b a : Row}, Asc a → Asc b → (∀ x ∈ a, x ∈ b) → a.Sublist b
  | [], [], _, _, _ => .slnil
  | [], x :: a, _, _, h => by have := h x (.head _); cases this
  | y :: b, [], _, _, _ => List.nil_sublist _
  | y :: b, x :: a, ha, hb, h => by
    have ha' := List.pairwise_cons.mp ha
    have hb' := List.pairwise_cons.mp hb
    by_cases e : x = y
    · subst e
      refine .cons₂ _ (Asc.sublist ha'.2 hb'.2 fun z hz => ?_)
      rcases List.mem_cons.mp (h z (.tail _ hz)) with q | q
      · have := ha'.1 z hz; omega
      · exact q
    · have hx : x ∈ b := by
        rcases List.mem_cons.mp (h x (.head _)) with q | q
        · exact absurd q e
        · exact q
      have hyx := hb'.1 x hx
      refine .cons _ (Asc.sublist ha hb'.2 fun z hz => ?_)
      rcases List.mem_cons.mp (h z hz) with q | q
      · rcases List.mem_cons.mp hz with k | k
        · omega
        · have := ha'.1 z k; omega
      · exact q
theorem Asc.len {a b : Row} (ha : Asc a) (hb : Asc b) (h : sub a b = true) : a.length ≤ b.length := (ha.sublist hb (sub_iff.mp h)).length_le
theorem Asc.eq {a b : Row} (ha : Asc a) (hb : Asc b) (h : sub a b = true) (hl : b.length ≤ a.length) : a = b := (ha.sublist hb (sub_iff.mp h)).eq_of_length (Nat.le_antisymm (ha.len hb h) hl)
theorem Asc.anti {a b : Row} (ha : Asc a) (hb : Asc b) (h : sub a b = true) (h2 : sub b a = true) : a = b := ha.eq hb h (hb.len ha h2)
/-! ### the order of selections -/
abbrev ePr := eP D.int (eT D.int)
theorem pyL_ints : ∀ a : List Int, D.pyL (a.map D.int) = a.map PyData.int
  | [] => rfl
  | x :: a => by simp only [List.map_cons, D.pyL, D.py, pyL_ints a]
theorem eqv_ints : ∀ {a b : List Int}, PyData.eqvAll (a.map PyData.int) (b.map PyData.int) = true → a = b
  | [], [], _ => rfl
  | [], _ :: _, h => by simp [PyData.eqvAll] at h
  | _ :: _, [], h => by simp [PyData.eqvAll] at h
  | x :: a, y :: b, h => by
    simp only [List.map_cons, PyData.eqvAll, PyData.eqv, Bool.and_eq_true, beq_iff_eq] at h
    rw [h.1, eqv_ints h.2]
theorem alike_ints : ∀ a b : List Int, PySem.W.alikeAll (a.map PyData.int) (b.map PyData.int) = true
  | [], _ => by simp [PySem.W.alikeAll]
  | _ :: _, [] => by simp [PySem.W.alikeAll]
  | x :: a, y :: b => by simp [PySem.W.alikeAll, PySem.W.alike, alike_ints a b]
theorem lt_pr (p q : Int × Row) : PySem.W.dataLt (ePr p).py (ePr q).py = decide (p.1 < q.1 ∨ (p.1 = q.1 ∧ p.2 < q.2)) := by
  have e : ∀ p : Int × Row, (ePr p).py = .tuple [.int p.1, .tuple (p.2.map .int)] := fun p => by
    simp only [D.py, D.pyL, pyL_ints]
  have h2 := PySem.W.dataLt_ints p.2 q.2
  rw [e, e, PySem.W.dataLt_pair (by simp [PySem.W.alike]) (by simp only [PySem.W.alike]; exact alike_ints _ _), PySem.W.dataLt_int, PySem.W.dataLt_tuple]
  unfold PySem.W.rowLt at h2
  rw [h2]
  rw [show (PyData.int p.1).eqv (.int q.1) = (p.1 == q.1) by simp [PyData.eqv]]
  simp only [beq_iff_eq]
  by_cases h1 : p.1 = q.1
  · rw [if_pos h1]
    by_cases h3 : PyData.eqv (.tuple (p.2.map .int)) (.tuple (q.2.map .int)) = true
    · rw [if_pos h3]
      have := eqv_ints (by simpa [PyData.eqv] using h3)
      rw [this]
      have := List.lt_irrefl q.2
      simp [h1, this]
    · rw [if_neg h3]; simp [h1]
  · rw [if_neg h1]; simp [h1]
theorem leT_pr (p q : Int × Row) : leT ePr p q = !decide (q.1 < p.1 ∨ (q.1 = p.1 ∧ q.2 < p.2)) := by
  show (!PySem.W.dataLt (ePr q).py (ePr p).py) = _
  rw [lt_pr]
def key (r : Row) : Int × Row := ((r.length : Int), r)
def leK (a b : Row) : Prop := leT ePr (key a) (key b) = true
theorem leK_iff {a b : Row} : leK a b ↔ ¬ (b.length < a.length ∨ (b.length = a.length ∧ b < a)) := by
  unfold leK
  rw [leT_pr, Bool.not_eq_true', decide_eq_false_iff_not]
  show ¬ ((b.length : Int) < a.length ∨ ((b.length : Int) = a.length ∧ b < a)) ↔ _
  constructor
  · intro h z; apply h; rcases z with z | ⟨z, y⟩
    · exact .inl (by omega)
    · exact .inr ⟨by omega, y⟩
  · intro h z; apply h; rcases z with z | ⟨z, y⟩
    · exact .inl (by omega)
    · exact .inr ⟨by omega, y⟩
theorem leK_len {a b : Row} (h : leK a b) : a.length ≤ b.length := by
  have := leK_iff.mp h
  exact Nat.le_of_not_lt fun z => this (.inl z)
theorem leK_anti {a b : Row} (h : leK a b) (h2 : leK b a) : a = b := by
  have l := Nat.le_antisymm (leK_len h) (leK_len h2)
  have h := leK_iff.mp h
  have h2 := leK_iff.mp h2
  have e1 : ¬ b < a := fun z => h (.inr ⟨l.symm, z⟩)
  have e2 : ¬ a < b := fun z => h2 (.inr ⟨l, z⟩)
  exact List.le_antisymm (by simpa using e1) (by simpa using e2)
theorem leT_total (p q : Int × Row) : (leT ePr p q || leT ePr q p) = true := by
  rw [leT_pr, leT_pr]
  simp only [Bool.or_eq_true, Bool.not_eq_true', decide_eq_false_iff_not]
  by_cases h : q.1 < p.1 ∨ (q.1 = p.1 ∧ q.2 < p.2)
  · refine .inr fun z => ?_
    rcases h with h | ⟨h, k⟩
    · rcases z with z | ⟨z, _⟩ <;> omega
    · rcases z with z | ⟨_, z⟩
      · omega
      · exact List.lt_irrefl _ (List.lt_trans z k)
  · exact .inl h
theorem leT_trans (p q r : Int × Row) (h : leT ePr p q = true) (h2 : leT ePr q r = true) : leT ePr p r = true := by
  rw [leT_pr] at *
  simp only [Bool.not_eq_true', decide_eq_false_iff_not, not_or, not_and] at *
  refine ⟨by omega, fun e => ?_⟩
  have e1 : r.1 = q.1 := by omega
  have e2 : q.1 = p.1 := by omega
  have k1 := h.2 e2
  have k2 := h2.2 e1
  intro z
  -- r.2 < p.2, not q.2 < p.2, not r.2 < q.2
  have k1 : p.2 ≤ q.2 := by simpa using k1
  have k2 : q.2 ≤ r.2 := by simpa using k2
  have := List.le_trans k1 k2
  exact (List.not_lt.mpr this) z
def srt (xs : List Row) : List Row := ((xs.map key).mergeSort (leT ePr)).map (·.2)
theorem srt_keys (xs : List Row) : (xs.map key).mergeSort (leT ePr) = (srt xs).map key := by
  unfold srt
  rw [List.map_map]
  have : ∀ p ∈ (xs.map key).mergeSort (leT ePr), (key ∘ (·.2)) p = p := fun p hp => by
    rw [List.mem_mergeSort] at hp
    obtain ⟨r, _, rfl⟩ := List.mem_map.mp hp
    rfl
  exact ((List.map_congr_left this).trans (List.map_id'' (fun _ => rfl) _)).symm
theorem mem_srt {xs : List Row} {r : Row} : r ∈ srt xs ↔ r ∈ xs := by
  unfold srt
  simp only [List.mem_map, List.mem_mergeSort]
  constructor
  · rintro ⟨_, ⟨a, h, rfl⟩, rfl⟩; exact h
  · intro h; exact ⟨_, ⟨r, h, rfl⟩, rfl⟩
theorem srt_len (xs : List Row) : (srt xs).length = xs.length := by simp [srt]
theorem srt_sorted (xs : List Row) : (srt xs).Pairwise leK := by
  have h := List.pairwise_mergeSort leT_trans leT_total (xs.map key)
  rw [srt_keys] at h
  have := List.pairwise_map.mp h
  exact this
/-! ### the least ones -/
def greedy (L : List Row) : List Row := L.foldl (fun t r => if t.any (fun o => sub o r) then t else t ++ [r]) []
theorem greedy_go : ∀ (L t : List Row), ∃ e, L.foldl (fun t r => if t.any (fun o => sub o r) then t else t ++ [r]) t = t ++ e ∧ e.Sublist L ∧ (∀ x ∈ L, ∃ o ∈ t ++ e, sub o x = true) ∧ e.Pairwise (fun a b => sub a b = false) ∧ ∀ a ∈ t, ∀ b ∈ e, sub a b = false
  | [], t => ⟨[], by simp, .slnil, (fun x h => by cases h), .nil, (fun _ _ b h => by cases h)⟩
  | r :: L, t => by
    rw [List.foldl_cons]
    by_cases h : t.any (fun o => sub o r) = true
    · rw [if_pos h]
      obtain ⟨e, h1, h2, h3, h4, h5⟩ := greedy_go L t
      refine ⟨e, h1, .cons _ h2, fun x hx => ?_, h4, h5⟩
      rcases List.mem_cons.mp hx with rfl | hx
      · obtain ⟨o, ho, hs⟩ := List.any_eq_true.mp h
        exact ⟨o, List.mem_append_left _ ho, hs⟩
      · exact h3 x hx
    · rw [if_neg h]
      obtain ⟨e, h1, h2, h3, h4, h5⟩ := greedy_go L (t ++ [r])
      have hn : ∀ a ∈ t, sub a r = false := fun a ha => by
        cases q : sub a r with
        | false => rfl
        | true => exact absurd (List.any_eq_true.mpr ⟨a, ha, q⟩) h
      refine ⟨r :: e, by rw [h1]; simp, .cons₂ _ h2, fun x hx => ?_, List.pairwise_cons.mpr ⟨fun b hb => h5 r (by simp) b hb, h4⟩, fun a ha b hb => ?_⟩
      · rcases List.mem_cons.mp hx with rfl | hx
        · exact ⟨x, by simp, sub_refl x⟩
        · obtain ⟨o, ho, hs⟩ := h3 x hx
          exact ⟨o, by simpa using ho, hs⟩
      · rcases List.mem_cons.mp hb with rfl | hb
        · exact hn a ha
        · exact h5 a (List.mem_append_left _ ha) b hb
theorem greedy_spec (L : List Row) : (greedy L).Sublist L ∧ (∀ x ∈ L, ∃ o ∈ greedy L, sub o x = true) ∧ (greedy L).Pairwise (fun a b => sub a b = false) := by
  obtain ⟨e, h1, h2, h3, h4, _⟩ := greedy_go L []
  have h1 : greedy L = e := by simpa [greedy] using h1
  rw [h1]
  exact ⟨h2, by simpa using h3, h4⟩
/-- lists of ascending rows in the order of selections -/
structure Good (L : List Row) : Prop where
  srt : L.Pairwise leK
  asc : ∀ a ∈ L, Asc a
theorem Good.filter {L : List Row} (h : Good L) (p : Row → Bool) : Good (L.filter p) := ⟨h.srt.filter p, fun a ha => h.asc a (List.mem_filter.mp ha).1⟩
theorem pw_of_mem {α : Type} {R : α → α → Prop} : ∀ {L : List α}, L.Pairwise R → ∀ {a b : α}, a ∈ L → b ∈ L → a = b ∨ R a b ∨ R b a
  | [], _, _, _, h, _ => by cases h
  | x :: L, hp, a, b, ha, hb => by
    have hp := List.pairwise_cons.mp hp
    rcases List.mem_cons.mp ha with e1 | ha
    · rcases List.mem_cons.mp hb with e2 | hb
      · exact .inl (e1.trans e2.symm)
      · exact .inr (.inl (e1 ▸ hp.1 b hb))
    · rcases List.mem_cons.mp hb with e2 | hb
      · exact .inr (.inr (e2 ▸ hp.1 a ha))
      · exact pw_of_mem hp.2 ha hb
theorem greedy_mem {L : List Row} (g : Good L) {r : Row} : r ∈ greedy L ↔ r ∈ L ∧ ∀ o ∈ L, sub o r = true → o = r := by
  obtain ⟨h1, h2, h3⟩ := greedy_spec L
  have anti : ∀ a ∈ greedy L, ∀ b ∈ greedy L, sub a b = true → a = b := fun a ha b hb s => by
    have hh : (greedy L).Pairwise (fun a b => sub a b = false ∧ leK a b) := List.Pairwise.and h3 (g.srt.sublist h1)
    rcases pw_of_mem hh ha hb with e | ⟨k, _⟩ | ⟨_, k⟩
    · exact e
    · rw [s] at k; cases k
    · exact (g.asc a (h1.subset ha)).eq (g.asc b (h1.subset hb)) s (leK_len k)
  constructor
  · intro hr
    refine ⟨h1.subset hr, fun o ho s => ?_⟩
    obtain ⟨o', ho', s'⟩ := h2 o ho
    have e := anti o' ho' r hr (sub_trans s' s)
    subst e
    exact (g.asc o ho).anti (g.asc o' (h1.subset hr)) s s'
  · rintro ⟨hr, hm⟩
    obtain ⟨o, ho, s⟩ := h2 r hr
    rw [← hm o (h1.subset ho) s]; exact ho
theorem greedy_good {L : List Row} (g : Good L) : Good (greedy L) := ⟨g.srt.sublist (greedy_spec L).1, fun a ha => g.asc a ((greedy_spec L).1.subset ha)⟩
theorem greedy_nodup (L : List Row) : (greedy L).Nodup := (greedy_spec L).2.2.imp fun {a b} h e => by
  subst e; rw [sub_refl] at h; cases h
theorem greedy_ext {L M : List Row} (g : Good L) (k : Good M) (h : ∀ r, r ∈ greedy L ↔ r ∈ greedy M) : greedy L = greedy M :=
  List.Perm.eq_of_pairwise (le := leK) (fun a b _ _ => leK_anti) (greedy_good g).srt (greedy_good k).srt ((List.perm_ext_iff_of_nodup (greedy_nodup L) (greedy_nodup M)).mpr h)
/-! ### the selections -/
def subs : Nat → List Row
  | 0 => [[]]
  | n + 1 => subs n ++ (subs n).map fun r => r ++ [(n : Int)]
theorem subs_len : ∀ n, (subs n).length = 2 ^ n
  | 0 => rfl
  | n + 1 => by simp only [subs, List.length_append, List.length_map, subs_len n]; omega
theorem mem_subs : ∀ {n : Nat} {r : Row}, r ∈ subs n ↔ Asc r ∧ ∀ x ∈ r, 0 ≤ x ∧ x < n
  | 0, r => by
    simp only [subs, List.mem_singleton]
    constructor
    · rintro rfl; exact ⟨.nil, fun x h => by cases h⟩
    · rintro ⟨_, h⟩
      cases r with
      | nil => rfl
      | cons x r => have := h x (.head _); omega
  | n + 1, r => by
    simp only [subs, List.mem_append, List.mem_map, mem_subs (n := n)]
    constructor
    · rintro (⟨h1, h2⟩ | ⟨a, ⟨h1, h2⟩, rfl⟩)
      · exact ⟨h1, fun x hx => by have := h2 x hx; omega⟩
      · refine ⟨List.pairwise_append.mpr ⟨h1, List.pairwise_singleton _ _, fun x hx y hy => ?_⟩, fun x hx => ?_⟩
        · have := h2 x hx
          rw [List.mem_singleton.mp hy]; omega
        · rcases List.mem_append.mp hx with k | k
          · have := h2 x k; omega
          · rw [List.mem_singleton.mp k]; omega
    · rintro ⟨h1, h2⟩
      rcases List.eq_nil_or_concat r with rfl | ⟨a, y, rfl⟩
      · exact .inl ⟨.nil, fun x h => by cases h⟩
      · simp only [List.concat_eq_append] at *
        obtain ⟨p1, _, p3⟩ := List.pairwise_append.mp h1
        have hy := h2 y (by simp)
        have ha : ∀ x ∈ a, 0 ≤ x ∧ x < y := fun x hx => ⟨(h2 x (by simp [hx])).1, p3 x hx y (by simp)⟩
        by_cases e : y = n
        · subst e
          exact .inr ⟨a, ⟨p1, ha⟩, rfl⟩
        · refine .inl ⟨h1, fun x hx => ?_⟩
          rcases List.mem_append.mp hx with k | k
          · have := ha x k; omega
          · rw [List.mem_singleton.mp k]; omega
def Sel (n : Nat) : List Row := srt (subs n)
theorem mem_Sel {n : Nat} {r : Row} : r ∈ Sel n ↔ Asc r ∧ ∀ x ∈ r, 0 ≤ x ∧ x < n := mem_srt.trans mem_subs
theorem Sel_good (n : Nat) : Good (Sel n) := ⟨srt_sorted _, fun a h => (mem_Sel.mp h).1⟩
theorem asc_len {n : Nat} {r : Row} (h : Asc r ∧ ∀ x ∈ r, 0 ≤ x ∧ x < n) : r.length ≤ n := by
  have hs := h.1.sublist (b := rangeI 0 n) (by
    unfold Asc rangeI
    refine List.pairwise_map.mpr (List.Pairwise.imp ?_ List.pairwise_lt_range)
    intro a b k; omega) (fun x hx => by
      have := h.2 x hx
      unfold rangeI
      exact List.mem_map.mpr ⟨x.toNat, by simp; omega, by omega⟩)
  have := hs.length_le
  rw [rangeI_len] at this
  omega
def hits (gs : List Row) (r : Row) : Bool := gs.all fun p => p.any fun a => decide (a ∈ r)
theorem hits_iff {gs : List Row} {r : Row} : hits gs r = true ↔ ∀ p ∈ gs, ∃ a ∈ p, a ∈ r := by simp [hits]
def gmh (n : Nat) (gs : List Row) : List Row := greedy ((Sel n).filter (hits gs))
theorem gmh_mem {n : Nat} {gs : List Row} {r : Row} : r ∈ gmh n gs ↔ (r ∈ Sel n ∧ hits gs r = true) ∧ ∀ o, o ∈ Sel n → hits gs o = true → sub o r = true → o = r := by
  unfold gmh
  rw [greedy_mem ((Sel_good n).filter _)]
  simp only [List.mem_filter]
  exact ⟨fun ⟨a, b⟩ => ⟨a, fun o h1 h2 => b o ⟨h1, h2⟩⟩, fun ⟨a, b⟩ => ⟨a, fun o h => b o h.1 h.2⟩⟩
theorem gmh_sel {n : Nat} {gs : List Row} {r : Row} (h : r ∈ gmh n gs) : r ∈ Sel n := (gmh_mem.mp h).1.1
theorem gmh_cover {n : Nat} {gs : List Row} {r : Row} (h : r ∈ Sel n) (h2 : hits gs r = true) : ∃ o ∈ gmh n gs, sub o r = true := (greedy_spec _).2.1 r (List.mem_filter.mpr ⟨h, h2⟩)
theorem gmh_len (n : Nat) (gs : List Row) : (gmh n gs).length ≤ 2 ^ n := by
  have h1 := (greedy_spec ((Sel n).filter (hits gs))).1.length_le
  have h2 := List.length_filter_le (hits gs) (Sel n)
  have h3 : (Sel n).length = 2 ^ n := by rw [Sel, srt_len, subs_len]
  unfold gmh
  omega
/-! ### one group more -/
def isort (a : Row) : Row := a.mergeSort (leT D.int)
theorem leT_int (a b : Int) : leT D.int a b = decide (a ≤ b) := by
  show (!PySem.W.dataLt (D.int b).py (D.int a).py) = _
  simp only [D.py, PySem.W.dataLt_int]
  by_cases h : b < a
  · simp [h]
  · simp [h]; omega
theorem isort_asc {r : Row} {a : Int} (h : Asc r) (ha : a ∉ r) : Asc (isort (r ++ [a])) := by
  have h1 : (isort (r ++ [a])).Pairwise (fun x y => leT D.int x y = true) := List.pairwise_mergeSort (fun a b c h1 h2 => by rw [leT_int] at *; simp at *; omega) (fun a b => by rw [leT_int, leT_int]; simp; omega) _
  have h2 : (isort (r ++ [a])).Nodup := ((List.mergeSort_perm (r ++ [a]) (leT D.int)).nodup_iff).mpr (List.nodup_append.mpr ⟨h.imp fun k e => by omega, by simp, fun x hx y hy e => ha (by rw [List.mem_singleton] at hy; rw [← hy, ← e]; exact hx)⟩)
  exact (List.Pairwise.and h1 h2).imp fun {x y} ⟨k1, k2⟩ => by
    rw [leT_int] at k1
    simp at k1
    omega
theorem mem_isort {r : Row} {a x : Int} : x ∈ isort (r ++ [a]) ↔ x ∈ r ∨ x = a := by simp [isort, List.mem_mergeSort]
def longer (rows : List Row) (p : Row) : List Row := rows.foldl (fun t r => if p.any (fun a => decide (a ∈ r)) then t ++ [r] else t ++ p.map fun a => isort (r ++ [a])) []
theorem mem_longer_go (p : Row) : ∀ (rows t : List Row) (x : Row), x ∈ rows.foldl (fun t r => if p.any (fun a => decide (a ∈ r)) then t ++ [r] else t ++ p.map fun a => isort (r ++ [a])) t ↔ x ∈ t ∨ ∃ r ∈ rows, ((∃ a ∈ p, a ∈ r) ∧ x = r) ∨ ((∀ a ∈ p, a ∉ r) ∧ ∃ a ∈ p, x = isort (r ++ [a]))
  | [], t, x => by simp
  | r :: rows, t, x => by
    rw [List.foldl_cons, mem_longer_go p rows]
    by_cases h : p.any (fun a => decide (a ∈ r)) = true
    · rw [if_pos h]
      have h' : ∃ a ∈ p, a ∈ r := by simpa using h
      simp only [List.mem_append, List.mem_cons, List.not_mem_nil, or_false, exists_eq_or_imp]
      constructor
      · rintro ((k | k) | k)
        · exact .inl k
        · exact .inr (.inl (.inl ⟨h', k⟩))
        · exact .inr (.inr k)
      · rintro (k | (⟨_, k⟩ | ⟨k, _⟩) | k)
        · exact .inl (.inl k)
        · exact .inl (.inr k)
        · obtain ⟨a, h1, h2⟩ := h'; exact absurd h2 (k a h1)
        · exact .inr k
    · rw [if_neg h]
      have h' : ∀ a ∈ p, a ∉ r := by simpa using h
      simp only [List.mem_append, List.mem_map, List.mem_cons, exists_eq_or_imp]
      constructor
      · rintro ((k | ⟨a, k, e⟩) | k)
        · exact .inl k
        · exact .inr (.inl (.inr ⟨h', a, k, e.symm⟩))
        · exact .inr (.inr k)
      · rintro (k | (⟨⟨a, h1, h2⟩, k⟩ | ⟨_, a, k, e⟩) | k)
        · exact .inl (.inl k)
        · exact absurd h2 (h' a h1)
        · exact .inl (.inr ⟨a, k, e.symm⟩)
        · exact .inr k
theorem mem_longer {p : Row} {rows : List Row} {x : Row} : x ∈ longer rows p ↔ ∃ r ∈ rows, ((∃ a ∈ p, a ∈ r) ∧ x = r) ∨ ((∀ a ∈ p, a ∉ r) ∧ ∃ a ∈ p, x = isort (r ++ [a])) := by
  unfold longer
  rw [mem_longer_go]
  simp
theorem gmh_step {n : Nat} {gs : List Row} {p : Row} (hp : ∀ a ∈ p, 0 ≤ a ∧ a < n) : greedy (srt (longer (gmh n gs) p)) = gmh n (gs ++ [p]) := by
  -- what is longer answers all
  have hin : ∀ x ∈ longer (gmh n gs) p, x ∈ Sel n ∧ hits (gs ++ [p]) x = true := fun x hx => by
    obtain ⟨r, hr, k⟩ := mem_longer.mp hx
    have hs := mem_Sel.mp (gmh_sel hr)
    have hh := hits_iff.mp (gmh_mem.mp hr).1.2
    rcases k with ⟨k, rfl⟩ | ⟨k, a, ha, rfl⟩
    · refine ⟨gmh_sel hr, hits_iff.mpr fun q hq => ?_⟩
      rcases List.mem_append.mp hq with z | z
      · exact hh q z
      · rw [List.mem_singleton.mp z]; exact k
    · refine ⟨mem_Sel.mpr ⟨isort_asc hs.1 (k a ha), fun x hx => ?_⟩, hits_iff.mpr fun q hq => ?_⟩
      · rcases mem_isort.mp hx with z | z
        · exact hs.2 x z
        · rw [z]; exact hp a ha
      · rcases List.mem_append.mp hq with z | z
        · obtain ⟨b, h1, h2⟩ := hh q z
          exact ⟨b, h1, mem_isort.mpr (.inl h2)⟩
        · rw [List.mem_singleton.mp z]; exact ⟨a, ha, mem_isort.mpr (.inr rfl)⟩
  -- below each answer to all lies one of them
  have hbel : ∀ x ∈ Sel n, hits (gs ++ [p]) x = true → ∃ l ∈ longer (gmh n gs) p, sub l x = true := fun x hx hh => by
    have hh := hits_iff.mp hh
    obtain ⟨m, hm, hs⟩ := gmh_cover (gs := gs) hx (hits_iff.mpr fun q hq => hh q (List.mem_append_left _ hq))
    by_cases k : ∃ a ∈ p, a ∈ m
    · exact ⟨m, mem_longer.mpr ⟨m, hm, .inl ⟨k, rfl⟩⟩, hs⟩
    · obtain ⟨a, ha, hax⟩ := hh p (by simp)
      refine ⟨isort (m ++ [a]), mem_longer.mpr ⟨m, hm, .inr ⟨fun b hb hbm => k ⟨b, hb, hbm⟩, a, ha, rfl⟩⟩, sub_iff.mpr fun y hy => ?_⟩
      rcases mem_isort.mp hy with z | z
      · exact sub_iff.mp hs y z
      · rw [z]; exact hax
  have g1 : Good (srt (longer (gmh n gs) p)) := ⟨srt_sorted _, fun a ha => (mem_Sel.mp (hin a (mem_srt.mp ha)).1).1⟩
  refine greedy_ext g1 ((Sel_good n).filter _) fun r => ?_
  rw [greedy_mem g1]
  show _ ↔ r ∈ gmh n (gs ++ [p])
  rw [gmh_mem]
  simp only [mem_srt]
  constructor
  · rintro ⟨h1, h2⟩
    refine ⟨hin r h1, fun o ho hho hs => ?_⟩
    obtain ⟨l, hl, hs2⟩ := hbel o ho hho
    have e := h2 l hl (sub_trans hs2 hs)
    subst e
    exact (mem_Sel.mp ho).1.anti (mem_Sel.mp (hin l hl).1).1 hs hs2
  · rintro ⟨⟨h1, h2⟩, h3⟩
    obtain ⟨l, hl, hs⟩ := hbel r h1 h2
    have e := h3 l (hin l hl).1 (hin l hl).2 hs
    subst e
    exact ⟨hl, fun o ho hs => h3 o (hin o ho).1 (hin o ho).2 hs⟩
theorem gmh_nil (n : Nat) : gmh n [] = [[]] := by
  have g := (Sel_good n).filter (hits [])
  have hmem : ∀ r, r ∈ gmh n [] ↔ r = [] := fun r => by
    rw [gmh_mem]
    have h0 : ([] : Row) ∈ Sel n := mem_Sel.mpr ⟨.nil, fun x h => by cases h⟩
    constructor
    · rintro ⟨_, h⟩; exact (h [] h0 rfl rfl).symm
    · rintro rfl
      refine ⟨⟨h0, rfl⟩, fun o _ _ s => ?_⟩
      cases o with
      | nil => rfl
      | cons x o => have := sub_iff.mp s x (.head _); cases this
  have hn : (gmh n []).Nodup := greedy_nodup _
  have := (List.perm_ext_iff_of_nodup hn (by simp : ([[]] : List Row).Nodup)).mpr (fun r => by rw [hmem]; simp)
  exact List.perm_singleton.mp this
theorem gmh_empty (n : Nat) (gs : List Row) : gmh n (gs ++ [[]]) = [] := by
  cases e : gmh n (gs ++ [[]]) with
  | nil => rfl
  | cons r l =>
    have h : r ∈ gmh n (gs ++ [[]]) := by rw [e]; exact .head _
    obtain ⟨a, ha, _⟩ := hits_iff.mp (gmh_mem.mp h).1.2 [] (by simp)
    cases ha
/-! ### the covers of the covers -/
def canon (n : Nat) (g : Row) : Row := (rangeI 0 n).filter fun x => decide (x ∈ g)
theorem mem_canon {n : Nat} {g : Row} {x : Int} : x ∈ canon n g ↔ (0 ≤ x ∧ x < n) ∧ x ∈ g := by
  unfold canon
  rw [List.mem_filter]
  simp only [decide_eq_true_eq]
  exact and_congr ⟨rangeI_mem, fun h => List.mem_map.mpr ⟨x.toNat, by simp; omega, by omega⟩⟩ Iff.rfl
theorem canon_sel (n : Nat) (g : Row) : canon n g ∈ Sel n := mem_Sel.mpr ⟨by
  unfold canon Asc
  refine List.Pairwise.filter _ ?_
  unfold rangeI
  refine List.pairwise_map.mpr (List.Pairwise.imp ?_ List.pairwise_lt_range)
  intro a b k; omega, fun x hx => (mem_canon.mp hx).1⟩
theorem hits_gmh {n : Nat} {gs : List Row} (hg : ∀ g ∈ gs, ∀ x ∈ g, 0 ≤ x ∧ x < n) {r : Row} (hr : r ∈ Sel n) : hits (gmh n gs) r = true ↔ ∃ g ∈ gs, sub g r = true := by
  constructor
  · intro h
    refine Classical.byContradiction fun hno => ?_
    have hno : ∀ g ∈ gs, ∃ a ∈ g, a ∉ r := fun g hgs => Classical.byContradiction fun k => hno ⟨g, hgs, sub_iff.mpr fun x hx => Classical.byContradiction fun z => k ⟨x, hx, z⟩⟩
    let c : Row := (rangeI 0 n).filter fun x => !decide (x ∈ r)
    have mc : ∀ x, x ∈ c ↔ (0 ≤ x ∧ x < n) ∧ x ∉ r := fun x => by
      show x ∈ (rangeI 0 n).filter _ ↔ _
      rw [List.mem_filter]
      simp only [Bool.not_eq_true', decide_eq_false_iff_not]
      exact and_congr ⟨rangeI_mem, fun h => List.mem_map.mpr ⟨x.toNat, by simp; omega, by omega⟩⟩ Iff.rfl
    have hc : c ∈ Sel n := mem_Sel.mpr ⟨by
      refine List.Pairwise.filter _ ?_
      unfold rangeI
      refine List.pairwise_map.mpr (List.Pairwise.imp ?_ List.pairwise_lt_range)
      intro a b k; omega, fun x hx => ((mc x).mp hx).1⟩
    obtain ⟨m, hm, hs⟩ := gmh_cover (gs := gs) hc (hits_iff.mpr fun g hgs => by
      obtain ⟨a, h1, h2⟩ := hno g hgs
      exact ⟨a, h1, (mc a).mpr ⟨hg g hgs a h1, h2⟩⟩)
    obtain ⟨a, h1, h2⟩ := hits_iff.mp h m hm
    exact ((mc a).mp (sub_iff.mp hs a h1)).2 h2
  · rintro ⟨g, hgs, hs⟩
    refine hits_iff.mpr fun m hm => ?_
    obtain ⟨a, h1, h2⟩ := hits_iff.mp (gmh_mem.mp hm).1.2 g hgs
    exact ⟨a, h2, sub_iff.mp hs a h1⟩
theorem gmh_gmh {n : Nat} {gs : List Row} (hg : ∀ g ∈ gs, ∀ x ∈ g, 0 ≤ x ∧ x < n) : gmh n (gmh n gs) = greedy ((Sel n).filter fun r => gs.any fun g => sub g r && sub r g) := by
  refine greedy_ext ((Sel_good n).filter _) ((Sel_good n).filter _) fun r => ?_
  show r ∈ gmh n (gmh n gs) ↔ _
  rw [gmh_mem, greedy_mem ((Sel_good n).filter _)]
  simp only [List.mem_filter, List.any_eq_true, Bool.and_eq_true]
  constructor
  · rintro ⟨⟨h1, h2⟩, h3⟩
    obtain ⟨g, hgs, hs⟩ := (hits_gmh hg h1).mp h2
    have cs := canon_sel n g
    have e := h3 (canon n g) cs ((hits_gmh hg cs).mpr ⟨g, hgs, sub_iff.mpr fun x hx => mem_canon.mpr ⟨hg g hgs x hx, hx⟩⟩) (sub_iff.mpr fun x hx => sub_iff.mp hs x (mem_canon.mp hx).2)
    refine ⟨⟨h1, g, hgs, hs, sub_iff.mpr fun x hx => ?_⟩, fun o ⟨ho, g', hg', k1, k2⟩ s => h3 o ho ((hits_gmh hg ho).mpr ⟨g', hg', k1⟩) s⟩
    rw [← e] at hx
    exact (mem_canon.mp hx).2
  · rintro ⟨⟨h1, g, hgs, k1, k2⟩, h3⟩
    refine ⟨⟨h1, (hits_gmh hg h1).mpr ⟨g, hgs, k1⟩⟩, fun o ho hh s => ?_⟩
    obtain ⟨g', hg', hs'⟩ := (hits_gmh hg ho).mp hh
    have cs := canon_sel n g'
    have e := h3 (canon n g') ⟨cs, g', hg', sub_iff.mpr fun x hx => mem_canon.mpr ⟨hg g' hg' x hx, hx⟩, sub_iff.mpr fun x hx => (mem_canon.mp hx).2⟩ (sub_iff.mpr fun x hx => sub_iff.mp s x (sub_iff.mp hs' x (mem_canon.mp hx).2))
    refine (mem_Sel.mp ho).1.anti (mem_Sel.mp h1).1 s (sub_iff.mpr fun x hx => ?_)
    rw [← e] at hx
    exact sub_iff.mp hs' x (mem_canon.mp hx).2
def Grp (names : List Str) (groups : List (List Str)) : Prop := ∀ g ∈ groups, (∀ x ∈ g, x ∈ names) ∧ g.length ≤ 8
def Gr (names g : List Str) : Prop := (∀ x ∈ g, x ∈ names) ∧ g.length ≤ 4
end K43
set_option maxHeartbeats 4000000
namespace K43
open PySem PySem.Spec PyProof.Rows L2 PD
def top (i : Nat) : Stmt := PySem.Challenge.pw_casesandwitnesses_k43_least_covers.main.body.getD i (.Pass ⟨0, 0, 0, 0⟩)
/-! ### what the printed lines ask -/
local macro_rules | `(tactic| walk_at "miss") => `(tactic| (fail "open"))
local macro_rules | `(tactic| walk_at "rt") => `(tactic| first | with_reducible exact rt_ret | (with_reducible refine rt_bind ?_ (fun x_ => ?_); (walk_at "nr"); (walk_at "rt")) | (split <;> walk_at "rt"))
local macro_rules | `(tactic| walk_at "nr") => `(tactic| first | with_reducible exact nr_ret | with_reducible exact nr_next | with_reducible exact nr_for | (with_reducible refine nr_bind ?_ (fun x_ => ?_); (walk_at "nr"); (walk_at "nr")) | (split <;> walk_at "nr"))
local macro_rules | `(tactic| walk_at "weak") => `(tactic| first | exact weak_rfl | (repeat (first | exact weak_rfl | refine weak_eq ?_ | refine weak_any ?_)))
local macro_rules | `(tactic| walk_at "ob") => `(tactic| first | omega | assumption | walk_at "miss")
local macro_rules | `(tactic| walk_at "lo") => `(tactic| walk_at "ob")
local macro_rules | `(tactic| walk_at "hi") => `(tactic| walk_at "ob")
local macro_rules | `(tactic| walk_at "pos") => `(tactic| first | decide | walk_at "ob")
local macro_rules | `(tactic| walk_at "div") => `(tactic| first | (exact ⟨by decide, by decide⟩) | (exact ⟨by omega, by omega⟩) | walk_at "miss")
local macro_rules | `(tactic| walk_at "mul") => `(tactic| first | exact Or.inl ⟨by decide, by decide⟩ | exact Or.inr ⟨by decide, by decide⟩ | exact Or.inl ⟨by omega, by omega⟩ | exact Or.inr ⟨by omega, by omega⟩ | walk_at "miss")
local macro_rules | `(tactic| walk_at "rng") => `(tactic| first | ((refine ⟨?_, ?_⟩) <;> omega) | ((refine ⟨?_, ?_, ?_, ?_⟩) <;> omega) | walk_at "miss")
local macro_rules | `(tactic| walk_at "small") => `(tactic| walk_at "ob")
local macro_rules | `(tactic| walk_at "size") => `(tactic| first | exact small_line (by omega) | (rw [sizeLine_eq]; walk_at "miss"))
local macro_rules | `(tactic| walk_at "append") => `(tactic| first | exact small_line' (by omega) | (rw [sizeLine_eq]; walk_at "miss"))
local macro_rules | `(tactic| walk_at "pre") => `(tactic| first | decide | assumption | omega | walk_at "miss")
local macro_rules | `(tactic| walk_at "nonempty") => `(tactic| first | omega | exact List.length_pos_iff.mpr (by assumption) | walk_at "miss")
local macro_rules | `(tactic| walk_at "mem") => `(tactic| first | assumption | walk_at "miss")
local macro_rules | `(tactic| walk_at "isQ") => `(tactic| first | assumption | walk_at "miss")
local macro_rules | `(tactic| walk_at "hiQ") => `(tactic| first | omega | walk_at "miss")
local macro_rules | `(tactic| walk_at "sameK") => `(tactic| first | assumption | walk_at "miss")
local macro_rules | `(tactic| walk_at "inv") => `(tactic| first | assumption | walk_at "miss")
local macro_rules | `(tactic| walk_at "blk") => `(tactic| first | decide +kernel | (simp only [bk_sc, cx_N, cx_sc]; decide +kernel))
local macro_rules | `(tactic| walk_at "inv0") => `(tactic| (subst_vars; first | trivial | simp))
local macro_rules | `(tactic| walk_at "nn") => `(tactic| first | with_reducible exact nn_ret | with_reducible exact nn_cnt | with_reducible exact nn_brk | (with_reducible refine nn_bind (fun x_ => ?_); (walk_at "nn")) | (split <;> walk_at "nn"))

def st1_least_of (s_ : (List (List Int))) (x_ : (Int × (List Int))) : LO (List (List Int)) (List (List Int)) (List (List Int)) :=
  match s_, x_ with
  | v_told, (v__, v_row) => (if (!((v_told.map fun (v_other : (List Int)) => ((v_other.map fun (v_at : Int) => (decide (v_at ∈ v_row))).all id)).any id)) then (LO.next (v_told ++ [v_row]) : LO (List (List Int)) (List (List Int)) (List (List Int))).bind fun (v_told : (List (List Int))) => LO.next v_told else LO.next v_told : LO (List (List Int)) (List (List Int)) (List (List Int))).bind fun (v_told : (List (List Int))) => LO.next v_told
def lo_least_of (v_rows : (List (List Int))) : LO Unit Unit (List (List Int)) := (LO.next ([] : (List (List Int))) : LO (List (List Int)) Unit (List (List Int))).bind fun (v_told : (List (List Int))) => (forL (st1_least_of) ((v_rows.map fun (v_row : (List Int)) => ((v_row.length : Int), v_row)).mergeSort (leT (eP D.int (eT D.int)))) v_told : LO (List (List Int)) Unit (List (List Int))).bind fun (v_told : (List (List Int))) => LO.ret v_told
def least_of (v_rows : (List (List Int))) : (List (List Int)) := (lo_least_of v_rows).get
theorem lo_least_of_eq (v_rows : (List (List Int))) : lo_least_of v_rows = .ret (least_of v_rows) := by
  refine Rt.eq ?_
  unfold lo_least_of
  walk_at "rt"
def R_least_of (ars : List Ar) (rr : Rr) : Prop := ∃ (v_rows : (List (List Int))), ars = [.dat ((eL (eT D.int)) v_rows)] ∧ rr = .own (.lst ((least_of v_rows).map (eT D.int)))
def st1_longer_rows (v_places : (List Int)) (s_ : (List (List Int))) (x_ : (List Int)) : LO (List (List Int)) (List (List Int)) (List (List Int)) :=
  match s_, x_ with
  | v_told, v_row => (if ((v_places.map fun (v_at : Int) => (decide (v_at ∈ v_row))).any id) then (LO.next (v_told ++ [v_row]) : LO (List (List Int)) (List (List Int)) (List (List Int))).bind fun (v_told : (List (List Int))) => LO.next v_told else (LO.next (v_told ++ (v_places.map fun (v_at : Int) => ((v_row ++ [v_at]).mergeSort (leT D.int)))) : LO (List (List Int)) (List (List Int)) (List (List Int))).bind fun (v_told : (List (List Int))) => LO.next v_told : LO (List (List Int)) (List (List Int)) (List (List Int))).bind fun (v_told : (List (List Int))) => LO.next v_told
def lo_longer_rows (v_rows : (List (List Int))) (v_places : (List Int)) : LO Unit Unit (List (List Int)) := (LO.next ([] : (List (List Int))) : LO (List (List Int)) Unit (List (List Int))).bind fun (v_told : (List (List Int))) => (forL (st1_longer_rows v_places) v_rows v_told : LO (List (List Int)) Unit (List (List Int))).bind fun (v_told : (List (List Int))) => LO.ret v_told
def longer_rows (v_rows : (List (List Int))) (v_places : (List Int)) : (List (List Int)) := (lo_longer_rows v_rows v_places).get
theorem lo_longer_rows_eq (v_rows : (List (List Int))) (v_places : (List Int)) (hp0_ : v_rows.length ≤ 1000 ∧ v_places.length ≤ 100 ∧ ∀ r ∈ v_rows, r.length ≤ 100) : lo_longer_rows v_rows v_places = .ret (longer_rows v_rows v_places) := by
  refine Rt.eq ?_
  unfold lo_longer_rows
  walk_at "rt"
def R_longer_rows (ars : List Ar) (rr : Rr) : Prop := ∃ (v_rows : (List (List Int))) (v_places : (List Int)), (v_rows.length ≤ 1000 ∧ v_places.length ≤ 100 ∧ ∀ r ∈ v_rows, r.length ≤ 100) ∧ ars = [.dat ((eL (eT D.int)) v_rows), .dat ((eL D.int) v_places)] ∧ rr = .own (.lst ((longer_rows v_rows v_places).map (eT D.int)))
def st1_least_covers (v_known : (List Str)) (s_ : (List (List Int))) (x_ : (List Str)) : LO (List (List Int)) (List (List Int)) (List (List Str)) :=
  match s_, x_ with
  | v_rows, v_group => (LO.next (v_group.map fun (v_name : Str) => (findI v_known v_name)) : LO (List Int) (List (List Int)) (List (List Str))).bind fun (v_places : (List Int)) => (LO.next (least_of (longer_rows v_rows v_places)) : LO (List (List Int)) (List (List Int)) (List (List Str))).bind fun (v_rows : (List (List Int))) => LO.next v_rows
def lo_least_covers (v_names : (List Str)) (v_groups : (List (List Str))) : LO Unit Unit (List (List Str)) := (LO.next v_names : LO (List Str) Unit (List (List Str))).bind fun (v_known : (List Str)) => (LO.next [([] : (List Int))] : LO (List (List Int)) Unit (List (List Str))).bind fun (v_rows : (List (List Int))) => (forL (st1_least_covers v_known) v_groups v_rows : LO (List (List Int)) Unit (List (List Str))).bind fun (v_rows : (List (List Int))) => LO.ret (v_rows.map fun (v_row : (List Int)) => (v_row.map fun (v_at : Int) => (v_known.getD (v_at).toNat default)))
def least_covers (v_names : (List Str)) (v_groups : (List (List Str))) : (List (List Str)) := (lo_least_covers v_names v_groups).get
theorem lo_least_covers_eq (v_names : (List Str)) (v_groups : (List (List Str))) (hp0_ : v_names.length ≤ 8) (hp1_ : Grp v_names v_groups) : lo_least_covers v_names v_groups = .ret (least_covers v_names v_groups) := by
  refine Rt.eq ?_
  unfold lo_least_covers
  walk_at "rt"
def R_least_covers (ars : List Ar) (rr : Rr) : Prop := ∃ (v_names : (List Str)) (v_groups : (List (List Str))), (v_names.length ≤ 8) ∧ (Grp v_names v_groups) ∧ ars = [.dat ((eL D.str) v_names), .dat ((eL (eT D.str)) v_groups)] ∧ rr = .own (.lst ((least_covers v_names v_groups).map (eT D.str)))
def lo_law_cell (v_script : (List Int)) (v_k : Int) : LO Unit Unit Int := (if (decide (v_k < (v_script.length : Int))) then LO.ret (v_script.getD (v_k).toNat default) else LO.next () : LO Unit Unit Int).bind fun (_ : Unit) => LO.ret (0 : Int)
def law_cell (v_script : (List Int)) (v_k : Int) : Int := (lo_law_cell v_script v_k).get
theorem lo_law_cell_eq (v_script : (List Int)) (v_k : Int) (hp0_ : 0 ≤ v_k) : lo_law_cell v_script v_k = .ret (law_cell v_script v_k) := by
  refine Rt.eq ?_
  unfold lo_law_cell
  walk_at "rt"
def R_law_cell (ars : List Ar) (rr : Rr) : Prop := ∃ (v_script : (List Int)) (v_k : Int), (0 ≤ v_k) ∧ ars = [.dat ((eL D.int) v_script), .dat (D.int v_k)] ∧ rr = .dat (D.int (law_cell v_script v_k))
def st1_law_digits (s_ : ((List Int) × Int × Int)) (x_ : Int) : LO ((List Int) × Int × Int) ((List Int) × Int × Int) (List Int) :=
  match s_, x_ with
  | (v_row, v_rest, v_seed), v_k => (if (decide ((0 : Int) < v_rest)) then (LO.next (v_row ++ [(v_rest % (840 : Int))]) : LO (List Int) ((List Int) × Int × Int) (List Int)).bind fun (v_row : (List Int)) => (LO.next (v_rest / (840 : Int)) : LO Int ((List Int) × Int × Int) (List Int)).bind fun (v_rest : Int) => LO.next (v_row, v_rest, v_seed) else (LO.next ((((v_seed * (48271 : Int)) + ((11 : Int) * v_k)) + (7 : Int)) % (2147483647 : Int)) : LO Int ((List Int) × Int × Int) (List Int)).bind fun (v_seed : Int) => (LO.next (v_row ++ [(((((v_seed * (69621 : Int)) + (v_k * v_k)) + (3 : Int)) % (2147483629 : Int)) % (840 : Int))]) : LO (List Int) ((List Int) × Int × Int) (List Int)).bind fun (v_row : (List Int)) => LO.next (v_row, v_rest, v_seed) : LO ((List Int) × Int × Int) ((List Int) × Int × Int) (List Int)).bind fun x_ => match x_ with | (v_row, v_rest, v_seed) => LO.next (v_row, v_rest, v_seed)
def lo_law_digits (v_cell : Int) (v_many : Int) : LO Unit Unit (List Int) := (LO.next ([] : (List Int)) : LO (List Int) Unit (List Int)).bind fun (v_row : (List Int)) => (LO.next (0 : Int) : LO Int Unit (List Int)).bind fun (v_rest : Int) => (if (decide (((10 : Int) ^ ((18 : Int)).toNat) ≤ (if v_cell < 0 then -v_cell else v_cell))) then (LO.next (if v_cell < 0 then -v_cell else v_cell) : LO Int Unit (List Int)).bind fun (v_rest : Int) => LO.next v_rest else LO.next v_rest : LO Int Unit (List Int)).bind fun (v_rest : Int) => (LO.next (v_cell % (2147483647 : Int)) : LO Int Unit (List Int)).bind fun (v_seed : Int) => (forL (st1_law_digits) (rangeI 0 v_many) (v_row, v_rest, v_seed) : LO ((List Int) × Int × Int) Unit (List Int)).bind fun x_ => match x_ with | (v_row, v_rest, v_seed) => LO.ret (v_row.reverse)
def law_digits (v_cell : Int) (v_many : Int) : (List Int) := (lo_law_digits v_cell v_many).get
theorem lo_law_digits_eq (v_cell : Int) (v_many : Int) (hp0_ : 0 ≤ v_many ∧ v_many ≤ 1000) : lo_law_digits v_cell v_many = .ret (law_digits v_cell v_many) := by
  refine Rt.eq ?_
  unfold lo_law_digits
  walk_at "rt"
def R_law_digits (ars : List Ar) (rr : Rr) : Prop := ∃ (v_cell : Int) (v_many : Int), (0 ≤ v_many ∧ v_many ≤ 1000) ∧ ars = [.dat (D.int v_cell), .dat (D.int v_many)] ∧ rr = .own (.lst ((law_digits v_cell v_many).map D.int))
def lo_law_take (v_row : (List Int)) (v_many : Int) : LO Unit Unit (Int × (List Int)) := (if (decide ((v_row.length : Int) = (0 : Int))) then LO.ret ((0 : Int), v_row) else LO.next () : LO Unit Unit (Int × (List Int))).bind fun (_ : Unit) => LO.ret (((v_row.getLastD default) % v_many), v_row.dropLast)
def law_take (v_row : (List Int)) (v_many : Int) : (Int × (List Int)) := (lo_law_take v_row v_many).get
theorem lo_law_take_eq (v_row : (List Int)) (v_many : Int) (hp0_ : 0 < v_many) : lo_law_take v_row v_many = .ret (law_take v_row v_many) := by
  refine Rt.eq ?_
  unfold lo_law_take
  walk_at "rt"
def R_law_take (ars : List Ar) (rr : Rr) : Prop := ∃ (v_row : (List Int)) (v_many : Int), (0 < v_many) ∧ ars = [.mu (.lst (v_row.map D.int)) (.lst ((law_take v_row v_many).2.map D.int)), .dat (D.int v_many)] ∧ rr = .dat (D.int (law_take v_row v_many).1)
def st1_law_words (v_letters : Str) (v_front : Int) (s_ : ((List Int) × (List Str))) (x_ : Int) : LO ((List Int) × (List Str)) ((List Int) × (List Str)) ((List Str) × (List Int)) :=
  match s_, x_ with
  | (v_row, v_told), v_k => (LO.next ((law_take v_row (840 : Int)).1, (law_take v_row (840 : Int)).2) : LO (Int × (List Int)) ((List Int) × (List Str)) ((List Str) × (List Int))).bind fun x_ => match x_ with | (v_d, v_row) => (LO.next (strRep ((strAt v_letters (v_d % (26 : Int))) ++ (strAt v_letters ((v_d / (26 : Int)) % (26 : Int)))) (v_d % (3 : Int))) : LO Str ((List Int) × (List Str)) ((List Str) × (List Int))).bind fun (v_body : Str) => (if (decide (v_front = (1 : Int))) then (LO.next (v_told ++ [((strAt v_letters v_k) ++ v_body)]) : LO (List Str) ((List Int) × (List Str)) ((List Str) × (List Int))).bind fun (v_told : (List Str)) => LO.next v_told else (LO.next (v_told ++ [(v_body ++ (strAt v_letters v_k))]) : LO (List Str) ((List Int) × (List Str)) ((List Str) × (List Int))).bind fun (v_told : (List Str)) => LO.next v_told : LO (List Str) ((List Int) × (List Str)) ((List Str) × (List Int))).bind fun (v_told : (List Str)) => LO.next (v_row, v_told)
def lo_law_words (v_row : (List Int)) (v_count : Int) : LO Unit Unit ((List Str) × (List Int)) := (LO.next ("abcdefghijklmnopqrstuvwxyz" : Str) : LO Str Unit ((List Str) × (List Int))).bind fun (v_letters : Str) => (LO.next ((law_take v_row (2 : Int)).1, (law_take v_row (2 : Int)).2) : LO (Int × (List Int)) Unit ((List Str) × (List Int))).bind fun x_ => match x_ with | (v_front, v_row) => (LO.next ([] : (List Str)) : LO (List Str) Unit ((List Str) × (List Int))).bind fun (v_told : (List Str)) => (forL (st1_law_words v_letters v_front) (rangeI 0 v_count) (v_row, v_told) : LO ((List Int) × (List Str)) Unit ((List Str) × (List Int))).bind fun x_ => match x_ with | (v_row, v_told) => LO.ret (v_told, v_row)
def law_words (v_row : (List Int)) (v_count : Int) : ((List Str) × (List Int)) := (lo_law_words v_row v_count).get
theorem lo_law_words_eq (v_row : (List Int)) (v_count : Int) (hp0_ : 0 ≤ v_count ∧ v_count ≤ 26) : lo_law_words v_row v_count = .ret (law_words v_row v_count) := by
  refine Rt.eq ?_
  unfold lo_law_words
  walk_at "rt"
def R_law_words (ars : List Ar) (rr : Rr) : Prop := ∃ (v_row : (List Int)) (v_count : Int), (0 ≤ v_count ∧ v_count ≤ 26) ∧ ars = [.mu (.lst (v_row.map D.int)) (.lst ((law_words v_row v_count).2.map D.int)), .dat (D.int v_count)] ∧ rr = .own (.lst ((law_words v_row v_count).1.map D.str))
def lo_law_flat (v_actual : D) (v_due : D) : LO Unit Unit Bool := (if (v_due.isB || v_actual.isB) then LO.ret (v_due.isB && (v_actual.isB && (eqF v_actual v_due))) else LO.next () : LO Unit Unit Bool).bind fun (_ : Unit) => (if v_due.isI then LO.ret (v_actual.isI && (eqF v_actual v_due)) else LO.next () : LO Unit Unit Bool).bind fun (_ : Unit) => (if v_due.isS then LO.ret (v_actual.isS && (eqF v_actual v_due)) else LO.next () : LO Unit Unit Bool).bind fun (_ : Unit) => LO.ret (((eD v_due).isNon) && ((eD v_actual).isNon))
def law_flat (v_actual : D) (v_due : D) : Bool := (lo_law_flat v_actual v_due).get
theorem lo_law_flat_eq (v_actual : D) (v_due : D) : lo_law_flat v_actual v_due = .ret (law_flat v_actual v_due) := by
  refine Rt.eq ?_
  unfold lo_law_flat
  walk_at "rt"
def R_law_flat (ars : List Ar) (rr : Rr) : Prop := ∃ (v_actual : D) (v_due : D), ars = [.dat (v_actual), .dat (v_due)] ∧ rr = .dat (D.bl (law_flat v_actual v_due))
def st1_law_alike (s_ : (List (D × D))) (x_ : Int) : LO (List (D × D)) (List (D × D)) Bool :=
  match s_, x_ with
  | v_pairs, v_k => (if (decide ((v_pairs.length : Int) = (0 : Int))) then LO.ret true else LO.next () : LO Unit (List (D × D)) Bool).bind fun (_ : Unit) => (LO.next (v_pairs.getLastD default) : LO (D × D) (List (D × D)) Bool).bind fun x_ => match x_ with | (v_one, v_other) => (if (v_other.isT || v_other.isL) then (if (((!decide (v_one.isT = v_other.isT))) || ((!decide (v_one.isL = v_other.isL)))) then LO.ret false else LO.next () : LO Unit (List (D × D)) Bool).bind fun (_ : Unit) => (if ((!decide ((v_one.items.length : Int) = (v_other.items.length : Int)))) then LO.ret false else LO.next () : LO Unit (List (D × D)) Bool).bind fun (_ : Unit) => (LO.next (v_pairs.dropLast ++ ((rangeI 0 (v_other.items.length : Int)).map fun (v_n : Int) => ((v_one.items.getD (v_n).toNat default), (v_other.items.getD (v_n).toNat default)))) : LO (List (D × D)) (List (D × D)) Bool).bind fun (v_pairs : (List (D × D))) => LO.next v_pairs else (if (!(law_flat v_one v_other)) then LO.ret false else LO.next () : LO Unit (List (D × D)) Bool).bind fun (_ : Unit) => LO.next v_pairs.dropLast : LO (List (D × D)) (List (D × D)) Bool).bind fun (v_pairs : (List (D × D))) => LO.next v_pairs
def lo_law_alike (v_actual : D) (v_due : D) : LO Unit Unit Bool := (LO.next [(v_actual, v_due)] : LO (List (D × D)) Unit Bool).bind fun (v_pairs : (List (D × D))) => (forL (st1_law_alike) (rangeI 0 (100000 : Int)) v_pairs : LO (List (D × D)) Unit Bool).bind fun (v_pairs : (List (D × D))) => LO.ret false
def law_alike (v_actual : D) (v_due : D) : Bool := (lo_law_alike v_actual v_due).get
theorem lo_law_alike_eq (v_actual : D) (v_due : D) (hp0_ : v_due.nodes ≤ 50000) : lo_law_alike v_actual v_due = .ret (law_alike v_actual v_due) := by
  refine Rt.eq ?_
  unfold lo_law_alike
  walk_at "rt"
def R_law_alike (ars : List Ar) (rr : Rr) : Prop := ∃ (v_actual : D) (v_due : D), (v_due.nodes ≤ 50000) ∧ ars = [.dat (v_actual), .dat (v_due)] ∧ rr = .dat (D.bl (law_alike v_actual v_due))
def lo_law_inside (v_one : (List Str)) (v_other : (List Str)) : LO Unit Unit Bool := LO.ret ((v_one.map fun (v_name : Str) => (decide (v_name ∈ v_other))).all id)
def law_inside (v_one : (List Str)) (v_other : (List Str)) : Bool := (lo_law_inside v_one v_other).get
theorem lo_law_inside_eq (v_one : (List Str)) (v_other : (List Str)) : lo_law_inside v_one v_other = .ret (law_inside v_one v_other) := by
  refine Rt.eq ?_
  unfold lo_law_inside
  walk_at "rt"
def R_law_inside (ars : List Ar) (rr : Rr) : Prop := ∃ (v_one : (List Str)) (v_other : (List Str)), ars = [.dat ((eT D.str) v_one), .dat ((eT D.str) v_other)] ∧ rr = .dat (D.bl (law_inside v_one v_other))
def st1_law_selections (s_ : (List (List Int))) (x_ : Int) : LO (List (List Int)) (List (List Int)) (List (List Str)) :=
  match s_, x_ with
  | v_rows, v_at => (LO.next (v_rows ++ (v_rows.map fun (v_row : (List Int)) => (v_row ++ [v_at]))) : LO (List (List Int)) (List (List Int)) (List (List Str))).bind fun (v_rows : (List (List Int))) => LO.next v_rows
def st2_law_selections (v_names : (List Str)) (s_ : (List (List Str))) (x_ : (Int × (List Int))) : LO (List (List Str)) (List (List Str)) (List (List Str)) :=
  match s_, x_ with
  | v_told, v_key => (LO.next (v_told ++ [((v_key.2).map fun (v_at : Int) => (v_names.getD (v_at).toNat default))]) : LO (List (List Str)) (List (List Str)) (List (List Str))).bind fun (v_told : (List (List Str))) => LO.next v_told
def lo_law_selections (v_names : (List Str)) : LO Unit Unit (List (List Str)) := (LO.next [([] : (List Int))] : LO (List (List Int)) Unit (List (List Str))).bind fun (v_rows : (List (List Int))) => (forL (st1_law_selections) (rangeI 0 (v_names.length : Int)) v_rows : LO (List (List Int)) Unit (List (List Str))).bind fun (v_rows : (List (List Int))) => (LO.next ([] : (List (List Str))) : LO (List (List Str)) Unit (List (List Str))).bind fun (v_told : (List (List Str))) => (forL (st2_law_selections v_names) ((v_rows.map fun (v_row : (List Int)) => ((v_row.length : Int), v_row)).mergeSort (leT (eP D.int (eT D.int)))) v_told : LO (List (List Str)) Unit (List (List Str))).bind fun (v_told : (List (List Str))) => LO.ret v_told
def law_selections (v_names : (List Str)) : (List (List Str)) := (lo_law_selections v_names).get
theorem lo_law_selections_eq (v_names : (List Str)) (hp0_ : v_names.length ≤ 8) : lo_law_selections v_names = .ret (law_selections v_names) := by
  refine Rt.eq ?_
  unfold lo_law_selections
  walk_at "rt"
def R_law_selections (ars : List Ar) (rr : Rr) : Prop := ∃ (v_names : (List Str)), (v_names.length ≤ 8) ∧ ars = [.dat ((eL D.str) v_names)] ∧ rr = .own (.lst ((law_selections v_names).map (eT D.str)))
def lo_law_names (v_row : (List Int)) : LO Unit Unit ((List Str) × (List Int)) := (LO.next ((law_words v_row (8 : Int)).1, (law_words v_row (8 : Int)).2) : LO ((List Str) × (List Int)) Unit ((List Str) × (List Int))).bind fun x_ => match x_ with | (v_words, v_row) => (LO.next ((law_take v_row (8 : Int)).1, (law_take v_row (8 : Int)).2) : LO (Int × (List Int)) Unit ((List Str) × (List Int))).bind fun x_ => match x_ with | (v_turn, v_row) => (LO.next ((cutL v_words (some v_turn) none) ++ (cutL v_words none (some v_turn))) : LO (List Str) Unit ((List Str) × (List Int))).bind fun (v_names : (List Str)) => (if (decide ((law_take v_row (2 : Int)).1 = (1 : Int))) then (LO.next ((v_names.reverse), (law_take v_row (2 : Int)).2) : LO ((List Str) × (List Int)) Unit ((List Str) × (List Int))).bind fun x_ => match x_ with | (v_names, v_row) => LO.next (v_names, v_row) else LO.next (v_names, (law_take v_row (2 : Int)).2) : LO ((List Str) × (List Int)) Unit ((List Str) × (List Int))).bind fun x_ => match x_ with | (v_names, v_row) => LO.ret ((cutL v_names none (some ([(4 : Int), (3 : Int), (5 : Int), (8 : Int), (2 : Int), (6 : Int), (0 : Int), (1 : Int), (7 : Int), (4 : Int)].getD ((law_take v_row (10 : Int)).1).toNat default))), (law_take v_row (10 : Int)).2)
def law_names (v_row : (List Int)) : ((List Str) × (List Int)) := (lo_law_names v_row).get
theorem lo_law_names_eq (v_row : (List Int)) : lo_law_names v_row = .ret (law_names v_row) := by
  refine Rt.eq ?_
  unfold lo_law_names
  walk_at "rt"
def R_law_names (ars : List Ar) (rr : Rr) : Prop := ∃ (v_row : (List Int)), ars = [.mu (.lst (v_row.map D.int)) (.lst ((law_names v_row).2.map D.int))] ∧ rr = .own (.lst ((law_names v_row).1.map D.str))
def cs1_law_group (v_names : (List Str)) (v_row : (List Int)) (x_ : Int) : (List Int) × Option Str :=
  match x_ with
  | v_k => ((law_take v_row (v_names.length : Int)).2, some (v_names.getD ((law_take v_row (v_names.length : Int)).1).toNat default))
def lo_law_group (v_row : (List Int)) (v_names : (List Str)) (v_groups : (List (List Str))) : LO Unit Unit ((List Str) × (List Int)) := (if ((decide ((v_names.length : Int) = (0 : Int))) || (decide ((law_take v_row (25 : Int)).1 = (7 : Int)))) then LO.ret (([] : (List Str)), (if (decide ((v_names.length : Int) = (0 : Int))) = true then v_row else (law_take v_row (25 : Int)).2)) else LO.next (if (decide ((v_names.length : Int) = (0 : Int))) = true then v_row else (law_take v_row (25 : Int)).2) : LO (List Int) Unit ((List Str) × (List Int))).bind fun (v_row : (List Int)) => (if ((decide ((0 : Int) < (v_groups.length : Int))) && (decide ((law_take v_row (4 : Int)).1 = (1 : Int)))) then (LO.next ((v_groups.getD ((law_take (if (decide ((0 : Int) < (v_groups.length : Int))) = true then (law_take v_row (4 : Int)).2 else v_row) (v_groups.length : Int)).1).toNat default), (law_take (if (decide ((0 : Int) < (v_groups.length : Int))) = true then (law_take v_row (4 : Int)).2 else v_row) (v_groups.length : Int)).2) : LO ((List Str) × (List Int)) Unit ((List Str) × (List Int))).bind fun x_ => match x_ with | (v_base, v_row) => (LO.next ((law_take v_row (3 : Int)).1, (law_take v_row (3 : Int)).2) : LO (Int × (List Int)) Unit ((List Str) × (List Int))).bind fun x_ => match x_ with | (v_way, v_row) => (if (decide (v_way = (0 : Int))) then LO.ret ((v_base.reverse), v_row) else LO.next () : LO Unit Unit ((List Str) × (List Int))).bind fun (_ : Unit) => (if ((decide (v_way = (1 : Int))) || (decide ((3 : Int) < (v_base.length : Int)))) then LO.ret ((cutL v_base (some (1 : Int)) none), v_row) else LO.next () : LO Unit Unit ((List Str) × (List Int))).bind fun (_ : Unit) => LO.ret ((v_base ++ [(v_names.getD ((law_take v_row (v_names.length : Int)).1).toNat default)]), (law_take v_row (v_names.length : Int)).2) else LO.next (if (decide ((0 : Int) < (v_groups.length : Int))) = true then (law_take v_row (4 : Int)).2 else v_row) : LO (List Int) Unit ((List Str) × (List Int))).bind fun (v_row : (List Int)) => LO.ret ((compL (cs1_law_group v_names) (rangeI 0 ([(2 : Int), (3 : Int), (1 : Int), (2 : Int), (4 : Int), (3 : Int), (2 : Int), (1 : Int)].getD ((law_take v_row (8 : Int)).1).toNat default)) ((law_take v_row (8 : Int)).2)).2, (compL (cs1_law_group v_names) (rangeI 0 ([(2 : Int), (3 : Int), (1 : Int), (2 : Int), (4 : Int), (3 : Int), (2 : Int), (1 : Int)].getD ((law_take v_row (8 : Int)).1).toNat default)) ((law_take v_row (8 : Int)).2)).1)
def law_group (v_row : (List Int)) (v_names : (List Str)) (v_groups : (List (List Str))) : ((List Str) × (List Int)) := (lo_law_group v_row v_names v_groups).get
theorem lo_law_group_eq (v_row : (List Int)) (v_names : (List Str)) (v_groups : (List (List Str))) (hp0_ : ∀ g ∈ v_groups, Gr v_names g) : lo_law_group v_row v_names v_groups = .ret (law_group v_row v_names v_groups) := by
  refine Rt.eq ?_
  unfold lo_law_group
  walk_at "rt"
def R_law_group (ars : List Ar) (rr : Rr) : Prop := ∃ (v_row : (List Int)) (v_names : (List Str)) (v_groups : (List (List Str))), (∀ g ∈ v_groups, Gr v_names g) ∧ ars = [.mu (.lst (v_row.map D.int)) (.lst ((law_group v_row v_names v_groups).2.map D.int)), .dat ((eL D.str) v_names), .mu (.lst (v_groups.map (eT D.str))) (.lst (v_groups.map (eT D.str)))] ∧ rr = .dat ((eT D.str) (law_group v_row v_names v_groups).1)
def st1_law_meets (v_chosen : (List Str)) (s_ : Unit) (x_ : (List Str)) : LO Unit Unit Bool :=
  match s_, x_ with
  | (), v_group => (if (!((v_group.map fun (v_name : Str) => (decide (v_name ∈ v_chosen))).any id)) then LO.ret false else LO.next () : LO Unit Unit Bool).bind fun (_ : Unit) => LO.next ()
def lo_law_meets (v_chosen : (List Str)) (v_groups : (List (List Str))) : LO Unit Unit Bool := (forL (st1_law_meets v_chosen) v_groups () : LO Unit Unit Bool).bind fun (_ : Unit) => LO.ret true
def law_meets (v_chosen : (List Str)) (v_groups : (List (List Str))) : Bool := (lo_law_meets v_chosen v_groups).get
theorem lo_law_meets_eq (v_chosen : (List Str)) (v_groups : (List (List Str))) : lo_law_meets v_chosen v_groups = .ret (law_meets v_chosen v_groups) := by
  refine Rt.eq ?_
  unfold lo_law_meets
  walk_at "rt"
def R_law_meets (ars : List Ar) (rr : Rr) : Prop := ∃ (v_chosen : (List Str)) (v_groups : (List (List Str))), ars = [.dat ((eT D.str) v_chosen), .dat ((eL (eT D.str)) v_groups)] ∧ rr = .dat (D.bl (law_meets v_chosen v_groups))
def st1_law_due_covers (v_groups : (List (List Str))) (s_ : (List (List Str))) (x_ : (List Str)) : LO (List (List Str)) (List (List Str)) (List (List Str)) :=
  match s_, x_ with
  | v_told, v_chosen => (if ((law_meets v_chosen v_groups) && (!((v_told.map fun (v_one : (List Str)) => (law_inside v_one v_chosen)).any id))) then (LO.next (v_told ++ [v_chosen]) : LO (List (List Str)) (List (List Str)) (List (List Str))).bind fun (v_told : (List (List Str))) => LO.next v_told else LO.next v_told : LO (List (List Str)) (List (List Str)) (List (List Str))).bind fun (v_told : (List (List Str))) => LO.next v_told
def lo_law_due_covers (v_names : (List Str)) (v_groups : (List (List Str))) : LO Unit Unit (List (List Str)) := (LO.next ([] : (List (List Str))) : LO (List (List Str)) Unit (List (List Str))).bind fun (v_told : (List (List Str))) => (forL (st1_law_due_covers v_groups) (law_selections v_names) v_told : LO (List (List Str)) Unit (List (List Str))).bind fun (v_told : (List (List Str))) => LO.ret v_told
def law_due_covers (v_names : (List Str)) (v_groups : (List (List Str))) : (List (List Str)) := (lo_law_due_covers v_names v_groups).get
theorem lo_law_due_covers_eq (v_names : (List Str)) (v_groups : (List (List Str))) (hp0_ : v_names.length ≤ 8) : lo_law_due_covers v_names v_groups = .ret (law_due_covers v_names v_groups) := by
  refine Rt.eq ?_
  unfold lo_law_due_covers
  walk_at "rt"
def R_law_due_covers (ars : List Ar) (rr : Rr) : Prop := ∃ (v_names : (List Str)) (v_groups : (List (List Str))), (v_names.length ≤ 8) ∧ ars = [.dat ((eL D.str) v_names), .dat ((eL (eT D.str)) v_groups)] ∧ rr = .own (.lst ((law_due_covers v_names v_groups).map (eT D.str)))
def st1_law_due_groups (v_groups : (List (List Str))) (s_ : (List (List Str))) (x_ : (List Str)) : LO (List (List Str)) (List (List Str)) (List (List Str)) :=
  match s_, x_ with
  | v_told, v_chosen => (LO.next ((v_groups.filter fun (v_group : (List Str)) => ((law_inside v_group v_chosen) && (law_inside v_chosen v_group))).map fun (v_group : (List Str)) => v_group) : LO (List (List Str)) (List (List Str)) (List (List Str))).bind fun (v_like : (List (List Str))) => (if ((decide ((0 : Int) < (v_like.length : Int))) && (!((v_told.map fun (v_one : (List Str)) => (law_inside v_one v_chosen)).any id))) then (LO.next (v_told ++ [v_chosen]) : LO (List (List Str)) (List (List Str)) (List (List Str))).bind fun (v_told : (List (List Str))) => LO.next v_told else LO.next v_told : LO (List (List Str)) (List (List Str)) (List (List Str))).bind fun (v_told : (List (List Str))) => LO.next v_told
def lo_law_due_groups (v_names : (List Str)) (v_groups : (List (List Str))) : LO Unit Unit (List (List Str)) := (LO.next ([] : (List (List Str))) : LO (List (List Str)) Unit (List (List Str))).bind fun (v_told : (List (List Str))) => (forL (st1_law_due_groups v_groups) (law_selections v_names) v_told : LO (List (List Str)) Unit (List (List Str))).bind fun (v_told : (List (List Str))) => LO.ret v_told
def law_due_groups (v_names : (List Str)) (v_groups : (List (List Str))) : (List (List Str)) := (lo_law_due_groups v_names v_groups).get
theorem lo_law_due_groups_eq (v_names : (List Str)) (v_groups : (List (List Str))) (hp0_ : v_names.length ≤ 8) : lo_law_due_groups v_names v_groups = .ret (law_due_groups v_names v_groups) := by
  refine Rt.eq ?_
  unfold lo_law_due_groups
  walk_at "rt"
def R_law_due_groups (ars : List Ar) (rr : Rr) : Prop := ∃ (v_names : (List Str)) (v_groups : (List (List Str))), (v_names.length ≤ 8) ∧ ars = [.dat ((eL D.str) v_names), .dat ((eL (eT D.str)) v_groups)] ∧ rr = .own (.lst ((law_due_groups v_names v_groups).map (eT D.str)))
def st1_law (v_names : (List Str)) (s_ : ((List (List Str)) × (List Int))) (x_ : Int) : LO ((List (List Str)) × (List Int)) ((List (List Str)) × (List Int)) Bool :=
  match s_, x_ with
  | (v_groups, v_row), v_k => (LO.next ((v_groups ++ [(law_group v_row v_names v_groups).1]), (law_group v_row v_names v_groups).2) : LO ((List (List Str)) × (List Int)) ((List (List Str)) × (List Int)) Bool).bind fun x_ => match x_ with | (v_groups, v_row) => LO.next (v_groups, v_row)
def lo_law (v_script : (List Int)) : LO Unit Unit Bool := (LO.next (law_names (law_digits (law_cell v_script (0 : Int)) (12 : Int))).1 : LO (List Str) Unit Bool).bind fun (v_names : (List Str)) => (LO.next (law_digits ((law_cell v_script (1 : Int)) + (3 : Int)) (50 : Int)) : LO (List Int) Unit Bool).bind fun (v_row : (List Int)) => (LO.next ([] : (List (List Str))) : LO (List (List Str)) Unit Bool).bind fun (v_groups : (List (List Str))) => (forL (st1_law v_names) (rangeI 0 (law_take v_row (7 : Int)).1) (v_groups, (law_take v_row (7 : Int)).2) : LO ((List (List Str)) × (List Int)) Unit Bool).bind fun x_ => match x_ with | (v_groups, v_row) => (LO.next (law_due_covers v_names v_groups) : LO (List (List Str)) Unit Bool).bind fun (v_due : (List (List Str))) => (LO.next (v_names, v_groups) : LO ((List Str) × (List (List Str))) Unit Bool).bind fun (v_handed : ((List Str) × (List (List Str)))) => (LO.next (least_covers (v_handed.1) (v_handed.2)) : LO (List (List Str)) Unit Bool).bind fun (v_told : (List (List Str))) => (if ((!(law_alike ((eL (eT D.str)) v_told) ((eL (eT D.str)) v_due))) || (!(law_alike ((eH (eL D.str) (eL (eT D.str))) v_handed) (D.lst [(eL D.str) v_names, (eL (eT D.str)) v_groups])))) then LO.ret false else LO.next () : LO Unit Unit Bool).bind fun (_ : Unit) => (LO.next (v_told ++ [[("spoilt" : Str)]]) : LO (List (List Str)) Unit Bool).bind fun (v_told : (List (List Str))) => (if (!(law_alike ((eL (eT D.str)) (least_covers (v_handed.1) (v_handed.2))) ((eL (eT D.str)) v_due))) then LO.ret false else LO.next () : LO Unit Unit Bool).bind fun (_ : Unit) => (if (!(law_alike ((eL (eT D.str)) (least_covers v_names ([] : (List (List Str))))) (D.lst [(D.tup [])]))) then LO.ret false else LO.next () : LO Unit Unit Bool).bind fun (_ : Unit) => (if (!(law_alike ((eL (eT D.str)) (least_covers v_names (v_groups ++ [([] : (List Str))]))) (D.lst []))) then LO.ret false else LO.next () : LO Unit Unit Bool).bind fun (_ : Unit) => LO.ret (law_alike ((eL (eT D.str)) (least_covers v_names v_due)) ((eL (eT D.str)) (law_due_groups v_names v_groups)))
def law (v_script : (List Int)) : Bool := (lo_law v_script).get
theorem lo_law_eq (v_script : (List Int)) : lo_law v_script = .ret (law v_script) := by
  refine Rt.eq ?_
  unfold lo_law
  walk_at "rt"
def R_law (ars : List Ar) (rr : Rr) : Prop := ∃ (v_script : (List Int)), ars = [.dat ((eL D.int) v_script)] ∧ rr = .dat (D.bl (law v_script))
/-! ### what is computed -/
theorem law_take_post (row : List Int) (many : Int) (h : 0 < many) : 0 ≤ (law_take row many).1 ∧ (law_take row many).1 < many := by
  unfold law_take lo_law_take
  split
  · exact ⟨Int.le_refl 0, h⟩
  · exact ⟨Int.emod_nonneg _ (by omega), Int.emod_lt_of_pos _ h⟩
def nm (names : List Str) (r : Row) : List Str := r.map fun a => names.getD a.toNat default
def pl (names : List Str) (g : List Str) : Row := g.map (findI names)
theorem findI_range {names : List Str} {x : Str} (h : x ∈ names) : 0 ≤ findI names x ∧ findI names x < names.length := by
  have : (names.findIdx fun y => decide (y = x)) < names.length := List.findIdx_lt_length_of_exists ⟨x, h, by simp⟩
  unfold findI; omega
theorem getD_findI {names : List Str} {x : Str} (h : x ∈ names) : names.getD (findI names x).toNat default = x := by
  have hlt : (names.findIdx fun y => decide (y = x)) < names.length := List.findIdx_lt_length_of_exists ⟨x, h, by simp⟩
  have := List.findIdx_getElem (w := hlt)
  unfold findI
  rw [Int.toNat_natCast, List.getD_eq_getElem?_getD, List.getElem?_eq_getElem hlt]
  simpa using this
theorem getD_mem {names : List Str} {a : Int} (h : 0 ≤ a ∧ a < names.length) : names.getD a.toNat default ∈ names := by
  have : a.toNat < names.length := by omega
  rw [List.getD_eq_getElem?_getD, List.getElem?_eq_getElem this]
  exact List.getElem_mem this
theorem getD_inj {names : List Str} (hn : names.Nodup) {a b : Int} (ha : 0 ≤ a ∧ a < names.length) (hb : 0 ≤ b ∧ b < names.length) (e : names.getD a.toNat default = names.getD b.toNat default) : a = b := by
  have h1 : a.toNat < names.length := by omega
  have h2 : b.toNat < names.length := by omega
  rw [List.getD_eq_getElem?_getD, List.getD_eq_getElem?_getD, List.getElem?_eq_getElem h1, List.getElem?_eq_getElem h2] at e
  have := (List.getElem_inj hn).mp (by simpa using e)
  omega
theorem findI_getD {names : List Str} (hn : names.Nodup) {a : Int} (ha : 0 ≤ a ∧ a < names.length) : findI names (names.getD a.toNat default) = a :=
  getD_inj hn (findI_range (getD_mem ha)) ha (getD_findI (getD_mem ha))
def Rg (n : Nat) (r : Row) : Prop := ∀ x ∈ r, 0 ≤ x ∧ x < n
theorem mem_nm {names : List Str} (hn : names.Nodup) {r : Row} (hr : Rg names.length r) {a : Int} (ha : 0 ≤ a ∧ a < names.length) : names.getD a.toNat default ∈ nm names r ↔ a ∈ r := by
  unfold nm
  rw [List.mem_map]
  exact ⟨fun ⟨b, hb, e⟩ => getD_inj hn (hr b hb) ha e ▸ hb, fun h => ⟨a, h, rfl⟩⟩
theorem inside_eq (a b : List Str) : law_inside a b = a.all fun x => decide (x ∈ b) := by
  show (a.map _).all id = _
  rw [List.all_map]; rfl
theorem inside_nm {names : List Str} (hn : names.Nodup) {a b : Row} (ha : Rg names.length a) (hb : Rg names.length b) : law_inside (nm names a) (nm names b) = sub a b := by
  rw [inside_eq, Bool.eq_iff_iff, sub_iff]
  simp only [List.all_eq_true, decide_eq_true_eq]
  constructor
  · intro h x hx
    exact (mem_nm hn hb (ha x hx)).mp (h _ (List.mem_map.mpr ⟨x, hx, rfl⟩))
  · intro h y hy
    obtain ⟨x, hx, rfl⟩ := List.mem_map.mp hy
    exact (mem_nm hn hb (ha x hx)).mpr (h x hx)
theorem nm_pl {names g : List Str} (h : ∀ x ∈ g, x ∈ names) : nm names (pl names g) = g := by
  unfold nm pl
  rw [List.map_map]
  exact (List.map_congr_left fun x hx => getD_findI (h x hx)).trans (List.map_id' g)
theorem pl_nm {names : List Str} (hn : names.Nodup) {r : Row} (h : Rg names.length r) : pl names (nm names r) = r := by
  unfold nm pl
  rw [List.map_map]
  exact (List.map_congr_left fun x hx => findI_getD hn (h x hx)).trans (List.map_id' r)
theorem pl_rg {names g : List Str} (h : ∀ x ∈ g, x ∈ names) : Rg names.length (pl names g) := fun x hx => by
  obtain ⟨y, hy, rfl⟩ := List.mem_map.mp hx
  exact findI_range (h y hy)
theorem meets_go (chosen : List Str) : ∀ groups : List (List Str), (forL (L := Unit) (st1_law_meets chosen) groups () = if groups.all (fun g => g.any fun x => decide (x ∈ chosen)) then .next () else .ret false)
  | [] => rfl
  | g :: gs => by
    have ih := meets_go chosen gs
    have e : (g.map fun x => decide (x ∈ chosen)).any id = g.any fun x => decide (x ∈ chosen) := by rw [List.any_map]; rfl
    unfold forL
    simp only [st1_law_meets, e]
    cases h : g.any fun x => decide (x ∈ chosen) with
    | true =>
      simp only [Bool.not_true, Bool.false_eq_true, if_false, LO.bind, List.all_cons, h, Bool.true_and]
      exact ih
    | false =>
      simp only [Bool.not_false, if_true, LO.bind, List.all_cons, h, Bool.false_and, Bool.false_eq_true, if_false]
theorem meets_eq (chosen : List Str) (groups : List (List Str)) : law_meets chosen groups = groups.all fun g => g.any fun x => decide (x ∈ chosen) := by
  unfold law_meets lo_law_meets
  rw [meets_go]
  cases groups.all fun g => g.any fun x => decide (x ∈ chosen) <;> rfl
theorem meets_nm {names : List Str} (hn : names.Nodup) {groups : List (List Str)} (hg : Grp names groups) {r : Row} (hr : Rg names.length r) : law_meets (nm names r) groups = hits (groups.map (pl names)) r := by
  rw [meets_eq, Bool.eq_iff_iff, hits_iff]
  simp only [List.all_eq_true, List.any_eq_true, decide_eq_true_eq, List.forall_mem_map]
  constructor
  · intro h g hgs
    obtain ⟨x, hx, k⟩ := h g hgs
    have hm := (hg g hgs).1 x hx
    refine ⟨findI names x, List.mem_map.mpr ⟨x, hx, rfl⟩, (mem_nm hn hr (findI_range hm)).mp ?_⟩
    rw [getD_findI hm]; exact k
  · intro h g hgs
    obtain ⟨a, ha, k⟩ := h g hgs
    obtain ⟨x, hx, rfl⟩ := List.mem_map.mp ha
    have hm := (hg g hgs).1 x hx
    refine ⟨x, hx, ?_⟩
    have := (mem_nm hn hr (findI_range hm)).mpr k
    rwa [getD_findI hm] at this
theorem sel_rg {n : Nat} {r : Row} (h : r ∈ Sel n) : Rg n r := (mem_Sel.mp h).2
/-! selections -/
theorem sel_rows (n : Nat) : forL (L := Unit) st1_law_selections (rangeI 0 (n : Int)) [[]] = .next (subs n) := by
  have := forL_fun (L := Unit) (step := st1_law_selections) subs (xs := rangeI 0 (n : Int)) (n := 0) (fun i x hx => by
    have := rangeI_at hx
    have e : x = (i : Int) := by omega
    subst e
    show LO.next (subs (0 + i) ++ (subs (0 + i)).map fun r => r ++ [(i : Int)]) = .next (subs (0 + i + 1))
    rw [Nat.zero_add]; rfl)
  rw [rangeI_len] at this
  have e : subs (0 + ((n : Int) - 0).toNat) = subs n := by congr 1; omega
  rw [e] at this
  exact this
theorem selections_eq (names : List Str) : law_selections names = (Sel names.length).map (nm names) := by
  unfold law_selections lo_law_selections
  simp only [LO.bind]
  rw [sel_rows]
  simp only [LO.bind]
  rw [forL_foldM (step := st2_law_selections names) (fun t p => t ++ [nm names p.2]) (fun x _ s => rfl), foldl_snoc]
  have := srt_keys (subs names.length)
  unfold key at this
  rw [this, List.nil_append, List.map_map]
  rfl
/-! least_of, longer_rows -/
theorem all_in (o r : Row) : (o.map fun a => decide (a ∈ r)).all id = sub o r := by
  rw [List.all_map]; rfl
theorem least_of_eq (rows : List Row) : least_of rows = greedy (srt rows) := by
  unfold least_of lo_least_of
  simp only [LO.bind]
  rw [forL_foldM (fun t p => if t.any (fun o => sub o p.2) then t else t ++ [p.2]) (fun x _ s => by
    obtain ⟨k, r⟩ := x
    have e : (s.map fun o => (o.map fun a => decide (a ∈ r)).all id).any id = s.any fun o => sub o r := by
      rw [List.any_map]; congr 1; funext o; exact all_in o r
    simp only [st1_least_of, e]
    cases s.any fun o => sub o r <;> rfl)]
  have := srt_keys rows
  unfold key at this
  rw [this, List.foldl_map]
  rfl
theorem longer_eq (rows : List Row) (p : Row) : longer_rows rows p = longer rows p := by
  unfold longer_rows lo_longer_rows
  simp only [LO.bind]
  rw [forL_foldM (fun t r => if p.any (fun a => decide (a ∈ r)) then t ++ [r] else t ++ p.map fun a => isort (r ++ [a])) (fun r _ s => by
    have e : (p.map fun a => decide (a ∈ r)).any id = p.any fun a => decide (a ∈ r) := by rw [List.any_map]; rfl
    simp only [st1_longer_rows, e]
    cases p.any fun a => decide (a ∈ r) <;> rfl)]
  rfl
theorem least_covers_eq (names : List Str) (groups : List (List Str)) (hg : Grp names groups) : least_covers names groups = (gmh names.length (groups.map (pl names))).map (nm names) := by
  unfold least_covers lo_least_covers
  simp only [LO.bind]
  have h := forL_fun (L := Unit) (step := st1_least_covers names) (fun i => gmh names.length ((groups.take i).map (pl names))) (xs := groups) (n := 0) (fun i g hi => by
    show LO.next (least_of (longer_rows _ (pl names g))) = _
    rw [least_of_eq, longer_eq, gmh_step (pl_rg (hg g (List.mem_of_getElem? hi)).1), Nat.zero_add, List.take_add_one, hi]
    simp)
  simp only [List.take_zero, List.map_nil, gmh_nil, Nat.zero_add, List.take_length] at h
  rw [h]
  rfl
/-! due -/
def gst (t : List Row) (r : Row) : List Row := if t.any (fun o => sub o r) then t else t ++ [r]
theorem due_go {names : List Str} (hn : names.Nodup) {step : List (List Str) → List Str → LO (List (List Str)) (List (List Str)) (List (List Str))} (p : Row → Bool) (hstep : ∀ (t : List Row) (r : Row), Rg names.length r → (∀ o ∈ t, Rg names.length o) → step (t.map (nm names)) (nm names r) = .next (((if p r then gst t r else t)).map (nm names))) :
    ∀ (L t : List Row), (∀ r ∈ L, Rg names.length r) → (∀ o ∈ t, Rg names.length o) → forL (L := Unit) step (L.map (nm names)) (t.map (nm names)) = .next (((L.filter p).foldl gst t).map (nm names))
  | [], t, _, _ => rfl
  | r :: L, t, h, ht => by
    have hr := h r (.head _)
    rw [List.map_cons]
    unfold forL
    rw [hstep t r hr ht]
    have hg : ∀ o ∈ gst t r, Rg names.length o := fun o ho => by
      unfold gst at ho
      split at ho
      · exact ht o ho
      · rcases List.mem_append.mp ho with k | k
        · exact ht o k
        · rw [List.mem_singleton.mp k]; exact hr
    have ih := fun t' h' => due_go hn p hstep L t' (fun r hr => h r (.tail _ hr)) h'
    cases hp : p r with
    | true =>
      rw [List.filter_cons_of_pos hp, List.foldl_cons]
      exact ih _ hg
    | false =>
      rw [List.filter_cons_of_neg (by rw [hp]; exact Bool.false_ne_true)]
      exact ih _ ht
theorem any_nm {names : List Str} (hn : names.Nodup) {t : List Row} {r : Row} (hr : Rg names.length r) (ht : ∀ o ∈ t, Rg names.length o) : ((t.map (nm names)).map fun one => law_inside one (nm names r)).any id = t.any fun o => sub o r := by
  rw [List.map_map, List.any_map, Bool.eq_iff_iff]
  simp only [List.any_eq_true, Function.comp, id]
  constructor
  · rintro ⟨o, ho, k⟩; exact ⟨o, ho, by rwa [inside_nm hn (ht o ho) hr] at k⟩
  · rintro ⟨o, ho, k⟩; exact ⟨o, ho, by rwa [inside_nm hn (ht o ho) hr]⟩
theorem due_covers_eq {names : List Str} (hn : names.Nodup) {groups : List (List Str)} (hg : Grp names groups) : law_due_covers names groups = (gmh names.length (groups.map (pl names))).map (nm names) := by
  unfold law_due_covers lo_law_due_covers
  simp only [LO.bind]
  have h := due_go hn (step := st1_law_due_covers groups) (hits (groups.map (pl names))) (fun t r hr ht => by
    simp only [st1_law_due_covers]
    rw [any_nm hn hr ht, meets_nm hn hg hr]
    unfold gst
    cases hits (groups.map (pl names)) r <;> cases t.any (fun o => sub o r) <;> simp [LO.bind]) (Sel names.length) [] (fun r hr => sel_rg hr) (fun o ho => by cases ho)
  rw [selections_eq]
  rw [List.map_nil] at h
  rw [h]
  rfl
theorem due_groups_eq {names : List Str} (hn : names.Nodup) {groups : List (List Str)} (hg : Grp names groups) : law_due_groups names groups = (greedy ((Sel names.length).filter fun r => (groups.map (pl names)).any fun g => sub g r && sub r g)).map (nm names) := by
  unfold law_due_groups lo_law_due_groups
  simp only [LO.bind]
  have h := due_go hn (step := st1_law_due_groups groups) (fun r => (groups.map (pl names)).any fun g => sub g r && sub r g) (fun t r hr ht => by
    simp only [st1_law_due_groups, LO.bind]
    rw [any_nm hn hr ht]
    have e : decide ((0 : Int) < (((groups.filter fun g => law_inside g (nm names r) && law_inside (nm names r) g).map fun g => g).length : Int)) = (groups.map (pl names)).any fun g => sub g r && sub r g := by
      rw [Bool.eq_iff_iff, decide_eq_true_eq]
      rw [List.length_map, show ((0 : Int) < ((groups.filter fun g => law_inside g (nm names r) && law_inside (nm names r) g).length : Int)) ↔ 0 < (groups.filter fun g => law_inside g (nm names r) && law_inside (nm names r) g).length by omega, List.length_pos_iff_exists_mem]
      simp only [List.mem_filter, List.any_map, List.any_eq_true, Function.comp]
      refine exists_congr fun g => and_congr_right fun hgs => ?_
      have h1 := inside_nm hn (pl_rg (hg g hgs).1) hr
      have h2 := inside_nm hn hr (pl_rg (hg g hgs).1)
      rw [nm_pl (hg g hgs).1] at h1 h2
      rw [h1, h2]
    rw [e]
    unfold gst
    cases (groups.map (pl names)).any (fun g => sub g r && sub r g) <;> cases t.any (fun o => sub o r) <;> simp [LO.bind]) (Sel names.length) [] (fun r hr => sel_rg hr) (fun o ho => by cases ho)
  rw [selections_eq]
  rw [List.map_nil] at h
  rw [h]
  rfl
theorem grp_rg {names : List Str} {groups : List (List Str)} (hg : Grp names groups) : ∀ g ∈ groups.map (pl names), ∀ x ∈ g, 0 ≤ x ∧ x < names.length := fun g hgs x hx => by
  obtain ⟨g', h, rfl⟩ := List.mem_map.mp hgs
  exact pl_rg (hg g' h).1 x hx
theorem nm_grp {names : List Str} (h8 : names.length ≤ 8) {L : List Row} (h : ∀ r ∈ L, r ∈ Sel names.length) : Grp names (L.map (nm names)) := fun g hg => by
  obtain ⟨r, hr, rfl⟩ := List.mem_map.mp hg
  refine ⟨fun x hx => ?_, ?_⟩
  · obtain ⟨a, ha, rfl⟩ := List.mem_map.mp hx
    exact getD_mem (sel_rg (h r hr) a ha)
  · have := asc_len (mem_Sel.mp (h r hr))
    simp only [nm, List.length_map]; omega
theorem pow8 {n : Nat} (h : n ≤ 8) : 2 ^ n ≤ 256 := Nat.pow_le_pow_right (by decide) h
/-- the law's last line -/
theorem covers_of_covers {names : List Str} (hn : names.Nodup) (h8 : names.length ≤ 8) {groups : List (List Str)} (hg : Grp names groups) : least_covers names (law_due_covers names groups) = law_due_groups names groups := by
  rw [due_covers_eq hn hg, due_groups_eq hn hg]
  rw [least_covers_eq _ _ (nm_grp h8 fun r hr => gmh_sel hr), List.map_map]
  have e : (gmh names.length (groups.map (pl names))).map (pl names ∘ nm names) = gmh names.length (groups.map (pl names)) :=
    (List.map_congr_left fun r hr => pl_nm hn (sel_rg (gmh_sel hr))).trans (List.map_id' _)
  rw [e, gmh_gmh (grp_rg hg)]

/-! words -/
def lets : Str := "abcdefghijklmnopqrstuvwxyz"
theorem lets_len : lets.length = 26 := by decide +kernel
theorem lets_at : ∀ k : Nat, k < 26 → lets.cps.toList.getD k 0 = 97 + k := by decide +kernel
/-- told begins, or ends, with its letter -/
def Wd (front : Int) (j : Nat) (w : Str) : Prop := ∃ b : Str, w = if front = 1 then strAt lets (j : Int) ++ b else b ++ strAt lets (j : Int)
def Wds (front : Int) (told : List Str) : Prop := ∀ j w, told[j]? = some w → Wd front j w
theorem words_go (front : Int) : ∀ (m n : Nat) (row : List Int) (told : List Str), told.length = n → Wds front told → ∃ row' told', forL (L := Unit) (st1_law_words lets front) ((List.range' n m).map fun i => (0 : Int) + (i : Nat)) (row, told) = .next (row', told') ∧ told'.length = n + m ∧ Wds front told'
  | 0, n, row, told, hl, hw => ⟨row, told, rfl, hl, hw⟩
  | m + 1, n, row, told, hl, hw => by
    rw [List.range'_succ, List.map_cons]
    have key : ∃ w row', st1_law_words lets front (row, told) ((0 : Int) + (n : Nat)) = .next (row', told ++ [w]) ∧ Wd front n w := by
      simp only [st1_law_words, LO.bind]
      rw [show (0 : Int) + (n : Nat) = (n : Int) by omega]
      by_cases h : front = 1
      · refine ⟨_, _, by rw [if_pos (by simpa using h)], ?_⟩
        exact ⟨_, by rw [if_pos h]⟩
      · refine ⟨_, _, by rw [if_neg (by simpa using h)], ?_⟩
        exact ⟨_, by rw [if_neg h]⟩
    obtain ⟨w, row', h1, h2⟩ := key
    obtain ⟨row2, told2, k1, k2, k3⟩ := words_go front m (n + 1) row' (told ++ [w]) (by simp [hl]) (fun j v hv => by
      by_cases hj : j < told.length
      · rw [List.getElem?_append_left hj] at hv; exact hw j v hv
      · rw [List.getElem?_append_right (by omega)] at hv
        by_cases e : j - told.length = 0
        · rw [e] at hv
          simp only [List.getElem?_cons_zero, Option.some.injEq] at hv
          rw [← hv, show j = n by omega]; exact h2
        · rw [List.getElem?_eq_none (by simp; omega)] at hv; cases hv)
    refine ⟨row2, told2, ?_, by omega, k3⟩
    unfold forL
    rw [h1]
    exact k1
theorem words_nodup {front : Int} {told : List Str} (hl : told.length ≤ 26) (h : Wds front told) : told.Nodup := by
  refine List.pairwise_iff_getElem.mpr fun i j hi hj hij e => ?_
  obtain ⟨b, hb⟩ := h i _ (List.getElem?_eq_getElem hi)
  obtain ⟨c, hc⟩ := h j _ (List.getElem?_eq_getElem hj)
  rw [hb, hc] at e
  have e := congrArg (fun s : Str => s.cps.toList) e
  have f : ∀ k : Nat, k < 26 → (strAt lets (k : Int)).cps.toList = [97 + k] := fun k hk => by
    have := lets_at k hk
    show [lets.cps.toList.getD (k : Int).toNat 0] = _
    rw [Int.toNat_natCast, this]
  by_cases hf : front = 1
  · simp only [if_pos hf, Str.cps_append, Array.toList_append] at e
    rw [f i (by omega), f j (by omega)] at e
    have := (List.cons.inj e).1
    omega
  · simp only [if_neg hf, Str.cps_append, Array.toList_append] at e
    rw [f i (by omega), f j (by omega)] at e
    have := (List.append_inj' e rfl).2
    have := (List.cons.inj this).1
    omega
theorem law_words_post (row : List Int) (count : Int) (h : 0 ≤ count ∧ count ≤ 26) : ((law_words row count).1.length : Int) = count ∧ (law_words row count).1.Nodup := by
  obtain ⟨row', told', h1, h2, h3⟩ := words_go (law_take row 2).1 count.toNat 0 (law_take row 2).2 [] rfl (fun j w hw => by cases hw)
  have e : rangeI 0 count = (List.range' 0 count.toNat).map fun i => (0 : Int) + (i : Nat) := by
    unfold rangeI
    rw [Int.sub_zero, List.range_eq_range']
  have k : law_words row count = (told', row') := by
    unfold law_words lo_law_words
    simp only [LO.bind]
    rw [e]
    show LO.get (LO.bind (forL (L := Unit) (st1_law_words lets (law_take row 2).1) _ _) _) = _
    rw [h1]
    rfl
  rw [k]
  exact ⟨by show (told'.length : Int) = _; omega, words_nodup (by show told'.length ≤ 26; omega) h3⟩
theorem law_names_post (row : List Int) : (law_names row).1.length ≤ 8 ∧ (law_names row).1.Nodup := by
  have hw := law_words_post row 8 (by decide)
  unfold law_names lo_law_names
  simp only [LO.bind]
  have ht := law_take_post (law_words row 8).2 8 (by decide)
  generalize hz : (law_take (law_words row 8).2 8) = z at *
  generalize (law_words row 8).1 = ws at *
  have hp : (cutL ws (some z.1) none ++ cutL ws none (some z.1)).Nodup ∧ (cutL ws (some z.1) none ++ cutL ws none (some z.1)).length ≤ 8 := by
    rw [cutL_from ht.1, cutL_to ht.1]
    have p : (ws.drop z.1.toNat ++ ws.take z.1.toNat).Perm ws := by
      have := List.perm_append_comm (l₁ := ws.drop z.1.toNat) (l₂ := ws.take z.1.toNat)
      rwa [List.take_append_drop] at this
    exact ⟨p.nodup_iff.mpr hw.2, by have := p.length_eq; omega⟩
  generalize cutL ws (some z.1) none ++ cutL ws none (some z.1) = ns at *
  have hr : ns.reverse.Nodup ∧ ns.reverse.length ≤ 8 := ⟨(List.reverse_perm ns).nodup_iff.mpr hp.1, by simpa using hp.2⟩
  have fin : ∀ (l : List Str) (o : Option Int), l.Nodup ∧ l.length ≤ 8 → (cutL l none o).length ≤ 8 ∧ (cutL l none o).Nodup := fun l o h => ⟨Nat.le_trans cutL_sub.length_le h.2, h.1.sublist cutL_sub⟩
  cases decide ((law_take z.2 2).1 = 1) with
  | true => exact fin _ _ hr
  | false => exact fin _ _ hp
/-! groups -/
theorem cs_go {names : List Str} (hn : 0 < names.length) : ∀ (xs : List Int) (row : List Int), (∀ x ∈ (compL (cs1_law_group names) xs row).2, x ∈ names) ∧ (compL (cs1_law_group names) xs row).2.length = xs.length
  | [], row => ⟨(fun x h => by cases h), rfl⟩
  | k :: xs, row => by
    have ih := cs_go hn xs (law_take row names.length).2
    have e : compL (cs1_law_group names) (k :: xs) row = ((compL (cs1_law_group names) xs (law_take row names.length).2).1, names.getD (law_take row names.length).1.toNat default :: (compL (cs1_law_group names) xs (law_take row names.length).2).2) := rfl
    rw [e]
    refine ⟨fun x hx => ?_, by simp [ih.2]⟩
    rcases List.mem_cons.mp hx with h | h
    · rw [h]
      exact getD_mem (law_take_post row _ (by omega))
    · exact ih.1 x h

def Lp {S L R : Type} (Q : R → Prop) : LO S L R → Prop
  | .ret r => Q r
  | _ => True
theorem lp_bind {S S' L R : Type} {Q : R → Prop} {o : LO S L R} {k : S → LO S' L R} (h : Lp Q o) (hk : ∀ s, o = .next s → Lp Q (k s)) : Lp Q (o.bind k) := by
  cases o with
  | next s => exact hk s rfl
  | cnt l => trivial
  | brk l => trivial
  | ret r => exact h
theorem law_group_post (row : List Int) (names : List Str) (groups : List (List Str)) (hg : ∀ g ∈ groups, Gr names g) : Gr names (law_group row names groups).1 := by
  have h := lo_law_group_eq row names groups hg
  have : Lp (fun r => Gr names r.1) (lo_law_group row names groups) := by
    unfold lo_law_group
    refine lp_bind ?_ (fun v_row h1 => ?_)
    · split
      · exact ⟨(fun x hx => by cases hx), by show 0 ≤ 4; omega⟩
      · trivial
    have hc := (if_nextR h1 nn_ret).1
    simp only [Bool.or_eq_false_iff, decide_eq_false_iff_not] at hc
    have hne : 0 < names.length := by omega
    refine lp_bind ?_ (fun v_row2 h2 => ?_)
    · split
      · rename_i hcc
        simp only [Bool.and_eq_true, decide_eq_true_eq] at hcc
        refine lp_bind trivial (fun x hx => ?_)
        obtain ⟨base, row3⟩ := x
        have hx := (LO.next.inj hx)
        have hb : base ∈ groups := by
          rw [← (Prod.mk.inj hx).1]
          have := law_take_post (if decide ((0 : Int) < (groups.length : Int)) = true then (law_take v_row 4).2 else v_row) groups.length (by omega)
          have hlt := this.2
          rw [List.getD_eq_getElem?_getD, List.getElem?_eq_getElem (by omega)]
          exact List.getElem_mem _
        have gb := hg base hb
        refine lp_bind trivial (fun x hx2 => ?_)
        obtain ⟨way, row4⟩ := x
        refine lp_bind ?_ (fun u hu => ?_)
        · split
          · exact ⟨fun x hx => gb.1 x (List.mem_reverse.mp hx), by show base.reverse.length ≤ 4; rw [List.length_reverse]; exact gb.2⟩
          · trivial
        refine lp_bind ?_ (fun u2 hu2 => ?_)
        · split
          · exact ⟨fun x hx => gb.1 x (cutL_sub.subset hx), Nat.le_trans cutL_sub.length_le gb.2⟩
          · trivial
        have hl := (if_nextR hu2 nn_ret).1
        simp only [Bool.or_eq_false_iff, decide_eq_false_iff_not] at hl
        refine ⟨fun x hx => ?_, by show (base ++ [_]).length ≤ 4; rw [List.length_append]; simp only [List.length_cons, List.length_nil]; omega⟩
        rcases List.mem_append.mp hx with k | k
        · exact gb.1 x k
        · rw [List.mem_singleton.mp k]
          exact getD_mem (law_take_post _ _ (by omega))
      · trivial
    · have hc := cs_go hne (rangeI 0 ([(2 : Int), (3 : Int), (1 : Int), (2 : Int), (4 : Int), (3 : Int), (2 : Int), (1 : Int)].getD ((law_take v_row2 (8 : Int)).1).toNat default)) ((law_take v_row2 (8 : Int)).2)
      refine ⟨hc.1, ?_⟩
      show (compL _ _ _).2.length ≤ 4
      rw [hc.2, rangeI_len]
      have := lit_le (xs := [(2 : Int), 3, 1, 2, 4, 3, 2, 1]) 0 4 (by decide) (by decide) (law_take v_row2 8).1.toNat
      omega
  rw [h] at this
  exact this
theorem groups_go (names : List Str) : ∀ (xs : List Int) (groups : List (List Str)) (row : List Int), (∀ g ∈ groups, Gr names g) → ∃ g' r', forL (L := Unit) (st1_law names) xs (groups, row) = .next (g', r') ∧ (∀ g ∈ g', Gr names g) ∧ g'.length = groups.length + xs.length
  | [], groups, row, h => ⟨groups, row, rfl, h, rfl⟩
  | x :: xs, groups, row, h => by
    have hg := law_group_post row names groups h
    obtain ⟨g', r', h1, h2, h3⟩ := groups_go names xs (groups ++ [(law_group row names groups).1]) (law_group row names groups).2 (fun g hg' => by
      rcases List.mem_append.mp hg' with k | k
      · exact h g k
      · rw [List.mem_singleton.mp k]; exact hg)
    refine ⟨g', r', ?_, h2, by rw [h3]; simp; omega⟩
    unfold forL
    exact h1
/-! like -/
theorem flat_eq (a d : D) (h : ¬ (d.isT = true ∨ d.isL = true)) : law_flat a d = true ↔ a = d := by
  cases d <;> simp [D.isT, D.isL] at h <;> cases a <;> simp [law_flat, lo_law_flat, D.isB, D.isI, D.isS, eqF, LO.bind, LO.get, D.isNon]
theorem alike_go : ∀ (xs : List Int) (ps : List (D × D)), D.nodesL (ps.map (·.2)) < xs.length → ∃ b, forL (L := Unit) st1_law_alike xs ps = .ret b ∧ (b = true ↔ ∀ p ∈ ps, p.1 = p.2)
  | [], ps, h => by simp at h
  | x :: xs, ps, h => by
    unfold forL
    by_cases h0 : ps.length = 0
    · have : ps = [] := List.length_eq_zero_iff.mp h0
      subst this
      exact ⟨true, rfl, by simp⟩
    · have hw := pop_nodes ps (by omega)
      have hps : ps = ps.dropLast ++ [ps.getLastD default] := by
        rcases List.eq_nil_or_concat ps with rfl | ⟨ys, y, rfl⟩
        · exact absurd rfl h0
        · simp
      have hall : ∀ b : Bool, (b = true ↔ (∀ p ∈ ps.dropLast, p.1 = p.2) ∧ (ps.getLastD default).1 = (ps.getLastD default).2) → (b = true ↔ ∀ p ∈ ps, p.1 = p.2) := fun b hb => by
        rw [hb]
        constructor
        · intro ⟨h1, h2⟩ p hp
          rw [hps] at hp
          rcases List.mem_append.mp hp with k | k
          · exact h1 p k
          · rw [List.mem_singleton.mp k]; exact h2
        · intro hh
          exact ⟨fun p hp => hh p (by rw [hps]; exact List.mem_append_left _ hp), hh _ (by rw [hps]; simp)⟩
      obtain ⟨one, other, hl⟩ : ∃ one other, ps.getLastD default = (one, other) := ⟨_, _, rfl⟩
      rw [hl] at hw hall
      have hlen : (decide ((ps.length : Int) = 0)) = false := decide_eq_false (by omega)
      have hw : D.nodesL (ps.dropLast.map (·.2)) + other.nodes = D.nodesL (ps.map (·.2)) := hw
      simp only [st1_law_alike, hlen, hl, LO.bind, Bool.false_eq_true, if_false]
      by_cases hq : other.isT = true ∨ other.isL = true
      · rw [if_pos (by simpa using hq)]
        by_cases hs : one.isT = other.isT ∧ one.isL = other.isL
        · rw [if_neg (by simp [hs.1, hs.2])]
          simp only [LO.bind]
          by_cases hlen2 : one.items.length = other.items.length
          · rw [if_neg (by simp [hlen2])]
            simp only [LO.bind]
            rw [pairs_at _ _ hlen2]
            have hnq := D.nodes_q (isQ_of hq)
            obtain ⟨b, h1, h2⟩ := alike_go xs (ps.dropLast ++ one.items.zip other.items) (by
              rw [List.map_append, D.nodesL_append, zip_nodes _ _ hlen2]
              simp only [List.length_cons] at h
              omega)
            refine ⟨b, h1, hall b ?_⟩
            rw [h2, D.ext_q hq hs, ← zip_eq _ _ hlen2]
            simp only [List.mem_append]
            exact ⟨fun k => ⟨fun p hp => k p (.inl hp), fun p hp => k p (.inr hp)⟩, fun ⟨k1, k2⟩ p hp => hp.elim (k1 p) (k2 p)⟩
          · rw [if_pos (by simp; omega)]
            refine ⟨false, rfl, hall false ?_⟩
            simp only [Bool.false_eq_true, false_iff]
            intro ⟨_, k⟩
            exact hlen2 (by have k : one = other := k; rw [k])
        · rw [if_pos (by
            simp only [Bool.or_eq_true, Bool.not_eq_true', decide_eq_false_iff_not]
            by_cases k : one.isT = other.isT
            · exact .inr fun z => hs ⟨k, z⟩
            · exact .inl k)]
          refine ⟨false, rfl, hall false ?_⟩
          simp only [Bool.false_eq_true, false_iff]
          intro ⟨_, k⟩
          exact D.ne_q hs k
      · rw [if_neg (by simpa using hq)]
        have hf := flat_eq one other hq
        have hpos := D.nodes_pos other
        cases hfl : law_flat one other with
        | true =>
          rw [hfl] at hf
          simp only [Bool.not_true, Bool.false_eq_true, if_false, LO.bind]
          obtain ⟨b, h1, h2⟩ := alike_go xs ps.dropLast (by
            simp only [List.length_cons] at h
            have hw : D.nodesL (ps.dropLast.map (·.2)) + other.nodes = D.nodesL (ps.map (·.2)) := hw
            omega)
          refine ⟨b, h1, hall b ?_⟩
          rw [h2]
          exact ⟨fun k => ⟨k, hf.mp rfl⟩, fun k => k.1⟩
        | false =>
          rw [hfl] at hf
          simp only [Bool.not_false, if_true, LO.bind]
          refine ⟨false, rfl, hall false ?_⟩
          simp only [Bool.false_eq_true, false_iff]
          intro ⟨_, k⟩
          exact Bool.false_ne_true (hf.mpr k)
theorem alike_eq {a d : D} (h : d.nodes ≤ 50000) : law_alike a d = true ↔ a = d := by
  obtain ⟨b, h1, h2⟩ := alike_go (rangeI 0 100000) [(a, d)] (by
    rw [rangeI_len]
    show D.nodes d + D.nodesL [] < _
    rw [show D.nodesL [] = 0 from rfl]
    omega)
  have e : law_alike a d = b := by
    unfold law_alike lo_law_alike
    simp only [LO.bind]
    rw [h1]
    rfl
  rw [e, h2]
  simp
theorem alike_self {d : D} (h : d.nodes ≤ 50000) : law_alike d d = true := (alike_eq h).mpr rfl
/-! ### what the walk asks -/
theorem rows_ok {n : Nat} (h8 : n ≤ 8) (gs : List Row) : (gmh n gs).length ≤ 1000 ∧ ∀ r ∈ gmh n gs, r.length ≤ 100 := by
  have h1 := gmh_len n gs
  have h2 := pow8 h8
  refine ⟨by omega, fun r hr => ?_⟩
  have := asc_len (mem_Sel.mp (gmh_sel hr))
  omega
theorem covers_pre {names : List Str} {groups : List (List Str)} {i : Nat} {g : List Str} {rows : List Row} (h8 : names.length ≤ 8) (hg : Grp names groups) (hx : groups[i]? = some g) (hP : rows = gmh names.length ((groups.take i).map (pl names))) : rows.length ≤ 1000 ∧ (g.map (findI names)).length ≤ 100 ∧ ∀ r ∈ rows, r.length ≤ 100 := by
  subst hP
  have h := rows_ok h8 ((groups.take i).map (pl names))
  have h2 := (hg g (List.mem_of_getElem? hx)).2
  exact ⟨h.1, by rw [List.length_map]; omega, h.2⟩
theorem covers_step {names : List Str} {groups : List (List Str)} {i : Nat} {g : List Str} {rows : List Row} (hg : Grp names groups) (hx : groups[i]? = some g) (hP : rows = gmh names.length ((groups.take i).map (pl names))) : least_of (longer_rows rows (g.map (findI names))) = gmh names.length ((groups.take (i + 1)).map (pl names)) := by
  subst hP
  show least_of (longer_rows _ (pl names g)) = _
  rw [least_of_eq, longer_eq, gmh_step (pl_rg (hg g (List.mem_of_getElem? hx)).1), List.take_add_one, hx]
  simp
theorem covers_loop {names : List Str} {groups : List (List Str)} {rows : List Row} (hg : Grp names groups) (h : (forL (st1_least_covers names) groups [[]] : LO (List Row) Unit (List (List Str))) = .next rows) : rows = gmh names.length (groups.map (pl names)) := by
  have h2 := forL_fun (L := Unit) (step := st1_least_covers names) (fun i => gmh names.length ((groups.take i).map (pl names))) (xs := groups) (n := 0) (fun i g hi => by
    show LO.next (least_of (longer_rows _ (pl names g))) = _
    rw [least_of_eq, longer_eq, gmh_step (pl_rg (hg g (List.mem_of_getElem? hi)).1), Nat.zero_add, List.take_add_one, hi]
    simp)
  simp only [List.take_zero, List.map_nil, gmh_nil, Nat.zero_add, List.take_length] at h2
  rw [h2] at h
  exact (LO.next.inj h).symm
theorem covers_at {names : List Str} {groups : List (List Str)} {rows : List Row} {r : Row} {a : Int} (hP : rows = gmh names.length (groups.map (pl names))) (hr : r ∈ rows) (ha : a ∈ r) : 0 ≤ a ∧ a < names.length := by
  subst hP
  exact sel_rg (gmh_sel hr) a ha
theorem alike_step {ps : List (D × D)} {one other : D} {i : Nat} (h0 : 0 < ps.length) (hl : ps.getLastD default = (one, other)) (hP : D.nodesL (ps.map (·.2)) + i ≤ 50000) : D.nodesL (ps.dropLast.map (·.2)) + other.nodes + i ≤ 50000 := by
  have := pop_nodes ps h0
  rw [hl] at this
  have : D.nodesL (ps.dropLast.map (·.2)) + other.nodes = D.nodesL (ps.map (·.2)) := this
  omega
theorem alike_more {ps : List (D × D)} {one other : D} {i : Nat} (hl : one.items.length = other.items.length) (hq : other.isT = true ∨ other.isL = true) (h : D.nodesL (ps.map (·.2)) + other.nodes + i ≤ 50000) : D.nodesL ((ps ++ (rangeI 0 (other.items.length : Int)).map fun n => (one.items.getD n.toNat default, other.items.getD n.toNat default)).map (·.2)) + (i + 1) ≤ 50000 := by
  rw [pairs_at _ _ hl, List.map_append, D.nodesL_append, zip_nodes _ _ hl]
  have := D.nodes_q (isQ_of hq)
  omega
theorem subs_le {n : Nat} (h : n ≤ 8) : (subs n).length ≤ 256 := by rw [subs_len]; exact pow8 h
theorem sel_step {i : Nat} {rows : List Row} (hP : rows = subs i) : rows ++ rows.map (fun r => r ++ [(i : Int)]) = subs (i + 1) := by subst hP; rfl
theorem sel_loop {n : Nat} {rows : List Row} (h : (forL st1_law_selections (rangeI 0 (n : Int)) [[]] : LO (List Row) Unit (List (List Str))) = .next rows) : rows = subs n := by
  have h2 : (forL st1_law_selections (rangeI 0 (n : Int)) [[]] : LO (List Row) Unit (List (List Str))) = .next (subs n) := by
    have := forL_fun (L := Unit) (R := List (List Str)) (step := st1_law_selections) subs (xs := rangeI 0 (n : Int)) (n := 0) (fun i x hx => by
      have := rangeI_at hx
      have e : x = (i : Int) := by omega
      subst e
      show LO.next (subs (0 + i) ++ (subs (0 + i)).map fun r => r ++ [(i : Int)]) = .next (subs (0 + i + 1))
      rw [Nat.zero_add]; rfl)
    rw [rangeI_len] at this
    have e : subs (0 + ((n : Int) - 0).toNat) = subs n := by congr 1; omega
    rw [e] at this
    exact this
  rw [h2] at h
  exact (LO.next.inj h).symm
theorem sel_row {n i : Nat} {r : Row} (h8 : n ≤ 8) (hi : i < n) (hr : r ∈ subs i) : r.length ≤ 8 := by
  have := asc_len (mem_subs.mp hr)
  omega
theorem sel_at {n : Nat} {k : Int × Row} {a : Int} (hk : k ∈ ((subs n).map key).mergeSort (leT ePr)) (ha : a ∈ k.2) : 0 ≤ a ∧ a < n := by
  rw [srt_keys] at hk
  obtain ⟨r, hr, rfl⟩ := List.mem_map.mp hk
  exact (mem_subs.mp (mem_srt.mp hr)).2 a ha
theorem D.items_le (d : D) : d.items.length ≤ d.nodes := by
  cases d <;> simp only [D.items, D.nodes, List.length_nil] <;> first | omega | (rename_i ds; have := D.nodesL_len ds; omega)
theorem alike_size {ps : List (D × D)} {other : D} {i : Nat} {β : Type} {f : Int → β} (h : D.nodesL (ps.map (·.2)) + other.nodes + i ≤ 50000) : ps.length + ((rangeI 0 (other.items.length : Int)).map f).length ≤ sizeLine := by
  have z1 := D.nodesL_len (ps.map (·.2))
  have z2 := D.items_le other
  rw [List.length_map] at z1
  rw [List.length_map, rangeI_len]
  exact small_line (by omega)
theorem alike_inv {ps s1 : List (D × D)} {x : Int} {i : Nat} (h : st1_law_alike ps x = .next s1 ∨ st1_law_alike ps x = .cnt s1) (hP : D.nodesL (ps.map (·.2)) + i ≤ 50000) : D.nodesL (s1.map (·.2)) + (i + 1) ≤ 50000 := by
  by_cases h0 : ps.length = 0
  · have : ps = [] := List.length_eq_zero_iff.mp h0
    subst this
    rcases h with h | h <;> cases h
  obtain ⟨one, other, hl⟩ : ∃ one other, ps.getLastD default = (one, other) := ⟨_, _, rfl⟩
  have hw := alike_step (by omega) hl hP
  have hpos := D.nodes_pos other
  have hlen : (decide ((ps.length : Int) = 0)) = false := decide_eq_false (by omega)
  simp only [st1_law_alike, hlen, hl, lob_ite, lob_next, lob_ret, Bool.false_eq_true, if_false] at h
  rcases h with h | h
  · split at h
    · rename_i hq
      split at h
      · cases h
      · split at h
        · cases h
        · rename_i hl2
          cases h
          exact alike_more (by simp at hl2; omega) (by simpa using hq) hw
    · split at h
      · cases h
      · cases h
        omega
  · split at h
    · split at h
      · cases h
      · split at h <;> cases h
    · split at h <;> cases h
theorem eight_le (i : Int) : 0 ≤ [(2 : Int), 3, 1, 2, 4, 3, 2, 1].getD i.toNat default ∧ [(2 : Int), 3, 1, 2, 4, 3, 2, 1].getD i.toNat default ≤ 4 :=
  lit_le (xs := [(2 : Int), 3, 1, 2, 4, 3, 2, 1]) 0 4 (by decide) (by decide) i.toNat
theorem str_add (a b : Str) : (a ++ b).length = a.length + b.length := by simp [Str.length, Str.cps_append]
theorem body_len {b : Str} {n i j : Int} {z : Str} (h : b = strRep (strAt z i ++ strAt z j) n) (h2 : n ≤ 2) : b.length ≤ 200 := by
  subst h
  exact Nat.le_trans (strRep_le (k := 2) (m := 2) (by rw [str_add, strAt_len, strAt_len]; decide) (by omega)) (by decide)
theorem sel_inv {rows s1 : List Row} {x : Int} {i : Nat} (h : st1_law_selections rows x = .next s1 ∨ st1_law_selections rows x = .cnt s1) {n : Int} (hx : 0 ≤ x ∧ x < n ∧ x = 0 + (i : Int)) (hP : rows = subs i) : s1 = subs (i + 1) := by
  have e : x = (i : Int) := by omega
  subst e
  rcases h with h | h
  · cases h
    exact sel_step hP
  · cases h
theorem sel_size {n i : Nat} {rows : List Row} {r : Row} {x : Int} (hP : rows = subs i) (h : i < n ∧ n ≤ 8) (hr : r ∈ rows) : r.length + [x].length ≤ sizeLine := by
  subst hP
  have := sel_row (n := n) h.2 h.1 hr
  exact small_line (by simp only [List.length_cons, List.length_nil]; omega)
theorem sel_size2 {i : Nat} {rows : List Row} {f : Row → Row} (hP : rows = subs i) (h : i ≤ 8) : rows.length + (rows.map f).length ≤ sizeLine := by
  subst hP
  have := subs_le h
  rw [List.length_map]
  exact small_line (by omega)
theorem cut_size {ws : List Str} {t : Int} (h : True) (h2 : (ws.length : Int) = 8) : (cutL ws (some t) none).length + (cutL ws none (some t)).length ≤ sizeLine := by
  have h1 := (cutL_sub (xs := ws) (a := some t) (b := none)).length_le
  have h3 := (cutL_sub (xs := ws) (a := none) (b := some t)).length_le
  exact small_line (by omega)
theorem law_inv {names : List Str} {s s1 : List (List Str) × List Int} {x : Int} {i : Nat} (h : st1_law names s x = .next s1 ∨ st1_law names s x = .cnt s1) (hP : (∀ g ∈ s.1, Gr names g) ∧ s.1.length = i) : (∀ g ∈ s1.1, Gr names g) ∧ s1.1.length = i + 1 := by
  obtain ⟨groups, row⟩ := s
  rcases h with h | h
  · cases h
    refine ⟨fun g hg' => ?_, by show (groups ++ [_]).length = _; rw [List.length_append]; have : groups.length = i := hP.2; simp [this]⟩
    rcases List.mem_append.mp hg' with k | k
    · exact hP.1 g k
    · rw [List.mem_singleton.mp k]; exact law_group_post row names groups hP.1
  · cases h
theorem groups_at {names : List Str} {xs : List Int} {row : List Int} {s : List (List Str) × List Int} (h : (forL (st1_law names) xs ([], row) : LO (List (List Str) × List Int) Unit Bool) = .next s) : (∀ g ∈ s.1, Gr names g) ∧ s.1.length = xs.length := by
  obtain ⟨g', r', h1, h2, h3⟩ := groups_go names xs [] row (fun g hg => by cases hg)
  rw [h1] at h
  cases h
  exact ⟨h2, by rw [h3]; simp⟩
theorem gr_grp {names : List Str} {groups : List (List Str)} (h : ∀ g ∈ groups, Gr names g) : Grp names groups := fun g hg => ⟨(h g hg).1, Nat.le_trans (h g hg).2 (by decide)⟩
theorem grp_nil {names : List Str} : Grp names [] := fun g h => by cases h
theorem grp_snoc {names : List Str} {groups : List (List Str)} (h : Grp names groups) : Grp names (groups ++ [[]]) := fun g hg => by
  rcases List.mem_append.mp hg with k | k
  · exact h g k
  · rw [List.mem_singleton.mp k]; exact ⟨(fun x hx => by cases hx), by decide⟩
theorem nodes_strs : ∀ r : List Str, D.nodesL (r.map D.str) = r.length
  | [] => rfl
  | x :: r => by
    show D.nodes (D.str x) + D.nodesL (r.map D.str) = _
    rw [nodes_strs r]
    show 1 + r.length = _
    simp; omega
theorem nodes_rows : ∀ rows : List (List Str), (∀ r ∈ rows, r.length ≤ 8) → D.nodesL (rows.map (eT D.str)) ≤ 9 * rows.length
  | [], _ => Nat.le_refl 0
  | r :: rows, h => by
    have ih := nodes_rows rows fun r hr => h r (.tail _ hr)
    show (1 + D.nodesL (r.map D.str)) + D.nodesL (rows.map (eT D.str)) ≤ _
    rw [nodes_strs r]
    have := h r (.head _)
    simp only [List.length_cons]; omega
theorem rows_nodes {rows : List (List Str)} (h : rows.length ≤ 1000) (h2 : ∀ r ∈ rows, r.length ≤ 8) : (eL (eT D.str) rows).nodes ≤ 20000 := by
  have := nodes_rows rows h2
  show 1 + D.nodesL (rows.map (eT D.str)) ≤ _
  omega
theorem sel_size3 {names : List Str} (h8 : names.length ≤ 8) {L : List Row} (hl : L.Sublist (Sel names.length)) : Grp names (L.map (nm names)) ∧ (L.map (nm names)).length ≤ 1000 := by
  refine ⟨nm_grp h8 fun r hr => hl.subset hr, ?_⟩
  have h1 := hl.length_le
  have h2 : (Sel names.length).length ≤ 256 := by
    unfold Sel
    rw [srt_len, subs_len]
    exact pow8 h8
  rw [List.length_map]; omega
theorem gmh_sub (n : Nat) (gs : List Row) : (gmh n gs).Sublist (Sel n) := (greedy_spec _).1.trans List.filter_sublist
theorem due_ok {names : List Str} {groups due : List (List Str)} (h8 : names.length ≤ 8) (hn : names.Nodup) (hg : Grp names groups) (h : due = law_due_covers names groups) : Grp names due ∧ due.length ≤ 1000 := by
  rw [h, due_covers_eq hn hg]
  exact sel_size3 h8 (gmh_sub _ _)
theorem due_ok2 {names : List Str} {groups : List (List Str)} (h8 : names.length ≤ 8) (hn : names.Nodup) (hg : Grp names groups) : Grp names (law_due_groups names groups) ∧ (law_due_groups names groups).length ≤ 1000 := by
  rw [due_groups_eq hn hg]
  exact sel_size3 h8 ((greedy_spec _).1.trans List.filter_sublist)
theorem told_ok {names : List Str} {groups told : List (List Str)} (h8 : names.length ≤ 8) (hg : Grp names groups) (h : told = least_covers names groups) : told.length ≤ 1000 := by
  rw [h, least_covers_eq names groups hg]
  exact (sel_size3 h8 (gmh_sub _ _)).2
theorem grp_nodes {names : List Str} {rows : List (List Str)} (h : Grp names rows ∧ rows.length ≤ 1000) : (eL (eT D.str) rows).nodes ≤ 50000 := Nat.le_trans (rows_nodes h.2 fun r hr => (h.1 r hr).2) (by decide)
theorem handed_nodes {names : List Str} {rows : List (List Str)} (h8 : names.length ≤ 8) (h : Grp names rows) (h2 : rows.length ≤ 1000) : (D.lst [eL D.str names, eL (eT D.str) rows]).nodes ≤ 50000 := by
  have h1 := rows_nodes h2 fun r hr => (h r hr).2
  have h3 : (eL D.str names).nodes ≤ 9 := by
    show 1 + D.nodesL (names.map D.str) ≤ _
    rw [nodes_strs]; omega
  show 1 + ((eL D.str names).nodes + ((eL (eT D.str) rows).nodes + 0)) ≤ _
  omega

/-! ### the law -/
theorem law_true (script : List Int) : law script = true := by
  unfold law lo_law
  simp only [lob_next]
  have hn := law_names_post (law_digits (law_cell script 0) 12)
  generalize (law_names (law_digits (law_cell script 0) 12)).1 = names at hn ⊢
  generalize law_digits (law_cell script 1 + 3) 50 = row
  obtain ⟨g, r, h1, h2, h3⟩ := groups_go names (rangeI 0 (law_take row 7).1) [] (law_take row 7).2 (fun g hg => by cases hg)
  have ht := law_take_post row 7 (by decide)
  rw [rangeI_len] at h3
  have hl : g.length ≤ 6 := by simp only [List.length_nil] at h3; omega
  rw [h1]
  simp only [lob_next]
  have hG := gr_grp h2
  have hD := due_ok hn.1 hn.2 hG rfl
  have hE := due_ok2 hn.1 hn.2 hG
  have e1 : least_covers names g = law_due_covers names g := by rw [least_covers_eq _ _ hG, due_covers_eq hn.2 hG]
  have e2 : least_covers names [] = [[]] := by
    rw [least_covers_eq _ _ grp_nil, List.map_nil, gmh_nil]; rfl
  have e3 : least_covers names (g ++ [[]]) = [] := by
    rw [least_covers_eq _ _ (grp_snoc hG), List.map_append]
    show (gmh _ (_ ++ [[]])).map _ = _
    rw [gmh_empty]; rfl
  have e4 := covers_of_covers hn.2 hn.1 hG
  have a1 := alike_self (grp_nodes hD)
  have a2 := alike_self (handed_nodes hn.1 hG (by omega))
  have a3 := alike_self (grp_nodes hE)
  have a4 : law_alike (eL (eT D.str) [[]]) (D.lst [D.tup []]) = true := alike_self (d := D.lst [D.tup []]) (by decide +kernel)
  have a5 : law_alike (eL (eT D.str) []) (D.lst []) = true := alike_self (d := D.lst []) (by decide +kernel)
  rw [e1, e2, e3, e4, a1, a3, a4, a5]
  have a2 : law_alike (eH (eL D.str) (eL (eT D.str)) (names, g)) (D.lst [eL D.str names, eL (eT D.str) g]) = true := a2
  rw [a2]
  rfl

section
variable {P : Program} {w : World} {K : PySem.W.Frag} {mg : Str → Option Value} {base : Heap} {f : Addr} {fd : FuncData}
/-! ### least_of -/
abbrev s_least_of : Stmt := top 1
theorem sc_least_of : FnScope ["rows", "told", "_", "row", "other", "at"] ["rows"] (defScope s_least_of) := ⟨rfl, rfl, rfl, by decide +kernel, rfl, by decide +kernel, by decide +kernel⟩
theorem ok_least_of (F : Fun K "least_of" "least_of" s_least_of f fd) (hm : mg "least_of" = some (.ref f)) (b : Binds K fd ["rows"] []) (m_len : mg "len" = none) (m_sorted : mg "sorted" = none) (m_all : mg "all" = none) (m_any : mg "any" = none) : Cle P w K mg base 1 "least_of" R_least_of := by
  refine cle_mk (S := Unit) (L := Unit) (R := (List (List Int))) F sc_least_of hm b (fun ars rr h => by obtain ⟨_, rfl, _⟩ := h; rfl) fun cdv A outer s H E ars rr as hr hR => ?_
  obtain ⟨v_rows, rfl, rfl⟩ := hR
  refine ⟨fun _ => [.any, .any, .any, .any, .any, .any], fun _ => [], fun r_ => (.own (.lst (r_.map (eT D.int))), [.any, .any, .any, .any, .any, .any]), lo_least_of v_rows, ?_, .inl ⟨least_of v_rows, lo_least_of_eq v_rows, rfl, finOk trivial⟩⟩
  unfold lo_least_of
  refine ss_cons (S' := (List (List Int))) (G' := fun (v_told : (List (List Int))) => [.dat ((eL (eT D.int)) v_rows), .own none (.lst (v_told.map (eT D.int))), .any, .any, .any, .any]) (st_set 1 sc_least_of.nd rfl (by first | exact .inl rfl | exact .inr rfl) (ev_lst (ds := []) av_nil) weak_rfl) (fun x_ hx_ => ?_)
  have hx_ := (LO.next.inj hx_).symm
  obtain ⟨v_told, hv_⟩ : ∃ v_, v_ = x_ := ⟨_, rfl⟩
  subst hv_
  have hx_told := hx_
  refine ss_cons (S' := (List (List Int))) (G' := fun (v_told : (List (List Int))) => [.dat ((eL (eT D.int)) v_rows), .own none (.lst (v_told.map (eT D.int))), .any, .any, .any, .any]) (st_for (enc := (eP D.int (eT D.int))) (sh := (.tup [(.name 2), (.name 3)])) (Gs := fun (v_told : (List (List Int))) => [.dat ((eL (eT D.int)) v_rows), .own none (.lst (v_told.map (eT D.int))), .any, .any, .any, .any]) (xs := ((v_rows.map fun (v_row : (List Int)) => ((v_row.length : Int), v_row)).mergeSort (leT (eP D.int (eT D.int))))) (st1_least_of) (s0 := v_told) (fun (i_ : Nat) (v_told : (List (List Int))) => v_told.length ≤ i_) (iv_list (EV.fz (evt_sorted (enc := (eP D.int (eT D.int))) hr.units rfl m_sorted (EncOrd.pair EncOrd.int (EncOrd.vt EncOrd.int (dep_le dep_int (by decide))) (dep_le dep_int (by decide)) (dep_le (dep_vt dep_int) (by decide))) EncTop.pair (.l .own) (ev_lc rfl sc_least_of.nd (blkOk_by (own := [("row", 3)]) (by walk_at "blk")) (fun _ _ _ _ _ => (sh_name 3 (pg_name (i := 3) sc_least_of.nd rfl (by first | exact .inl rfl | exact .inr rfl)))) (cp_map (enc := (eT D.int)) (encb := (eP D.int (eT D.int))) (sh := (.name 3)) (own := [("row", 3)]) (Γ0 := [.dat ((eL (eT D.int)) v_rows), .own none (.lst (v_told.map (eT D.int))), .any, .any, .any, .any]) (fun (v_row : (List Int)) => ((v_row.length : Int), v_row)) (iv_list (ev_var 0 rfl (pv 0))) (fun _ h => h) (by walk_at "weak") (by intro n hn t ht; simp only [List.map_cons, List.map_nil, List.mem_cons, List.not_mem_nil, or_false] at hn; subst hn; cases ht; rfl) (fun h => by simpa using h) (fun hB_ v_row hx_ => ⟨_, _, rfl, (fun _ _ _ _ _ => by (try simp only [Bool.and_eq_true, Bool.or_eq_true, Bool.and_eq_false_iff, Bool.or_eq_false_iff, Bool.not_eq_true', Bool.not_eq_false', decide_eq_true_eq, decide_eq_false_iff_not, List.isEmpty_eq_false_iff, List.isEmpty_iff] at h_); exact (ev_tup (ds := [D.int (v_row.length : Int), (eT D.int) v_row]) (av_cons (evt_len rfl m_len .t (ev_var 3 rfl (pv 3))) (av_cons (ev_var 3 rfl (pv 3)) av_nil)))), (by walk_at "weak")⟩)))))) (sh_tup rfl (sh_cons (sh_name 2 (pg_name (i := 2) sc_least_of.nd rfl (by first | exact .inl rfl | exact .inr rfl))) (sh_cons (sh_name 3 (pg_name (i := 3) sc_least_of.nd rfl (by first | exact .inl rfl | exact .inr rfl))) sh_nil))) PassesOwn.never rfl (by walk_at "weak") (by subst_vars; simp) (fun hB_ i_ v_told x_ hx_ hP_ => ?_)) (fun v_told hs_ => ?_)
  · skip
    obtain ⟨v__, v_row⟩ := x_
    (try dsimp only at hP_); have hm_ := List.mem_of_getElem? hx_; have hi_ := (List.getElem?_eq_some_iff.mp hx_).1; (try (have hs2_ := hB_; rw [List.length_map, sizeLine_eq] at hs2_)); (try have hr_ := rangeI_at hx_)
    refine ⟨⟨_, rfl, ?_⟩, ?_⟩
    · show SS _ _ _ _ _ _ ((if (!((v_told.map fun (v_other : (List Int)) => ((v_other.map fun (v_at : Int) => (decide (v_at ∈ v_row))).all id)).any id)) then (LO.next (v_told ++ [v_row]) : LO (List (List Int)) (List (List Int)) (List (List Int))).bind fun (v_told : (List (List Int))) => LO.next v_told else LO.next v_told : LO (List (List Int)) (List (List Int)) (List (List Int))).bind fun (v_told : (List (List Int))) => LO.next v_told)
      refine ss_cons (S' := (List (List Int))) (G' := fun (v_told : (List (List Int))) => [.dat ((eL (eT D.int)) v_rows), .own none (.lst (v_told.map (eT D.int))), .dat (D.int v__), .dat ((eT D.int) v_row), .any, .any]) (st_if (tv_not (tv_val (EV.lend (ev_any rfl rfl m_any .own (ev_lc rfl sc_least_of.nd (blkOk_by (own := [("other", 4)]) (by walk_at "blk")) (fun _ _ _ _ _ => (sh_name 4 (pg_name (i := 4) sc_least_of.nd rfl (by first | exact .inl rfl | exact .inr rfl)))) (cp_map (enc := (eT D.int)) (encb := D.bl) (sh := (.name 4)) (own := [("other", 4)]) (Γ0 := [.dat ((eL (eT D.int)) v_rows), .dat ((eL (eT D.int)) v_told), .dat (D.int v__), .dat ((eT D.int) v_row), .any, .any]) (fun (v_other : (List Int)) => ((v_other.map fun (v_at : Int) => (decide (v_at ∈ v_row))).all id)) (iv_list (ev_var 1 rfl (pv 1))) (fun _ h => h) (by walk_at "weak") (by intro n hn t ht; simp only [List.map_cons, List.map_nil, List.mem_cons, List.not_mem_nil, or_false] at hn; subst hn; cases ht; rfl) (fun h => by simpa using h) (fun hB_ v_other hx_ => ⟨_, _, rfl, (fun _ _ _ _ _ => by (try simp only [Bool.and_eq_true, Bool.or_eq_true, Bool.and_eq_false_iff, Bool.or_eq_false_iff, Bool.not_eq_true', Bool.not_eq_false', decide_eq_true_eq, decide_eq_false_iff_not, List.isEmpty_eq_false_iff, List.isEmpty_iff] at h_); exact (ev_all rfl rfl m_all .own (ev_lc rfl sc_least_of.nd (blkOk_by (own := [("at", 5)]) (by walk_at "blk")) (fun _ _ _ _ _ => (sh_name 5 (pg_name (i := 5) sc_least_of.nd rfl (by first | exact .inl rfl | exact .inr rfl)))) (cp_map (enc := D.int) (encb := D.bl) (sh := (.name 5)) (own := [("at", 5)]) (Γ0 := [.dat ((eL (eT D.int)) v_rows), .dat ((eL (eT D.int)) v_told), .dat (D.int v__), .dat ((eT D.int) v_row), .dat ((eT D.int) v_other), .any]) (fun (v_at : Int) => (decide (v_at ∈ v_row))) (iv_tup (ev_var 4 rfl (pv 4))) (fun _ h => h) (by walk_at "weak") (by intro n hn t ht; simp only [List.map_cons, List.map_nil, List.mem_cons, List.not_mem_nil, or_false] at hn; subst hn; cases ht; rfl) (fun h => by simpa using h) (fun hB_ v_at hx_ => ⟨_, _, rfl, (fun _ _ _ _ _ => by (try simp only [Bool.and_eq_true, Bool.or_eq_true, Bool.and_eq_false_iff, Bool.or_eq_false_iff, Bool.not_eq_true', Bool.not_eq_false', decide_eq_true_eq, decide_eq_false_iff_not, List.isEmpty_eq_false_iff, List.isEmpty_iff] at h_); exact (ev_inI (ev_var 5 rfl (pv 5)) (ev_var 3 rfl (pv 3)) .t)), (by walk_at "weak")⟩))))), (by walk_at "weak")⟩)))) rfl))) (fun h_ => ?_) (fun h_ => ?_)) (fun v_told hs_ => ?_)
      · (try simp only [Bool.and_eq_true, Bool.or_eq_true, Bool.and_eq_false_iff, Bool.or_eq_false_iff, Bool.not_eq_true', Bool.not_eq_false', decide_eq_true_eq, decide_eq_false_iff_not, List.isEmpty_eq_false_iff, List.isEmpty_iff] at h_)
        refine ss_cons (S' := (List (List Int))) (G' := fun (v_told : (List (List Int))) => [.dat ((eL (eT D.int)) v_rows), .own none (.lst (v_told.map (eT D.int))), .dat (D.int v__), .dat ((eT D.int) v_row), .any, .any]) (st_expr (evt_append (enc := (eT D.int)) (v := v_row) (pv 1) rfl (ev_var 3 rfl (pv 3)) rfl (by walk_at "append")) weak_rfl) (fun x_ hx_ => ?_)
        have hx_ := (LO.next.inj hx_).symm
        obtain ⟨v_told, hv_⟩ : ∃ v_, v_ = x_ := ⟨_, rfl⟩
        subst hv_
        have hx_told := hx_
        exact (ss_nil (by walk_at "weak"))
      · (try simp only [Bool.and_eq_true, Bool.or_eq_true, Bool.and_eq_false_iff, Bool.or_eq_false_iff, Bool.not_eq_true', Bool.not_eq_false', decide_eq_true_eq, decide_eq_false_iff_not, List.isEmpty_eq_false_iff, List.isEmpty_iff] at h_)
        exact (ss_nil (by walk_at "weak"))
      exact (ss_nil (by walk_at "weak"))
    · (intro s1_ h1_; rcases h1_ with h1_ | h1_ <;> (simp only [st1_least_of, lob_ite, lob_next, lob_cnt, lob_brk, lob_ret] at h1_) <;> (repeat' (first | (simp only [LO.next.injEq, LO.cnt.injEq, reduceCtorEq] at h1_) | split at h1_)) <;> subst h1_ <;> ((try dsimp only); first | omega | (simp only [List.length_append, List.length_cons, List.length_nil]; omega)))
  exact ss_one (st_ret (EV.give (ev_bor 1 rfl (pv 1)) rfl) rfl (by walk_at "weak"))
/-! ### longer_rows -/
abbrev s_longer_rows : Stmt := top 2
theorem sc_longer_rows : FnScope ["rows", "places", "told", "row", "at"] ["rows", "places"] (defScope s_longer_rows) := ⟨rfl, rfl, rfl, by decide +kernel, rfl, by decide +kernel, by decide +kernel⟩
theorem ok_longer_rows (F : Fun K "longer_rows" "longer_rows" s_longer_rows f fd) (hm : mg "longer_rows" = some (.ref f)) (b : Binds K fd ["rows", "places"] []) (m_any : mg "any" = none) (m_sorted : mg "sorted" = none) (m_tuple : mg "tuple" = none) : Cle P w K mg base 1 "longer_rows" R_longer_rows := by
  refine cle_mk (S := Unit) (L := Unit) (R := (List (List Int))) F sc_longer_rows hm b (fun ars rr h => by obtain ⟨_, _, _, rfl, _⟩ := h; rfl) fun cdv A outer s H E ars rr as hr hR => ?_
  obtain ⟨v_rows, v_places, hp0_, rfl, rfl⟩ := hR
  refine ⟨fun _ => [.any, .any, .any, .any, .any], fun _ => [], fun r_ => (.own (.lst (r_.map (eT D.int))), [.any, .any, .any, .any, .any]), lo_longer_rows v_rows v_places, ?_, .inl ⟨longer_rows v_rows v_places, lo_longer_rows_eq v_rows v_places hp0_, rfl, finOk trivial⟩⟩
  unfold lo_longer_rows
  refine ss_cons (S' := (List (List Int))) (G' := fun (v_told : (List (List Int))) => [.dat ((eL (eT D.int)) v_rows), .dat ((eL D.int) v_places), .own none (.lst (v_told.map (eT D.int))), .any, .any]) (st_set 2 sc_longer_rows.nd rfl (by first | exact .inl rfl | exact .inr rfl) (ev_lst (ds := []) av_nil) weak_rfl) (fun x_ hx_ => ?_)
  have hx_ := (LO.next.inj hx_).symm
  obtain ⟨v_told, hv_⟩ : ∃ v_, v_ = x_ := ⟨_, rfl⟩
  subst hv_
  have hx_told := hx_
  refine ss_cons (S' := (List (List Int))) (G' := fun (v_told : (List (List Int))) => [.dat ((eL (eT D.int)) v_rows), .dat ((eL D.int) v_places), .own none (.lst (v_told.map (eT D.int))), .any, .any]) (st_for (enc := (eT D.int)) (sh := (.name 3)) (Gs := fun (v_told : (List (List Int))) => [.dat ((eL (eT D.int)) v_rows), .dat ((eL D.int) v_places), .own none (.lst (v_told.map (eT D.int))), .any, .any]) (xs := v_rows) (st1_longer_rows v_places) (s0 := v_told) (fun (i_ : Nat) (v_told : (List (List Int))) => v_told.length ≤ i_ * 100) (iv_list (ev_var 0 rfl (pv 0))) (sh_name 3 (pg_name (i := 3) sc_longer_rows.nd rfl (by first | exact .inl rfl | exact .inr rfl))) PassesOwn.never rfl (by walk_at "weak") (by subst_vars; simp) (fun hB_ i_ v_told v_row hx_ hP_ => ?_)) (fun v_told hs_ => ?_)
  · skip
    (try dsimp only at hP_); have hm_ := List.mem_of_getElem? hx_; have hi_ := (List.getElem?_eq_some_iff.mp hx_).1; (try (have hs2_ := hB_; rw [List.length_map, sizeLine_eq] at hs2_)); (try have hr_ := rangeI_at hx_)
    refine ⟨⟨_, rfl, ?_⟩, ?_⟩
    · show SS _ _ _ _ _ _ ((if ((v_places.map fun (v_at : Int) => (decide (v_at ∈ v_row))).any id) then (LO.next (v_told ++ [v_row]) : LO (List (List Int)) (List (List Int)) (List (List Int))).bind fun (v_told : (List (List Int))) => LO.next v_told else (LO.next (v_told ++ (v_places.map fun (v_at : Int) => ((v_row ++ [v_at]).mergeSort (leT D.int)))) : LO (List (List Int)) (List (List Int)) (List (List Int))).bind fun (v_told : (List (List Int))) => LO.next v_told : LO (List (List Int)) (List (List Int)) (List (List Int))).bind fun (v_told : (List (List Int))) => LO.next v_told)
      refine ss_cons (S' := (List (List Int))) (G' := fun (v_told : (List (List Int))) => [.dat ((eL (eT D.int)) v_rows), .dat ((eL D.int) v_places), .own none (.lst (v_told.map (eT D.int))), .dat ((eT D.int) v_row), .any]) (st_if (tv_val (EV.lend (ev_any rfl rfl m_any .own (ev_lc rfl sc_longer_rows.nd (blkOk_by (own := [("at", 4)]) (by walk_at "blk")) (fun _ _ _ _ _ => (sh_name 4 (pg_name (i := 4) sc_longer_rows.nd rfl (by first | exact .inl rfl | exact .inr rfl)))) (cp_map (enc := D.int) (encb := D.bl) (sh := (.name 4)) (own := [("at", 4)]) (Γ0 := [.dat ((eL (eT D.int)) v_rows), .dat ((eL D.int) v_places), .dat ((eL (eT D.int)) v_told), .dat ((eT D.int) v_row), .any]) (fun (v_at : Int) => (decide (v_at ∈ v_row))) (iv_list (ev_var 1 rfl (pv 1))) (fun _ h => h) (by walk_at "weak") (by intro n hn t ht; simp only [List.map_cons, List.map_nil, List.mem_cons, List.not_mem_nil, or_false] at hn; subst hn; cases ht; rfl) (fun h => by simpa using h) (fun hB_ v_at hx_ => ⟨_, _, rfl, (fun _ _ _ _ _ => by (try simp only [Bool.and_eq_true, Bool.or_eq_true, Bool.and_eq_false_iff, Bool.or_eq_false_iff, Bool.not_eq_true', Bool.not_eq_false', decide_eq_true_eq, decide_eq_false_iff_not, List.isEmpty_eq_false_iff, List.isEmpty_iff] at h_); exact (ev_inI (ev_var 4 rfl (pv 4)) (ev_var 3 rfl (pv 3)) .t)), (by walk_at "weak")⟩)))) rfl)) (fun h_ => ?_) (fun h_ => ?_)) (fun v_told hs_ => ?_)
      · (try simp only [Bool.and_eq_true, Bool.or_eq_true, Bool.and_eq_false_iff, Bool.or_eq_false_iff, Bool.not_eq_true', Bool.not_eq_false', decide_eq_true_eq, decide_eq_false_iff_not, List.isEmpty_eq_false_iff, List.isEmpty_iff] at h_)
        refine ss_cons (S' := (List (List Int))) (G' := fun (v_told : (List (List Int))) => [.dat ((eL (eT D.int)) v_rows), .dat ((eL D.int) v_places), .own none (.lst (v_told.map (eT D.int))), .dat ((eT D.int) v_row), .any]) (st_expr (evt_append (enc := (eT D.int)) (v := v_row) (pv 2) rfl (ev_var 3 rfl (pv 3)) rfl (by walk_at "append")) weak_rfl) (fun x_ hx_ => ?_)
        have hx_ := (LO.next.inj hx_).symm
        obtain ⟨v_told, hv_⟩ : ∃ v_, v_ = x_ := ⟨_, rfl⟩
        subst hv_
        have hx_told := hx_
        exact (ss_nil (by walk_at "weak"))
      · (try simp only [Bool.and_eq_true, Bool.or_eq_true, Bool.and_eq_false_iff, Bool.or_eq_false_iff, Bool.not_eq_true', Bool.not_eq_false', decide_eq_true_eq, decide_eq_false_iff_not, List.isEmpty_eq_false_iff, List.isEmpty_iff] at h_)
        refine ss_cons (S' := (List (List Int))) (G' := fun (v_told : (List (List Int))) => [.dat ((eL (eT D.int)) v_rows), .dat ((eL D.int) v_places), .own none (.lst (v_told.map (eT D.int))), .dat ((eT D.int) v_row), .any]) (st_set 2 sc_longer_rows.nd rfl (by first | exact .inl rfl | exact .inr rfl) (evt_catL (enc := (eT D.int)) (xs := v_told) (ys := (v_places.map fun (v_at : Int) => ((v_row ++ [v_at]).mergeSort (leT D.int)))) (ev_bor 2 rfl (pv 2)) (ev_lc rfl sc_longer_rows.nd (blkOk_by (own := [("at", 4)]) (by walk_at "blk")) (fun _ _ _ _ _ => (sh_name 4 (pg_name (i := 4) sc_longer_rows.nd rfl (by first | exact .inl rfl | exact .inr rfl)))) (cp_map (enc := D.int) (encb := (eT D.int)) (sh := (.name 4)) (own := [("at", 4)]) (Γ0 := [.dat ((eL (eT D.int)) v_rows), .dat ((eL D.int) v_places), .own none (.lst (v_told.map (eT D.int))), .dat ((eT D.int) v_row), .any]) (fun (v_at : Int) => ((v_row ++ [v_at]).mergeSort (leT D.int))) (iv_list (ev_var 1 rfl (pv 1))) (fun _ h => h) (by walk_at "weak") (by intro n hn t ht; simp only [List.map_cons, List.map_nil, List.mem_cons, List.not_mem_nil, or_false] at hn; subst hn; cases ht; rfl) (fun h => by simpa using h) (fun hB_ v_at hx_ => ⟨_, _, rfl, (fun _ _ _ _ _ => by (try simp only [Bool.and_eq_true, Bool.or_eq_true, Bool.and_eq_false_iff, Bool.or_eq_false_iff, Bool.not_eq_true', Bool.not_eq_false', decide_eq_true_eq, decide_eq_false_iff_not, List.isEmpty_eq_false_iff, List.isEmpty_iff] at h_); exact (evt_tuple (enc := D.int) rfl m_tuple (.l .own) (evt_sorted (enc := D.int) hr.units rfl m_sorted EncOrd.int EncTop.int .t (evt_catT (enc := D.int) (xs := v_row) (ys := [v_at]) (ev_var 3 rfl (pv 3)) (ev_tup (ds := [D.int v_at]) (av_cons (ev_var 4 rfl (pv 4)) av_nil)) (by have z_ := hp0_.2.2 _ hm_; exact small_line (by simp only [List.length_append, List.length_cons, List.length_nil, List.length_map]; omega)))))), (by walk_at "weak")⟩))) (.bor rfl) .own (by have z_ := hp0_.2.2 _ hm_; exact small_line (by simp only [List.length_append, List.length_cons, List.length_nil, List.length_map]; omega))) weak_rfl) (fun x_ hx_ => ?_)
        have hx_ := (LO.next.inj hx_).symm
        obtain ⟨v_told, hv_⟩ : ∃ v_, v_ = x_ := ⟨_, rfl⟩
        subst hv_
        have hx_told := hx_
        exact (ss_nil (by walk_at "weak"))
      exact (ss_nil (by walk_at "weak"))
    · (intro s1_ h1_; rcases h1_ with h1_ | h1_ <;> (simp only [st1_longer_rows, lob_ite, lob_next, lob_cnt, lob_brk, lob_ret] at h1_) <;> (repeat' (first | (simp only [LO.next.injEq, LO.cnt.injEq, reduceCtorEq] at h1_) | split at h1_)) <;> subst h1_ <;> ((try dsimp only); simp only [List.length_append, List.length_cons, List.length_nil, List.length_map]; omega))
  exact ss_one (st_ret (EV.give (ev_bor 2 rfl (pv 2)) rfl) rfl (by walk_at "weak"))
/-! ### least_covers -/
abbrev s_least_covers : Stmt := top 3
theorem sc_least_covers : FnScope ["names", "groups", "known", "rows", "group", "places", "row", "name", "at"] ["names", "groups"] (defScope s_least_covers) := ⟨rfl, rfl, rfl, by decide +kernel, rfl, by decide +kernel, by decide +kernel⟩
theorem ok_least_covers (F : Fun K "least_covers" "least_covers" s_least_covers f fd) (hm : mg "least_covers" = some (.ref f)) (b : Binds K fd ["names", "groups"] []) (m_list : mg "list" = none) (m_tuple : mg "tuple" = none) (C_least_of : Cle P w K mg base 1 "least_of" R_least_of) (C_longer_rows : Cle P w K mg base 1 "longer_rows" R_longer_rows) : Cle P w K mg base 2 "least_covers" R_least_covers := by
  refine cle_mk (S := Unit) (L := Unit) (R := (List (List Str))) F sc_least_covers hm b (fun ars rr h => by obtain ⟨_, _, _, _, rfl, _⟩ := h; rfl) fun cdv A outer s H E ars rr as hr hR => ?_
  obtain ⟨v_names, v_groups, hp0_, hp1_, rfl, rfl⟩ := hR
  refine ⟨fun _ => [.any, .any, .any, .any, .any, .any, .any, .any, .any], fun _ => [], fun r_ => (.own (.lst (r_.map (eT D.str))), [.any, .any, .any, .any, .any, .any, .any, .any, .any]), lo_least_covers v_names v_groups, ?_, .inl ⟨least_covers v_names v_groups, lo_least_covers_eq v_names v_groups hp0_ hp1_, rfl, finOk trivial⟩⟩
  unfold lo_least_covers
  refine ss_cons (S' := (List Str)) (G' := fun (v_known : (List Str)) => [.dat ((eL D.str) v_names), .dat ((eL (eT D.str)) v_groups), .dat ((eL D.str) v_known), .any, .any, .any, .any, .any, .any]) (st_set 2 sc_least_covers.nd rfl (by first | exact .inl rfl | exact .inr rfl) (EV.fz (evt_list (enc := D.str) rfl m_list (.l .dat) (ev_var 0 rfl (pv 0)))) weak_rfl) (fun x_ hx_ => ?_)
  have hx_ := (LO.next.inj hx_).symm
  obtain ⟨v_known, hv_⟩ : ∃ v_, v_ = x_ := ⟨_, rfl⟩
  subst hv_
  have hx_known := hx_
  refine ss_cons (S' := (List (List Int))) (G' := fun (v_rows : (List (List Int))) => [.dat ((eL D.str) v_names), .dat ((eL (eT D.str)) v_groups), .dat ((eL D.str) v_known), .dat ((eL (eT D.int)) v_rows), .any, .any, .any, .any, .any]) (st_set 3 sc_least_covers.nd rfl (by first | exact .inl rfl | exact .inr rfl) (EV.fz (ev_lst (ds := [(eT D.int) ([] : (List Int))]) (av_cons (ev_tup (ds := []) av_nil) av_nil))) weak_rfl) (fun x_ hx_ => ?_)
  have hx_ := (LO.next.inj hx_).symm
  obtain ⟨v_rows, hv_⟩ : ∃ v_, v_ = x_ := ⟨_, rfl⟩
  subst hv_
  have hx_rows := hx_
  refine ss_cons (S' := (List (List Int))) (G' := fun (v_rows : (List (List Int))) => [.dat ((eL D.str) v_names), .dat ((eL (eT D.str)) v_groups), .dat ((eL D.str) v_known), .dat ((eL (eT D.int)) v_rows), .any, .any, .any, .any, .any]) (st_for (enc := (eT D.str)) (sh := (.name 4)) (Gs := fun (v_rows : (List (List Int))) => [.dat ((eL D.str) v_names), .dat ((eL (eT D.str)) v_groups), .dat ((eL D.str) v_known), .dat ((eL (eT D.int)) v_rows), .any, .any, .any, .any, .any]) (xs := v_groups) (st1_least_covers v_known) (s0 := v_rows) (fun (i_ : Nat) (v_rows : (List (List Int))) => v_rows = gmh v_names.length ((v_groups.take i_).map (pl v_names))) (iv_list (ev_var 1 rfl (pv 1))) (sh_name 4 (pg_name (i := 4) sc_least_covers.nd rfl (by first | exact .inl rfl | exact .inr rfl))) PassesOwn.never rfl (by walk_at "weak") (by rw [hx_rows]; exact (gmh_nil _).symm) (fun hB_ i_ v_rows v_group hx_ hP_ => ?_)) (fun v_rows hs_ => ?_)
  · skip
    (try dsimp only at hP_); have hm_ := List.mem_of_getElem? hx_; have hi_ := (List.getElem?_eq_some_iff.mp hx_).1; (try (have hs2_ := hB_; rw [List.length_map, sizeLine_eq] at hs2_)); (try have hr_ := rangeI_at hx_)
    refine ⟨⟨_, rfl, ?_⟩, ?_⟩
    · show SS _ _ _ _ _ _ ((LO.next (v_group.map fun (v_name : Str) => (findI v_known v_name)) : LO (List Int) (List (List Int)) (List (List Str))).bind fun (v_places : (List Int)) => (LO.next (least_of (longer_rows v_rows v_places)) : LO (List (List Int)) (List (List Int)) (List (List Str))).bind fun (v_rows : (List (List Int))) => LO.next v_rows)
      refine ss_cons (S' := (List Int)) (G' := fun (v_places : (List Int)) => [.dat ((eL D.str) v_names), .dat ((eL (eT D.str)) v_groups), .dat ((eL D.str) v_known), .dat ((eL (eT D.int)) v_rows), .dat ((eT D.str) v_group), .dat ((eL D.int) v_places), .any, .any, .any]) (st_lc 5 rfl sc_least_covers.nd rfl rfl (sw_true rfl rfl rfl (by decide +kernel)) (blkOk_by (own := [("name", 7)]) (by walk_at "blk")) (fun _ _ _ _ _ => (sh_name 7 (pg_name (i := 7) sc_least_covers.nd rfl (by first | exact .inl rfl | exact .inr rfl)))) (CompOk.fz (cp_map (enc := D.str) (encb := D.int) (sh := (.name 7)) (own := [("name", 7)]) (Γ0 := [.dat ((eL D.str) v_names), .dat ((eL (eT D.str)) v_groups), .dat ((eL D.str) v_known), .dat ((eL (eT D.int)) v_rows), .dat ((eT D.str) v_group), .any, .any, .any, .any]) (fun (v_name : Str) => (findI v_known v_name)) (iv_tup (ev_var 4 rfl (pv 4))) (fun _ h => h) (by walk_at "weak") (by intro n hn t ht; simp only [List.map_cons, List.map_nil, List.mem_cons, List.not_mem_nil, or_false] at hn; subst hn; cases ht; rfl) (fun h => by simpa using h) (fun hB_ v_name hx_ => ⟨_, _, rfl, (fun _ _ _ _ _ => by (try simp only [Bool.and_eq_true, Bool.or_eq_true, Bool.and_eq_false_iff, Bool.or_eq_false_iff, Bool.not_eq_true', Bool.not_eq_false', decide_eq_true_eq, decide_eq_false_iff_not, List.isEmpty_eq_false_iff, List.isEmpty_iff] at h_); exact (evt_indexS (ev_var 2 rfl (pv 2)) (ev_var 7 rfl (pv 7)) .dat (by rw [hx_known]; exact (hp1_ _ hm_).1 _ (by with_reducible assumption)))), (by walk_at "weak")⟩))) weak_rfl) (fun x_ hx_ => ?_)
      have hx_ := (LO.next.inj hx_).symm
      obtain ⟨v_places, hv_⟩ : ∃ v_, v_ = x_ := ⟨_, rfl⟩
      subst hv_
      have hx_places := hx_
      refine ss_cons (S' := (List (List Int))) (G' := fun (v_rows : (List (List Int))) => [.dat ((eL D.str) v_names), .dat ((eL (eT D.str)) v_groups), .dat ((eL D.str) v_known), .dat ((eL (eT D.int)) v_rows), .dat ((eT D.str) v_group), .dat ((eL D.int) v_places), .any, .any, .any]) (st_set 3 sc_least_covers.nd rfl (by first | exact .inl rfl | exact .inr rfl) (EV.fz (ev_call (rs := [.dat ((eL (eT D.int)) (longer_rows v_rows v_places))]) (ars := [.dat ((eL (eT D.int)) (longer_rows v_rows v_places))]) (rr := .own (.lst ((least_of (longer_rows v_rows v_places)).map (eT D.int)))) C_least_of (hr.mono (by decide)) rfl ⟨(longer_rows v_rows v_places),  rfl, rfl⟩ (mt_cdat (d := (eL (eT D.int)) (longer_rows v_rows v_places)) mt_nil) (av_cons (EV.fz (ev_call (rs := [.dat ((eL (eT D.int)) v_rows), .dat ((eL D.int) v_places)]) (ars := [.dat ((eL (eT D.int)) v_rows), .dat ((eL D.int) v_places)]) (rr := .own (.lst ((longer_rows v_rows v_places).map (eT D.int)))) C_longer_rows (hr.mono (by decide)) rfl ⟨v_rows, v_places, (by rw [hx_places, hx_known]; exact covers_pre hp0_ hp1_ (by with_reducible assumption) hP_), rfl, rfl⟩ (mt_cdat (d := (eL (eT D.int)) v_rows) (mt_cdat (d := (eL D.int) v_places) mt_nil)) (av_cons (ev_var 3 rfl (pv 3)) (av_cons (ev_var 5 rfl (pv 5)) av_nil)))) av_nil))) weak_rfl) (fun x_ hx_ => ?_)
      have hx_ := (LO.next.inj hx_).symm
      obtain ⟨v_rows, hv_⟩ : ∃ v_, v_ = x_ := ⟨_, rfl⟩
      subst hv_
      have hx_rows := hx_
      exact (ss_nil (by walk_at "weak"))
    · (intro s1_ h1_; rcases h1_ with h1_ | h1_ <;> simp only [st1_least_covers, lob_next, LO.next.injEq, reduceCtorEq] at h1_; subst h1_; rw [hx_known]; exact covers_step hp1_ hx_ hP_)
  have ha_ := hs_; rw [hx_known, hx_rows] at ha_; have hr_ := covers_loop hp1_ ha_
  exact ss_one (st_ret (ev_lc rfl sc_least_covers.nd (blkOk_by (own := [("row", 6)]) (by walk_at "blk")) (fun _ _ _ _ _ => (sh_name 6 (pg_name (i := 6) sc_least_covers.nd rfl (by first | exact .inl rfl | exact .inr rfl)))) (cp_map (enc := (eT D.int)) (encb := (eT D.str)) (sh := (.name 6)) (own := [("row", 6)]) (Γ0 := [.dat ((eL D.str) v_names), .dat ((eL (eT D.str)) v_groups), .dat ((eL D.str) v_known), .dat ((eL (eT D.int)) v_rows), .any, .any, .any, .any, .any]) (fun (v_row : (List Int)) => (v_row.map fun (v_at : Int) => (v_known.getD (v_at).toNat default))) (iv_list (ev_var 3 rfl (pv 3))) (fun _ h => h) (by walk_at "weak") (by intro n hn t ht; simp only [List.map_cons, List.map_nil, List.mem_cons, List.not_mem_nil, or_false] at hn; subst hn; cases ht; rfl) (fun h => by simpa using h) (fun hB_ v_row hx_ => ⟨_, _, rfl, (fun _ _ _ _ _ => by (try simp only [Bool.and_eq_true, Bool.or_eq_true, Bool.and_eq_false_iff, Bool.or_eq_false_iff, Bool.not_eq_true', Bool.not_eq_false', decide_eq_true_eq, decide_eq_false_iff_not, List.isEmpty_eq_false_iff, List.isEmpty_iff] at h_); exact (evt_tuple (enc := D.str) rfl m_tuple (.l .own) (ev_lc rfl sc_least_covers.nd (blkOk_by (own := [("at", 8)]) (by walk_at "blk")) (fun _ _ _ _ _ => (sh_name 8 (pg_name (i := 8) sc_least_covers.nd rfl (by first | exact .inl rfl | exact .inr rfl)))) (cp_map (enc := D.int) (encb := D.str) (sh := (.name 8)) (own := [("at", 8)]) (Γ0 := [.dat ((eL D.str) v_names), .dat ((eL (eT D.str)) v_groups), .dat ((eL D.str) v_known), .dat ((eL (eT D.int)) v_rows), .any, .any, .dat ((eT D.int) v_row), .any, .any]) (fun (v_at : Int) => (v_known.getD (v_at).toNat default)) (iv_tup (ev_var 6 rfl (pv 6))) (fun _ h => h) (by walk_at "weak") (by intro n hn t ht; simp only [List.map_cons, List.map_nil, List.mem_cons, List.not_mem_nil, or_false] at hn; subst hn; cases ht; rfl) (fun h => by simpa using h) (fun hB_ v_at hx_ => ⟨_, _, rfl, (fun _ _ _ _ _ => by (try simp only [Bool.and_eq_true, Bool.or_eq_true, Bool.and_eq_false_iff, Bool.or_eq_false_iff, Bool.not_eq_true', Bool.not_eq_false', decide_eq_true_eq, decide_eq_false_iff_not, List.isEmpty_eq_false_iff, List.isEmpty_iff] at h_); exact (evt_ixL (enc := D.str) (ev_var 2 rfl (pv 2)) (ev_var 8 rfl (pv 8)) .dat (by exact (covers_at hr_ (by with_reducible assumption) (by with_reducible assumption)).1) (by rw [hx_known]; exact (covers_at hr_ (by with_reducible assumption) (by with_reducible assumption)).2))), (by walk_at "weak")⟩))))), (by walk_at "weak")⟩))) rfl (by walk_at "weak"))
/-! ### _law_cell -/
abbrev s_law_cell : Stmt := top 5
theorem sc_law_cell : FnScope ["script", "k"] ["script", "k"] (defScope s_law_cell) := ⟨rfl, rfl, rfl, by decide +kernel, rfl, by decide +kernel, by decide +kernel⟩
theorem ok_law_cell (F : Fun K "_law_cell" "_law_cell" s_law_cell f fd) (hm : mg "_law_cell" = some (.ref f)) (b : Binds K fd ["script", "k"] []) (m_len : mg "len" = none) (m_int : mg "int" = none) : Cle P w K mg base 1 "_law_cell" R_law_cell := by
  refine cle_mk (S := Unit) (L := Unit) (R := Int) F sc_law_cell hm b (fun ars rr h => by obtain ⟨_, _, _, rfl, _⟩ := h; rfl) fun cdv A outer s H E ars rr as hr hR => ?_
  obtain ⟨v_script, v_k, hp0_, rfl, rfl⟩ := hR
  refine ⟨fun _ => [.any, .any], fun _ => [], fun r_ => (.dat (D.int r_), [.any, .any]), lo_law_cell v_script v_k, ?_, .inl ⟨law_cell v_script v_k, lo_law_cell_eq v_script v_k hp0_, rfl, finOk trivial⟩⟩
  unfold lo_law_cell
  refine ss_cons (S' := Unit) (G' := fun (_ : Unit) => [.dat ((eL D.int) v_script), .dat (D.int v_k)]) (st_if (tv_lt (ev_var 1 rfl (pv 1)) (evt_len rfl m_len (.l .dat) (ev_var 0 rfl (pv 0)))) (fun h_ => ?_) (fun h_ => ?_)) (fun x_ hs_ => ?_)
  · (try simp only [Bool.and_eq_true, Bool.or_eq_true, Bool.and_eq_false_iff, Bool.or_eq_false_iff, Bool.not_eq_true', Bool.not_eq_false', decide_eq_true_eq, decide_eq_false_iff_not, List.isEmpty_eq_false_iff, List.isEmpty_iff] at h_)
    exact ss_one (st_ret (ev_int1 rfl m_int (evt_ixL (enc := D.int) (ev_var 0 rfl (pv 0)) (ev_var 1 rfl (pv 1)) .dat (by walk_at "lo") (by walk_at "hi"))) rfl (by walk_at "weak"))
  · (try simp only [Bool.and_eq_true, Bool.or_eq_true, Bool.and_eq_false_iff, Bool.or_eq_false_iff, Bool.not_eq_true', Bool.not_eq_false', decide_eq_true_eq, decide_eq_false_iff_not, List.isEmpty_eq_false_iff, List.isEmpty_iff] at h_)
    exact (ss_nil (by walk_at "weak"))
  have hn_ := (if_nextR hs_ (by walk_at "nn")).1
  have hsv_ := (if_nextR hs_ (by walk_at "nn")).2
  (try simp only [Bool.and_eq_true, Bool.or_eq_true, Bool.and_eq_false_iff, Bool.or_eq_false_iff, Bool.not_eq_true', Bool.not_eq_false', decide_eq_true_eq, decide_eq_false_iff_not, List.isEmpty_eq_false_iff, List.isEmpty_iff] at hn_)
  exact ss_one (st_ret ev_int rfl (by walk_at "weak"))
/-! ### _law_digits -/
abbrev s_law_digits : Stmt := top 6
theorem sc_law_digits : FnScope ["cell", "many", "row", "rest", "seed", "k"] ["cell", "many"] (defScope s_law_digits) := ⟨rfl, rfl, rfl, by decide +kernel, rfl, by decide +kernel, by decide +kernel⟩
theorem ok_law_digits (F : Fun K "_law_digits" "_law_digits" s_law_digits f fd) (hm : mg "_law_digits" = some (.ref f)) (b : Binds K fd ["cell", "many"] []) (m_abs : mg "abs" = none) (m_int : mg "int" = none) (m_range : mg "range" = none) : Cle P w K mg base 1 "_law_digits" R_law_digits := by
  refine cle_mk (S := Unit) (L := Unit) (R := (List Int)) F sc_law_digits hm b (fun ars rr h => by obtain ⟨_, _, _, rfl, _⟩ := h; rfl) fun cdv A outer s H E ars rr as hr hR => ?_
  obtain ⟨v_cell, v_many, hp0_, rfl, rfl⟩ := hR
  refine ⟨fun _ => [.any, .any, .any, .any, .any, .any], fun _ => [], fun r_ => (.own (.lst (r_.map D.int)), [.any, .any, .any, .any, .any, .any]), lo_law_digits v_cell v_many, ?_, .inl ⟨law_digits v_cell v_many, lo_law_digits_eq v_cell v_many hp0_, rfl, finOk trivial⟩⟩
  unfold lo_law_digits
  refine ss_cons (S' := (List Int)) (G' := fun (v_row : (List Int)) => [.dat (D.int v_cell), .dat (D.int v_many), .own none (.lst (v_row.map D.int)), .any, .any, .any]) (st_set 2 sc_law_digits.nd rfl (by first | exact .inl rfl | exact .inr rfl) (ev_lst (ds := []) av_nil) weak_rfl) (fun x_ hx_ => ?_)
  have hx_ := (LO.next.inj hx_).symm
  obtain ⟨v_row, hv_⟩ : ∃ v_, v_ = x_ := ⟨_, rfl⟩
  subst hv_
  have hx_row := hx_
  refine ss_cons (S' := Int) (G' := fun (v_rest : Int) => [.dat (D.int v_cell), .dat (D.int v_many), .own none (.lst (v_row.map D.int)), .dat (D.int v_rest), .any, .any]) (st_set 3 sc_law_digits.nd rfl (by first | exact .inl rfl | exact .inr rfl) ev_int weak_rfl) (fun x_ hx_ => ?_)
  have hx_ := (LO.next.inj hx_).symm
  obtain ⟨v_rest, hv_⟩ : ∃ v_, v_ = x_ := ⟨_, rfl⟩
  subst hv_
  have hx_rest := hx_
  refine ss_cons (S' := Int) (G' := fun (v_rest : Int) => [.dat (D.int v_cell), .dat (D.int v_many), .own none (.lst (v_row.map D.int)), .dat (D.int v_rest), .any, .any]) (st_if (tv_ge (ev_abs rfl m_abs (ev_var 0 rfl (pv 0))) (ev_pow (by refine ⟨?_, ?_, ?_⟩ <;> decide) ev_int ev_int)) (fun h_ => ?_) (fun h_ => ?_)) (fun v_rest hs_ => ?_)
  · (try simp only [Bool.and_eq_true, Bool.or_eq_true, Bool.and_eq_false_iff, Bool.or_eq_false_iff, Bool.not_eq_true', Bool.not_eq_false', decide_eq_true_eq, decide_eq_false_iff_not, List.isEmpty_eq_false_iff, List.isEmpty_iff] at h_)
    refine ss_cons (S' := Int) (G' := fun (v_rest : Int) => [.dat (D.int v_cell), .dat (D.int v_many), .own none (.lst (v_row.map D.int)), .dat (D.int v_rest), .any, .any]) (st_set 3 sc_law_digits.nd rfl (by first | exact .inl rfl | exact .inr rfl) (ev_abs rfl m_abs (ev_var 0 rfl (pv 0))) weak_rfl) (fun x_ hx_ => ?_)
    have hx_ := (LO.next.inj hx_).symm
    obtain ⟨v_rest, hv_⟩ : ∃ v_, v_ = x_ := ⟨_, rfl⟩
    subst hv_
    have hx_rest := hx_
    exact (ss_nil (by walk_at "weak"))
  · (try simp only [Bool.and_eq_true, Bool.or_eq_true, Bool.and_eq_false_iff, Bool.or_eq_false_iff, Bool.not_eq_true', Bool.not_eq_false', decide_eq_true_eq, decide_eq_false_iff_not, List.isEmpty_eq_false_iff, List.isEmpty_iff] at h_)
    exact (ss_nil (by walk_at "weak"))
  refine ss_cons (S' := Int) (G' := fun (v_seed : Int) => [.dat (D.int v_cell), .dat (D.int v_many), .own none (.lst (v_row.map D.int)), .dat (D.int v_rest), .dat (D.int v_seed), .any]) (st_set 4 sc_law_digits.nd rfl (by first | exact .inl rfl | exact .inr rfl) (ev_mod (by walk_at "pos") (ev_int1 rfl m_int (ev_var 0 rfl (pv 0))) ev_int) weak_rfl) (fun x_ hx_ => ?_)
  have hx_ := (LO.next.inj hx_).symm
  obtain ⟨v_seed, hv_⟩ : ∃ v_, v_ = x_ := ⟨_, rfl⟩
  subst hv_
  have hx_seed := hx_
  refine ss_cons (S' := ((List Int) × Int × Int)) (G' := fun x_ => match x_ with | (v_row, v_rest, v_seed) => [.dat (D.int v_cell), .dat (D.int v_many), .own none (.lst (v_row.map D.int)), .dat (D.int v_rest), .dat (D.int v_seed), .any]) (st_for (enc := D.int) (sh := (.name 5)) (Gs := fun x_ => match x_ with | (v_row, v_rest, v_seed) => [.dat (D.int v_cell), .dat (D.int v_many), .own none (.lst (v_row.map D.int)), .dat (D.int v_rest), .dat (D.int v_seed), .any]) (xs := (rangeI 0 v_many)) (st1_law_digits) (s0 := (v_row, v_rest, v_seed)) (fun (i_ : Nat) (x_ : ((List Int) × Int × Int)) => match x_ with | (v_row, v_rest, v_seed) => (v_row.length : Int) = i_ ∧ 0 ≤ v_seed ∧ v_seed < 2147483647) (ivt_range1 rfl m_range (ev_var 1 rfl (pv 1)) (by walk_at "rng")) (sh_name 5 (pg_name (i := 5) sc_law_digits.nd rfl (by first | exact .inl rfl | exact .inr rfl))) PassesOwn.never rfl (by walk_at "weak") (by subst_vars; exact ⟨rfl, by omega, by omega⟩) (fun hB_ i_ s_ v_k hx_ hP_ => ?_)) (fun x_ hs_ => ?_)
  · skip
    obtain ⟨v_row, v_rest, v_seed⟩ := s_
    (try dsimp only at hP_); have hm_ := List.mem_of_getElem? hx_; have hi_ := (List.getElem?_eq_some_iff.mp hx_).1; (try (have hs2_ := hB_; rw [List.length_map, sizeLine_eq] at hs2_)); (try have hr_ := rangeI_at hx_)
    refine ⟨⟨_, rfl, ?_⟩, ?_⟩
    · show SS _ _ _ _ _ _ ((if (decide ((0 : Int) < v_rest)) then (LO.next (v_row ++ [(v_rest % (840 : Int))]) : LO (List Int) ((List Int) × Int × Int) (List Int)).bind fun (v_row : (List Int)) => (LO.next (v_rest / (840 : Int)) : LO Int ((List Int) × Int × Int) (List Int)).bind fun (v_rest : Int) => LO.next (v_row, v_rest, v_seed) else (LO.next ((((v_seed * (48271 : Int)) + ((11 : Int) * v_k)) + (7 : Int)) % (2147483647 : Int)) : LO Int ((List Int) × Int × Int) (List Int)).bind fun (v_seed : Int) => (LO.next (v_row ++ [(((((v_seed * (69621 : Int)) + (v_k * v_k)) + (3 : Int)) % (2147483629 : Int)) % (840 : Int))]) : LO (List Int) ((List Int) × Int × Int) (List Int)).bind fun (v_row : (List Int)) => LO.next (v_row, v_rest, v_seed) : LO ((List Int) × Int × Int) ((List Int) × Int × Int) (List Int)).bind fun x_ => match x_ with | (v_row, v_rest, v_seed) => LO.next (v_row, v_rest, v_seed))
      refine ss_cons (S' := ((List Int) × Int × Int)) (G' := fun x_ => match x_ with | (v_row, v_rest, v_seed) => [.dat (D.int v_cell), .dat (D.int v_many), .own none (.lst (v_row.map D.int)), .dat (D.int v_rest), .dat (D.int v_seed), .dat (D.int v_k)]) (st_if (tv_gt (ev_var 3 rfl (pv 3)) ev_int) (fun h_ => ?_) (fun h_ => ?_)) (fun x_ hs_ => ?_)
      · (try simp only [Bool.and_eq_true, Bool.or_eq_true, Bool.and_eq_false_iff, Bool.or_eq_false_iff, Bool.not_eq_true', Bool.not_eq_false', decide_eq_true_eq, decide_eq_false_iff_not, List.isEmpty_eq_false_iff, List.isEmpty_iff] at h_)
        refine ss_cons (S' := (List Int)) (G' := fun (v_row : (List Int)) => [.dat (D.int v_cell), .dat (D.int v_many), .own none (.lst (v_row.map D.int)), .dat (D.int v_rest), .dat (D.int v_seed), .dat (D.int v_k)]) (st_expr (evt_append (enc := D.int) (v := (v_rest % (840 : Int))) (pv 2) rfl (ev_mod (by walk_at "pos") (ev_int1 rfl m_int (ev_var 3 rfl (pv 3))) ev_int) rfl (by walk_at "append")) weak_rfl) (fun x_ hx_ => ?_)
        have hx_ := (LO.next.inj hx_).symm
        obtain ⟨v_row, hv_⟩ : ∃ v_, v_ = x_ := ⟨_, rfl⟩
        subst hv_
        have hx_row := hx_
        refine ss_cons (S' := Int) (G' := fun (v_rest : Int) => [.dat (D.int v_cell), .dat (D.int v_many), .own none (.lst (v_row.map D.int)), .dat (D.int v_rest), .dat (D.int v_seed), .dat (D.int v_k)]) (st_set 3 sc_law_digits.nd rfl (by first | exact .inl rfl | exact .inr rfl) (ev_fdiv (by walk_at "div") (ev_var 3 rfl (pv 3)) ev_int) weak_rfl) (fun x_ hx_ => ?_)
        have hx_ := (LO.next.inj hx_).symm
        obtain ⟨v_rest, hv_⟩ : ∃ v_, v_ = x_ := ⟨_, rfl⟩
        subst hv_
        have hx_rest := hx_
        exact (ss_nil (by walk_at "weak"))
      · (try simp only [Bool.and_eq_true, Bool.or_eq_true, Bool.and_eq_false_iff, Bool.or_eq_false_iff, Bool.not_eq_true', Bool.not_eq_false', decide_eq_true_eq, decide_eq_false_iff_not, List.isEmpty_eq_false_iff, List.isEmpty_iff] at h_)
        refine ss_cons (S' := Int) (G' := fun (v_seed : Int) => [.dat (D.int v_cell), .dat (D.int v_many), .own none (.lst (v_row.map D.int)), .dat (D.int v_rest), .dat (D.int v_seed), .dat (D.int v_k)]) (st_set 4 sc_law_digits.nd rfl (by first | exact .inl rfl | exact .inr rfl) (ev_mod (by walk_at "pos") (ev_int1 rfl m_int (ev_add (ev_add (ev_mul (by walk_at "mul") (ev_var 4 rfl (pv 4)) ev_int) (ev_mul (by walk_at "mul") ev_int (ev_var 5 rfl (pv 5)))) ev_int)) ev_int) weak_rfl) (fun x_ hx_ => ?_)
        have hx_ := (LO.next.inj hx_).symm
        obtain ⟨v_seed, hv_⟩ : ∃ v_, v_ = x_ := ⟨_, rfl⟩
        subst hv_
        have hx_seed := hx_
        refine ss_cons (S' := (List Int)) (G' := fun (v_row : (List Int)) => [.dat (D.int v_cell), .dat (D.int v_many), .own none (.lst (v_row.map D.int)), .dat (D.int v_rest), .dat (D.int v_seed), .dat (D.int v_k)]) (st_expr (evt_append (enc := D.int) (v := (((((v_seed * (69621 : Int)) + (v_k * v_k)) + (3 : Int)) % (2147483629 : Int)) % (840 : Int))) (pv 2) rfl (ev_mod (by walk_at "pos") (ev_mod (by walk_at "pos") (ev_int1 rfl m_int (ev_add (ev_add (ev_mul (by walk_at "mul") (ev_var 4 rfl (pv 4)) ev_int) (ev_mul (by walk_at "mul") (ev_var 5 rfl (pv 5)) (ev_var 5 rfl (pv 5)))) ev_int)) ev_int) ev_int) rfl (by walk_at "append")) weak_rfl) (fun x_ hx_ => ?_)
        have hx_ := (LO.next.inj hx_).symm
        obtain ⟨v_row, hv_⟩ : ∃ v_, v_ = x_ := ⟨_, rfl⟩
        subst hv_
        have hx_row := hx_
        exact (ss_nil (by walk_at "weak"))
      obtain ⟨v_row, v_rest, v_seed⟩ := x_
      exact (ss_nil (by walk_at "weak"))
    · (intro s1_ h1_; rcases h1_ with h1_ | h1_ <;> (simp only [st1_law_digits, lob_ite, lob_next, lob_cnt, lob_brk, lob_ret] at h1_) <;> (repeat' (first | (simp only [LO.next.injEq, LO.cnt.injEq, reduceCtorEq] at h1_) | split at h1_)) <;> subst h1_ <;> ((try dsimp only); first | omega | (simp only [List.length_append, List.length_cons, List.length_nil]; omega)))
  obtain ⟨v_row, v_rest, v_seed⟩ := x_
  exact ss_one (st_ret (evt_revL (enc := D.int) (ev_bor 2 rfl (pv 2)) (.bor rfl)) rfl (by walk_at "weak"))
/-! ### _law_take -/
abbrev s_law_take : Stmt := top 7
theorem sc_law_take : FnScope ["row", "many"] ["row", "many"] (defScope s_law_take) := ⟨rfl, rfl, rfl, by decide +kernel, rfl, by decide +kernel, by decide +kernel⟩
theorem ok_law_take (F : Fun K "_law_take" "_law_take" s_law_take f fd) (hm : mg "_law_take" = some (.ref f)) (b : Binds K fd ["row", "many"] []) (m_len : mg "len" = none) (m_int : mg "int" = none) : Cle P w K mg base 1 "_law_take" R_law_take := by
  refine cle_mk (S := Unit) (L := Unit) (R := (Int × (List Int))) F sc_law_take hm b (fun ars rr h => by obtain ⟨_, _, _, rfl, _⟩ := h; rfl) fun cdv A outer s H E ars rr as hr hR => ?_
  obtain ⟨v_row, v_many, hp0_, rfl, rfl⟩ := hR
  refine ⟨fun _ => [.any, .any], fun _ => [], fun r_ => (.dat (D.int r_.1), [.own (some (as 0)) (.lst (r_.2.map D.int)), .any]), lo_law_take v_row v_many, ?_, .inl ⟨law_take v_row v_many, lo_law_take_eq v_row v_many hp0_, rfl, finOk ⟨rfl, rfl, trivial⟩⟩⟩
  unfold lo_law_take
  refine ss_cons (S' := Unit) (G' := fun (_ : Unit) => [.own (some (as 0)) (.lst (v_row.map D.int)), .dat (D.int v_many)]) (st_if (tv_eqI (evt_len rfl m_len (.l (.bor rfl)) (ev_bor 0 rfl (pv 0))) ev_int) (fun h_ => ?_) (fun h_ => ?_)) (fun x_ hs_ => ?_)
  · (try simp only [Bool.and_eq_true, Bool.or_eq_true, Bool.and_eq_false_iff, Bool.or_eq_false_iff, Bool.not_eq_true', Bool.not_eq_false', decide_eq_true_eq, decide_eq_false_iff_not, List.isEmpty_eq_false_iff, List.isEmpty_iff] at h_)
    exact ss_one (st_ret ev_int rfl (by walk_at "weak"))
  · (try simp only [Bool.and_eq_true, Bool.or_eq_true, Bool.and_eq_false_iff, Bool.or_eq_false_iff, Bool.not_eq_true', Bool.not_eq_false', decide_eq_true_eq, decide_eq_false_iff_not, List.isEmpty_eq_false_iff, List.isEmpty_iff] at h_)
    exact (ss_nil (by walk_at "weak"))
  have hn_ := (if_nextR hs_ (by walk_at "nn")).1
  have hsv_ := (if_nextR hs_ (by walk_at "nn")).2
  (try simp only [Bool.and_eq_true, Bool.or_eq_true, Bool.and_eq_false_iff, Bool.or_eq_false_iff, Bool.not_eq_true', Bool.not_eq_false', decide_eq_true_eq, decide_eq_false_iff_not, List.isEmpty_eq_false_iff, List.isEmpty_iff] at hn_)
  exact ss_one (st_ret (ev_mod (by walk_at "pos") (ev_int1 rfl m_int (evt_pop (enc := D.int) (pv 0) rfl (by walk_at "nonempty"))) (ev_var 1 rfl (pv 1))) rfl (by walk_at "weak"))
/-! ### _law_words -/
abbrev s_law_words : Stmt := top 8
theorem sc_law_words : FnScope ["row", "count", "letters", "front", "told", "k", "d", "body"] ["row", "count"] (defScope s_law_words) := ⟨rfl, rfl, rfl, by decide +kernel, rfl, by decide +kernel, by decide +kernel⟩
theorem ok_law_words (F : Fun K "_law_words" "_law_words" s_law_words f fd) (hm : mg "_law_words" = some (.ref f)) (b : Binds K fd ["row", "count"] []) (m_range : mg "range" = none) (C_law_take : Cle P w K mg base 1 "_law_take" R_law_take) : Cle P w K mg base 2 "_law_words" R_law_words := by
  refine cle_mk (S := Unit) (L := Unit) (R := ((List Str) × (List Int))) F sc_law_words hm b (fun ars rr h => by obtain ⟨_, _, _, rfl, _⟩ := h; rfl) fun cdv A outer s H E ars rr as hr hR => ?_
  obtain ⟨v_row, v_count, hp0_, rfl, rfl⟩ := hR
  refine ⟨fun _ => [.any, .any, .any, .any, .any, .any, .any, .any], fun _ => [], fun r_ => (.own (.lst (r_.1.map D.str)), [.own (some (as 0)) (.lst (r_.2.map D.int)), .any, .any, .any, .any, .any, .any, .any]), lo_law_words v_row v_count, ?_, .inl ⟨law_words v_row v_count, lo_law_words_eq v_row v_count hp0_, rfl, finOk ⟨rfl, rfl, trivial⟩⟩⟩
  unfold lo_law_words
  refine ss_cons (S' := Str) (G' := fun (v_letters : Str) => [.own (some (as 0)) (.lst (v_row.map D.int)), .dat (D.int v_count), .dat (D.str v_letters), .any, .any, .any, .any, .any]) (st_set 2 sc_law_words.nd rfl (by first | exact .inl rfl | exact .inr rfl) ev_str weak_rfl) (fun x_ hx_ => ?_)
  have hx_ := (LO.next.inj hx_).symm
  obtain ⟨v_letters, hv_⟩ : ∃ v_, v_ = x_ := ⟨_, rfl⟩
  subst hv_
  have hx_letters := hx_
  have hl_ : v_letters.length = 26 := by subst_vars; decide +kernel
  refine ss_cons (S' := (Int × (List Int))) (G' := fun x_ => match x_ with | (v_front, v_row) => [.own (some (as 0)) (.lst (v_row.map D.int)), .dat (D.int v_count), .dat (D.str v_letters), .dat (D.int v_front), .any, .any, .any, .any]) (st_set 3 sc_law_words.nd rfl (by first | exact .inl rfl | exact .inr rfl) (ev_call (rs := [.bor 0, .dat (D.int (2 : Int))]) (ars := [.mu (.lst (v_row.map D.int)) (.lst ((law_take v_row (2 : Int)).2.map D.int)), .dat (D.int (2 : Int))]) (rr := .dat (D.int (law_take v_row (2 : Int)).1)) C_law_take (hr.mono (by decide)) rfl ⟨v_row, (2 : Int), (by walk_at "pre"), rfl, rfl⟩ (mt_cbor rfl rfl (mt_cdat (d := D.int (2 : Int)) mt_nil)) (av_cons (ev_bor 0 rfl (pv 0)) (av_cons ev_int av_nil))) weak_rfl) (fun x_ hx_ => ?_)
  have k1_ := (law_take_post v_row (2 : Int) (by walk_at "pre"))
  obtain ⟨v_front, v_row⟩ := x_
  have hx_ := LO.next.inj hx_
  have hx_front := (Prod.mk.inj hx_).1.symm
  have hx_ := (Prod.mk.inj hx_).2
  have hx_row := hx_.symm
  refine ss_cons (S' := (List Str)) (G' := fun (v_told : (List Str)) => [.own (some (as 0)) (.lst (v_row.map D.int)), .dat (D.int v_count), .dat (D.str v_letters), .dat (D.int v_front), .own none (.lst (v_told.map D.str)), .any, .any, .any]) (st_set 4 sc_law_words.nd rfl (by first | exact .inl rfl | exact .inr rfl) (ev_lst (ds := []) av_nil) weak_rfl) (fun x_ hx_ => ?_)
  have hx_ := (LO.next.inj hx_).symm
  obtain ⟨v_told, hv_⟩ : ∃ v_, v_ = x_ := ⟨_, rfl⟩
  subst hv_
  have hx_told := hx_
  refine ss_cons (S' := ((List Int) × (List Str))) (G' := fun x_ => match x_ with | (v_row, v_told) => [.own (some (as 0)) (.lst (v_row.map D.int)), .dat (D.int v_count), .dat (D.str v_letters), .dat (D.int v_front), .own none (.lst (v_told.map D.str)), .any, .any, .any]) (st_for (enc := D.int) (sh := (.name 5)) (Gs := fun x_ => match x_ with | (v_row, v_told) => [.own (some (as 0)) (.lst (v_row.map D.int)), .dat (D.int v_count), .dat (D.str v_letters), .dat (D.int v_front), .own none (.lst (v_told.map D.str)), .any, .any, .any]) (xs := (rangeI 0 v_count)) (st1_law_words v_letters v_front) (s0 := (v_row, v_told)) (fun (i_ : Nat) (x_ : ((List Int) × (List Str))) => match x_ with | (v_row, v_told) => v_told.length = i_) (ivt_range1 rfl m_range (ev_var 1 rfl (pv 1)) (by walk_at "rng")) (sh_name 5 (pg_name (i := 5) sc_law_words.nd rfl (by first | exact .inl rfl | exact .inr rfl))) PassesOwn.never rfl (by walk_at "weak") (by subst_vars; simp) (fun hB_ i_ s_ v_k hx_ hP_ => ?_)) (fun x_ hs_ => ?_)
  · skip
    obtain ⟨v_row, v_told⟩ := s_
    (try dsimp only at hP_); have hm_ := List.mem_of_getElem? hx_; have hi_ := (List.getElem?_eq_some_iff.mp hx_).1; (try (have hs2_ := hB_; rw [List.length_map, sizeLine_eq] at hs2_)); (try have hr_ := rangeI_at hx_)
    refine ⟨⟨_, rfl, ?_⟩, ?_⟩
    · show SS _ _ _ _ _ _ ((LO.next ((law_take v_row (840 : Int)).1, (law_take v_row (840 : Int)).2) : LO (Int × (List Int)) ((List Int) × (List Str)) ((List Str) × (List Int))).bind fun x_ => match x_ with | (v_d, v_row) => (LO.next (strRep ((strAt v_letters (v_d % (26 : Int))) ++ (strAt v_letters ((v_d / (26 : Int)) % (26 : Int)))) (v_d % (3 : Int))) : LO Str ((List Int) × (List Str)) ((List Str) × (List Int))).bind fun (v_body : Str) => (if (decide (v_front = (1 : Int))) then (LO.next (v_told ++ [((strAt v_letters v_k) ++ v_body)]) : LO (List Str) ((List Int) × (List Str)) ((List Str) × (List Int))).bind fun (v_told : (List Str)) => LO.next v_told else (LO.next (v_told ++ [(v_body ++ (strAt v_letters v_k))]) : LO (List Str) ((List Int) × (List Str)) ((List Str) × (List Int))).bind fun (v_told : (List Str)) => LO.next v_told : LO (List Str) ((List Int) × (List Str)) ((List Str) × (List Int))).bind fun (v_told : (List Str)) => LO.next (v_row, v_told))
      refine ss_cons (S' := (Int × (List Int))) (G' := fun x_ => match x_ with | (v_d, v_row) => [.own (some (as 0)) (.lst (v_row.map D.int)), .dat (D.int v_count), .dat (D.str v_letters), .dat (D.int v_front), .own none (.lst (v_told.map D.str)), .dat (D.int v_k), .dat (D.int v_d), .any]) (st_set 6 sc_law_words.nd rfl (by first | exact .inl rfl | exact .inr rfl) (ev_call (rs := [.bor 0, .dat (D.int (840 : Int))]) (ars := [.mu (.lst (v_row.map D.int)) (.lst ((law_take v_row (840 : Int)).2.map D.int)), .dat (D.int (840 : Int))]) (rr := .dat (D.int (law_take v_row (840 : Int)).1)) C_law_take (hr.mono (by decide)) rfl ⟨v_row, (840 : Int), (by walk_at "pre"), rfl, rfl⟩ (mt_cbor rfl rfl (mt_cdat (d := D.int (840 : Int)) mt_nil)) (av_cons (ev_bor 0 rfl (pv 0)) (av_cons ev_int av_nil))) weak_rfl) (fun x_ hx_ => ?_)
      have k2_ := (law_take_post v_row (840 : Int) (by walk_at "pre"))
      obtain ⟨v_d, v_row⟩ := x_
      have hx_ := LO.next.inj hx_
      have hx_d := (Prod.mk.inj hx_).1.symm
      have hx_ := (Prod.mk.inj hx_).2
      have hx_row := hx_.symm
      refine ss_cons (S' := Str) (G' := fun (v_body : Str) => [.own (some (as 0)) (.lst (v_row.map D.int)), .dat (D.int v_count), .dat (D.str v_letters), .dat (D.int v_front), .own none (.lst (v_told.map D.str)), .dat (D.int v_k), .dat (D.int v_d), .dat (D.str v_body)]) (st_set 7 sc_law_words.nd rfl (by first | exact .inl rfl | exact .inr rfl) (ev_mulS (by first | exact small_line (by (try simp only [strAt_len]); omega) | (simp only [str_add, strAt_len]; decide) | omega) (by walk_at "ob") (by walk_at "ob") (ev_catS (evt_ixS (ev_var 2 rfl (pv 2)) (ev_mod (by walk_at "pos") (ev_var 6 rfl (pv 6)) ev_int) (by first | exact small_line (by (try simp only [strAt_len]); omega) | (simp only [str_add, strAt_len]; decide) | omega) (by walk_at "lo") (by walk_at "hi")) (evt_ixS (ev_var 2 rfl (pv 2)) (ev_mod (by walk_at "pos") (ev_fdiv (by walk_at "div") (ev_var 6 rfl (pv 6)) ev_int) ev_int) (by first | exact small_line (by (try simp only [strAt_len]); omega) | (simp only [str_add, strAt_len]; decide) | omega) (by walk_at "lo") (by walk_at "hi")) (by first | exact small_line (by (try simp only [strAt_len]); omega) | (simp only [str_add, strAt_len]; decide) | omega)) (ev_mod (by walk_at "pos") (ev_var 6 rfl (pv 6)) ev_int)) weak_rfl) (fun x_ hx_ => ?_)
      have hx_ := (LO.next.inj hx_).symm
      obtain ⟨v_body, hv_⟩ : ∃ v_, v_ = x_ := ⟨_, rfl⟩
      subst hv_
      have hx_body := hx_
      have hb_ := body_len hx_body (by omega)
      refine ss_cons (S' := (List Str)) (G' := fun (v_told : (List Str)) => [.own (some (as 0)) (.lst (v_row.map D.int)), .dat (D.int v_count), .dat (D.str v_letters), .dat (D.int v_front), .own none (.lst (v_told.map D.str)), .dat (D.int v_k), .dat (D.int v_d), .dat (D.str v_body)]) (st_if (tv_eqI (ev_var 3 rfl (pv 3)) ev_int) (fun h_ => ?_) (fun h_ => ?_)) (fun v_told hs_ => ?_)
      · (try simp only [Bool.and_eq_true, Bool.or_eq_true, Bool.and_eq_false_iff, Bool.or_eq_false_iff, Bool.not_eq_true', Bool.not_eq_false', decide_eq_true_eq, decide_eq_false_iff_not, List.isEmpty_eq_false_iff, List.isEmpty_iff] at h_)
        refine ss_cons (S' := (List Str)) (G' := fun (v_told : (List Str)) => [.own (some (as 0)) (.lst (v_row.map D.int)), .dat (D.int v_count), .dat (D.str v_letters), .dat (D.int v_front), .own none (.lst (v_told.map D.str)), .dat (D.int v_k), .dat (D.int v_d), .dat (D.str v_body)]) (st_expr (evt_append (enc := D.str) (v := ((strAt v_letters v_k) ++ v_body)) (pv 4) rfl (ev_catS (evt_ixS (ev_var 2 rfl (pv 2)) (ev_var 5 rfl (pv 5)) (by first | exact small_line (by (try simp only [strAt_len]); omega) | (simp only [str_add, strAt_len]; decide) | omega) (by walk_at "lo") (by walk_at "hi")) (ev_var 7 rfl (pv 7)) (by first | exact small_line (by (try simp only [strAt_len]); omega) | (simp only [str_add, strAt_len]; decide) | omega)) rfl (by walk_at "append")) weak_rfl) (fun x_ hx_ => ?_)
        have hx_ := (LO.next.inj hx_).symm
        obtain ⟨v_told, hv_⟩ : ∃ v_, v_ = x_ := ⟨_, rfl⟩
        subst hv_
        have hx_told := hx_
        exact (ss_nil (by walk_at "weak"))
      · (try simp only [Bool.and_eq_true, Bool.or_eq_true, Bool.and_eq_false_iff, Bool.or_eq_false_iff, Bool.not_eq_true', Bool.not_eq_false', decide_eq_true_eq, decide_eq_false_iff_not, List.isEmpty_eq_false_iff, List.isEmpty_iff] at h_)
        refine ss_cons (S' := (List Str)) (G' := fun (v_told : (List Str)) => [.own (some (as 0)) (.lst (v_row.map D.int)), .dat (D.int v_count), .dat (D.str v_letters), .dat (D.int v_front), .own none (.lst (v_told.map D.str)), .dat (D.int v_k), .dat (D.int v_d), .dat (D.str v_body)]) (st_expr (evt_append (enc := D.str) (v := (v_body ++ (strAt v_letters v_k))) (pv 4) rfl (ev_catS (ev_var 7 rfl (pv 7)) (evt_ixS (ev_var 2 rfl (pv 2)) (ev_var 5 rfl (pv 5)) (by first | exact small_line (by (try simp only [strAt_len]); omega) | (simp only [str_add, strAt_len]; decide) | omega) (by walk_at "lo") (by walk_at "hi")) (by first | exact small_line (by (try simp only [strAt_len]); omega) | (simp only [str_add, strAt_len]; decide) | omega)) rfl (by walk_at "append")) weak_rfl) (fun x_ hx_ => ?_)
        have hx_ := (LO.next.inj hx_).symm
        obtain ⟨v_told, hv_⟩ : ∃ v_, v_ = x_ := ⟨_, rfl⟩
        subst hv_
        have hx_told := hx_
        exact (ss_nil (by walk_at "weak"))
      exact (ss_nil (by walk_at "weak"))
    · (intro s1_ h1_; rcases h1_ with h1_ | h1_ <;> (simp only [st1_law_words, lob_ite, lob_next, lob_cnt, lob_brk, lob_ret] at h1_) <;> (repeat' (first | (simp only [LO.next.injEq, LO.cnt.injEq, reduceCtorEq] at h1_) | split at h1_)) <;> subst h1_ <;> ((try dsimp only); first | omega | (simp only [List.length_append, List.length_cons, List.length_nil]; omega)))
  obtain ⟨v_row, v_told⟩ := x_
  exact ss_one (st_ret (EV.give (ev_bor 4 rfl (pv 4)) rfl) rfl (by walk_at "weak"))
/-! ### _law_flat -/
abbrev s_law_flat : Stmt := top 9
theorem sc_law_flat : FnScope ["actual", "due"] ["actual", "due"] (defScope s_law_flat) := ⟨rfl, rfl, rfl, by decide +kernel, rfl, by decide +kernel, by decide +kernel⟩
theorem ok_law_flat (F : Fun K "_law_flat" "_law_flat" s_law_flat f fd) (hm : mg "_law_flat" = some (.ref f)) (b : Binds K fd ["actual", "due"] []) (m_isinstance : mg "isinstance" = none) (m_bool : mg "bool" = none) (m_int : mg "int" = none) (m_str : mg "str" = none) : Cle P w K mg base 1 "_law_flat" R_law_flat := by
  refine cle_mk (S := Unit) (L := Unit) (R := Bool) F sc_law_flat hm b (fun ars rr h => by obtain ⟨_, _, rfl, _⟩ := h; rfl) fun cdv A outer s H E ars rr as hr hR => ?_
  obtain ⟨v_actual, v_due, rfl, rfl⟩ := hR
  refine ⟨fun _ => [.any, .any], fun _ => [], fun r_ => (.dat (D.bl r_), [.any, .any]), lo_law_flat v_actual v_due, ?_, .inl ⟨law_flat v_actual v_due, lo_law_flat_eq v_actual v_due, rfl, finOk trivial⟩⟩
  unfold lo_law_flat
  refine ss_cons (S' := Unit) (G' := fun (_ : Unit) => [.dat (v_actual), .dat (v_due)]) (st_if (WV.tv (wv_or (tv_val (ev_isi rfl m_isinstance rfl m_bool (by decide +kernel) (ev_var 1 rfl (pv 1)) (kit_b _))) (fun h_ => by (try simp only [Bool.and_eq_true, Bool.or_eq_true, Bool.and_eq_false_iff, Bool.or_eq_false_iff, Bool.not_eq_true', Bool.not_eq_false', decide_eq_true_eq, decide_eq_false_iff_not, List.isEmpty_eq_false_iff, List.isEmpty_iff] at h_); exact (wv_or1 (tv_val (ev_isi rfl m_isinstance rfl m_bool (by decide +kernel) (ev_var 0 rfl (pv 0)) (kit_b _))))))) (fun h_ => ?_) (fun h_ => ?_)) (fun x_ hs_ => ?_)
  · (try simp only [Bool.and_eq_true, Bool.or_eq_true, Bool.and_eq_false_iff, Bool.or_eq_false_iff, Bool.not_eq_true', Bool.not_eq_false', decide_eq_true_eq, decide_eq_false_iff_not, List.isEmpty_eq_false_iff, List.isEmpty_iff] at h_)
    exact ss_one (st_ret (ev_and (ev_isi rfl m_isinstance rfl m_bool (by decide +kernel) (ev_var 1 rfl (pv 1)) (kit_b _)) (fun h_ => by (try simp only [Bool.and_eq_true, Bool.or_eq_true, Bool.and_eq_false_iff, Bool.or_eq_false_iff, Bool.not_eq_true', Bool.not_eq_false', decide_eq_true_eq, decide_eq_false_iff_not, List.isEmpty_eq_false_iff, List.isEmpty_iff] at h_); exact (ev_and (ev_isi rfl m_isinstance rfl m_bool (by decide +kernel) (ev_var 0 rfl (pv 0)) (kit_b _)) (fun h_ => by (try simp only [Bool.and_eq_true, Bool.or_eq_true, Bool.and_eq_false_iff, Bool.or_eq_false_iff, Bool.not_eq_true', Bool.not_eq_false', decide_eq_true_eq, decide_eq_false_iff_not, List.isEmpty_eq_false_iff, List.isEmpty_iff] at h_); exact (ev_one (ev_eqF (by first | exact sameK_b (by with_reducible assumption) (by with_reducible assumption) | exact sameK_i (by with_reducible assumption) (by with_reducible assumption) (by with_reducible assumption) | exact sameK_s (by with_reducible assumption) (by with_reducible assumption)) (ev_var 0 rfl (pv 0)) (ev_var 1 rfl (pv 1)))))))) rfl (by walk_at "weak"))
  · (try simp only [Bool.and_eq_true, Bool.or_eq_true, Bool.and_eq_false_iff, Bool.or_eq_false_iff, Bool.not_eq_true', Bool.not_eq_false', decide_eq_true_eq, decide_eq_false_iff_not, List.isEmpty_eq_false_iff, List.isEmpty_iff] at h_)
    exact (ss_nil (by walk_at "weak"))
  have hn_ := (if_nextR hs_ (by walk_at "nn")).1
  have hsv_ := (if_nextR hs_ (by walk_at "nn")).2
  (try simp only [Bool.and_eq_true, Bool.or_eq_true, Bool.and_eq_false_iff, Bool.or_eq_false_iff, Bool.not_eq_true', Bool.not_eq_false', decide_eq_true_eq, decide_eq_false_iff_not, List.isEmpty_eq_false_iff, List.isEmpty_iff] at hn_)
  refine ss_cons (S' := Unit) (G' := fun (_ : Unit) => [.dat (v_actual), .dat (v_due)]) (st_if (tv_val (ev_isi rfl m_isinstance rfl m_int (by decide +kernel) (ev_var 1 rfl (pv 1)) (kit_i _))) (fun h_ => ?_) (fun h_ => ?_)) (fun x_ hs_ => ?_)
  · (try simp only [Bool.and_eq_true, Bool.or_eq_true, Bool.and_eq_false_iff, Bool.or_eq_false_iff, Bool.not_eq_true', Bool.not_eq_false', decide_eq_true_eq, decide_eq_false_iff_not, List.isEmpty_eq_false_iff, List.isEmpty_iff] at h_)
    exact ss_one (st_ret (ev_and (ev_isi rfl m_isinstance rfl m_int (by decide +kernel) (ev_var 0 rfl (pv 0)) (kit_i _)) (fun h_ => by (try simp only [Bool.and_eq_true, Bool.or_eq_true, Bool.and_eq_false_iff, Bool.or_eq_false_iff, Bool.not_eq_true', Bool.not_eq_false', decide_eq_true_eq, decide_eq_false_iff_not, List.isEmpty_eq_false_iff, List.isEmpty_iff] at h_); exact (ev_one (ev_eqF (by first | exact sameK_b (by with_reducible assumption) (by with_reducible assumption) | exact sameK_i (by with_reducible assumption) (by with_reducible assumption) (by with_reducible assumption) | exact sameK_s (by with_reducible assumption) (by with_reducible assumption)) (ev_var 0 rfl (pv 0)) (ev_var 1 rfl (pv 1)))))) rfl (by walk_at "weak"))
  · (try simp only [Bool.and_eq_true, Bool.or_eq_true, Bool.and_eq_false_iff, Bool.or_eq_false_iff, Bool.not_eq_true', Bool.not_eq_false', decide_eq_true_eq, decide_eq_false_iff_not, List.isEmpty_eq_false_iff, List.isEmpty_iff] at h_)
    exact (ss_nil (by walk_at "weak"))
  have hn_ := (if_nextR hs_ (by walk_at "nn")).1
  have hsv_ := (if_nextR hs_ (by walk_at "nn")).2
  (try simp only [Bool.and_eq_true, Bool.or_eq_true, Bool.and_eq_false_iff, Bool.or_eq_false_iff, Bool.not_eq_true', Bool.not_eq_false', decide_eq_true_eq, decide_eq_false_iff_not, List.isEmpty_eq_false_iff, List.isEmpty_iff] at hn_)
  refine ss_cons (S' := Unit) (G' := fun (_ : Unit) => [.dat (v_actual), .dat (v_due)]) (st_if (tv_val (ev_isi rfl m_isinstance rfl m_str (by decide +kernel) (ev_var 1 rfl (pv 1)) (kit_s _))) (fun h_ => ?_) (fun h_ => ?_)) (fun x_ hs_ => ?_)
  · (try simp only [Bool.and_eq_true, Bool.or_eq_true, Bool.and_eq_false_iff, Bool.or_eq_false_iff, Bool.not_eq_true', Bool.not_eq_false', decide_eq_true_eq, decide_eq_false_iff_not, List.isEmpty_eq_false_iff, List.isEmpty_iff] at h_)
    exact ss_one (st_ret (ev_and (ev_isi rfl m_isinstance rfl m_str (by decide +kernel) (ev_var 0 rfl (pv 0)) (kit_s _)) (fun h_ => by (try simp only [Bool.and_eq_true, Bool.or_eq_true, Bool.and_eq_false_iff, Bool.or_eq_false_iff, Bool.not_eq_true', Bool.not_eq_false', decide_eq_true_eq, decide_eq_false_iff_not, List.isEmpty_eq_false_iff, List.isEmpty_iff] at h_); exact (ev_one (ev_eqF (by first | exact sameK_b (by with_reducible assumption) (by with_reducible assumption) | exact sameK_i (by with_reducible assumption) (by with_reducible assumption) (by with_reducible assumption) | exact sameK_s (by with_reducible assumption) (by with_reducible assumption)) (ev_var 0 rfl (pv 0)) (ev_var 1 rfl (pv 1)))))) rfl (by walk_at "weak"))
  · (try simp only [Bool.and_eq_true, Bool.or_eq_true, Bool.and_eq_false_iff, Bool.or_eq_false_iff, Bool.not_eq_true', Bool.not_eq_false', decide_eq_true_eq, decide_eq_false_iff_not, List.isEmpty_eq_false_iff, List.isEmpty_iff] at h_)
    exact (ss_nil (by walk_at "weak"))
  have hn_ := (if_nextR hs_ (by walk_at "nn")).1
  have hsv_ := (if_nextR hs_ (by walk_at "nn")).2
  (try simp only [Bool.and_eq_true, Bool.or_eq_true, Bool.and_eq_false_iff, Bool.or_eq_false_iff, Bool.not_eq_true', Bool.not_eq_false', decide_eq_true_eq, decide_eq_false_iff_not, List.isEmpty_eq_false_iff, List.isEmpty_iff] at hn_)
  exact ss_one (st_ret (ev_and (ev_isN (ev_var 1 rfl (pv 1))) (fun h_ => by (try simp only [Bool.and_eq_true, Bool.or_eq_true, Bool.and_eq_false_iff, Bool.or_eq_false_iff, Bool.not_eq_true', Bool.not_eq_false', decide_eq_true_eq, decide_eq_false_iff_not, List.isEmpty_eq_false_iff, List.isEmpty_iff] at h_); exact (ev_one (ev_isN (ev_var 0 rfl (pv 0)))))) rfl (by walk_at "weak"))
/-! ### _law_alike -/
abbrev s_law_alike : Stmt := top 10
theorem sc_law_alike : FnScope ["actual", "due", "pairs", "k", "one", "other", "n"] ["actual", "due"] (defScope s_law_alike) := ⟨rfl, rfl, rfl, by decide +kernel, rfl, by decide +kernel, by decide +kernel⟩
theorem ok_law_alike (F : Fun K "_law_alike" "_law_alike" s_law_alike f fd) (hm : mg "_law_alike" = some (.ref f)) (b : Binds K fd ["actual", "due"] []) (m_range : mg "range" = none) (m_len : mg "len" = none) (m_isinstance : mg "isinstance" = none) (m_tuple : mg "tuple" = none) (m_list : mg "list" = none) (C_law_flat : Cle P w K mg base 1 "_law_flat" R_law_flat) : Cle P w K mg base 2 "_law_alike" R_law_alike := by
  refine cle_mk (S := Unit) (L := Unit) (R := Bool) F sc_law_alike hm b (fun ars rr h => by obtain ⟨_, _, _, rfl, _⟩ := h; rfl) fun cdv A outer s H E ars rr as hr hR => ?_
  obtain ⟨v_actual, v_due, hp0_, rfl, rfl⟩ := hR
  refine ⟨fun _ => [.any, .any, .any, .any, .any, .any, .any], fun _ => [], fun r_ => (.dat (D.bl r_), [.any, .any, .any, .any, .any, .any, .any]), lo_law_alike v_actual v_due, ?_, .inl ⟨law_alike v_actual v_due, lo_law_alike_eq v_actual v_due hp0_, rfl, finOk trivial⟩⟩
  unfold lo_law_alike
  refine ss_cons (S' := (List (D × D))) (G' := fun (v_pairs : (List (D × D))) => [.dat (v_actual), .dat (v_due), .own none (.lst (v_pairs.map (eP eD eD))), .any, .any, .any, .any]) (st_set 2 sc_law_alike.nd rfl (by first | exact .inl rfl | exact .inr rfl) (ev_lst (ds := [(eP eD eD) (v_actual, v_due)]) (av_cons (ev_tup (ds := [v_actual, v_due]) (av_cons (ev_var 0 rfl (pv 0)) (av_cons (ev_var 1 rfl (pv 1)) av_nil))) av_nil)) weak_rfl) (fun x_ hx_ => ?_)
  have hx_ := (LO.next.inj hx_).symm
  obtain ⟨v_pairs, hv_⟩ : ∃ v_, v_ = x_ := ⟨_, rfl⟩
  subst hv_
  have hx_pairs := hx_
  refine ss_cons (S' := (List (D × D))) (G' := fun (v_pairs : (List (D × D))) => [.dat (v_actual), .dat (v_due), .own none (.lst (v_pairs.map (eP eD eD))), .any, .any, .any, .any]) (st_for (enc := D.int) (sh := (.name 3)) (Gs := fun (v_pairs : (List (D × D))) => [.dat (v_actual), .dat (v_due), .own none (.lst (v_pairs.map (eP eD eD))), .any, .any, .any, .any]) (xs := (rangeI 0 (100000 : Int))) (st1_law_alike) (s0 := v_pairs) (fun (i_ : Nat) (v_pairs : (List (D × D))) => D.nodesL (v_pairs.map (·.2)) + i_ ≤ 50000) (ivt_range1 rfl m_range ev_int (by walk_at "rng")) (sh_name 3 (pg_name (i := 3) sc_law_alike.nd rfl (by first | exact .inl rfl | exact .inr rfl))) PassesOwn.never rfl (by walk_at "weak") (by subst_vars; show D.nodes v_due + D.nodesL [] + 0 ≤ 50000; rw [show D.nodesL [] = 0 from rfl]; omega) (fun hB_ i_ v_pairs v_k hx_ hP_ => ?_)) (fun v_pairs hs_ => ?_)
  · skip
    (try dsimp only at hP_); have hm_ := List.mem_of_getElem? hx_; have hi_ := (List.getElem?_eq_some_iff.mp hx_).1; (try (have hs2_ := hB_; rw [List.length_map, sizeLine_eq] at hs2_)); (try have hr_ := rangeI_at hx_)
    refine ⟨⟨_, rfl, ?_⟩, ?_⟩
    · show SS _ _ _ _ _ _ ((if (decide ((v_pairs.length : Int) = (0 : Int))) then LO.ret true else LO.next () : LO Unit (List (D × D)) Bool).bind fun (_ : Unit) => (LO.next (v_pairs.getLastD default) : LO (D × D) (List (D × D)) Bool).bind fun x_ => match x_ with | (v_one, v_other) => (if (v_other.isT || v_other.isL) then (if (((!decide (v_one.isT = v_other.isT))) || ((!decide (v_one.isL = v_other.isL)))) then LO.ret false else LO.next () : LO Unit (List (D × D)) Bool).bind fun (_ : Unit) => (if ((!decide ((v_one.items.length : Int) = (v_other.items.length : Int)))) then LO.ret false else LO.next () : LO Unit (List (D × D)) Bool).bind fun (_ : Unit) => (LO.next (v_pairs.dropLast ++ ((rangeI 0 (v_other.items.length : Int)).map fun (v_n : Int) => ((v_one.items.getD (v_n).toNat default), (v_other.items.getD (v_n).toNat default)))) : LO (List (D × D)) (List (D × D)) Bool).bind fun (v_pairs : (List (D × D))) => LO.next v_pairs else (if (!(law_flat v_one v_other)) then LO.ret false else LO.next () : LO Unit (List (D × D)) Bool).bind fun (_ : Unit) => LO.next v_pairs.dropLast : LO (List (D × D)) (List (D × D)) Bool).bind fun (v_pairs : (List (D × D))) => LO.next v_pairs)
      refine ss_cons (S' := Unit) (G' := fun (_ : Unit) => [.dat (v_actual), .dat (v_due), .own none (.lst (v_pairs.map (eP eD eD))), .dat (D.int v_k), .any, .any, .any]) (st_if (tv_eqI (evt_len rfl m_len (.l (.bor rfl)) (ev_bor 2 rfl (pv 2))) ev_int) (fun h_ => ?_) (fun h_ => ?_)) (fun x_ hs_ => ?_)
      · (try simp only [Bool.and_eq_true, Bool.or_eq_true, Bool.and_eq_false_iff, Bool.or_eq_false_iff, Bool.not_eq_true', Bool.not_eq_false', decide_eq_true_eq, decide_eq_false_iff_not, List.isEmpty_eq_false_iff, List.isEmpty_iff] at h_)
        exact ss_one (st_ret ev_bl rfl (by walk_at "weak"))
      · (try simp only [Bool.and_eq_true, Bool.or_eq_true, Bool.and_eq_false_iff, Bool.or_eq_false_iff, Bool.not_eq_true', Bool.not_eq_false', decide_eq_true_eq, decide_eq_false_iff_not, List.isEmpty_eq_false_iff, List.isEmpty_iff] at h_)
        exact (ss_nil (by walk_at "weak"))
      have hn_ := (if_nextR hs_ (by walk_at "nn")).1
      have hsv_ := (if_nextR hs_ (by walk_at "nn")).2
      (try simp only [Bool.and_eq_true, Bool.or_eq_true, Bool.and_eq_false_iff, Bool.or_eq_false_iff, Bool.not_eq_true', Bool.not_eq_false', decide_eq_true_eq, decide_eq_false_iff_not, List.isEmpty_eq_false_iff, List.isEmpty_iff] at hn_)
      refine ss_cons (S' := (D × D)) (G' := fun x_ => match x_ with | (v_one, v_other) => [.dat (v_actual), .dat (v_due), .own none (.lst (v_pairs.dropLast.map (eP eD eD))), .dat (D.int v_k), .dat (v_one), .dat (v_other), .any]) (st_unpack (evt_pop (enc := (eP eD eD)) (pv 2) rfl (by walk_at "nonempty")) (gv_sh (s := (.tup [(.name 4), (.name 5)])) (sh_tup rfl (sh_cons (sh_name 4 (pg_name (i := 4) sc_law_alike.nd rfl (by first | exact .inl rfl | exact .inr rfl))) (sh_cons (sh_name 5 (pg_name (i := 5) sc_law_alike.nd rfl (by first | exact .inl rfl | exact .inr rfl))) sh_nil))) rfl) weak_rfl) (fun x_ hx_ => ?_)
      obtain ⟨v_one, v_other⟩ := x_
      have hx_ := (LO.next.inj hx_).symm
      have hw_ := alike_step (by omega) hx_.symm hP_
      have hz_ := D.items_le v_other
      refine ss_cons (S' := (List (D × D))) (G' := fun (v_pairs : (List (D × D))) => [.dat (v_actual), .dat (v_due), .own none (.lst (v_pairs.map (eP eD eD))), .dat (D.int v_k), .dat (v_one), .dat (v_other), .any]) (st_if (WV.tv (wv_or (tv_val (ev_isi rfl m_isinstance rfl m_tuple (by decide +kernel) (ev_var 5 rfl (pv 5)) (kit_t _))) (fun h_ => by (try simp only [Bool.and_eq_true, Bool.or_eq_true, Bool.and_eq_false_iff, Bool.or_eq_false_iff, Bool.not_eq_true', Bool.not_eq_false', decide_eq_true_eq, decide_eq_false_iff_not, List.isEmpty_eq_false_iff, List.isEmpty_iff] at h_); exact (wv_or1 (tv_val (ev_isi rfl m_isinstance rfl m_list (by decide +kernel) (ev_var 5 rfl (pv 5)) (kit_l _))))))) (fun h_ => ?_) (fun h_ => ?_)) (fun v_pairs hs_ => ?_)
      · (try simp only [Bool.and_eq_true, Bool.or_eq_true, Bool.and_eq_false_iff, Bool.or_eq_false_iff, Bool.not_eq_true', Bool.not_eq_false', decide_eq_true_eq, decide_eq_false_iff_not, List.isEmpty_eq_false_iff, List.isEmpty_iff] at h_)
        refine ss_cons (S' := Unit) (G' := fun (_ : Unit) => [.dat (v_actual), .dat (v_due), .own none (.lst (v_pairs.dropLast.map (eP eD eD))), .dat (D.int v_k), .dat (v_one), .dat (v_other), .any]) (st_if (WV.tv (wv_or (tv_neB (ev_isi rfl m_isinstance rfl m_tuple (by decide +kernel) (ev_var 4 rfl (pv 4)) (kit_t _)) (ev_isi rfl m_isinstance rfl m_tuple (by decide +kernel) (ev_var 5 rfl (pv 5)) (kit_t _))) (fun h_ => by (try simp only [Bool.and_eq_true, Bool.or_eq_true, Bool.and_eq_false_iff, Bool.or_eq_false_iff, Bool.not_eq_true', Bool.not_eq_false', decide_eq_true_eq, decide_eq_false_iff_not, List.isEmpty_eq_false_iff, List.isEmpty_iff] at h_); exact (wv_or1 (tv_neB (ev_isi rfl m_isinstance rfl m_list (by decide +kernel) (ev_var 4 rfl (pv 4)) (kit_l _)) (ev_isi rfl m_isinstance rfl m_list (by decide +kernel) (ev_var 5 rfl (pv 5)) (kit_l _))))))) (fun h_ => ?_) (fun h_ => ?_)) (fun x_ hs_ => ?_)
        · (try simp only [Bool.and_eq_true, Bool.or_eq_true, Bool.and_eq_false_iff, Bool.or_eq_false_iff, Bool.not_eq_true', Bool.not_eq_false', decide_eq_true_eq, decide_eq_false_iff_not, List.isEmpty_eq_false_iff, List.isEmpty_iff] at h_)
          exact ss_one (st_ret ev_bl rfl (by walk_at "weak"))
        · (try simp only [Bool.and_eq_true, Bool.or_eq_true, Bool.and_eq_false_iff, Bool.or_eq_false_iff, Bool.not_eq_true', Bool.not_eq_false', decide_eq_true_eq, decide_eq_false_iff_not, List.isEmpty_eq_false_iff, List.isEmpty_iff] at h_)
          exact (ss_nil (by walk_at "weak"))
        have hn_ := (if_nextR hs_ (by walk_at "nn")).1
        have hsv_ := (if_nextR hs_ (by walk_at "nn")).2
        (try simp only [Bool.and_eq_true, Bool.or_eq_true, Bool.and_eq_false_iff, Bool.or_eq_false_iff, Bool.not_eq_true', Bool.not_eq_false', decide_eq_true_eq, decide_eq_false_iff_not, List.isEmpty_eq_false_iff, List.isEmpty_iff] at hn_)
        refine ss_cons (S' := Unit) (G' := fun (_ : Unit) => [.dat (v_actual), .dat (v_due), .own none (.lst (v_pairs.dropLast.map (eP eD eD))), .dat (D.int v_k), .dat (v_one), .dat (v_other), .any]) (st_if (tv_neI (ev_lenD rfl m_len (by first | exact isQ_of (by with_reducible assumption) | exact isQ_two (by with_reducible assumption) (by with_reducible assumption)) (ev_var 4 rfl (pv 4))) (ev_lenD rfl m_len (by first | exact isQ_of (by with_reducible assumption) | exact isQ_two (by with_reducible assumption) (by with_reducible assumption)) (ev_var 5 rfl (pv 5)))) (fun h_ => ?_) (fun h_ => ?_)) (fun x_ hs_ => ?_)
        · (try simp only [Bool.and_eq_true, Bool.or_eq_true, Bool.and_eq_false_iff, Bool.or_eq_false_iff, Bool.not_eq_true', Bool.not_eq_false', decide_eq_true_eq, decide_eq_false_iff_not, List.isEmpty_eq_false_iff, List.isEmpty_iff] at h_)
          exact ss_one (st_ret ev_bl rfl (by walk_at "weak"))
        · (try simp only [Bool.and_eq_true, Bool.or_eq_true, Bool.and_eq_false_iff, Bool.or_eq_false_iff, Bool.not_eq_true', Bool.not_eq_false', decide_eq_true_eq, decide_eq_false_iff_not, List.isEmpty_eq_false_iff, List.isEmpty_iff] at h_)
          exact (ss_nil (by walk_at "weak"))
        have hn_ := (if_nextR hs_ (by walk_at "nn")).1
        have hsv_ := (if_nextR hs_ (by walk_at "nn")).2
        (try simp only [Bool.and_eq_true, Bool.or_eq_true, Bool.and_eq_false_iff, Bool.or_eq_false_iff, Bool.not_eq_true', Bool.not_eq_false', decide_eq_true_eq, decide_eq_false_iff_not, List.isEmpty_eq_false_iff, List.isEmpty_iff] at hn_)
        refine ss_cons (S' := (List (D × D))) (G' := fun (v_pairs : (List (D × D))) => [.dat (v_actual), .dat (v_due), .own none (.lst (v_pairs.map (eP eD eD))), .dat (D.int v_k), .dat (v_one), .dat (v_other), .any]) (st_set 2 sc_law_alike.nd rfl (by first | exact .inl rfl | exact .inr rfl) (evt_catL (enc := (eP eD eD)) (xs := v_pairs.dropLast) (ys := ((rangeI 0 (v_other.items.length : Int)).map fun (v_n : Int) => ((v_one.items.getD (v_n).toNat default), (v_other.items.getD (v_n).toNat default)))) (ev_bor 2 rfl (pv 2)) (ev_lc rfl sc_law_alike.nd (blkOk_by (own := [("n", 6)]) (by walk_at "blk")) (fun _ _ _ _ _ => (sh_name 6 (pg_name (i := 6) sc_law_alike.nd rfl (by first | exact .inl rfl | exact .inr rfl)))) (cp_map (enc := D.int) (encb := (eP eD eD)) (sh := (.name 6)) (own := [("n", 6)]) (Γ0 := [.dat (v_actual), .dat (v_due), .own none (.lst (v_pairs.dropLast.map (eP eD eD))), .dat (D.int v_k), .dat (v_one), .dat (v_other), .any]) (fun (v_n : Int) => ((v_one.items.getD (v_n).toNat default), (v_other.items.getD (v_n).toNat default))) (ivt_range1 rfl m_range (ev_lenD rfl m_len (by first | exact isQ_of (by with_reducible assumption) | exact isQ_two (by with_reducible assumption) (by with_reducible assumption)) (ev_var 5 rfl (pv 5))) (by walk_at "rng")) (fun _ h => h) (by walk_at "weak") (by intro n hn t ht; simp only [List.map_cons, List.map_nil, List.mem_cons, List.not_mem_nil, or_false] at hn; subst hn; cases ht; rfl) (fun _ => range_small (by walk_at "small")) (fun hB_ v_n hx_ => ⟨_, _, rfl, (fun _ _ _ _ _ => by (try simp only [Bool.and_eq_true, Bool.or_eq_true, Bool.and_eq_false_iff, Bool.or_eq_false_iff, Bool.not_eq_true', Bool.not_eq_false', decide_eq_true_eq, decide_eq_false_iff_not, List.isEmpty_eq_false_iff, List.isEmpty_iff] at h_); (try have hr_ := rangeI_mem hx_); exact (ev_tup (ds := [(v_one.items.getD (v_n).toNat default), (v_other.items.getD (v_n).toNat default)]) (av_cons (ev_ixD (by first | exact isQ_of (by with_reducible assumption) | exact isQ_two (by with_reducible assumption) (by with_reducible assumption)) (by walk_at "lo") (by walk_at "hiQ") (ev_var 4 rfl (pv 4)) (ev_var 6 rfl (pv 6))) (av_cons (ev_ixD (by first | exact isQ_of (by with_reducible assumption) | exact isQ_two (by with_reducible assumption) (by with_reducible assumption)) (by walk_at "lo") (by walk_at "hiQ") (ev_var 5 rfl (pv 5)) (ev_var 6 rfl (pv 6))) av_nil)))), (by walk_at "weak")⟩))) (.bor rfl) .own (by exact alike_size hw_)) weak_rfl) (fun x_ hx_ => ?_)
        have hx_ := (LO.next.inj hx_).symm
        obtain ⟨v_pairs, hv_⟩ : ∃ v_, v_ = x_ := ⟨_, rfl⟩
        subst hv_
        have hx_pairs := hx_
        exact (ss_nil (by walk_at "weak"))
      · (try simp only [Bool.and_eq_true, Bool.or_eq_true, Bool.and_eq_false_iff, Bool.or_eq_false_iff, Bool.not_eq_true', Bool.not_eq_false', decide_eq_true_eq, decide_eq_false_iff_not, List.isEmpty_eq_false_iff, List.isEmpty_iff] at h_)
        refine ss_cons (S' := Unit) (G' := fun (_ : Unit) => [.dat (v_actual), .dat (v_due), .own none (.lst (v_pairs.dropLast.map (eP eD eD))), .dat (D.int v_k), .dat (v_one), .dat (v_other), .any]) (st_if (tv_not (tv_val (ev_call (rs := [.dat (v_one), .dat (v_other)]) (ars := [.dat (v_one), .dat (v_other)]) (rr := .dat (D.bl (law_flat v_one v_other))) C_law_flat (hr.mono (by decide)) rfl ⟨v_one, v_other,  rfl, rfl⟩ (mt_cdat (d := v_one) (mt_cdat (d := v_other) mt_nil)) (av_cons (ev_var 4 rfl (pv 4)) (av_cons (ev_var 5 rfl (pv 5)) av_nil))))) (fun h_ => ?_) (fun h_ => ?_)) (fun x_ hs_ => ?_)
        · (try simp only [Bool.and_eq_true, Bool.or_eq_true, Bool.and_eq_false_iff, Bool.or_eq_false_iff, Bool.not_eq_true', Bool.not_eq_false', decide_eq_true_eq, decide_eq_false_iff_not, List.isEmpty_eq_false_iff, List.isEmpty_iff] at h_)
          exact ss_one (st_ret ev_bl rfl (by walk_at "weak"))
        · (try simp only [Bool.and_eq_true, Bool.or_eq_true, Bool.and_eq_false_iff, Bool.or_eq_false_iff, Bool.not_eq_true', Bool.not_eq_false', decide_eq_true_eq, decide_eq_false_iff_not, List.isEmpty_eq_false_iff, List.isEmpty_iff] at h_)
          exact (ss_nil (by walk_at "weak"))
        have hn_ := (if_nextR hs_ (by walk_at "nn")).1
        have hsv_ := (if_nextR hs_ (by walk_at "nn")).2
        (try simp only [Bool.and_eq_true, Bool.or_eq_true, Bool.and_eq_false_iff, Bool.or_eq_false_iff, Bool.not_eq_true', Bool.not_eq_false', decide_eq_true_eq, decide_eq_false_iff_not, List.isEmpty_eq_false_iff, List.isEmpty_iff] at hn_)
        exact (ss_nil (by walk_at "weak"))
      exact (ss_nil (by walk_at "weak"))
    · (intro s1_ h1_; exact alike_inv h1_ hP_)
  exact ss_one (st_ret ev_bl rfl (by walk_at "weak"))
/-! ### _law_inside -/
abbrev s_law_inside : Stmt := top 11
theorem sc_law_inside : FnScope ["one", "other", "name"] ["one", "other"] (defScope s_law_inside) := ⟨rfl, rfl, rfl, by decide +kernel, rfl, by decide +kernel, by decide +kernel⟩
theorem ok_law_inside (F : Fun K "_law_inside" "_law_inside" s_law_inside f fd) (hm : mg "_law_inside" = some (.ref f)) (b : Binds K fd ["one", "other"] []) (m_all : mg "all" = none) : Cle P w K mg base 1 "_law_inside" R_law_inside := by
  refine cle_mk (S := Unit) (L := Unit) (R := Bool) F sc_law_inside hm b (fun ars rr h => by obtain ⟨_, _, rfl, _⟩ := h; rfl) fun cdv A outer s H E ars rr as hr hR => ?_
  obtain ⟨v_one, v_other, rfl, rfl⟩ := hR
  refine ⟨fun _ => [.any, .any, .any], fun _ => [], fun r_ => (.dat (D.bl r_), [.any, .any, .any]), lo_law_inside v_one v_other, ?_, .inl ⟨law_inside v_one v_other, lo_law_inside_eq v_one v_other, rfl, finOk trivial⟩⟩
  unfold lo_law_inside
  exact ss_one (st_ret (ev_all rfl rfl m_all .own (ev_lc rfl sc_law_inside.nd (blkOk_by (own := [("name", 2)]) (by walk_at "blk")) (fun _ _ _ _ _ => (sh_name 2 (pg_name (i := 2) sc_law_inside.nd rfl (by first | exact .inl rfl | exact .inr rfl)))) (cp_map (enc := D.str) (encb := D.bl) (sh := (.name 2)) (own := [("name", 2)]) (Γ0 := [.dat ((eT D.str) v_one), .dat ((eT D.str) v_other), .any]) (fun (v_name : Str) => (decide (v_name ∈ v_other))) (iv_tup (ev_var 0 rfl (pv 0))) (fun _ h => h) (by walk_at "weak") (by intro n hn t ht; simp only [List.map_cons, List.map_nil, List.mem_cons, List.not_mem_nil, or_false] at hn; subst hn; cases ht; rfl) (fun h => by simpa using h) (fun hB_ v_name hx_ => ⟨_, _, rfl, (fun _ _ _ _ _ => by (try simp only [Bool.and_eq_true, Bool.or_eq_true, Bool.and_eq_false_iff, Bool.or_eq_false_iff, Bool.not_eq_true', Bool.not_eq_false', decide_eq_true_eq, decide_eq_false_iff_not, List.isEmpty_eq_false_iff, List.isEmpty_iff] at h_); exact (ev_inS (ev_var 2 rfl (pv 2)) (ev_var 1 rfl (pv 1)) .t)), (by walk_at "weak")⟩)))) rfl (by walk_at "weak"))
/-! ### _law_selections -/
abbrev s_law_selections : Stmt := top 12
theorem sc_law_selections : FnScope ["names", "rows", "at", "told", "key", "row"] ["names"] (defScope s_law_selections) := ⟨rfl, rfl, rfl, by decide +kernel, rfl, by decide +kernel, by decide +kernel⟩
theorem ok_law_selections (F : Fun K "_law_selections" "_law_selections" s_law_selections f fd) (hm : mg "_law_selections" = some (.ref f)) (b : Binds K fd ["names"] []) (m_len : mg "len" = none) (m_range : mg "range" = none) (m_sorted : mg "sorted" = none) (m_tuple : mg "tuple" = none) : Cle P w K mg base 1 "_law_selections" R_law_selections := by
  refine cle_mk (S := Unit) (L := Unit) (R := (List (List Str))) F sc_law_selections hm b (fun ars rr h => by obtain ⟨_, _, rfl, _⟩ := h; rfl) fun cdv A outer s H E ars rr as hr hR => ?_
  obtain ⟨v_names, hp0_, rfl, rfl⟩ := hR
  refine ⟨fun _ => [.any, .any, .any, .any, .any, .any], fun _ => [], fun r_ => (.own (.lst (r_.map (eT D.str))), [.any, .any, .any, .any, .any, .any]), lo_law_selections v_names, ?_, .inl ⟨law_selections v_names, lo_law_selections_eq v_names hp0_, rfl, finOk trivial⟩⟩
  unfold lo_law_selections
  refine ss_cons (S' := (List (List Int))) (G' := fun (v_rows : (List (List Int))) => [.dat ((eL D.str) v_names), .dat ((eL (eT D.int)) v_rows), .any, .any, .any, .any]) (st_set 1 sc_law_selections.nd rfl (by first | exact .inl rfl | exact .inr rfl) (EV.fz (ev_lst (ds := [(eT D.int) ([] : (List Int))]) (av_cons (ev_tup (ds := []) av_nil) av_nil))) weak_rfl) (fun x_ hx_ => ?_)
  have hx_ := (LO.next.inj hx_).symm
  obtain ⟨v_rows, hv_⟩ : ∃ v_, v_ = x_ := ⟨_, rfl⟩
  subst hv_
  have hx_rows := hx_
  refine ss_cons (S' := (List (List Int))) (G' := fun (v_rows : (List (List Int))) => [.dat ((eL D.str) v_names), .dat ((eL (eT D.int)) v_rows), .any, .any, .any, .any]) (st_for (enc := D.int) (sh := (.name 2)) (Gs := fun (v_rows : (List (List Int))) => [.dat ((eL D.str) v_names), .dat ((eL (eT D.int)) v_rows), .any, .any, .any, .any]) (xs := (rangeI 0 (v_names.length : Int))) (st1_law_selections) (s0 := v_rows) (fun (i_ : Nat) (v_rows : (List (List Int))) => v_rows = subs i_) (ivt_range1 rfl m_range (evt_len rfl m_len (.l .dat) (ev_var 0 rfl (pv 0))) (by walk_at "rng")) (sh_name 2 (pg_name (i := 2) sc_law_selections.nd rfl (by first | exact .inl rfl | exact .inr rfl))) PassesOwn.never rfl (by walk_at "weak") (by subst_vars; rfl) (fun hB_ i_ v_rows v_at hx_ hP_ => ?_)) (fun v_rows hs_ => ?_)
  · skip
    (try dsimp only at hP_); have hm_ := List.mem_of_getElem? hx_; have hi_ := (List.getElem?_eq_some_iff.mp hx_).1; (try (have hs2_ := hB_; rw [List.length_map, sizeLine_eq] at hs2_)); (try have hr_ := rangeI_at hx_)
    refine ⟨⟨_, rfl, ?_⟩, ?_⟩
    · show SS _ _ _ _ _ _ ((LO.next (v_rows ++ (v_rows.map fun (v_row : (List Int)) => (v_row ++ [v_at]))) : LO (List (List Int)) (List (List Int)) (List (List Str))).bind fun (v_rows : (List (List Int))) => LO.next v_rows)
      refine ss_cons (S' := (List (List Int))) (G' := fun (v_rows : (List (List Int))) => [.dat ((eL D.str) v_names), .dat ((eL (eT D.int)) v_rows), .dat (D.int v_at), .any, .any, .any]) (st_set 1 sc_law_selections.nd rfl (by first | exact .inl rfl | exact .inr rfl) (EV.fz (evt_catL (enc := (eT D.int)) (xs := v_rows) (ys := (v_rows.map fun (v_row : (List Int)) => (v_row ++ [v_at]))) (ev_var 1 rfl (pv 1)) (ev_lc rfl sc_law_selections.nd (blkOk_by (own := [("row", 5)]) (by walk_at "blk")) (fun _ _ _ _ _ => (sh_name 5 (pg_name (i := 5) sc_law_selections.nd rfl (by first | exact .inl rfl | exact .inr rfl)))) (cp_map (enc := (eT D.int)) (encb := (eT D.int)) (sh := (.name 5)) (own := [("row", 5)]) (Γ0 := [.dat ((eL D.str) v_names), .dat ((eL (eT D.int)) v_rows), .dat (D.int v_at), .any, .any, .any]) (fun (v_row : (List Int)) => (v_row ++ [v_at])) (iv_list (ev_var 1 rfl (pv 1))) (fun _ h => h) (by walk_at "weak") (by intro n hn t ht; simp only [List.map_cons, List.map_nil, List.mem_cons, List.not_mem_nil, or_false] at hn; subst hn; cases ht; rfl) (fun h => by simpa using h) (fun hB_ v_row hx_ => ⟨_, _, rfl, (fun _ _ _ _ _ => by (try simp only [Bool.and_eq_true, Bool.or_eq_true, Bool.and_eq_false_iff, Bool.or_eq_false_iff, Bool.not_eq_true', Bool.not_eq_false', decide_eq_true_eq, decide_eq_false_iff_not, List.isEmpty_eq_false_iff, List.isEmpty_iff] at h_); exact (evt_catT (enc := D.int) (xs := v_row) (ys := [v_at]) (ev_var 5 rfl (pv 5)) (ev_tup (ds := [D.int v_at]) (av_cons (ev_var 2 rfl (pv 2)) av_nil)) (by first | exact sel_size (n := v_names.length) hP_ (by omega) (by with_reducible assumption) | exact sel_size2 hP_ (by omega)))), (by walk_at "weak")⟩))) .dat .own (by first | exact sel_size (n := v_names.length) hP_ (by omega) (by with_reducible assumption) | exact sel_size2 hP_ (by omega)))) weak_rfl) (fun x_ hx_ => ?_)
      have hx_ := (LO.next.inj hx_).symm
      obtain ⟨v_rows, hv_⟩ : ∃ v_, v_ = x_ := ⟨_, rfl⟩
      subst hv_
      have hx_rows := hx_
      exact (ss_nil (by walk_at "weak"))
    · (intro s1_ h1_; exact sel_inv h1_ hr_ hP_)
  have hq_ := hs_; rw [hx_rows] at hq_; have hq_ := sel_loop hq_
  refine ss_cons (S' := (List (List Str))) (G' := fun (v_told : (List (List Str))) => [.dat ((eL D.str) v_names), .dat ((eL (eT D.int)) v_rows), .any, .own none (.lst (v_told.map (eT D.str))), .any, .any]) (st_set 3 sc_law_selections.nd rfl (by first | exact .inl rfl | exact .inr rfl) (ev_lst (ds := []) av_nil) weak_rfl) (fun x_ hx_ => ?_)
  have hx_ := (LO.next.inj hx_).symm
  obtain ⟨v_told, hv_⟩ : ∃ v_, v_ = x_ := ⟨_, rfl⟩
  subst hv_
  have hx_told := hx_
  refine ss_cons (S' := (List (List Str))) (G' := fun (v_told : (List (List Str))) => [.dat ((eL D.str) v_names), .dat ((eL (eT D.int)) v_rows), .any, .own none (.lst (v_told.map (eT D.str))), .any, .any]) (st_for (enc := (eP D.int (eT D.int))) (sh := (.name 4)) (Gs := fun (v_told : (List (List Str))) => [.dat ((eL D.str) v_names), .dat ((eL (eT D.int)) v_rows), .any, .own none (.lst (v_told.map (eT D.str))), .any, .any]) (xs := ((v_rows.map fun (v_row : (List Int)) => ((v_row.length : Int), v_row)).mergeSort (leT (eP D.int (eT D.int))))) (st2_law_selections v_names) (s0 := v_told) (fun (i_ : Nat) (v_told : (List (List Str))) => v_told.length ≤ i_) (iv_list (EV.fz (evt_sorted (enc := (eP D.int (eT D.int))) hr.units rfl m_sorted (EncOrd.pair EncOrd.int (EncOrd.vt EncOrd.int (dep_le dep_int (by decide))) (dep_le dep_int (by decide)) (dep_le (dep_vt dep_int) (by decide))) EncTop.pair (.l .own) (ev_lc rfl sc_law_selections.nd (blkOk_by (own := [("row", 5)]) (by walk_at "blk")) (fun _ _ _ _ _ => (sh_name 5 (pg_name (i := 5) sc_law_selections.nd rfl (by first | exact .inl rfl | exact .inr rfl)))) (cp_map (enc := (eT D.int)) (encb := (eP D.int (eT D.int))) (sh := (.name 5)) (own := [("row", 5)]) (Γ0 := [.dat ((eL D.str) v_names), .dat ((eL (eT D.int)) v_rows), .any, .own none (.lst (v_told.map (eT D.str))), .any, .any]) (fun (v_row : (List Int)) => ((v_row.length : Int), v_row)) (iv_list (ev_var 1 rfl (pv 1))) (fun _ h => h) (by walk_at "weak") (by intro n hn t ht; simp only [List.map_cons, List.map_nil, List.mem_cons, List.not_mem_nil, or_false] at hn; subst hn; cases ht; rfl) (fun h => by simpa using h) (fun hB_ v_row hx_ => ⟨_, _, rfl, (fun _ _ _ _ _ => by (try simp only [Bool.and_eq_true, Bool.or_eq_true, Bool.and_eq_false_iff, Bool.or_eq_false_iff, Bool.not_eq_true', Bool.not_eq_false', decide_eq_true_eq, decide_eq_false_iff_not, List.isEmpty_eq_false_iff, List.isEmpty_iff] at h_); exact (ev_tup (ds := [D.int (v_row.length : Int), (eT D.int) v_row]) (av_cons (evt_len rfl m_len .t (ev_var 5 rfl (pv 5))) (av_cons (ev_var 5 rfl (pv 5)) av_nil)))), (by walk_at "weak")⟩)))))) (sh_name 4 (pg_name (i := 4) sc_law_selections.nd rfl (by first | exact .inl rfl | exact .inr rfl))) PassesOwn.never rfl (by walk_at "weak") (by subst_vars; simp) (fun hB_ i_ v_told v_key hx_ hP_ => ?_)) (fun v_told hs_ => ?_)
  · skip
    (try dsimp only at hP_); have hm_ := List.mem_of_getElem? hx_; have hi_ := (List.getElem?_eq_some_iff.mp hx_).1; (try (have hs2_ := hB_; rw [List.length_map, sizeLine_eq] at hs2_)); (try have hr_ := rangeI_at hx_)
    refine ⟨⟨_, rfl, ?_⟩, ?_⟩
    · show SS _ _ _ _ _ _ ((LO.next (v_told ++ [((v_key.2).map fun (v_at : Int) => (v_names.getD (v_at).toNat default))]) : LO (List (List Str)) (List (List Str)) (List (List Str))).bind fun (v_told : (List (List Str))) => LO.next v_told)
      refine ss_cons (S' := (List (List Str))) (G' := fun (v_told : (List (List Str))) => [.dat ((eL D.str) v_names), .dat ((eL (eT D.int)) v_rows), .any, .own none (.lst (v_told.map (eT D.str))), .dat ((eP D.int (eT D.int)) v_key), .any]) (st_expr (evt_append (enc := (eT D.str)) (v := ((v_key.2).map fun (v_at : Int) => (v_names.getD (v_at).toNat default))) (pv 3) rfl (evt_tuple (enc := D.str) rfl m_tuple (.l .own) (ev_lc rfl sc_law_selections.nd (blkOk_by (own := [("at", 2)]) (by walk_at "blk")) (fun _ _ _ _ _ => (sh_name 2 (pg_name (i := 2) sc_law_selections.nd rfl (by first | exact .inl rfl | exact .inr rfl)))) (cp_map (enc := D.int) (encb := D.str) (sh := (.name 2)) (own := [("at", 2)]) (Γ0 := [.dat ((eL D.str) v_names), .dat ((eL (eT D.int)) v_rows), .any, .own none (.lst (v_told.map (eT D.str))), .dat ((eP D.int (eT D.int)) v_key), .any]) (fun (v_at : Int) => (v_names.getD (v_at).toNat default)) (iv_tup (ev_ixT (d := (eT D.int) v_key.2) (ev_var 4 rfl (pv 4)) ev_int (atI_nat (j := 1) rfl))) (fun _ h => h) (by walk_at "weak") (by intro n hn t ht; simp only [List.map_cons, List.map_nil, List.mem_cons, List.not_mem_nil, or_false] at hn; subst hn; cases ht; rfl) (fun h => by simpa using h) (fun hB_ v_at hx_ => ⟨_, _, rfl, (fun _ _ _ _ _ => by (try simp only [Bool.and_eq_true, Bool.or_eq_true, Bool.and_eq_false_iff, Bool.or_eq_false_iff, Bool.not_eq_true', Bool.not_eq_false', decide_eq_true_eq, decide_eq_false_iff_not, List.isEmpty_eq_false_iff, List.isEmpty_iff] at h_); exact (evt_ixL (enc := D.str) (ev_var 0 rfl (pv 0)) (ev_var 2 rfl (pv 2)) .dat (by exact (sel_at (by rw [hq_] at hm_; exact hm_) (by with_reducible assumption)).1) (by exact (sel_at (by rw [hq_] at hm_; exact hm_) (by with_reducible assumption)).2))), (by walk_at "weak")⟩)))) rfl (by walk_at "append")) weak_rfl) (fun x_ hx_ => ?_)
      have hx_ := (LO.next.inj hx_).symm
      obtain ⟨v_told, hv_⟩ : ∃ v_, v_ = x_ := ⟨_, rfl⟩
      subst hv_
      have hx_told := hx_
      exact (ss_nil (by walk_at "weak"))
    · (intro s1_ h1_; rcases h1_ with h1_ | h1_ <;> (simp only [st2_law_selections, lob_ite, lob_next, lob_cnt, lob_brk, lob_ret] at h1_) <;> (repeat' (first | (simp only [LO.next.injEq, LO.cnt.injEq, reduceCtorEq] at h1_) | split at h1_)) <;> subst h1_ <;> ((try dsimp only); first | omega | (simp only [List.length_append, List.length_cons, List.length_nil]; omega)))
  exact ss_one (st_ret (EV.give (ev_bor 3 rfl (pv 3)) rfl) rfl (by walk_at "weak"))
/-! ### _law_names -/
abbrev s_law_names : Stmt := top 13
theorem sc_law_names : FnScope ["row", "words", "turn", "names"] ["row"] (defScope s_law_names) := ⟨rfl, rfl, rfl, by decide +kernel, rfl, by decide +kernel, by decide +kernel⟩
theorem ok_law_names (F : Fun K "_law_names" "_law_names" s_law_names f fd) (hm : mg "_law_names" = some (.ref f)) (b : Binds K fd ["row"] []) (C_law_words : Cle P w K mg base 2 "_law_words" R_law_words) (C_law_take : Cle P w K mg base 1 "_law_take" R_law_take) : Cle P w K mg base 3 "_law_names" R_law_names := by
  refine cle_mk (S := Unit) (L := Unit) (R := ((List Str) × (List Int))) F sc_law_names hm b (fun ars rr h => by obtain ⟨_, rfl, _⟩ := h; rfl) fun cdv A outer s H E ars rr as hr hR => ?_
  obtain ⟨v_row, rfl, rfl⟩ := hR
  refine ⟨fun _ => [.any, .any, .any, .any], fun _ => [], fun r_ => (.own (.lst (r_.1.map D.str)), [.own (some (as 0)) (.lst (r_.2.map D.int)), .any, .any, .any]), lo_law_names v_row, ?_, .inl ⟨law_names v_row, lo_law_names_eq v_row, rfl, finOk ⟨rfl, rfl, trivial⟩⟩⟩
  unfold lo_law_names
  refine ss_cons (S' := ((List Str) × (List Int))) (G' := fun x_ => match x_ with | (v_words, v_row) => [.own (some (as 0)) (.lst (v_row.map D.int)), .dat ((eL D.str) v_words), .any, .any]) (st_set 1 sc_law_names.nd rfl (by first | exact .inl rfl | exact .inr rfl) (EV.fz (ev_call (rs := [.bor 0, .dat (D.int (8 : Int))]) (ars := [.mu (.lst (v_row.map D.int)) (.lst ((law_words v_row (8 : Int)).2.map D.int)), .dat (D.int (8 : Int))]) (rr := .own (.lst ((law_words v_row (8 : Int)).1.map D.str))) C_law_words (hr.mono (by decide)) rfl ⟨v_row, (8 : Int), (by walk_at "pre"), rfl, rfl⟩ (mt_cbor rfl rfl (mt_cdat (d := D.int (8 : Int)) mt_nil)) (av_cons (ev_bor 0 rfl (pv 0)) (av_cons ev_int av_nil)))) weak_rfl) (fun x_ hx_ => ?_)
  have k1_ := (law_words_post v_row (8 : Int) (by walk_at "pre"))
  obtain ⟨v_words, v_row⟩ := x_
  have hx_ := LO.next.inj hx_
  have hx_words := (Prod.mk.inj hx_).1.symm
  have hx_ := (Prod.mk.inj hx_).2
  have hx_row := hx_.symm
  refine ss_cons (S' := (Int × (List Int))) (G' := fun x_ => match x_ with | (v_turn, v_row) => [.own (some (as 0)) (.lst (v_row.map D.int)), .dat ((eL D.str) v_words), .dat (D.int v_turn), .any]) (st_set 2 sc_law_names.nd rfl (by first | exact .inl rfl | exact .inr rfl) (ev_call (rs := [.bor 0, .dat (D.int (8 : Int))]) (ars := [.mu (.lst (v_row.map D.int)) (.lst ((law_take v_row (8 : Int)).2.map D.int)), .dat (D.int (8 : Int))]) (rr := .dat (D.int (law_take v_row (8 : Int)).1)) C_law_take (hr.mono (by decide)) rfl ⟨v_row, (8 : Int), (by walk_at "pre"), rfl, rfl⟩ (mt_cbor rfl rfl (mt_cdat (d := D.int (8 : Int)) mt_nil)) (av_cons (ev_bor 0 rfl (pv 0)) (av_cons ev_int av_nil))) weak_rfl) (fun x_ hx_ => ?_)
  have k2_ := (law_take_post v_row (8 : Int) (by walk_at "pre"))
  obtain ⟨v_turn, v_row⟩ := x_
  have hx_ := LO.next.inj hx_
  have hx_turn := (Prod.mk.inj hx_).1.symm
  have hx_ := (Prod.mk.inj hx_).2
  have hx_row := hx_.symm
  refine ss_cons (S' := (List Str)) (G' := fun (v_names : (List Str)) => [.own (some (as 0)) (.lst (v_row.map D.int)), .dat ((eL D.str) v_words), .dat (D.int v_turn), .dat ((eL D.str) v_names)]) (st_set 3 sc_law_names.nd rfl (by first | exact .inl rfl | exact .inr rfl) (EV.fz (evt_catL (enc := D.str) (xs := (cutL v_words (some v_turn) none)) (ys := (cutL v_words none (some v_turn))) (evt_slL (enc := D.str) (ev_var 1 rfl (pv 1)) (ov_some (ev_var 2 rfl (pv 2))) ov_none .dat) (evt_slL (enc := D.str) (ev_var 1 rfl (pv 1)) ov_none (ov_some (ev_var 2 rfl (pv 2))) .dat) .own .own (by exact cut_size trivial (by rw [hx_words]; exact k1_.1)))) weak_rfl) (fun x_ hx_ => ?_)
  have hx_ := (LO.next.inj hx_).symm
  obtain ⟨v_names, hv_⟩ : ∃ v_, v_ = x_ := ⟨_, rfl⟩
  subst hv_
  have hx_names := hx_
  have k3_ := (law_take_post v_row (2 : Int) (by walk_at "pre"))
  refine ss_cons (S' := ((List Str) × (List Int))) (G' := fun x_ => match x_ with | (v_names, v_row) => [.own (some (as 0)) (.lst (v_row.map D.int)), .dat ((eL D.str) v_words), .dat (D.int v_turn), .dat ((eL D.str) v_names)]) (st_if (tv_eqI (ev_call (rs := [.bor 0, .dat (D.int (2 : Int))]) (ars := [.mu (.lst (v_row.map D.int)) (.lst ((law_take v_row (2 : Int)).2.map D.int)), .dat (D.int (2 : Int))]) (rr := .dat (D.int (law_take v_row (2 : Int)).1)) C_law_take (hr.mono (by decide)) rfl ⟨v_row, (2 : Int), (by walk_at "pre"), rfl, rfl⟩ (mt_cbor rfl rfl (mt_cdat (d := D.int (2 : Int)) mt_nil)) (av_cons (ev_bor 0 rfl (pv 0)) (av_cons ev_int av_nil))) ev_int) (fun h_ => ?_) (fun h_ => ?_)) (fun x_ hs_ => ?_)
  · (try simp only [Bool.and_eq_true, Bool.or_eq_true, Bool.and_eq_false_iff, Bool.or_eq_false_iff, Bool.not_eq_true', Bool.not_eq_false', decide_eq_true_eq, decide_eq_false_iff_not, List.isEmpty_eq_false_iff, List.isEmpty_iff] at h_)
    refine ss_cons (S' := ((List Str) × (List Int))) (G' := fun x_ => match x_ with | (v_names, v_row) => [.own (some (as 0)) (.lst (v_row.map D.int)), .dat ((eL D.str) v_words), .dat (D.int v_turn), .dat ((eL D.str) v_names)]) (st_set 3 sc_law_names.nd rfl (by first | exact .inl rfl | exact .inr rfl) (EV.fz (evt_revL (enc := D.str) (ev_var 3 rfl (pv 3)) .dat)) weak_rfl) (fun x_ hx_ => ?_)
    obtain ⟨v_names, v_row⟩ := x_
    have hx_ := LO.next.inj hx_
    have hx_names := (Prod.mk.inj hx_).1.symm
    have hx_ := (Prod.mk.inj hx_).2
    have hx_row := hx_.symm
    exact (ss_nil (by walk_at "weak"))
  · (try simp only [Bool.and_eq_true, Bool.or_eq_true, Bool.and_eq_false_iff, Bool.or_eq_false_iff, Bool.not_eq_true', Bool.not_eq_false', decide_eq_true_eq, decide_eq_false_iff_not, List.isEmpty_eq_false_iff, List.isEmpty_iff] at h_)
    exact (ss_nil (by walk_at "weak"))
  obtain ⟨v_names, v_row⟩ := x_
  exact ss_one (st_ret (evt_slL (enc := D.str) (ev_var 3 rfl (pv 3)) ov_none (ov_some (evt_ixL (enc := D.int) (ev_lst (ds := [D.int (4 : Int), D.int (3 : Int), D.int (5 : Int), D.int (8 : Int), D.int (2 : Int), D.int (6 : Int), D.int (0 : Int), D.int (1 : Int), D.int (7 : Int), D.int (4 : Int)]) (av_cons ev_int (av_cons ev_int (av_cons ev_int (av_cons ev_int (av_cons ev_int (av_cons ev_int (av_cons ev_int (av_cons ev_int (av_cons ev_int (av_cons ev_int av_nil))))))))))) (ev_call (rs := [.bor 0, .dat (D.int (10 : Int))]) (ars := [.mu (.lst (v_row.map D.int)) (.lst ((law_take v_row (10 : Int)).2.map D.int)), .dat (D.int (10 : Int))]) (rr := .dat (D.int (law_take v_row (10 : Int)).1)) C_law_take (hr.mono (by decide)) rfl ⟨v_row, (10 : Int), (by walk_at "pre"), rfl, rfl⟩ (mt_cbor rfl rfl (mt_cdat (d := D.int (10 : Int)) mt_nil)) (av_cons (ev_bor 0 rfl (pv 0)) (av_cons ev_int av_nil))) .own (by have q0_ := (law_take_post v_row (10 : Int) (by walk_at "pre")); walk_at "lo") (by have q0_ := (law_take_post v_row (10 : Int) (by walk_at "pre")); first | omega | (show _ < (10 : Int); omega)))) .dat) rfl (by walk_at "weak"))
/-! ### _law_group -/
abbrev s_law_group : Stmt := top 14
theorem sc_law_group : FnScope ["row", "names", "groups", "base", "way", "k"] ["row", "names", "groups"] (defScope s_law_group) := ⟨rfl, rfl, rfl, by decide +kernel, rfl, by decide +kernel, by decide +kernel⟩
theorem ok_law_group (F : Fun K "_law_group" "_law_group" s_law_group f fd) (hm : mg "_law_group" = some (.ref f)) (b : Binds K fd ["row", "names", "groups"] []) (m_len : mg "len" = none) (m_range : mg "range" = none) (m_tuple : mg "tuple" = none) (C_law_take : Cle P w K mg base 1 "_law_take" R_law_take) : Cle P w K mg base 2 "_law_group" R_law_group := by
  refine cle_mk (S := Unit) (L := Unit) (R := ((List Str) × (List Int))) F sc_law_group hm b (fun ars rr h => by obtain ⟨_, _, _, _, rfl, _⟩ := h; rfl) fun cdv A outer s H E ars rr as hr hR => ?_
  obtain ⟨v_row, v_names, v_groups, hp0_, rfl, rfl⟩ := hR
  refine ⟨fun _ => [.any, .any, .any, .any, .any, .any], fun _ => [], fun r_ => (.dat ((eT D.str) r_.1), [.own (some (as 0)) (.lst (r_.2.map D.int)), .any, .own (some (as 2)) (.lst (v_groups.map (eT D.str))), .any, .any, .any]), lo_law_group v_row v_names v_groups, ?_, .inl ⟨law_group v_row v_names v_groups, lo_law_group_eq v_row v_names v_groups hp0_, rfl, finOk ⟨rfl, rfl, ⟨rfl, rfl, trivial⟩⟩⟩⟩
  unfold lo_law_group
  refine ss_cons (S' := (List Int)) (G' := fun (v_row : (List Int)) => [.own (some (as 0)) (.lst (v_row.map D.int)), .dat ((eL D.str) v_names), .own (some (as 2)) (.lst (v_groups.map (eT D.str))), .any, .any, .any]) (st_if (WV.tv (wv_orM (Γ' := [.own (some (as 0)) (.lst ((if (decide ((v_names.length : Int) = (0 : Int))) = true then v_row else (law_take v_row (25 : Int)).2).map D.int)), .dat ((eL D.str) v_names), .own (some (as 2)) (.lst (v_groups.map (eT D.str))), .any, .any, .any]) (tv_eqI (evt_len rfl m_len (.l .dat) (ev_var 1 rfl (pv 1))) ev_int) (fun h_ => by (try simp only [Bool.and_eq_true, Bool.or_eq_true, Bool.and_eq_false_iff, Bool.or_eq_false_iff, Bool.not_eq_true', Bool.not_eq_false', decide_eq_true_eq, decide_eq_false_iff_not, List.isEmpty_eq_false_iff, List.isEmpty_iff] at h_); exact (wv_or1 (tv_eqI (ev_call (rs := [.bor 0, .dat (D.int (25 : Int))]) (ars := [.mu (.lst (v_row.map D.int)) (.lst ((law_take v_row (25 : Int)).2.map D.int)), .dat (D.int (25 : Int))]) (rr := .dat (D.int (law_take v_row (25 : Int)).1)) C_law_take (hr.mono (by decide)) rfl ⟨v_row, (25 : Int), (by walk_at "pre"), rfl, rfl⟩ (mt_cbor rfl rfl (mt_cdat (d := D.int (25 : Int)) mt_nil)) (av_cons (ev_bor 0 rfl (pv 0)) (av_cons ev_int av_nil))) ev_int))) (fun h_ => by rw [if_pos h_]; exact weak_rfl) (fun h_ => by rw [if_neg (by rw [h_]; exact Bool.false_ne_true)]; exact weak_rfl))) (fun h_ => ?_) (fun h_ => ?_)) (fun v_row hs_ => ?_)
  · (try simp only [Bool.and_eq_true, Bool.or_eq_true, Bool.and_eq_false_iff, Bool.or_eq_false_iff, Bool.not_eq_true', Bool.not_eq_false', decide_eq_true_eq, decide_eq_false_iff_not, List.isEmpty_eq_false_iff, List.isEmpty_iff] at h_)
    exact ss_one (st_ret (ev_tup (ds := []) av_nil) rfl (by walk_at "weak"))
  · (try simp only [Bool.and_eq_true, Bool.or_eq_true, Bool.and_eq_false_iff, Bool.or_eq_false_iff, Bool.not_eq_true', Bool.not_eq_false', decide_eq_true_eq, decide_eq_false_iff_not, List.isEmpty_eq_false_iff, List.isEmpty_iff] at h_)
    exact (ss_nil (by walk_at "weak"))
  have hn_ := (if_nextR hs_ (by walk_at "nn")).1
  have hsv_ := (if_nextR hs_ (by walk_at "nn")).2
  (try simp only [Bool.and_eq_true, Bool.or_eq_true, Bool.and_eq_false_iff, Bool.or_eq_false_iff, Bool.not_eq_true', Bool.not_eq_false', decide_eq_true_eq, decide_eq_false_iff_not, List.isEmpty_eq_false_iff, List.isEmpty_iff] at hn_)
  refine ss_cons (S' := (List Int)) (G' := fun (v_row : (List Int)) => [.own (some (as 0)) (.lst (v_row.map D.int)), .dat ((eL D.str) v_names), .own (some (as 2)) (.lst (v_groups.map (eT D.str))), .any, .any, .any]) (st_if (WV.tv (wv_andM (Γ' := [.own (some (as 0)) (.lst ((if (decide ((0 : Int) < (v_groups.length : Int))) = true then (law_take v_row (4 : Int)).2 else v_row).map D.int)), .dat ((eL D.str) v_names), .own (some (as 2)) (.lst (v_groups.map (eT D.str))), .any, .any, .any]) (tv_gt (evt_len rfl m_len (.l (.bor rfl)) (ev_bor 2 rfl (pv 2))) ev_int) (fun h_ => by (try simp only [Bool.and_eq_true, Bool.or_eq_true, Bool.and_eq_false_iff, Bool.or_eq_false_iff, Bool.not_eq_true', Bool.not_eq_false', decide_eq_true_eq, decide_eq_false_iff_not, List.isEmpty_eq_false_iff, List.isEmpty_iff] at h_); exact (wv_and1 (tv_eqI (ev_call (rs := [.bor 0, .dat (D.int (4 : Int))]) (ars := [.mu (.lst (v_row.map D.int)) (.lst ((law_take v_row (4 : Int)).2.map D.int)), .dat (D.int (4 : Int))]) (rr := .dat (D.int (law_take v_row (4 : Int)).1)) C_law_take (hr.mono (by decide)) rfl ⟨v_row, (4 : Int), (by walk_at "pre"), rfl, rfl⟩ (mt_cbor rfl rfl (mt_cdat (d := D.int (4 : Int)) mt_nil)) (av_cons (ev_bor 0 rfl (pv 0)) (av_cons ev_int av_nil))) ev_int))) (fun h_ => by rw [if_neg (by rw [h_]; exact Bool.false_ne_true)]; exact weak_rfl) (fun h_ => by rw [if_pos h_]; exact weak_rfl))) (fun h_ => ?_) (fun h_ => ?_)) (fun v_row hs_ => ?_)
  · (try simp only [Bool.and_eq_true, Bool.or_eq_true, Bool.and_eq_false_iff, Bool.or_eq_false_iff, Bool.not_eq_true', Bool.not_eq_false', decide_eq_true_eq, decide_eq_false_iff_not, List.isEmpty_eq_false_iff, List.isEmpty_iff] at h_)
    refine ss_cons (S' := ((List Str) × (List Int))) (G' := fun x_ => match x_ with | (v_base, v_row) => [.own (some (as 0)) (.lst (v_row.map D.int)), .dat ((eL D.str) v_names), .own (some (as 2)) (.lst (v_groups.map (eT D.str))), .dat ((eT D.str) v_base), .any, .any]) (st_set 3 sc_law_group.nd rfl (by first | exact .inl rfl | exact .inr rfl) (evt_ixL (enc := (eT D.str)) (ev_bor 2 rfl (pv 2)) (ev_call (rs := [.bor 0, .dat (D.int (v_groups.length : Int))]) (ars := [.mu (.lst ((if (decide ((0 : Int) < (v_groups.length : Int))) = true then (law_take v_row (4 : Int)).2 else v_row).map D.int)) (.lst ((law_take (if (decide ((0 : Int) < (v_groups.length : Int))) = true then (law_take v_row (4 : Int)).2 else v_row) (v_groups.length : Int)).2.map D.int)), .dat (D.int (v_groups.length : Int))]) (rr := .dat (D.int (law_take (if (decide ((0 : Int) < (v_groups.length : Int))) = true then (law_take v_row (4 : Int)).2 else v_row) (v_groups.length : Int)).1)) C_law_take (hr.mono (by decide)) rfl ⟨(if (decide ((0 : Int) < (v_groups.length : Int))) = true then (law_take v_row (4 : Int)).2 else v_row), (v_groups.length : Int), (by walk_at "pre"), rfl, rfl⟩ (mt_cbor rfl rfl (mt_cdat (d := D.int (v_groups.length : Int)) mt_nil)) (av_cons (ev_bor 0 rfl (pv 0)) (av_cons (evt_len rfl m_len (.l (.bor rfl)) (ev_bor 2 rfl (pv 2))) av_nil))) (.bor rfl) (by have q0_ := (law_take_post (if (decide ((0 : Int) < (v_groups.length : Int))) = true then (law_take v_row (4 : Int)).2 else v_row) (v_groups.length : Int) (by walk_at "pre")); walk_at "lo") (by have q0_ := (law_take_post (if (decide ((0 : Int) < (v_groups.length : Int))) = true then (law_take v_row (4 : Int)).2 else v_row) (v_groups.length : Int) (by walk_at "pre")); first | omega | (show _ < (8 : Int); omega))) weak_rfl) (fun x_ hx_ => ?_)
    have k1_ := (law_take_post (if (decide ((0 : Int) < (v_groups.length : Int))) = true then (law_take v_row (4 : Int)).2 else v_row) (v_groups.length : Int) (by walk_at "pre"))
    obtain ⟨v_base, v_row⟩ := x_
    have hx_ := LO.next.inj hx_
    have hx_base := (Prod.mk.inj hx_).1.symm
    have hx_ := (Prod.mk.inj hx_).2
    have hx_row := hx_.symm
    refine ss_cons (S' := (Int × (List Int))) (G' := fun x_ => match x_ with | (v_way, v_row) => [.own (some (as 0)) (.lst (v_row.map D.int)), .dat ((eL D.str) v_names), .own (some (as 2)) (.lst (v_groups.map (eT D.str))), .dat ((eT D.str) v_base), .dat (D.int v_way), .any]) (st_set 4 sc_law_group.nd rfl (by first | exact .inl rfl | exact .inr rfl) (ev_call (rs := [.bor 0, .dat (D.int (3 : Int))]) (ars := [.mu (.lst (v_row.map D.int)) (.lst ((law_take v_row (3 : Int)).2.map D.int)), .dat (D.int (3 : Int))]) (rr := .dat (D.int (law_take v_row (3 : Int)).1)) C_law_take (hr.mono (by decide)) rfl ⟨v_row, (3 : Int), (by walk_at "pre"), rfl, rfl⟩ (mt_cbor rfl rfl (mt_cdat (d := D.int (3 : Int)) mt_nil)) (av_cons (ev_bor 0 rfl (pv 0)) (av_cons ev_int av_nil))) weak_rfl) (fun x_ hx_ => ?_)
    have k2_ := (law_take_post v_row (3 : Int) (by walk_at "pre"))
    obtain ⟨v_way, v_row⟩ := x_
    have hx_ := LO.next.inj hx_
    have hx_way := (Prod.mk.inj hx_).1.symm
    have hx_ := (Prod.mk.inj hx_).2
    have hx_row := hx_.symm
    refine ss_cons (S' := Unit) (G' := fun (_ : Unit) => [.own (some (as 0)) (.lst (v_row.map D.int)), .dat ((eL D.str) v_names), .own (some (as 2)) (.lst (v_groups.map (eT D.str))), .dat ((eT D.str) v_base), .dat (D.int v_way), .any]) (st_if (tv_eqI (ev_var 4 rfl (pv 4)) ev_int) (fun h_ => ?_) (fun h_ => ?_)) (fun x_ hs_ => ?_)
    · (try simp only [Bool.and_eq_true, Bool.or_eq_true, Bool.and_eq_false_iff, Bool.or_eq_false_iff, Bool.not_eq_true', Bool.not_eq_false', decide_eq_true_eq, decide_eq_false_iff_not, List.isEmpty_eq_false_iff, List.isEmpty_iff] at h_)
      exact ss_one (st_ret (evt_revT (enc := D.str) (ev_var 3 rfl (pv 3))) rfl (by walk_at "weak"))
    · (try simp only [Bool.and_eq_true, Bool.or_eq_true, Bool.and_eq_false_iff, Bool.or_eq_false_iff, Bool.not_eq_true', Bool.not_eq_false', decide_eq_true_eq, decide_eq_false_iff_not, List.isEmpty_eq_false_iff, List.isEmpty_iff] at h_)
      exact (ss_nil (by walk_at "weak"))
    have hn_ := (if_nextR hs_ (by walk_at "nn")).1
    have hsv_ := (if_nextR hs_ (by walk_at "nn")).2
    (try simp only [Bool.and_eq_true, Bool.or_eq_true, Bool.and_eq_false_iff, Bool.or_eq_false_iff, Bool.not_eq_true', Bool.not_eq_false', decide_eq_true_eq, decide_eq_false_iff_not, List.isEmpty_eq_false_iff, List.isEmpty_iff] at hn_)
    refine ss_cons (S' := Unit) (G' := fun (_ : Unit) => [.own (some (as 0)) (.lst (v_row.map D.int)), .dat ((eL D.str) v_names), .own (some (as 2)) (.lst (v_groups.map (eT D.str))), .dat ((eT D.str) v_base), .dat (D.int v_way), .any]) (st_if (WV.tv (wv_or (tv_eqI (ev_var 4 rfl (pv 4)) ev_int) (fun h_ => by (try simp only [Bool.and_eq_true, Bool.or_eq_true, Bool.and_eq_false_iff, Bool.or_eq_false_iff, Bool.not_eq_true', Bool.not_eq_false', decide_eq_true_eq, decide_eq_false_iff_not, List.isEmpty_eq_false_iff, List.isEmpty_iff] at h_); exact (wv_or1 (tv_gt (evt_len rfl m_len .t (ev_var 3 rfl (pv 3))) ev_int))))) (fun h_ => ?_) (fun h_ => ?_)) (fun x_ hs_ => ?_)
    · (try simp only [Bool.and_eq_true, Bool.or_eq_true, Bool.and_eq_false_iff, Bool.or_eq_false_iff, Bool.not_eq_true', Bool.not_eq_false', decide_eq_true_eq, decide_eq_false_iff_not, List.isEmpty_eq_false_iff, List.isEmpty_iff] at h_)
      exact ss_one (st_ret (evt_slT (enc := D.str) (ev_var 3 rfl (pv 3)) (ov_some ev_int) ov_none) rfl (by walk_at "weak"))
    · (try simp only [Bool.and_eq_true, Bool.or_eq_true, Bool.and_eq_false_iff, Bool.or_eq_false_iff, Bool.not_eq_true', Bool.not_eq_false', decide_eq_true_eq, decide_eq_false_iff_not, List.isEmpty_eq_false_iff, List.isEmpty_iff] at h_)
      exact (ss_nil (by walk_at "weak"))
    have hn_ := (if_nextR hs_ (by walk_at "nn")).1
    have hsv_ := (if_nextR hs_ (by walk_at "nn")).2
    (try simp only [Bool.and_eq_true, Bool.or_eq_true, Bool.and_eq_false_iff, Bool.or_eq_false_iff, Bool.not_eq_true', Bool.not_eq_false', decide_eq_true_eq, decide_eq_false_iff_not, List.isEmpty_eq_false_iff, List.isEmpty_iff] at hn_)
    exact ss_one (st_ret (evt_catT (enc := D.str) (xs := v_base) (ys := [(v_names.getD ((law_take v_row (v_names.length : Int)).1).toNat default)]) (ev_var 3 rfl (pv 3)) (ev_tup (ds := [D.str (v_names.getD ((law_take v_row (v_names.length : Int)).1).toNat default)]) (av_cons (evt_ixL (enc := D.str) (ev_var 1 rfl (pv 1)) (ev_call (rs := [.bor 0, .dat (D.int (v_names.length : Int))]) (ars := [.mu (.lst (v_row.map D.int)) (.lst ((law_take v_row (v_names.length : Int)).2.map D.int)), .dat (D.int (v_names.length : Int))]) (rr := .dat (D.int (law_take v_row (v_names.length : Int)).1)) C_law_take (hr.mono (by decide)) rfl ⟨v_row, (v_names.length : Int), (by walk_at "pre"), rfl, rfl⟩ (mt_cbor rfl rfl (mt_cdat (d := D.int (v_names.length : Int)) mt_nil)) (av_cons (ev_bor 0 rfl (pv 0)) (av_cons (evt_len rfl m_len (.l .dat) (ev_var 1 rfl (pv 1))) av_nil))) .dat (by have q0_ := (law_take_post v_row (v_names.length : Int) (by walk_at "pre")); walk_at "lo") (by have q0_ := (law_take_post v_row (v_names.length : Int) (by walk_at "pre")); first | omega | (show _ < (8 : Int); omega))) av_nil)) (by have q0_ := (law_take_post v_row (v_names.length : Int) (by walk_at "pre")); exact small_line (by simp only [List.length_cons, List.length_nil]; omega))) rfl (by walk_at "weak"))
  · (try simp only [Bool.and_eq_true, Bool.or_eq_true, Bool.and_eq_false_iff, Bool.or_eq_false_iff, Bool.not_eq_true', Bool.not_eq_false', decide_eq_true_eq, decide_eq_false_iff_not, List.isEmpty_eq_false_iff, List.isEmpty_iff] at h_)
    exact (ss_nil (by walk_at "weak"))
  have hn_ := (if_nextR hs_ (by walk_at "nn")).1
  have hsv_ := (if_nextR hs_ (by walk_at "nn")).2
  (try simp only [Bool.and_eq_true, Bool.or_eq_true, Bool.and_eq_false_iff, Bool.or_eq_false_iff, Bool.not_eq_true', Bool.not_eq_false', decide_eq_true_eq, decide_eq_false_iff_not, List.isEmpty_eq_false_iff, List.isEmpty_iff] at hn_)
  exact ss_one (st_ret (evt_tuple (enc := D.str) rfl m_tuple (.l .own) (ev_lc rfl sc_law_group.nd (blkOk_by (own := [("k", 5)]) (by walk_at "blk")) (fun _ _ _ _ _ => (sh_name 5 (pg_name (i := 5) sc_law_group.nd rfl (by first | exact .inl rfl | exact .inr rfl)))) (cp_comp (enc := D.int) (encb := D.str) (sh := (.name 5)) (own := [("k", 5)]) (Gs := fun (v_row : (List Int)) => [.own (some (as 0)) (.lst (v_row.map D.int)), .dat ((eL D.str) v_names), .own (some (as 2)) (.lst (v_groups.map (eT D.str))), .any, .any, .any]) (cs1_law_group v_names) (fun i_ v_row => True) (ivt_range1 rfl m_range (evt_ixL (enc := D.int) (ev_lst (ds := [D.int (2 : Int), D.int (3 : Int), D.int (1 : Int), D.int (2 : Int), D.int (4 : Int), D.int (3 : Int), D.int (2 : Int), D.int (1 : Int)]) (av_cons ev_int (av_cons ev_int (av_cons ev_int (av_cons ev_int (av_cons ev_int (av_cons ev_int (av_cons ev_int (av_cons ev_int av_nil))))))))) (ev_call (rs := [.bor 0, .dat (D.int (8 : Int))]) (ars := [.mu (.lst (v_row.map D.int)) (.lst ((law_take v_row (8 : Int)).2.map D.int)), .dat (D.int (8 : Int))]) (rr := .dat (D.int (law_take v_row (8 : Int)).1)) C_law_take (hr.mono (by decide)) rfl ⟨v_row, (8 : Int), (by walk_at "pre"), rfl, rfl⟩ (mt_cbor rfl rfl (mt_cdat (d := D.int (8 : Int)) mt_nil)) (av_cons (ev_bor 0 rfl (pv 0)) (av_cons ev_int av_nil))) .own (by have q0_ := (law_take_post v_row (8 : Int) (by walk_at "pre")); walk_at "lo") (by have q0_ := (law_take_post v_row (8 : Int) (by walk_at "pre")); first | omega | (show _ < (8 : Int); omega))) (by have q0_ := (law_take_post v_row (8 : Int) (by walk_at "pre")); have z_ := eight_le (law_take v_row 8).1; (refine ⟨?_, ?_⟩) <;> omega)) (fun _ h => h) (by walk_at "weak") (fun v_row => (by intro n hn t ht; simp only [List.map_cons, List.map_nil, List.mem_cons, List.not_mem_nil, or_false] at hn; subst hn; cases ht; rfl)) trivial (fun _ => range_small (by have q0_ := (law_take_post v_row (8 : Int) (by walk_at "pre")); have z_ := eight_le (law_take v_row 8).1; omega)) (fun hB_ i_ v_row v_k hx_ hP_ => ⟨_, true, _, rfl, (fun _ _ _ _ _ => tts_nil), (by rw [if_pos rfl]; exact ⟨(v_names.getD ((law_take v_row (v_names.length : Int)).1).toNat default), _, rfl, (fun _ _ _ _ _ => by (try simp only [Bool.and_eq_true, Bool.or_eq_true, Bool.and_eq_false_iff, Bool.or_eq_false_iff, Bool.not_eq_true', Bool.not_eq_false', decide_eq_true_eq, decide_eq_false_iff_not, List.isEmpty_eq_false_iff, List.isEmpty_iff] at h_); (try have hr_ := rangeI_mem hx_); exact (evt_ixL (enc := D.str) (ev_var 1 rfl (pv 1)) (ev_call (rs := [.bor 0, .dat (D.int (v_names.length : Int))]) (ars := [.mu (.lst (v_row.map D.int)) (.lst ((law_take v_row (v_names.length : Int)).2.map D.int)), .dat (D.int (v_names.length : Int))]) (rr := .dat (D.int (law_take v_row (v_names.length : Int)).1)) C_law_take (hr.mono (by decide)) rfl ⟨v_row, (v_names.length : Int), (by have q0_ := (law_take_post v_row (8 : Int) (by walk_at "pre")); walk_at "pre"), rfl, rfl⟩ (mt_cbor rfl rfl (mt_cdat (d := D.int (v_names.length : Int)) mt_nil)) (av_cons (ev_bor 0 rfl (pv 0)) (av_cons (evt_len rfl m_len (.l .dat) (ev_var 1 rfl (pv 1))) av_nil))) .dat (by have q0_ := (law_take_post v_row (8 : Int) (by walk_at "pre")); have q1_ := (law_take_post v_row (v_names.length : Int) (by have q0_ := (law_take_post v_row (8 : Int) (by walk_at "pre")); walk_at "pre")); walk_at "lo") (by have q0_ := (law_take_post v_row (8 : Int) (by walk_at "pre")); have q1_ := (law_take_post v_row (v_names.length : Int) (by have q0_ := (law_take_post v_row (8 : Int) (by walk_at "pre")); walk_at "pre")); first | omega | (show _ < (8 : Int); omega)))), (by walk_at "weak")⟩), trivial⟩)))) rfl (by walk_at "weak"))
/-! ### _law_meets -/
abbrev s_law_meets : Stmt := top 15
theorem sc_law_meets : FnScope ["chosen", "groups", "group", "name"] ["chosen", "groups"] (defScope s_law_meets) := ⟨rfl, rfl, rfl, by decide +kernel, rfl, by decide +kernel, by decide +kernel⟩
theorem ok_law_meets (F : Fun K "_law_meets" "_law_meets" s_law_meets f fd) (hm : mg "_law_meets" = some (.ref f)) (b : Binds K fd ["chosen", "groups"] []) (m_any : mg "any" = none) : Cle P w K mg base 1 "_law_meets" R_law_meets := by
  refine cle_mk (S := Unit) (L := Unit) (R := Bool) F sc_law_meets hm b (fun ars rr h => by obtain ⟨_, _, rfl, _⟩ := h; rfl) fun cdv A outer s H E ars rr as hr hR => ?_
  obtain ⟨v_chosen, v_groups, rfl, rfl⟩ := hR
  refine ⟨fun _ => [.any, .any, .any, .any], fun _ => [], fun r_ => (.dat (D.bl r_), [.any, .any, .any, .any]), lo_law_meets v_chosen v_groups, ?_, .inl ⟨law_meets v_chosen v_groups, lo_law_meets_eq v_chosen v_groups, rfl, finOk trivial⟩⟩
  unfold lo_law_meets
  refine ss_cons (S' := Unit) (G' := fun (_ : Unit) => [.dat ((eT D.str) v_chosen), .dat ((eL (eT D.str)) v_groups), .any, .any]) (st_for (enc := (eT D.str)) (sh := (.name 2)) (Gs := fun (_ : Unit) => [.dat ((eT D.str) v_chosen), .dat ((eL (eT D.str)) v_groups), .any, .any]) (xs := v_groups) (st1_law_meets v_chosen) (s0 := ()) (fun (i_ : Nat) (_ : Unit) => True) (iv_list (ev_var 1 rfl (pv 1))) (sh_name 2 (pg_name (i := 2) sc_law_meets.nd rfl (by first | exact .inl rfl | exact .inr rfl))) PassesOwn.never rfl (by walk_at "weak") trivial (fun hB_ i_ s_ v_group hx_ hP_ => ?_)) (fun x_ hs_ => ?_)
  · skip
    (try dsimp only at hP_); have hm_ := List.mem_of_getElem? hx_; have hi_ := (List.getElem?_eq_some_iff.mp hx_).1; (try (have hs2_ := hB_; rw [List.length_map, sizeLine_eq] at hs2_)); (try have hr_ := rangeI_at hx_)
    refine ⟨⟨_, rfl, ?_⟩, ?_⟩
    · show SS _ _ _ _ _ _ ((if (!((v_group.map fun (v_name : Str) => (decide (v_name ∈ v_chosen))).any id)) then LO.ret false else LO.next () : LO Unit Unit Bool).bind fun (_ : Unit) => LO.next ())
      refine ss_cons (S' := Unit) (G' := fun (_ : Unit) => [.dat ((eT D.str) v_chosen), .dat ((eL (eT D.str)) v_groups), .dat ((eT D.str) v_group), .any]) (st_if (tv_not (tv_val (ev_any rfl rfl m_any .own (ev_lc rfl sc_law_meets.nd (blkOk_by (own := [("name", 3)]) (by walk_at "blk")) (fun _ _ _ _ _ => (sh_name 3 (pg_name (i := 3) sc_law_meets.nd rfl (by first | exact .inl rfl | exact .inr rfl)))) (cp_map (enc := D.str) (encb := D.bl) (sh := (.name 3)) (own := [("name", 3)]) (Γ0 := [.dat ((eT D.str) v_chosen), .dat ((eL (eT D.str)) v_groups), .dat ((eT D.str) v_group), .any]) (fun (v_name : Str) => (decide (v_name ∈ v_chosen))) (iv_tup (ev_var 2 rfl (pv 2))) (fun _ h => h) (by walk_at "weak") (by intro n hn t ht; simp only [List.map_cons, List.map_nil, List.mem_cons, List.not_mem_nil, or_false] at hn; subst hn; cases ht; rfl) (fun h => by simpa using h) (fun hB_ v_name hx_ => ⟨_, _, rfl, (fun _ _ _ _ _ => by (try simp only [Bool.and_eq_true, Bool.or_eq_true, Bool.and_eq_false_iff, Bool.or_eq_false_iff, Bool.not_eq_true', Bool.not_eq_false', decide_eq_true_eq, decide_eq_false_iff_not, List.isEmpty_eq_false_iff, List.isEmpty_iff] at h_); exact (ev_inS (ev_var 3 rfl (pv 3)) (ev_var 0 rfl (pv 0)) .t)), (by walk_at "weak")⟩)))))) (fun h_ => ?_) (fun h_ => ?_)) (fun x_ hs_ => ?_)
      · (try simp only [Bool.and_eq_true, Bool.or_eq_true, Bool.and_eq_false_iff, Bool.or_eq_false_iff, Bool.not_eq_true', Bool.not_eq_false', decide_eq_true_eq, decide_eq_false_iff_not, List.isEmpty_eq_false_iff, List.isEmpty_iff] at h_)
        exact ss_one (st_ret ev_bl rfl (by walk_at "weak"))
      · (try simp only [Bool.and_eq_true, Bool.or_eq_true, Bool.and_eq_false_iff, Bool.or_eq_false_iff, Bool.not_eq_true', Bool.not_eq_false', decide_eq_true_eq, decide_eq_false_iff_not, List.isEmpty_eq_false_iff, List.isEmpty_iff] at h_)
        exact (ss_nil (by walk_at "weak"))
      have hn_ := (if_nextR hs_ (by walk_at "nn")).1
      have hsv_ := (if_nextR hs_ (by walk_at "nn")).2
      (try simp only [Bool.and_eq_true, Bool.or_eq_true, Bool.and_eq_false_iff, Bool.or_eq_false_iff, Bool.not_eq_true', Bool.not_eq_false', decide_eq_true_eq, decide_eq_false_iff_not, List.isEmpty_eq_false_iff, List.isEmpty_iff] at hn_)
      exact (ss_nil (by walk_at "weak"))
    · exact fun _ _ => trivial
  exact ss_one (st_ret ev_bl rfl (by walk_at "weak"))
/-! ### _law_due_covers -/
abbrev s_law_due_covers : Stmt := top 16
theorem sc_law_due_covers : FnScope ["names", "groups", "told", "chosen", "one"] ["names", "groups"] (defScope s_law_due_covers) := ⟨rfl, rfl, rfl, by decide +kernel, rfl, by decide +kernel, by decide +kernel⟩
theorem ok_law_due_covers (F : Fun K "_law_due_covers" "_law_due_covers" s_law_due_covers f fd) (hm : mg "_law_due_covers" = some (.ref f)) (b : Binds K fd ["names", "groups"] []) (m_any : mg "any" = none) (C_law_selections : Cle P w K mg base 1 "_law_selections" R_law_selections) (C_law_meets : Cle P w K mg base 1 "_law_meets" R_law_meets) (C_law_inside : Cle P w K mg base 1 "_law_inside" R_law_inside) : Cle P w K mg base 2 "_law_due_covers" R_law_due_covers := by
  refine cle_mk (S := Unit) (L := Unit) (R := (List (List Str))) F sc_law_due_covers hm b (fun ars rr h => by obtain ⟨_, _, _, rfl, _⟩ := h; rfl) fun cdv A outer s H E ars rr as hr hR => ?_
  obtain ⟨v_names, v_groups, hp0_, rfl, rfl⟩ := hR
  refine ⟨fun _ => [.any, .any, .any, .any, .any], fun _ => [], fun r_ => (.own (.lst (r_.map (eT D.str))), [.any, .any, .any, .any, .any]), lo_law_due_covers v_names v_groups, ?_, .inl ⟨law_due_covers v_names v_groups, lo_law_due_covers_eq v_names v_groups hp0_, rfl, finOk trivial⟩⟩
  unfold lo_law_due_covers
  refine ss_cons (S' := (List (List Str))) (G' := fun (v_told : (List (List Str))) => [.dat ((eL D.str) v_names), .dat ((eL (eT D.str)) v_groups), .own none (.lst (v_told.map (eT D.str))), .any, .any]) (st_set 2 sc_law_due_covers.nd rfl (by first | exact .inl rfl | exact .inr rfl) (ev_lst (ds := []) av_nil) weak_rfl) (fun x_ hx_ => ?_)
  have hx_ := (LO.next.inj hx_).symm
  obtain ⟨v_told, hv_⟩ : ∃ v_, v_ = x_ := ⟨_, rfl⟩
  subst hv_
  have hx_told := hx_
  refine ss_cons (S' := (List (List Str))) (G' := fun (v_told : (List (List Str))) => [.dat ((eL D.str) v_names), .dat ((eL (eT D.str)) v_groups), .own none (.lst (v_told.map (eT D.str))), .any, .any]) (st_for (enc := (eT D.str)) (sh := (.name 3)) (Gs := fun (v_told : (List (List Str))) => [.dat ((eL D.str) v_names), .dat ((eL (eT D.str)) v_groups), .own none (.lst (v_told.map (eT D.str))), .any, .any]) (xs := (law_selections v_names)) (st1_law_due_covers v_groups) (s0 := v_told) (fun (i_ : Nat) (v_told : (List (List Str))) => v_told.length ≤ i_) (iv_list (EV.fz (ev_call (rs := [.dat ((eL D.str) v_names)]) (ars := [.dat ((eL D.str) v_names)]) (rr := .own (.lst ((law_selections v_names).map (eT D.str)))) C_law_selections (hr.mono (by decide)) rfl ⟨v_names, (by walk_at "pre"), rfl, rfl⟩ (mt_cdat (d := (eL D.str) v_names) mt_nil) (av_cons (ev_var 0 rfl (pv 0)) av_nil)))) (sh_name 3 (pg_name (i := 3) sc_law_due_covers.nd rfl (by first | exact .inl rfl | exact .inr rfl))) PassesOwn.never rfl (by walk_at "weak") (by subst_vars; simp) (fun hB_ i_ v_told v_chosen hx_ hP_ => ?_)) (fun v_told hs_ => ?_)
  · skip
    (try dsimp only at hP_); have hm_ := List.mem_of_getElem? hx_; have hi_ := (List.getElem?_eq_some_iff.mp hx_).1; (try (have hs2_ := hB_; rw [List.length_map, sizeLine_eq] at hs2_)); (try have hr_ := rangeI_at hx_)
    refine ⟨⟨_, rfl, ?_⟩, ?_⟩
    · show SS _ _ _ _ _ _ ((if ((law_meets v_chosen v_groups) && (!((v_told.map fun (v_one : (List Str)) => (law_inside v_one v_chosen)).any id))) then (LO.next (v_told ++ [v_chosen]) : LO (List (List Str)) (List (List Str)) (List (List Str))).bind fun (v_told : (List (List Str))) => LO.next v_told else LO.next v_told : LO (List (List Str)) (List (List Str)) (List (List Str))).bind fun (v_told : (List (List Str))) => LO.next v_told)
      refine ss_cons (S' := (List (List Str))) (G' := fun (v_told : (List (List Str))) => [.dat ((eL D.str) v_names), .dat ((eL (eT D.str)) v_groups), .own none (.lst (v_told.map (eT D.str))), .dat ((eT D.str) v_chosen), .any]) (st_if (WV.tv (wv_and (tv_val (ev_call (rs := [.dat ((eT D.str) v_chosen), .dat ((eL (eT D.str)) v_groups)]) (ars := [.dat ((eT D.str) v_chosen), .dat ((eL (eT D.str)) v_groups)]) (rr := .dat (D.bl (law_meets v_chosen v_groups))) C_law_meets (hr.mono (by decide)) rfl ⟨v_chosen, v_groups,  rfl, rfl⟩ (mt_cdat (d := (eT D.str) v_chosen) (mt_cdat (d := (eL (eT D.str)) v_groups) mt_nil)) (av_cons (ev_var 3 rfl (pv 3)) (av_cons (ev_var 1 rfl (pv 1)) av_nil)))) (fun h_ => by (try simp only [Bool.and_eq_true, Bool.or_eq_true, Bool.and_eq_false_iff, Bool.or_eq_false_iff, Bool.not_eq_true', Bool.not_eq_false', decide_eq_true_eq, decide_eq_false_iff_not, List.isEmpty_eq_false_iff, List.isEmpty_iff] at h_); exact (wv_and1 (tv_not (tv_val (EV.lend (ev_any rfl rfl m_any .own (ev_lc rfl sc_law_due_covers.nd (blkOk_by (own := [("one", 4)]) (by walk_at "blk")) (fun _ _ _ _ _ => (sh_name 4 (pg_name (i := 4) sc_law_due_covers.nd rfl (by first | exact .inl rfl | exact .inr rfl)))) (cp_map (enc := (eT D.str)) (encb := D.bl) (sh := (.name 4)) (own := [("one", 4)]) (Γ0 := [.dat ((eL D.str) v_names), .dat ((eL (eT D.str)) v_groups), .dat ((eL (eT D.str)) v_told), .dat ((eT D.str) v_chosen), .any]) (fun (v_one : (List Str)) => (law_inside v_one v_chosen)) (iv_list (ev_var 2 rfl (pv 2))) (fun _ h => h) (by walk_at "weak") (by intro n hn t ht; simp only [List.map_cons, List.map_nil, List.mem_cons, List.not_mem_nil, or_false] at hn; subst hn; cases ht; rfl) (fun h => by simpa using h) (fun hB_ v_one hx_ => ⟨_, _, rfl, (fun _ _ _ _ _ => by (try simp only [Bool.and_eq_true, Bool.or_eq_true, Bool.and_eq_false_iff, Bool.or_eq_false_iff, Bool.not_eq_true', Bool.not_eq_false', decide_eq_true_eq, decide_eq_false_iff_not, List.isEmpty_eq_false_iff, List.isEmpty_iff] at h_); exact (ev_call (rs := [.dat ((eT D.str) v_one), .dat ((eT D.str) v_chosen)]) (ars := [.dat ((eT D.str) v_one), .dat ((eT D.str) v_chosen)]) (rr := .dat (D.bl (law_inside v_one v_chosen))) C_law_inside (hr.mono (by decide)) rfl ⟨v_one, v_chosen,  rfl, rfl⟩ (mt_cdat (d := (eT D.str) v_one) (mt_cdat (d := (eT D.str) v_chosen) mt_nil)) (av_cons (ev_var 4 rfl (pv 4)) (av_cons (ev_var 3 rfl (pv 3)) av_nil)))), (by walk_at "weak")⟩)))) rfl))))))) (fun h_ => ?_) (fun h_ => ?_)) (fun v_told hs_ => ?_)
      · (try simp only [Bool.and_eq_true, Bool.or_eq_true, Bool.and_eq_false_iff, Bool.or_eq_false_iff, Bool.not_eq_true', Bool.not_eq_false', decide_eq_true_eq, decide_eq_false_iff_not, List.isEmpty_eq_false_iff, List.isEmpty_iff] at h_)
        refine ss_cons (S' := (List (List Str))) (G' := fun (v_told : (List (List Str))) => [.dat ((eL D.str) v_names), .dat ((eL (eT D.str)) v_groups), .own none (.lst (v_told.map (eT D.str))), .dat ((eT D.str) v_chosen), .any]) (st_expr (evt_append (enc := (eT D.str)) (v := v_chosen) (pv 2) rfl (ev_var 3 rfl (pv 3)) rfl (by walk_at "append")) weak_rfl) (fun x_ hx_ => ?_)
        have hx_ := (LO.next.inj hx_).symm
        obtain ⟨v_told, hv_⟩ : ∃ v_, v_ = x_ := ⟨_, rfl⟩
        subst hv_
        have hx_told := hx_
        exact (ss_nil (by walk_at "weak"))
      · (try simp only [Bool.and_eq_true, Bool.or_eq_true, Bool.and_eq_false_iff, Bool.or_eq_false_iff, Bool.not_eq_true', Bool.not_eq_false', decide_eq_true_eq, decide_eq_false_iff_not, List.isEmpty_eq_false_iff, List.isEmpty_iff] at h_)
        exact (ss_nil (by walk_at "weak"))
      exact (ss_nil (by walk_at "weak"))
    · (intro s1_ h1_; rcases h1_ with h1_ | h1_ <;> (simp only [st1_law_due_covers, lob_ite, lob_next, lob_cnt, lob_brk, lob_ret] at h1_) <;> (repeat' (first | (simp only [LO.next.injEq, LO.cnt.injEq, reduceCtorEq] at h1_) | split at h1_)) <;> subst h1_ <;> ((try dsimp only); first | omega | (simp only [List.length_append, List.length_cons, List.length_nil]; omega)))
  exact ss_one (st_ret (EV.give (ev_bor 2 rfl (pv 2)) rfl) rfl (by walk_at "weak"))
/-! ### _law_due_groups -/
abbrev s_law_due_groups : Stmt := top 17
theorem sc_law_due_groups : FnScope ["names", "groups", "told", "chosen", "like", "group", "one"] ["names", "groups"] (defScope s_law_due_groups) := ⟨rfl, rfl, rfl, by decide +kernel, rfl, by decide +kernel, by decide +kernel⟩
theorem ok_law_due_groups (F : Fun K "_law_due_groups" "_law_due_groups" s_law_due_groups f fd) (hm : mg "_law_due_groups" = some (.ref f)) (b : Binds K fd ["names", "groups"] []) (m_len : mg "len" = none) (m_any : mg "any" = none) (C_law_selections : Cle P w K mg base 1 "_law_selections" R_law_selections) (C_law_inside : Cle P w K mg base 1 "_law_inside" R_law_inside) : Cle P w K mg base 2 "_law_due_groups" R_law_due_groups := by
  refine cle_mk (S := Unit) (L := Unit) (R := (List (List Str))) F sc_law_due_groups hm b (fun ars rr h => by obtain ⟨_, _, _, rfl, _⟩ := h; rfl) fun cdv A outer s H E ars rr as hr hR => ?_
  obtain ⟨v_names, v_groups, hp0_, rfl, rfl⟩ := hR
  refine ⟨fun _ => [.any, .any, .any, .any, .any, .any, .any], fun _ => [], fun r_ => (.own (.lst (r_.map (eT D.str))), [.any, .any, .any, .any, .any, .any, .any]), lo_law_due_groups v_names v_groups, ?_, .inl ⟨law_due_groups v_names v_groups, lo_law_due_groups_eq v_names v_groups hp0_, rfl, finOk trivial⟩⟩
  unfold lo_law_due_groups
  refine ss_cons (S' := (List (List Str))) (G' := fun (v_told : (List (List Str))) => [.dat ((eL D.str) v_names), .dat ((eL (eT D.str)) v_groups), .own none (.lst (v_told.map (eT D.str))), .any, .any, .any, .any]) (st_set 2 sc_law_due_groups.nd rfl (by first | exact .inl rfl | exact .inr rfl) (ev_lst (ds := []) av_nil) weak_rfl) (fun x_ hx_ => ?_)
  have hx_ := (LO.next.inj hx_).symm
  obtain ⟨v_told, hv_⟩ : ∃ v_, v_ = x_ := ⟨_, rfl⟩
  subst hv_
  have hx_told := hx_
  refine ss_cons (S' := (List (List Str))) (G' := fun (v_told : (List (List Str))) => [.dat ((eL D.str) v_names), .dat ((eL (eT D.str)) v_groups), .own none (.lst (v_told.map (eT D.str))), .any, .any, .any, .any]) (st_for (enc := (eT D.str)) (sh := (.name 3)) (Gs := fun (v_told : (List (List Str))) => [.dat ((eL D.str) v_names), .dat ((eL (eT D.str)) v_groups), .own none (.lst (v_told.map (eT D.str))), .any, .any, .any, .any]) (xs := (law_selections v_names)) (st1_law_due_groups v_groups) (s0 := v_told) (fun (i_ : Nat) (v_told : (List (List Str))) => v_told.length ≤ i_) (iv_list (EV.fz (ev_call (rs := [.dat ((eL D.str) v_names)]) (ars := [.dat ((eL D.str) v_names)]) (rr := .own (.lst ((law_selections v_names).map (eT D.str)))) C_law_selections (hr.mono (by decide)) rfl ⟨v_names, (by walk_at "pre"), rfl, rfl⟩ (mt_cdat (d := (eL D.str) v_names) mt_nil) (av_cons (ev_var 0 rfl (pv 0)) av_nil)))) (sh_name 3 (pg_name (i := 3) sc_law_due_groups.nd rfl (by first | exact .inl rfl | exact .inr rfl))) PassesOwn.never rfl (by walk_at "weak") (by subst_vars; simp) (fun hB_ i_ v_told v_chosen hx_ hP_ => ?_)) (fun v_told hs_ => ?_)
  · skip
    (try dsimp only at hP_); have hm_ := List.mem_of_getElem? hx_; have hi_ := (List.getElem?_eq_some_iff.mp hx_).1; (try (have hs2_ := hB_; rw [List.length_map, sizeLine_eq] at hs2_)); (try have hr_ := rangeI_at hx_)
    refine ⟨⟨_, rfl, ?_⟩, ?_⟩
    · show SS _ _ _ _ _ _ ((LO.next ((v_groups.filter fun (v_group : (List Str)) => ((law_inside v_group v_chosen) && (law_inside v_chosen v_group))).map fun (v_group : (List Str)) => v_group) : LO (List (List Str)) (List (List Str)) (List (List Str))).bind fun (v_like : (List (List Str))) => (if ((decide ((0 : Int) < (v_like.length : Int))) && (!((v_told.map fun (v_one : (List Str)) => (law_inside v_one v_chosen)).any id))) then (LO.next (v_told ++ [v_chosen]) : LO (List (List Str)) (List (List Str)) (List (List Str))).bind fun (v_told : (List (List Str))) => LO.next v_told else LO.next v_told : LO (List (List Str)) (List (List Str)) (List (List Str))).bind fun (v_told : (List (List Str))) => LO.next v_told)
      refine ss_cons (S' := (List (List Str))) (G' := fun (v_like : (List (List Str))) => [.dat ((eL D.str) v_names), .dat ((eL (eT D.str)) v_groups), .own none (.lst (v_told.map (eT D.str))), .dat ((eT D.str) v_chosen), .dat ((eL (eT D.str)) v_like), .any, .any]) (st_lc 4 rfl sc_law_due_groups.nd rfl rfl (sw_true rfl rfl rfl (by decide +kernel)) (blkOk_by (own := [("group", 5)]) (by walk_at "blk")) (fun _ _ _ _ _ => (sh_name 5 (pg_name (i := 5) sc_law_due_groups.nd rfl (by first | exact .inl rfl | exact .inr rfl)))) (CompOk.fz (cp_mapif (enc := (eT D.str)) (encb := (eT D.str)) (sh := (.name 5)) (own := [("group", 5)]) (Γ0 := [.dat ((eL D.str) v_names), .dat ((eL (eT D.str)) v_groups), .own none (.lst (v_told.map (eT D.str))), .dat ((eT D.str) v_chosen), .any, .any, .any]) (fun (v_group : (List Str)) => ((law_inside v_group v_chosen) && (law_inside v_chosen v_group))) (fun (v_group : (List Str)) => v_group) (iv_list (ev_var 1 rfl (pv 1))) (fun _ h => h) (by walk_at "weak") (by intro n hn t ht; simp only [List.map_cons, List.map_nil, List.mem_cons, List.not_mem_nil, or_false] at hn; subst hn; cases ht; rfl) (fun h => by simpa using h) (fun hB_ v_group hx_ => ⟨_, _, _, rfl, (fun _ _ _ _ _ => by (try simp only [Bool.and_eq_true, Bool.or_eq_true, Bool.and_eq_false_iff, Bool.or_eq_false_iff, Bool.not_eq_true', Bool.not_eq_false', decide_eq_true_eq, decide_eq_false_iff_not, List.isEmpty_eq_false_iff, List.isEmpty_iff] at h_); exact (WV.tv (wv_and (tv_val (ev_call (rs := [.dat ((eT D.str) v_group), .dat ((eT D.str) v_chosen)]) (ars := [.dat ((eT D.str) v_group), .dat ((eT D.str) v_chosen)]) (rr := .dat (D.bl (law_inside v_group v_chosen))) C_law_inside (hr.mono (by decide)) rfl ⟨v_group, v_chosen,  rfl, rfl⟩ (mt_cdat (d := (eT D.str) v_group) (mt_cdat (d := (eT D.str) v_chosen) mt_nil)) (av_cons (ev_var 5 rfl (pv 5)) (av_cons (ev_var 3 rfl (pv 3)) av_nil)))) (fun h_ => by (try simp only [Bool.and_eq_true, Bool.or_eq_true, Bool.and_eq_false_iff, Bool.or_eq_false_iff, Bool.not_eq_true', Bool.not_eq_false', decide_eq_true_eq, decide_eq_false_iff_not, List.isEmpty_eq_false_iff, List.isEmpty_iff] at h_); exact (wv_and1 (tv_val (ev_call (rs := [.dat ((eT D.str) v_chosen), .dat ((eT D.str) v_group)]) (ars := [.dat ((eT D.str) v_chosen), .dat ((eT D.str) v_group)]) (rr := .dat (D.bl (law_inside v_chosen v_group))) C_law_inside (hr.mono (by decide)) rfl ⟨v_chosen, v_group,  rfl, rfl⟩ (mt_cdat (d := (eT D.str) v_chosen) (mt_cdat (d := (eT D.str) v_group) mt_nil)) (av_cons (ev_var 3 rfl (pv 3)) (av_cons (ev_var 5 rfl (pv 5)) av_nil))))))))), (fun h_ _ _ _ _ _ => by (try simp only [Bool.and_eq_true, Bool.or_eq_true, Bool.and_eq_false_iff, Bool.or_eq_false_iff, Bool.not_eq_true', Bool.not_eq_false', decide_eq_true_eq, decide_eq_false_iff_not, List.isEmpty_eq_false_iff, List.isEmpty_iff] at h_); exact (ev_var 5 rfl (pv 5))), (by walk_at "weak"), (by walk_at "weak")⟩))) weak_rfl) (fun x_ hx_ => ?_)
      have hx_ := (LO.next.inj hx_).symm
      obtain ⟨v_like, hv_⟩ : ∃ v_, v_ = x_ := ⟨_, rfl⟩
      subst hv_
      have hx_like := hx_
      refine ss_cons (S' := (List (List Str))) (G' := fun (v_told : (List (List Str))) => [.dat ((eL D.str) v_names), .dat ((eL (eT D.str)) v_groups), .own none (.lst (v_told.map (eT D.str))), .dat ((eT D.str) v_chosen), .dat ((eL (eT D.str)) v_like), .any, .any]) (st_if (WV.tv (wv_and (tv_gt (evt_len rfl m_len (.l .dat) (ev_var 4 rfl (pv 4))) ev_int) (fun h_ => by (try simp only [Bool.and_eq_true, Bool.or_eq_true, Bool.and_eq_false_iff, Bool.or_eq_false_iff, Bool.not_eq_true', Bool.not_eq_false', decide_eq_true_eq, decide_eq_false_iff_not, List.isEmpty_eq_false_iff, List.isEmpty_iff] at h_); exact (wv_and1 (tv_not (tv_val (EV.lend (ev_any rfl rfl m_any .own (ev_lc rfl sc_law_due_groups.nd (blkOk_by (own := [("one", 6)]) (by walk_at "blk")) (fun _ _ _ _ _ => (sh_name 6 (pg_name (i := 6) sc_law_due_groups.nd rfl (by first | exact .inl rfl | exact .inr rfl)))) (cp_map (enc := (eT D.str)) (encb := D.bl) (sh := (.name 6)) (own := [("one", 6)]) (Γ0 := [.dat ((eL D.str) v_names), .dat ((eL (eT D.str)) v_groups), .dat ((eL (eT D.str)) v_told), .dat ((eT D.str) v_chosen), .dat ((eL (eT D.str)) v_like), .any, .any]) (fun (v_one : (List Str)) => (law_inside v_one v_chosen)) (iv_list (ev_var 2 rfl (pv 2))) (fun _ h => h) (by walk_at "weak") (by intro n hn t ht; simp only [List.map_cons, List.map_nil, List.mem_cons, List.not_mem_nil, or_false] at hn; subst hn; cases ht; rfl) (fun h => by simpa using h) (fun hB_ v_one hx_ => ⟨_, _, rfl, (fun _ _ _ _ _ => by (try simp only [Bool.and_eq_true, Bool.or_eq_true, Bool.and_eq_false_iff, Bool.or_eq_false_iff, Bool.not_eq_true', Bool.not_eq_false', decide_eq_true_eq, decide_eq_false_iff_not, List.isEmpty_eq_false_iff, List.isEmpty_iff] at h_); exact (ev_call (rs := [.dat ((eT D.str) v_one), .dat ((eT D.str) v_chosen)]) (ars := [.dat ((eT D.str) v_one), .dat ((eT D.str) v_chosen)]) (rr := .dat (D.bl (law_inside v_one v_chosen))) C_law_inside (hr.mono (by decide)) rfl ⟨v_one, v_chosen,  rfl, rfl⟩ (mt_cdat (d := (eT D.str) v_one) (mt_cdat (d := (eT D.str) v_chosen) mt_nil)) (av_cons (ev_var 6 rfl (pv 6)) (av_cons (ev_var 3 rfl (pv 3)) av_nil)))), (by walk_at "weak")⟩)))) rfl))))))) (fun h_ => ?_) (fun h_ => ?_)) (fun v_told hs_ => ?_)
      · (try simp only [Bool.and_eq_true, Bool.or_eq_true, Bool.and_eq_false_iff, Bool.or_eq_false_iff, Bool.not_eq_true', Bool.not_eq_false', decide_eq_true_eq, decide_eq_false_iff_not, List.isEmpty_eq_false_iff, List.isEmpty_iff] at h_)
        refine ss_cons (S' := (List (List Str))) (G' := fun (v_told : (List (List Str))) => [.dat ((eL D.str) v_names), .dat ((eL (eT D.str)) v_groups), .own none (.lst (v_told.map (eT D.str))), .dat ((eT D.str) v_chosen), .dat ((eL (eT D.str)) v_like), .any, .any]) (st_expr (evt_append (enc := (eT D.str)) (v := v_chosen) (pv 2) rfl (ev_var 3 rfl (pv 3)) rfl (by walk_at "append")) weak_rfl) (fun x_ hx_ => ?_)
        have hx_ := (LO.next.inj hx_).symm
        obtain ⟨v_told, hv_⟩ : ∃ v_, v_ = x_ := ⟨_, rfl⟩
        subst hv_
        have hx_told := hx_
        exact (ss_nil (by walk_at "weak"))
      · (try simp only [Bool.and_eq_true, Bool.or_eq_true, Bool.and_eq_false_iff, Bool.or_eq_false_iff, Bool.not_eq_true', Bool.not_eq_false', decide_eq_true_eq, decide_eq_false_iff_not, List.isEmpty_eq_false_iff, List.isEmpty_iff] at h_)
        exact (ss_nil (by walk_at "weak"))
      exact (ss_nil (by walk_at "weak"))
    · (intro s1_ h1_; rcases h1_ with h1_ | h1_ <;> (simp only [st1_law_due_groups, lob_ite, lob_next, lob_cnt, lob_brk, lob_ret] at h1_) <;> (repeat' (first | (simp only [LO.next.injEq, LO.cnt.injEq, reduceCtorEq] at h1_) | split at h1_)) <;> subst h1_ <;> ((try dsimp only); first | omega | (simp only [List.length_append, List.length_cons, List.length_nil]; omega)))
  exact ss_one (st_ret (EV.give (ev_bor 2 rfl (pv 2)) rfl) rfl (by walk_at "weak"))
/-! ### law -/
abbrev s_law : Stmt := top 18
theorem sc_law : FnScope ["script", "names", "row", "groups", "k", "due", "handed", "told"] ["script"] (defScope s_law) := ⟨rfl, rfl, rfl, by decide +kernel, rfl, by decide +kernel, by decide +kernel⟩
theorem ok_law (F : Fun K "law" "law" s_law f fd) (m_range : mg "range" = none) (m_list : mg "list" = none) (C_law_names : Cle P w K mg base 3 "_law_names" R_law_names) (C_law_digits : Cle P w K mg base 1 "_law_digits" R_law_digits) (C_law_cell : Cle P w K mg base 1 "_law_cell" R_law_cell) (C_law_take : Cle P w K mg base 1 "_law_take" R_law_take) (C_law_group : Cle P w K mg base 2 "_law_group" R_law_group) (C_law_due_covers : Cle P w K mg base 2 "_law_due_covers" R_law_due_covers) (C_least_covers : Cle P w K mg base 2 "least_covers" R_least_covers) (C_law_alike : Cle P w K mg base 2 "_law_alike" R_law_alike) (C_law_due_groups : Cle P w K mg base 2 "_law_due_groups" R_law_due_groups) : FnOk P w K mg base CX0 4 f fd ["script"] (spR K R_law) := by
  refine fn_mk (S := Unit) (L := Unit) (R := Bool) F sc_law (fun ars rr h => by obtain ⟨_, rfl, _⟩ := h; rfl) fun cdv A outer s H E ars rr as hr hR => ?_
  obtain ⟨v_script, rfl, rfl⟩ := hR
  refine ⟨fun _ => [.any, .any, .any, .any, .any, .any, .any, .any], fun _ => [], fun r_ => (.dat (D.bl r_), [.any, .any, .any, .any, .any, .any, .any, .any]), lo_law v_script, ?_, .inl ⟨law v_script, lo_law_eq v_script, rfl, finOk trivial⟩⟩
  unfold lo_law
  refine ss_cons (S' := (List Str)) (G' := fun (v_names : (List Str)) => [.dat ((eL D.int) v_script), .dat ((eL D.str) v_names), .any, .any, .any, .any, .any, .any]) (st_set 1 sc_law.nd rfl (by first | exact .inl rfl | exact .inr rfl) (EV.fz (ev_call (rs := [.own (.lst ((law_digits (law_cell v_script (0 : Int)) (12 : Int)).map D.int))]) (ars := [.mu (.lst ((law_digits (law_cell v_script (0 : Int)) (12 : Int)).map D.int)) (.lst ((law_names (law_digits (law_cell v_script (0 : Int)) (12 : Int))).2.map D.int))]) (rr := .own (.lst ((law_names (law_digits (law_cell v_script (0 : Int)) (12 : Int))).1.map D.str))) C_law_names (hr.mono (by decide)) rfl ⟨(law_digits (law_cell v_script (0 : Int)) (12 : Int)),  rfl, rfl⟩ (mt_cown rfl mt_nil) (av_cons (ev_call (rs := [.dat (D.int (law_cell v_script (0 : Int))), .dat (D.int (12 : Int))]) (ars := [.dat (D.int (law_cell v_script (0 : Int))), .dat (D.int (12 : Int))]) (rr := .own (.lst ((law_digits (law_cell v_script (0 : Int)) (12 : Int)).map D.int))) C_law_digits (hr.mono (by decide)) rfl ⟨(law_cell v_script (0 : Int)), (12 : Int), (by first | with_reducible assumption | decide | omega | exact hP_.1 | exact grp_nil | exact grp_snoc hG_), rfl, rfl⟩ (mt_cdat (d := D.int (law_cell v_script (0 : Int))) (mt_cdat (d := D.int (12 : Int)) mt_nil)) (av_cons (ev_call (rs := [.dat ((eL D.int) v_script), .dat (D.int (0 : Int))]) (ars := [.dat ((eL D.int) v_script), .dat (D.int (0 : Int))]) (rr := .dat (D.int (law_cell v_script (0 : Int)))) C_law_cell (hr.mono (by decide)) rfl ⟨v_script, (0 : Int), (by first | with_reducible assumption | decide | omega | exact hP_.1 | exact grp_nil | exact grp_snoc hG_), rfl, rfl⟩ (mt_cdat (d := (eL D.int) v_script) (mt_cdat (d := D.int (0 : Int)) mt_nil)) (av_cons (ev_var 0 rfl (pv 0)) (av_cons ev_int av_nil))) (av_cons ev_int av_nil))) av_nil))) weak_rfl) (fun x_ hx_ => ?_)
  have hx_ := (LO.next.inj hx_).symm
  have k1_ := (law_names_post (law_digits (law_cell v_script (0 : Int)) (12 : Int)))
  obtain ⟨v_names, hv_⟩ : ∃ v_, v_ = x_ := ⟨_, rfl⟩
  subst hv_
  have hx_names := hx_
  have hN_ : v_names.length ≤ 8 := by rw [hx_names]; exact k1_.1
  have hNd_ : v_names.Nodup := by rw [hx_names]; exact k1_.2
  refine ss_cons (S' := (List Int)) (G' := fun (v_row : (List Int)) => [.dat ((eL D.int) v_script), .dat ((eL D.str) v_names), .own none (.lst (v_row.map D.int)), .any, .any, .any, .any, .any]) (st_set 2 sc_law.nd rfl (by first | exact .inl rfl | exact .inr rfl) (ev_call (rs := [.dat (D.int ((law_cell v_script (1 : Int)) + (3 : Int))), .dat (D.int (50 : Int))]) (ars := [.dat (D.int ((law_cell v_script (1 : Int)) + (3 : Int))), .dat (D.int (50 : Int))]) (rr := .own (.lst ((law_digits ((law_cell v_script (1 : Int)) + (3 : Int)) (50 : Int)).map D.int))) C_law_digits (hr.mono (by decide)) rfl ⟨((law_cell v_script (1 : Int)) + (3 : Int)), (50 : Int), (by first | with_reducible assumption | decide | omega | exact hP_.1 | exact grp_nil | exact grp_snoc hG_), rfl, rfl⟩ (mt_cdat (d := D.int ((law_cell v_script (1 : Int)) + (3 : Int))) (mt_cdat (d := D.int (50 : Int)) mt_nil)) (av_cons (ev_add (ev_call (rs := [.dat ((eL D.int) v_script), .dat (D.int (1 : Int))]) (ars := [.dat ((eL D.int) v_script), .dat (D.int (1 : Int))]) (rr := .dat (D.int (law_cell v_script (1 : Int)))) C_law_cell (hr.mono (by decide)) rfl ⟨v_script, (1 : Int), (by first | with_reducible assumption | decide | omega | exact hP_.1 | exact grp_nil | exact grp_snoc hG_), rfl, rfl⟩ (mt_cdat (d := (eL D.int) v_script) (mt_cdat (d := D.int (1 : Int)) mt_nil)) (av_cons (ev_var 0 rfl (pv 0)) (av_cons ev_int av_nil))) ev_int) (av_cons ev_int av_nil))) weak_rfl) (fun x_ hx_ => ?_)
  have hx_ := (LO.next.inj hx_).symm
  obtain ⟨v_row, hv_⟩ : ∃ v_, v_ = x_ := ⟨_, rfl⟩
  subst hv_
  have hx_row := hx_
  refine ss_cons (S' := (List (List Str))) (G' := fun (v_groups : (List (List Str))) => [.dat ((eL D.int) v_script), .dat ((eL D.str) v_names), .own none (.lst (v_row.map D.int)), .own none (.lst (v_groups.map (eT D.str))), .any, .any, .any, .any]) (st_set 3 sc_law.nd rfl (by first | exact .inl rfl | exact .inr rfl) (ev_lst (ds := []) av_nil) weak_rfl) (fun x_ hx_ => ?_)
  have hx_ := (LO.next.inj hx_).symm
  obtain ⟨v_groups, hv_⟩ : ∃ v_, v_ = x_ := ⟨_, rfl⟩
  subst hv_
  have hx_groups := hx_
  have k2_ := (law_take_post v_row (7 : Int) (by first | with_reducible assumption | decide | omega | exact hP_.1 | exact grp_nil | exact grp_snoc hG_))
  refine ss_cons (S' := ((List (List Str)) × (List Int))) (G' := fun x_ => match x_ with | (v_groups, v_row) => [.dat ((eL D.int) v_script), .dat ((eL D.str) v_names), .own none (.lst (v_row.map D.int)), .own none (.lst (v_groups.map (eT D.str))), .any, .any, .any, .any]) (st_for (enc := D.int) (sh := (.name 4)) (Gs := fun x_ => match x_ with | (v_groups, v_row) => [.dat ((eL D.int) v_script), .dat ((eL D.str) v_names), .own none (.lst (v_row.map D.int)), .own none (.lst (v_groups.map (eT D.str))), .any, .any, .any, .any]) (xs := (rangeI 0 (law_take v_row (7 : Int)).1)) (st1_law v_names) (s0 := (v_groups, (law_take v_row (7 : Int)).2)) (fun (i_ : Nat) (x_ : ((List (List Str)) × (List Int))) => match x_ with | (v_groups, v_row) => (∀ g ∈ v_groups, Gr v_names g) ∧ v_groups.length = i_) (ivt_range1 rfl m_range (ev_call (rs := [.bor 2, .dat (D.int (7 : Int))]) (ars := [.mu (.lst (v_row.map D.int)) (.lst ((law_take v_row (7 : Int)).2.map D.int)), .dat (D.int (7 : Int))]) (rr := .dat (D.int (law_take v_row (7 : Int)).1)) C_law_take (hr.mono (by decide)) rfl ⟨v_row, (7 : Int), (by first | with_reducible assumption | decide | omega | exact hP_.1 | exact grp_nil | exact grp_snoc hG_), rfl, rfl⟩ (mt_cbor rfl rfl (mt_cdat (d := D.int (7 : Int)) mt_nil)) (av_cons (ev_bor 2 rfl (pv 2)) (av_cons ev_int av_nil))) (by have q0_ := (law_take_post v_row (7 : Int) (by first | with_reducible assumption | decide | omega | exact hP_.1 | exact grp_nil | exact grp_snoc hG_)); walk_at "rng")) (sh_name 4 (pg_name (i := 4) sc_law.nd rfl (by first | exact .inl rfl | exact .inr rfl))) PassesOwn.never rfl (by walk_at "weak") (by rw [hx_groups]; exact ⟨(fun g hg => by cases hg), rfl⟩) (fun hB_ i_ s_ v_k hx_ hP_ => ?_)) (fun x_ hs_ => ?_)
  · skip
    obtain ⟨v_groups, v_row⟩ := s_
    (try dsimp only at hP_); have hm_ := List.mem_of_getElem? hx_; have hi_ := (List.getElem?_eq_some_iff.mp hx_).1; (try (have hs2_ := hB_; rw [List.length_map, sizeLine_eq] at hs2_)); (try have hr_ := rangeI_at hx_)
    refine ⟨⟨_, rfl, ?_⟩, ?_⟩
    · show SS _ _ _ _ _ _ ((LO.next ((v_groups ++ [(law_group v_row v_names v_groups).1]), (law_group v_row v_names v_groups).2) : LO ((List (List Str)) × (List Int)) ((List (List Str)) × (List Int)) Bool).bind fun x_ => match x_ with | (v_groups, v_row) => LO.next (v_groups, v_row))
      refine ss_cons (S' := ((List (List Str)) × (List Int))) (G' := fun x_ => match x_ with | (v_groups, v_row) => [.dat ((eL D.int) v_script), .dat ((eL D.str) v_names), .own none (.lst (v_row.map D.int)), .own none (.lst (v_groups.map (eT D.str))), .dat (D.int v_k), .any, .any, .any]) (st_expr (evt_append (enc := (eT D.str)) (v := (law_group v_row v_names v_groups).1) (pv 3) rfl (ev_call (rs := [.bor 2, .dat ((eL D.str) v_names), .bor 3]) (ars := [.mu (.lst (v_row.map D.int)) (.lst ((law_group v_row v_names v_groups).2.map D.int)), .dat ((eL D.str) v_names), .mu (.lst (v_groups.map (eT D.str))) (.lst (v_groups.map (eT D.str)))]) (rr := .dat ((eT D.str) (law_group v_row v_names v_groups).1)) C_law_group (hr.mono (by decide)) rfl ⟨v_row, v_names, v_groups, (by first | with_reducible assumption | decide | omega | exact hP_.1 | exact grp_nil | exact grp_snoc hG_), rfl, rfl⟩ (mt_cbor rfl rfl (mt_cdat (d := (eL D.str) v_names) (mt_cbor rfl rfl mt_nil))) (av_cons (ev_bor 2 rfl (pv 2)) (av_cons (ev_var 1 rfl (pv 1)) (av_cons (ev_bor 3 rfl (pv 3)) av_nil)))) rfl (by have q0_ := (law_group_post v_row v_names v_groups (by first | with_reducible assumption | decide | omega | exact hP_.1 | exact grp_nil | exact grp_snoc hG_)); first | exact small_line' (by omega) | (have z_ := hP_.2; have z2_ := (law_take_post _ 7 (by decide)); exact small_line' (by omega)))) weak_rfl) (fun x_ hx_ => ?_)
      have k3_ := (law_group_post v_row v_names v_groups (by first | with_reducible assumption | decide | omega | exact hP_.1 | exact grp_nil | exact grp_snoc hG_))
      obtain ⟨v_groups, v_row⟩ := x_
      have hx_ := LO.next.inj hx_
      have hx_groups := (Prod.mk.inj hx_).1.symm
      have hx_ := (Prod.mk.inj hx_).2
      have hx_row := hx_.symm
      exact (ss_nil (by walk_at "weak"))
    · (intro s1_ h1_; exact law_inv h1_ hP_)
  have hz_ := hs_; rw [hx_groups] at hz_; have hg_ := groups_at hz_; have hl_ := hg_.2; rw [rangeI_len] at hl_; have hl_ : x_.1.length ≤ 6 := by omega
  obtain ⟨v_groups, v_row⟩ := x_
  refine ss_cons (S' := (List (List Str))) (G' := fun (v_due : (List (List Str))) => [.dat ((eL D.int) v_script), .dat ((eL D.str) v_names), .own none (.lst (v_row.map D.int)), .dat ((eL (eT D.str)) v_groups), .any, .dat ((eL (eT D.str)) v_due), .any, .any]) (st_set 5 sc_law.nd rfl (by first | exact .inl rfl | exact .inr rfl) (EV.fz (ev_call (rs := [.dat ((eL D.str) v_names), .dat ((eL (eT D.str)) v_groups)]) (ars := [.dat ((eL D.str) v_names), .dat ((eL (eT D.str)) v_groups)]) (rr := .own (.lst ((law_due_covers v_names v_groups).map (eT D.str)))) C_law_due_covers (hr.mono (by decide)) rfl ⟨v_names, v_groups, (by first | with_reducible assumption | decide | omega | exact hP_.1 | exact grp_nil | exact grp_snoc hG_), rfl, rfl⟩ (mt_cdat (d := (eL D.str) v_names) (mt_cdat (d := (eL (eT D.str)) v_groups) mt_nil)) (av_cons (ev_var 1 rfl (pv 1)) (av_cons (EV.fzv (ev_bor 3 rfl (pv 3)) rfl) av_nil)))) weak_rfl) (fun x_ hx_ => ?_)
  have hx_ := (LO.next.inj hx_).symm
  obtain ⟨v_due, hv_⟩ : ∃ v_, v_ = x_ := ⟨_, rfl⟩
  subst hv_
  have hx_due := hx_
  have hl_ : v_groups.length ≤ 6 := hl_
  have hG_ : Grp v_names v_groups := gr_grp hg_.1
  have hD_ := due_ok hN_ hNd_ hG_ hx_due
  have hDg_ := hD_.1
  have hDn_ := grp_nodes hD_
  have hDm_ := handed_nodes hN_ hG_ (by omega)
  have hE_ := grp_nodes (due_ok2 hN_ hNd_ hG_)
  refine ss_cons (S' := ((List Str) × (List (List Str)))) (G' := fun (v_handed : ((List Str) × (List (List Str)))) => [.dat ((eL D.int) v_script), .dat ((eL D.str) v_names), .own none (.lst (v_row.map D.int)), .dat ((eL (eT D.str)) v_groups), .any, .dat ((eL (eT D.str)) v_due), .dat ((eH (eL D.str) (eL (eT D.str))) v_handed), .any]) (st_set 6 sc_law.nd rfl (by first | exact .inl rfl | exact .inr rfl) (EV.fz (ev_lst (ds := [(eL D.str) v_names, (eL (eT D.str)) v_groups]) (av_cons (EV.fz (evt_list (enc := D.str) rfl m_list (.l .dat) (ev_var 1 rfl (pv 1)))) (av_cons (EV.fz (evt_list (enc := (eT D.str)) rfl m_list (.l .dat) (ev_var 3 rfl (pv 3)))) av_nil)))) weak_rfl) (fun x_ hx_ => ?_)
  have hx_ := (LO.next.inj hx_).symm
  obtain ⟨v_handed, hv_⟩ : ∃ v_, v_ = x_ := ⟨_, rfl⟩
  subst hv_
  have hx_handed := hx_
  have hH1_ : v_handed.1.length ≤ 8 := by rw [hx_handed]; exact hN_
  have hH2_ : Grp v_handed.1 v_handed.2 := by rw [hx_handed]; exact hG_
  refine ss_cons (S' := (List (List Str))) (G' := fun (v_told : (List (List Str))) => [.dat ((eL D.int) v_script), .dat ((eL D.str) v_names), .own none (.lst (v_row.map D.int)), .dat ((eL (eT D.str)) v_groups), .any, .dat ((eL (eT D.str)) v_due), .dat ((eH (eL D.str) (eL (eT D.str))) v_handed), .own none (.lst (v_told.map (eT D.str)))]) (st_set 7 sc_law.nd rfl (by first | exact .inl rfl | exact .inr rfl) (ev_call (rs := [.dat ((eL D.str) (v_handed.1)), .dat ((eL (eT D.str)) (v_handed.2))]) (ars := [.dat ((eL D.str) (v_handed.1)), .dat ((eL (eT D.str)) (v_handed.2))]) (rr := .own (.lst ((least_covers (v_handed.1) (v_handed.2)).map (eT D.str)))) C_least_covers (hr.mono (by decide)) rfl ⟨(v_handed.1), (v_handed.2), (by first | with_reducible assumption | decide | omega | exact hP_.1 | exact grp_nil | exact grp_snoc hG_), (by first | with_reducible assumption | decide | omega | exact hP_.1 | exact grp_nil | exact grp_snoc hG_), rfl, rfl⟩ (mt_cdat (d := (eL D.str) (v_handed.1)) (mt_cdat (d := (eL (eT D.str)) (v_handed.2)) mt_nil)) (av_cons (ev_ixL (d := (eL D.str) v_handed.1) (ev_var 6 rfl (pv 6)) ev_int .dat (atI_nat (j := 0) rfl)) (av_cons (ev_ixL (d := (eL (eT D.str)) v_handed.2) (ev_var 6 rfl (pv 6)) ev_int .dat (atI_nat (j := 1) rfl)) av_nil))) weak_rfl) (fun x_ hx_ => ?_)
  have hx_ := (LO.next.inj hx_).symm
  obtain ⟨v_told, hv_⟩ : ∃ v_, v_ = x_ := ⟨_, rfl⟩
  subst hv_
  have hx_told := hx_
  try have hT_ := told_ok hH1_ hH2_ hx_told
  refine ss_cons (S' := Unit) (G' := fun (_ : Unit) => [.dat ((eL D.int) v_script), .dat ((eL D.str) v_names), .own none (.lst (v_row.map D.int)), .dat ((eL (eT D.str)) v_groups), .any, .dat ((eL (eT D.str)) v_due), .dat ((eH (eL D.str) (eL (eT D.str))) v_handed), .own none (.lst (v_told.map (eT D.str)))]) (st_if (WV.tv (wv_or (tv_not (tv_val (EV.lend (ev_call (rs := [.dat (((eL (eT D.str)) v_told)), .dat (((eL (eT D.str)) v_due))]) (ars := [.dat (((eL (eT D.str)) v_told)), .dat (((eL (eT D.str)) v_due))]) (rr := .dat (D.bl (law_alike ((eL (eT D.str)) v_told) ((eL (eT D.str)) v_due)))) C_law_alike (hr.mono (by decide)) rfl ⟨((eL (eT D.str)) v_told), ((eL (eT D.str)) v_due), (by first | with_reducible assumption | decide | omega | exact hP_.1 | exact grp_nil | exact grp_snoc hG_), rfl, rfl⟩ (mt_cdat (d := ((eL (eT D.str)) v_told)) (mt_cdat (d := ((eL (eT D.str)) v_due)) mt_nil)) (av_cons (ev_var 7 rfl (pv 7)) (av_cons (ev_var 5 rfl (pv 5)) av_nil))) rfl))) (fun h_ => by (try simp only [Bool.and_eq_true, Bool.or_eq_true, Bool.and_eq_false_iff, Bool.or_eq_false_iff, Bool.not_eq_true', Bool.not_eq_false', decide_eq_true_eq, decide_eq_false_iff_not, List.isEmpty_eq_false_iff, List.isEmpty_iff] at h_); exact (wv_or1 (tv_not (tv_val (ev_call (rs := [.dat (((eH (eL D.str) (eL (eT D.str))) v_handed)), .dat ((D.lst [(eL D.str) v_names, (eL (eT D.str)) v_groups]))]) (ars := [.dat (((eH (eL D.str) (eL (eT D.str))) v_handed)), .dat ((D.lst [(eL D.str) v_names, (eL (eT D.str)) v_groups]))]) (rr := .dat (D.bl (law_alike ((eH (eL D.str) (eL (eT D.str))) v_handed) (D.lst [(eL D.str) v_names, (eL (eT D.str)) v_groups])))) C_law_alike (hr.mono (by decide)) rfl ⟨((eH (eL D.str) (eL (eT D.str))) v_handed), (D.lst [(eL D.str) v_names, (eL (eT D.str)) v_groups]), (by first | with_reducible assumption | decide | omega | exact hP_.1 | exact grp_nil | exact grp_snoc hG_), rfl, rfl⟩ (mt_cdat (d := ((eH (eL D.str) (eL (eT D.str))) v_handed)) (mt_cdat (d := (D.lst [(eL D.str) v_names, (eL (eT D.str)) v_groups])) mt_nil)) (av_cons (ev_var 6 rfl (pv 6)) (av_cons (EV.fz (ev_lst (ds := [(eL D.str) v_names, (eL (eT D.str)) v_groups]) (av_cons (ev_var 1 rfl (pv 1)) (av_cons (ev_var 3 rfl (pv 3)) av_nil)))) av_nil))))))))) (fun h_ => ?_) (fun h_ => ?_)) (fun x_ hs_ => ?_)
  · (try simp only [Bool.and_eq_true, Bool.or_eq_true, Bool.and_eq_false_iff, Bool.or_eq_false_iff, Bool.not_eq_true', Bool.not_eq_false', decide_eq_true_eq, decide_eq_false_iff_not, List.isEmpty_eq_false_iff, List.isEmpty_iff] at h_)
    exact ss_one (st_ret ev_bl rfl (by walk_at "weak"))
  · (try simp only [Bool.and_eq_true, Bool.or_eq_true, Bool.and_eq_false_iff, Bool.or_eq_false_iff, Bool.not_eq_true', Bool.not_eq_false', decide_eq_true_eq, decide_eq_false_iff_not, List.isEmpty_eq_false_iff, List.isEmpty_iff] at h_)
    exact (ss_nil (by walk_at "weak"))
  have hn_ := (if_nextR hs_ (by walk_at "nn")).1
  have hsv_ := (if_nextR hs_ (by walk_at "nn")).2
  (try simp only [Bool.and_eq_true, Bool.or_eq_true, Bool.and_eq_false_iff, Bool.or_eq_false_iff, Bool.not_eq_true', Bool.not_eq_false', decide_eq_true_eq, decide_eq_false_iff_not, List.isEmpty_eq_false_iff, List.isEmpty_iff] at hn_)
  refine ss_cons (S' := (List (List Str))) (G' := fun (v_told : (List (List Str))) => [.dat ((eL D.int) v_script), .dat ((eL D.str) v_names), .own none (.lst (v_row.map D.int)), .dat ((eL (eT D.str)) v_groups), .any, .dat ((eL (eT D.str)) v_due), .dat ((eH (eL D.str) (eL (eT D.str))) v_handed), .own none (.lst (v_told.map (eT D.str)))]) (st_expr (evt_append (enc := (eT D.str)) (v := [("spoilt" : Str)]) (pv 7) rfl (ev_tup (ds := [D.str ("spoilt" : Str)]) (av_cons ev_str av_nil)) rfl (by first | exact small_line' (by omega) | (have z_ := hP_.2; have z2_ := (law_take_post _ 7 (by decide)); exact small_line' (by omega)))) weak_rfl) (fun x_ hx_ => ?_)
  have hx_ := (LO.next.inj hx_).symm
  obtain ⟨v_told, hv_⟩ : ∃ v_, v_ = x_ := ⟨_, rfl⟩
  subst hv_
  have hx_told := hx_
  try have hT_ := told_ok hH1_ hH2_ hx_told
  refine ss_cons (S' := Unit) (G' := fun (_ : Unit) => [.dat ((eL D.int) v_script), .dat ((eL D.str) v_names), .own none (.lst (v_row.map D.int)), .dat ((eL (eT D.str)) v_groups), .any, .dat ((eL (eT D.str)) v_due), .dat ((eH (eL D.str) (eL (eT D.str))) v_handed), .own none (.lst (v_told.map (eT D.str)))]) (st_if (tv_not (tv_val (ev_call (rs := [.dat (((eL (eT D.str)) (least_covers (v_handed.1) (v_handed.2)))), .dat (((eL (eT D.str)) v_due))]) (ars := [.dat (((eL (eT D.str)) (least_covers (v_handed.1) (v_handed.2)))), .dat (((eL (eT D.str)) v_due))]) (rr := .dat (D.bl (law_alike ((eL (eT D.str)) (least_covers (v_handed.1) (v_handed.2))) ((eL (eT D.str)) v_due)))) C_law_alike (hr.mono (by decide)) rfl ⟨((eL (eT D.str)) (least_covers (v_handed.1) (v_handed.2))), ((eL (eT D.str)) v_due), (by first | with_reducible assumption | decide | omega | exact hP_.1 | exact grp_nil | exact grp_snoc hG_), rfl, rfl⟩ (mt_cdat (d := ((eL (eT D.str)) (least_covers (v_handed.1) (v_handed.2)))) (mt_cdat (d := ((eL (eT D.str)) v_due)) mt_nil)) (av_cons (EV.fz (ev_call (rs := [.dat ((eL D.str) (v_handed.1)), .dat ((eL (eT D.str)) (v_handed.2))]) (ars := [.dat ((eL D.str) (v_handed.1)), .dat ((eL (eT D.str)) (v_handed.2))]) (rr := .own (.lst ((least_covers (v_handed.1) (v_handed.2)).map (eT D.str)))) C_least_covers (hr.mono (by decide)) rfl ⟨(v_handed.1), (v_handed.2), (by first | with_reducible assumption | decide | omega | exact hP_.1 | exact grp_nil | exact grp_snoc hG_), (by first | with_reducible assumption | decide | omega | exact hP_.1 | exact grp_nil | exact grp_snoc hG_), rfl, rfl⟩ (mt_cdat (d := (eL D.str) (v_handed.1)) (mt_cdat (d := (eL (eT D.str)) (v_handed.2)) mt_nil)) (av_cons (ev_ixL (d := (eL D.str) v_handed.1) (ev_var 6 rfl (pv 6)) ev_int .dat (atI_nat (j := 0) rfl)) (av_cons (ev_ixL (d := (eL (eT D.str)) v_handed.2) (ev_var 6 rfl (pv 6)) ev_int .dat (atI_nat (j := 1) rfl)) av_nil)))) (av_cons (ev_var 5 rfl (pv 5)) av_nil))))) (fun h_ => ?_) (fun h_ => ?_)) (fun x_ hs_ => ?_)
  · (try simp only [Bool.and_eq_true, Bool.or_eq_true, Bool.and_eq_false_iff, Bool.or_eq_false_iff, Bool.not_eq_true', Bool.not_eq_false', decide_eq_true_eq, decide_eq_false_iff_not, List.isEmpty_eq_false_iff, List.isEmpty_iff] at h_)
    exact ss_one (st_ret ev_bl rfl (by walk_at "weak"))
  · (try simp only [Bool.and_eq_true, Bool.or_eq_true, Bool.and_eq_false_iff, Bool.or_eq_false_iff, Bool.not_eq_true', Bool.not_eq_false', decide_eq_true_eq, decide_eq_false_iff_not, List.isEmpty_eq_false_iff, List.isEmpty_iff] at h_)
    exact (ss_nil (by walk_at "weak"))
  have hn_ := (if_nextR hs_ (by walk_at "nn")).1
  have hsv_ := (if_nextR hs_ (by walk_at "nn")).2
  (try simp only [Bool.and_eq_true, Bool.or_eq_true, Bool.and_eq_false_iff, Bool.or_eq_false_iff, Bool.not_eq_true', Bool.not_eq_false', decide_eq_true_eq, decide_eq_false_iff_not, List.isEmpty_eq_false_iff, List.isEmpty_iff] at hn_)
  refine ss_cons (S' := Unit) (G' := fun (_ : Unit) => [.dat ((eL D.int) v_script), .dat ((eL D.str) v_names), .own none (.lst (v_row.map D.int)), .dat ((eL (eT D.str)) v_groups), .any, .dat ((eL (eT D.str)) v_due), .dat ((eH (eL D.str) (eL (eT D.str))) v_handed), .own none (.lst (v_told.map (eT D.str)))]) (st_if (tv_not (tv_val (ev_call (rs := [.dat (((eL (eT D.str)) (least_covers v_names ([] : (List (List Str)))))), .dat ((D.lst [(D.tup [])]))]) (ars := [.dat (((eL (eT D.str)) (least_covers v_names ([] : (List (List Str)))))), .dat ((D.lst [(D.tup [])]))]) (rr := .dat (D.bl (law_alike ((eL (eT D.str)) (least_covers v_names ([] : (List (List Str))))) (D.lst [(D.tup [])])))) C_law_alike (hr.mono (by decide)) rfl ⟨((eL (eT D.str)) (least_covers v_names ([] : (List (List Str))))), (D.lst [(D.tup [])]), (by first | with_reducible assumption | decide | omega | exact hP_.1 | exact grp_nil | exact grp_snoc hG_), rfl, rfl⟩ (mt_cdat (d := ((eL (eT D.str)) (least_covers v_names ([] : (List (List Str)))))) (mt_cdat (d := (D.lst [(D.tup [])])) mt_nil)) (av_cons (EV.fz (ev_call (rs := [.dat ((eL D.str) v_names), .dat ((eL (eT D.str)) ([] : (List (List Str))))]) (ars := [.dat ((eL D.str) v_names), .dat ((eL (eT D.str)) ([] : (List (List Str))))]) (rr := .own (.lst ((least_covers v_names ([] : (List (List Str)))).map (eT D.str)))) C_least_covers (hr.mono (by decide)) rfl ⟨v_names, ([] : (List (List Str))), (by first | with_reducible assumption | decide | omega | exact hP_.1 | exact grp_nil | exact grp_snoc hG_), (by first | with_reducible assumption | decide | omega | exact hP_.1 | exact grp_nil | exact grp_snoc hG_), rfl, rfl⟩ (mt_cdat (d := (eL D.str) v_names) (mt_cdat (d := (eL (eT D.str)) ([] : (List (List Str)))) mt_nil)) (av_cons (EV.fz (evt_list (enc := D.str) rfl m_list (.l .dat) (ev_var 1 rfl (pv 1)))) (av_cons (EV.fz (ev_lst (ds := []) av_nil)) av_nil)))) (av_cons (EV.fz (ev_lst (ds := [(D.tup [])]) (av_cons (ev_tup (ds := []) av_nil) av_nil))) av_nil))))) (fun h_ => ?_) (fun h_ => ?_)) (fun x_ hs_ => ?_)
  · (try simp only [Bool.and_eq_true, Bool.or_eq_true, Bool.and_eq_false_iff, Bool.or_eq_false_iff, Bool.not_eq_true', Bool.not_eq_false', decide_eq_true_eq, decide_eq_false_iff_not, List.isEmpty_eq_false_iff, List.isEmpty_iff] at h_)
    exact ss_one (st_ret ev_bl rfl (by walk_at "weak"))
  · (try simp only [Bool.and_eq_true, Bool.or_eq_true, Bool.and_eq_false_iff, Bool.or_eq_false_iff, Bool.not_eq_true', Bool.not_eq_false', decide_eq_true_eq, decide_eq_false_iff_not, List.isEmpty_eq_false_iff, List.isEmpty_iff] at h_)
    exact (ss_nil (by walk_at "weak"))
  have hn_ := (if_nextR hs_ (by walk_at "nn")).1
  have hsv_ := (if_nextR hs_ (by walk_at "nn")).2
  (try simp only [Bool.and_eq_true, Bool.or_eq_true, Bool.and_eq_false_iff, Bool.or_eq_false_iff, Bool.not_eq_true', Bool.not_eq_false', decide_eq_true_eq, decide_eq_false_iff_not, List.isEmpty_eq_false_iff, List.isEmpty_iff] at hn_)
  refine ss_cons (S' := Unit) (G' := fun (_ : Unit) => [.dat ((eL D.int) v_script), .dat ((eL D.str) v_names), .own none (.lst (v_row.map D.int)), .dat ((eL (eT D.str)) v_groups), .any, .dat ((eL (eT D.str)) v_due), .dat ((eH (eL D.str) (eL (eT D.str))) v_handed), .own none (.lst (v_told.map (eT D.str)))]) (st_if (tv_not (tv_val (ev_call (rs := [.dat (((eL (eT D.str)) (least_covers v_names (v_groups ++ [([] : (List Str))])))), .dat ((D.lst []))]) (ars := [.dat (((eL (eT D.str)) (least_covers v_names (v_groups ++ [([] : (List Str))])))), .dat ((D.lst []))]) (rr := .dat (D.bl (law_alike ((eL (eT D.str)) (least_covers v_names (v_groups ++ [([] : (List Str))]))) (D.lst [])))) C_law_alike (hr.mono (by decide)) rfl ⟨((eL (eT D.str)) (least_covers v_names (v_groups ++ [([] : (List Str))]))), (D.lst []), (by first | with_reducible assumption | decide | omega | exact hP_.1 | exact grp_nil | exact grp_snoc hG_), rfl, rfl⟩ (mt_cdat (d := ((eL (eT D.str)) (least_covers v_names (v_groups ++ [([] : (List Str))])))) (mt_cdat (d := (D.lst [])) mt_nil)) (av_cons (EV.fz (ev_call (rs := [.dat ((eL D.str) v_names), .dat ((eL (eT D.str)) (v_groups ++ [([] : (List Str))]))]) (ars := [.dat ((eL D.str) v_names), .dat ((eL (eT D.str)) (v_groups ++ [([] : (List Str))]))]) (rr := .own (.lst ((least_covers v_names (v_groups ++ [([] : (List Str))])).map (eT D.str)))) C_least_covers (hr.mono (by decide)) rfl ⟨v_names, (v_groups ++ [([] : (List Str))]), (by first | with_reducible assumption | decide | omega | exact hP_.1 | exact grp_nil | exact grp_snoc hG_), (by first | with_reducible assumption | decide | omega | exact hP_.1 | exact grp_nil | exact grp_snoc hG_), rfl, rfl⟩ (mt_cdat (d := (eL D.str) v_names) (mt_cdat (d := (eL (eT D.str)) (v_groups ++ [([] : (List Str))])) mt_nil)) (av_cons (EV.fz (evt_list (enc := D.str) rfl m_list (.l .dat) (ev_var 1 rfl (pv 1)))) (av_cons (EV.fz (evt_catL (enc := (eT D.str)) (xs := v_groups) (ys := [([] : (List Str))]) (evt_list (enc := (eT D.str)) rfl m_list (.l .dat) (ev_var 3 rfl (pv 3))) (ev_lst (ds := [(eT D.str) ([] : (List Str))]) (av_cons (ev_tup (ds := []) av_nil) av_nil)) .own .own (by exact small_line (by simp only [List.length_cons, List.length_nil]; omega)))) av_nil)))) (av_cons (EV.fz (ev_lst (ds := []) av_nil)) av_nil))))) (fun h_ => ?_) (fun h_ => ?_)) (fun x_ hs_ => ?_)
  · (try simp only [Bool.and_eq_true, Bool.or_eq_true, Bool.and_eq_false_iff, Bool.or_eq_false_iff, Bool.not_eq_true', Bool.not_eq_false', decide_eq_true_eq, decide_eq_false_iff_not, List.isEmpty_eq_false_iff, List.isEmpty_iff] at h_)
    exact ss_one (st_ret ev_bl rfl (by walk_at "weak"))
  · (try simp only [Bool.and_eq_true, Bool.or_eq_true, Bool.and_eq_false_iff, Bool.or_eq_false_iff, Bool.not_eq_true', Bool.not_eq_false', decide_eq_true_eq, decide_eq_false_iff_not, List.isEmpty_eq_false_iff, List.isEmpty_iff] at h_)
    exact (ss_nil (by walk_at "weak"))
  have hn_ := (if_nextR hs_ (by walk_at "nn")).1
  have hsv_ := (if_nextR hs_ (by walk_at "nn")).2
  (try simp only [Bool.and_eq_true, Bool.or_eq_true, Bool.and_eq_false_iff, Bool.or_eq_false_iff, Bool.not_eq_true', Bool.not_eq_false', decide_eq_true_eq, decide_eq_false_iff_not, List.isEmpty_eq_false_iff, List.isEmpty_iff] at hn_)
  exact ss_one (st_ret (ev_call (rs := [.dat (((eL (eT D.str)) (least_covers v_names v_due))), .dat (((eL (eT D.str)) (law_due_groups v_names v_groups)))]) (ars := [.dat (((eL (eT D.str)) (least_covers v_names v_due))), .dat (((eL (eT D.str)) (law_due_groups v_names v_groups)))]) (rr := .dat (D.bl (law_alike ((eL (eT D.str)) (least_covers v_names v_due)) ((eL (eT D.str)) (law_due_groups v_names v_groups))))) C_law_alike (hr.mono (by decide)) rfl ⟨((eL (eT D.str)) (least_covers v_names v_due)), ((eL (eT D.str)) (law_due_groups v_names v_groups)), (by first | with_reducible assumption | decide | omega | exact hP_.1 | exact grp_nil | exact grp_snoc hG_), rfl, rfl⟩ (mt_cdat (d := ((eL (eT D.str)) (least_covers v_names v_due))) (mt_cdat (d := ((eL (eT D.str)) (law_due_groups v_names v_groups))) mt_nil)) (av_cons (EV.fz (ev_call (rs := [.dat ((eL D.str) v_names), .dat ((eL (eT D.str)) v_due)]) (ars := [.dat ((eL D.str) v_names), .dat ((eL (eT D.str)) v_due)]) (rr := .own (.lst ((least_covers v_names v_due).map (eT D.str)))) C_least_covers (hr.mono (by decide)) rfl ⟨v_names, v_due, (by first | with_reducible assumption | decide | omega | exact hP_.1 | exact grp_nil | exact grp_snoc hG_), (by first | with_reducible assumption | decide | omega | exact hP_.1 | exact grp_nil | exact grp_snoc hG_), rfl, rfl⟩ (mt_cdat (d := (eL D.str) v_names) (mt_cdat (d := (eL (eT D.str)) v_due) mt_nil)) (av_cons (EV.fz (evt_list (enc := D.str) rfl m_list (.l .dat) (ev_var 1 rfl (pv 1)))) (av_cons (EV.fz (evt_list (enc := (eT D.str)) rfl m_list (.l .dat) (ev_var 5 rfl (pv 5)))) av_nil)))) (av_cons (EV.fz (ev_call (rs := [.dat ((eL D.str) v_names), .dat ((eL (eT D.str)) v_groups)]) (ars := [.dat ((eL D.str) v_names), .dat ((eL (eT D.str)) v_groups)]) (rr := .own (.lst ((law_due_groups v_names v_groups).map (eT D.str)))) C_law_due_groups (hr.mono (by decide)) rfl ⟨v_names, v_groups, (by first | with_reducible assumption | decide | omega | exact hP_.1 | exact grp_nil | exact grp_snoc hG_), rfl, rfl⟩ (mt_cdat (d := (eL D.str) v_names) (mt_cdat (d := (eL (eT D.str)) v_groups) mt_nil)) (av_cons (ev_var 1 rfl (pv 1)) (av_cons (ev_var 3 rfl (pv 3)) av_nil)))) av_nil))) rfl (by walk_at "weak"))
end
theorem all_mk {l : PySem.W.OpenLaw} {w : World} {K : PySem.W.Frag} {h : Heap} {mg : Str → Option Value} {fa f1 f2 f3 f4 f5 f6 f7 f8 f9 f10 f11 f12 f13 f14 f15 f16 f17 : Addr} (X : K.In h) (G : h.Ns mainGlobals mg) (hfa : mg "law" = some (.ref fa))
    {od1 an1 od2 an2 od3 an3 od4 an4 od5 an5 od6 an6 od7 an7 od8 an8 od9 an9 od10 an10 od11 an11 od12 an12 od13 an13 od14 an14 od15 an15 od16 an16 od17 an17 : Option Addr} {sl1 sl2 sl3 sl4 sl5 sl6 sl7 sl8 sl9 sl10 sl11 sl12 sl13 sl14 sl15 sl16 sl17 : Array (Option Value)} {oc1 kV1 dc1 pm1 cd1 ct1 oc2 kV2 dc2 pm2 cd2 ct2 oc3 kV3 dc3 pm3 cd3 ct3 oc4 kV4 dc4 pm4 cd4 ct4 oc5 kV5 dc5 pm5 cd5 ct5 oc6 kV6 dc6 pm6 cd6 ct6 oc7 kV7 dc7 pm7 cd7 ct7 oc8 kV8 dc8 pm8 cd8 ct8 oc9 kV9 dc9 pm9 cd9 ct9 oc10 kV10 dc10 pm10 cd10 ct10 oc11 kV11 dc11 pm11 cd11 ct11 oc12 kV12 dc12 pm12 cd12 ct12 oc13 kV13 dc13 pm13 cd13 ct13 oc14 kV14 dc14 pm14 cd14 ct14 oc15 kV15 dc15 pm15 cd15 ct15 oc16 kV16 dc16 pm16 cd16 ct16 oc17 kV17 dc17 pm17 cd17 ct17 : Value}
    (a1 : PySem.W.nsIn K mainGlobals "least_of" = some (some (.ref f1))) (l1 : K.lookup f1 = some ⟨oc1, od1, .func (PySem.W.fnOf "least_of" "least_of" (defArgs s_least_of) (defBody s_least_of) (defScope s_least_of) .none kV1 dc1 pm1 an1 cd1 ct1), sl1⟩) (c1 : PySem.W.codeIn K cd1 "least_of" = true) (k1 : PySem.W.keepIn K (.ref f1) = true)
    (a2 : PySem.W.nsIn K mainGlobals "longer_rows" = some (some (.ref f2))) (l2 : K.lookup f2 = some ⟨oc2, od2, .func (PySem.W.fnOf "longer_rows" "longer_rows" (defArgs s_longer_rows) (defBody s_longer_rows) (defScope s_longer_rows) .none kV2 dc2 pm2 an2 cd2 ct2), sl2⟩) (c2 : PySem.W.codeIn K cd2 "longer_rows" = true) (k2 : PySem.W.keepIn K (.ref f2) = true)
    (a3 : PySem.W.nsIn K mainGlobals "least_covers" = some (some (.ref f3))) (l3 : K.lookup f3 = some ⟨oc3, od3, .func (PySem.W.fnOf "least_covers" "least_covers" (defArgs s_least_covers) (defBody s_least_covers) (defScope s_least_covers) .none kV3 dc3 pm3 an3 cd3 ct3), sl3⟩) (c3 : PySem.W.codeIn K cd3 "least_covers" = true) (k3 : PySem.W.keepIn K (.ref f3) = true)
    (a4 : PySem.W.nsIn K mainGlobals "_law_cell" = some (some (.ref f4))) (l4 : K.lookup f4 = some ⟨oc4, od4, .func (PySem.W.fnOf "_law_cell" "_law_cell" (defArgs s_law_cell) (defBody s_law_cell) (defScope s_law_cell) .none kV4 dc4 pm4 an4 cd4 ct4), sl4⟩) (c4 : PySem.W.codeIn K cd4 "_law_cell" = true) (k4 : PySem.W.keepIn K (.ref f4) = true)
    (a5 : PySem.W.nsIn K mainGlobals "_law_digits" = some (some (.ref f5))) (l5 : K.lookup f5 = some ⟨oc5, od5, .func (PySem.W.fnOf "_law_digits" "_law_digits" (defArgs s_law_digits) (defBody s_law_digits) (defScope s_law_digits) .none kV5 dc5 pm5 an5 cd5 ct5), sl5⟩) (c5 : PySem.W.codeIn K cd5 "_law_digits" = true) (k5 : PySem.W.keepIn K (.ref f5) = true)
    (a6 : PySem.W.nsIn K mainGlobals "_law_take" = some (some (.ref f6))) (l6 : K.lookup f6 = some ⟨oc6, od6, .func (PySem.W.fnOf "_law_take" "_law_take" (defArgs s_law_take) (defBody s_law_take) (defScope s_law_take) .none kV6 dc6 pm6 an6 cd6 ct6), sl6⟩) (c6 : PySem.W.codeIn K cd6 "_law_take" = true) (k6 : PySem.W.keepIn K (.ref f6) = true)
    (a7 : PySem.W.nsIn K mainGlobals "_law_words" = some (some (.ref f7))) (l7 : K.lookup f7 = some ⟨oc7, od7, .func (PySem.W.fnOf "_law_words" "_law_words" (defArgs s_law_words) (defBody s_law_words) (defScope s_law_words) .none kV7 dc7 pm7 an7 cd7 ct7), sl7⟩) (c7 : PySem.W.codeIn K cd7 "_law_words" = true) (k7 : PySem.W.keepIn K (.ref f7) = true)
    (a8 : PySem.W.nsIn K mainGlobals "_law_flat" = some (some (.ref f8))) (l8 : K.lookup f8 = some ⟨oc8, od8, .func (PySem.W.fnOf "_law_flat" "_law_flat" (defArgs s_law_flat) (defBody s_law_flat) (defScope s_law_flat) .none kV8 dc8 pm8 an8 cd8 ct8), sl8⟩) (c8 : PySem.W.codeIn K cd8 "_law_flat" = true) (k8 : PySem.W.keepIn K (.ref f8) = true)
    (a9 : PySem.W.nsIn K mainGlobals "_law_alike" = some (some (.ref f9))) (l9 : K.lookup f9 = some ⟨oc9, od9, .func (PySem.W.fnOf "_law_alike" "_law_alike" (defArgs s_law_alike) (defBody s_law_alike) (defScope s_law_alike) .none kV9 dc9 pm9 an9 cd9 ct9), sl9⟩) (c9 : PySem.W.codeIn K cd9 "_law_alike" = true) (k9 : PySem.W.keepIn K (.ref f9) = true)
    (a10 : PySem.W.nsIn K mainGlobals "_law_inside" = some (some (.ref f10))) (l10 : K.lookup f10 = some ⟨oc10, od10, .func (PySem.W.fnOf "_law_inside" "_law_inside" (defArgs s_law_inside) (defBody s_law_inside) (defScope s_law_inside) .none kV10 dc10 pm10 an10 cd10 ct10), sl10⟩) (c10 : PySem.W.codeIn K cd10 "_law_inside" = true) (k10 : PySem.W.keepIn K (.ref f10) = true)
    (a11 : PySem.W.nsIn K mainGlobals "_law_selections" = some (some (.ref f11))) (l11 : K.lookup f11 = some ⟨oc11, od11, .func (PySem.W.fnOf "_law_selections" "_law_selections" (defArgs s_law_selections) (defBody s_law_selections) (defScope s_law_selections) .none kV11 dc11 pm11 an11 cd11 ct11), sl11⟩) (c11 : PySem.W.codeIn K cd11 "_law_selections" = true) (k11 : PySem.W.keepIn K (.ref f11) = true)
    (a12 : PySem.W.nsIn K mainGlobals "_law_names" = some (some (.ref f12))) (l12 : K.lookup f12 = some ⟨oc12, od12, .func (PySem.W.fnOf "_law_names" "_law_names" (defArgs s_law_names) (defBody s_law_names) (defScope s_law_names) .none kV12 dc12 pm12 an12 cd12 ct12), sl12⟩) (c12 : PySem.W.codeIn K cd12 "_law_names" = true) (k12 : PySem.W.keepIn K (.ref f12) = true)
    (a13 : PySem.W.nsIn K mainGlobals "_law_group" = some (some (.ref f13))) (l13 : K.lookup f13 = some ⟨oc13, od13, .func (PySem.W.fnOf "_law_group" "_law_group" (defArgs s_law_group) (defBody s_law_group) (defScope s_law_group) .none kV13 dc13 pm13 an13 cd13 ct13), sl13⟩) (c13 : PySem.W.codeIn K cd13 "_law_group" = true) (k13 : PySem.W.keepIn K (.ref f13) = true)
    (a14 : PySem.W.nsIn K mainGlobals "_law_meets" = some (some (.ref f14))) (l14 : K.lookup f14 = some ⟨oc14, od14, .func (PySem.W.fnOf "_law_meets" "_law_meets" (defArgs s_law_meets) (defBody s_law_meets) (defScope s_law_meets) .none kV14 dc14 pm14 an14 cd14 ct14), sl14⟩) (c14 : PySem.W.codeIn K cd14 "_law_meets" = true) (k14 : PySem.W.keepIn K (.ref f14) = true)
    (a15 : PySem.W.nsIn K mainGlobals "_law_due_covers" = some (some (.ref f15))) (l15 : K.lookup f15 = some ⟨oc15, od15, .func (PySem.W.fnOf "_law_due_covers" "_law_due_covers" (defArgs s_law_due_covers) (defBody s_law_due_covers) (defScope s_law_due_covers) .none kV15 dc15 pm15 an15 cd15 ct15), sl15⟩) (c15 : PySem.W.codeIn K cd15 "_law_due_covers" = true) (k15 : PySem.W.keepIn K (.ref f15) = true)
    (a16 : PySem.W.nsIn K mainGlobals "_law_due_groups" = some (some (.ref f16))) (l16 : K.lookup f16 = some ⟨oc16, od16, .func (PySem.W.fnOf "_law_due_groups" "_law_due_groups" (defArgs s_law_due_groups) (defBody s_law_due_groups) (defScope s_law_due_groups) .none kV16 dc16 pm16 an16 cd16 ct16), sl16⟩) (c16 : PySem.W.codeIn K cd16 "_law_due_groups" = true) (k16 : PySem.W.keepIn K (.ref f16) = true)
    (a17 : PySem.W.nsIn K mainGlobals "law" = some (some (.ref f17))) (l17 : K.lookup f17 = some ⟨oc17, od17, .func (PySem.W.fnOf "law" "law" (defArgs s_law) (defBody s_law) (defScope s_law) .none kV17 dc17 pm17 an17 cd17 ct17), sl17⟩) (c17 : PySem.W.codeIn K cd17 "law" = true) (k17 : PySem.W.keepIn K (.ref f17) = true)
    (z_len : PySem.W.nsIn K mainGlobals "len" = some none) (z_sorted : PySem.W.nsIn K mainGlobals "sorted" = some none) (z_all : PySem.W.nsIn K mainGlobals "all" = some none) (z_any : PySem.W.nsIn K mainGlobals "any" = some none) (z_tuple : PySem.W.nsIn K mainGlobals "tuple" = some none) (z_list : PySem.W.nsIn K mainGlobals "list" = some none) (z_int : PySem.W.nsIn K mainGlobals "int" = some none) (z_abs : PySem.W.nsIn K mainGlobals "abs" = some none) (z_range : PySem.W.nsIn K mainGlobals "range" = some none) (z_isinstance : PySem.W.nsIn K mainGlobals "isinstance" = some none) (z_bool : PySem.W.nsIn K mainGlobals "bool" = some none) (z_str : PySem.W.nsIn K mainGlobals "str" = some none) :
    ∃ fd : FuncData, (∀ (s : Shared) (v : Value), BindsTo s fd ⟨[v], []⟩ [("script", v)]) ∧ ∀ base : Heap, K.In base → base.Ns mainGlobals mg → FnOk l.prog w K mg base CX0 4 fa fd ["script"] (spR K R_law) := by
  have e := hfa.symm.trans (PySem.W.mg_of X G a17)
  cases e
  have F1 := fun_mk (st := s_least_of) l1 c1 k1
  have b1 := F1.binds (ps := ["rows"]) fun _ _ _ _ _ _ us hl => match us, hl with | [_], _ => rfl
  have m1 := PySem.W.mg_of X G a1
  have F2 := fun_mk (st := s_longer_rows) l2 c2 k2
  have b2 := F2.binds (ps := ["rows", "places"]) fun _ _ _ _ _ _ us hl => match us, hl with | [_, _], _ => rfl
  have m2 := PySem.W.mg_of X G a2
  have F3 := fun_mk (st := s_least_covers) l3 c3 k3
  have b3 := F3.binds (ps := ["names", "groups"]) fun _ _ _ _ _ _ us hl => match us, hl with | [_, _], _ => rfl
  have m3 := PySem.W.mg_of X G a3
  have F4 := fun_mk (st := s_law_cell) l4 c4 k4
  have b4 := F4.binds (ps := ["script", "k"]) fun _ _ _ _ _ _ us hl => match us, hl with | [_, _], _ => rfl
  have m4 := PySem.W.mg_of X G a4
  have F5 := fun_mk (st := s_law_digits) l5 c5 k5
  have b5 := F5.binds (ps := ["cell", "many"]) fun _ _ _ _ _ _ us hl => match us, hl with | [_, _], _ => rfl
  have m5 := PySem.W.mg_of X G a5
  have F6 := fun_mk (st := s_law_take) l6 c6 k6
  have b6 := F6.binds (ps := ["row", "many"]) fun _ _ _ _ _ _ us hl => match us, hl with | [_, _], _ => rfl
  have m6 := PySem.W.mg_of X G a6
  have F7 := fun_mk (st := s_law_words) l7 c7 k7
  have b7 := F7.binds (ps := ["row", "count"]) fun _ _ _ _ _ _ us hl => match us, hl with | [_, _], _ => rfl
  have m7 := PySem.W.mg_of X G a7
  have F8 := fun_mk (st := s_law_flat) l8 c8 k8
  have b8 := F8.binds (ps := ["actual", "due"]) fun _ _ _ _ _ _ us hl => match us, hl with | [_, _], _ => rfl
  have m8 := PySem.W.mg_of X G a8
  have F9 := fun_mk (st := s_law_alike) l9 c9 k9
  have b9 := F9.binds (ps := ["actual", "due"]) fun _ _ _ _ _ _ us hl => match us, hl with | [_, _], _ => rfl
  have m9 := PySem.W.mg_of X G a9
  have F10 := fun_mk (st := s_law_inside) l10 c10 k10
  have b10 := F10.binds (ps := ["one", "other"]) fun _ _ _ _ _ _ us hl => match us, hl with | [_, _], _ => rfl
  have m10 := PySem.W.mg_of X G a10
  have F11 := fun_mk (st := s_law_selections) l11 c11 k11
  have b11 := F11.binds (ps := ["names"]) fun _ _ _ _ _ _ us hl => match us, hl with | [_], _ => rfl
  have m11 := PySem.W.mg_of X G a11
  have F12 := fun_mk (st := s_law_names) l12 c12 k12
  have b12 := F12.binds (ps := ["row"]) fun _ _ _ _ _ _ us hl => match us, hl with | [_], _ => rfl
  have m12 := PySem.W.mg_of X G a12
  have F13 := fun_mk (st := s_law_group) l13 c13 k13
  have b13 := F13.binds (ps := ["row", "names", "groups"]) fun _ _ _ _ _ _ us hl => match us, hl with | [_, _, _], _ => rfl
  have m13 := PySem.W.mg_of X G a13
  have F14 := fun_mk (st := s_law_meets) l14 c14 k14
  have b14 := F14.binds (ps := ["chosen", "groups"]) fun _ _ _ _ _ _ us hl => match us, hl with | [_, _], _ => rfl
  have m14 := PySem.W.mg_of X G a14
  have F15 := fun_mk (st := s_law_due_covers) l15 c15 k15
  have b15 := F15.binds (ps := ["names", "groups"]) fun _ _ _ _ _ _ us hl => match us, hl with | [_, _], _ => rfl
  have m15 := PySem.W.mg_of X G a15
  have F16 := fun_mk (st := s_law_due_groups) l16 c16 k16
  have b16 := F16.binds (ps := ["names", "groups"]) fun _ _ _ _ _ _ us hl => match us, hl with | [_, _], _ => rfl
  have m16 := PySem.W.mg_of X G a16
  have F17 := fun_mk (st := s_law) l17 c17 k17
  have n_len := PySem.W.mg_none_of X G z_len
  have n_sorted := PySem.W.mg_none_of X G z_sorted
  have n_all := PySem.W.mg_none_of X G z_all
  have n_any := PySem.W.mg_none_of X G z_any
  have n_tuple := PySem.W.mg_none_of X G z_tuple
  have n_list := PySem.W.mg_none_of X G z_list
  have n_int := PySem.W.mg_none_of X G z_int
  have n_abs := PySem.W.mg_none_of X G z_abs
  have n_range := PySem.W.mg_none_of X G z_range
  have n_isinstance := PySem.W.mg_none_of X G z_isinstance
  have n_bool := PySem.W.mg_none_of X G z_bool
  have n_str := PySem.W.mg_none_of X G z_str
  refine ⟨PySem.W.fnOf "law" "law" (defArgs s_law) (defBody s_law) (defScope s_law) .none kV17 dc17 pm17 an17 cd17 ct17, fun s v => .of_eq rfl, fun base _ _ => ?_⟩
  have C_least_of := ok_least_of (P := l.prog) (w := w) (base := base) F1 m1 b1 n_len n_sorted n_all n_any
  have C_longer_rows := ok_longer_rows (P := l.prog) (w := w) (base := base) F2 m2 b2 n_any n_sorted n_tuple
  have C_law_cell := ok_law_cell (P := l.prog) (w := w) (base := base) F4 m4 b4 n_len n_int
  have C_law_digits := ok_law_digits (P := l.prog) (w := w) (base := base) F5 m5 b5 n_abs n_int n_range
  have C_law_take := ok_law_take (P := l.prog) (w := w) (base := base) F6 m6 b6 n_len n_int
  have C_law_flat := ok_law_flat (P := l.prog) (w := w) (base := base) F8 m8 b8 n_isinstance n_bool n_int n_str
  have C_law_inside := ok_law_inside (P := l.prog) (w := w) (base := base) F10 m10 b10 n_all
  have C_law_selections := ok_law_selections (P := l.prog) (w := w) (base := base) F11 m11 b11 n_len n_range n_sorted n_tuple
  have C_law_meets := ok_law_meets (P := l.prog) (w := w) (base := base) F14 m14 b14 n_any
  have C_least_covers := ok_least_covers (P := l.prog) (w := w) (base := base) F3 m3 b3 n_list n_tuple C_least_of C_longer_rows
  have C_law_words := ok_law_words (P := l.prog) (w := w) (base := base) F7 m7 b7 n_range C_law_take
  have C_law_alike := ok_law_alike (P := l.prog) (w := w) (base := base) F9 m9 b9 n_range n_len n_isinstance n_tuple n_list C_law_flat
  have C_law_group := ok_law_group (P := l.prog) (w := w) (base := base) F13 m13 b13 n_len n_range n_tuple C_law_take
  have C_law_due_covers := ok_law_due_covers (P := l.prog) (w := w) (base := base) F15 m15 b15 n_any C_law_selections C_law_meets C_law_inside
  have C_law_due_groups := ok_law_due_groups (P := l.prog) (w := w) (base := base) F16 m16 b16 n_len n_any C_law_selections C_law_inside
  have C_law_names := ok_law_names (P := l.prog) (w := w) (base := base) F12 m12 b12 C_law_words C_law_take
  exact ok_law F17 n_range n_list C_law_names C_law_digits C_law_cell C_law_take C_law_group C_law_due_covers C_least_covers C_law_alike C_law_due_groups
end K43
open PySem PySem.W PyProof.Rows
set_option maxHeartbeats 0 in
theorem PySem.Challenge.cw_casesandwitnesses_k43_least_covers_holds : PySem.Challenge.rw_casesandwitnesses_k43_least_covers.Holds := by
  w_on; o_law; k_head; (case hw => w_witness2)
  k_fill
  refine L2.walk_of (l := PySem.Challenge.rw_casesandwitnesses_k43_least_covers) (n := 63) (k := 4) (x := "script") (CX := fun _ => L2.CX0) (sp := fun w => PD.spR _ K43.R_law) rfl (by decide) rfl ⟨rfl, by decide, by decide⟩ (fun w h Y => PySem.W.kIn_of Y) ?F (fun _ _ a ns hl _ hS => PD.law_sp ⟨ns, rfl, by rw [K43.law_true]⟩ hS) (fun _ _ _ _ _ h => h)
  case F =>
    intro w mg fa h KX G hmg
    refine' K43.all_mk KX G hmg ?a1 ?l1 ?c1 ?k1 ?a2 ?l2 ?c2 ?k2 ?a3 ?l3 ?c3 ?k3 ?a4 ?l4 ?c4 ?k4 ?a5 ?l5 ?c5 ?k5 ?a6 ?l6 ?c6 ?k6 ?a7 ?l7 ?c7 ?k7 ?a8 ?l8 ?c8 ?k8 ?a9 ?l9 ?c9 ?k9 ?a10 ?l10 ?c10 ?k10 ?a11 ?l11 ?c11 ?k11 ?a12 ?l12 ?c12 ?k12 ?a13 ?l13 ?c13 ?k13 ?a14 ?l14 ?c14 ?k14 ?a15 ?l15 ?c15 ?k15 ?a16 ?l16 ?c16 ?k16 ?a17 ?l17 ?c17 ?k17 ?z_len ?z_sorted ?z_all ?z_any ?z_tuple ?z_list ?z_int ?z_abs ?z_range ?z_isinstance ?z_bool ?z_str
    (case a1 => k_is); (case l1 => k_is); (case c1 => k_is); (case k1 => k_is); (case a2 => k_is); (case l2 => k_is); (case c2 => k_is); (case k2 => k_is); (case a3 => k_is); (case l3 => k_is); (case c3 => k_is); (case k3 => k_is); (case a4 => k_is); (case l4 => k_is); (case c4 => k_is); (case k4 => k_is); (case a5 => k_is); (case l5 => k_is); (case c5 => k_is); (case k5 => k_is); (case a6 => k_is); (case l6 => k_is); (case c6 => k_is); (case k6 => k_is); (case a7 => k_is); (case l7 => k_is); (case c7 => k_is); (case k7 => k_is); (case a8 => k_is); (case l8 => k_is); (case c8 => k_is); (case k8 => k_is); (case a9 => k_is); (case l9 => k_is); (case c9 => k_is); (case k9 => k_is); (case a10 => k_is); (case l10 => k_is); (case c10 => k_is); (case k10 => k_is); (case a11 => k_is); (case l11 => k_is); (case c11 => k_is); (case k11 => k_is); (case a12 => k_is); (case l12 => k_is); (case c12 => k_is); (case k12 => k_is); (case a13 => k_is); (case l13 => k_is); (case c13 => k_is); (case k13 => k_is); (case a14 => k_is); (case l14 => k_is); (case c14 => k_is); (case k14 => k_is); (case a15 => k_is); (case l15 => k_is); (case c15 => k_is); (case k15 => k_is); (case a16 => k_is); (case l16 => k_is); (case c16 => k_is); (case k16 => k_is); (case a17 => k_is); (case l17 => k_is); (case c17 => k_is); (case k17 => k_is); (case z_len => k_is); (case z_sorted => k_is); (case z_all => k_is); (case z_any => k_is); (case z_tuple => k_is); (case z_list => k_is); (case z_int => k_is); (case z_abs => k_is); (case z_range => k_is); (case z_isinstance => k_is); (case z_bool => k_is); (case z_str => k_is)
