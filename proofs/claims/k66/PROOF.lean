import PyProof.Rows.All
import Wide.All
import OpenK.AllK
import Wide.FinOn
import HandS.ForMost
import HandS.IsInst
import HandS.Lambda
import HandS.EndTab
import HandS.Wide
import HandS.TupAny
import HandS.TupMul
import HandS.Flow
import HandS.Conv
import HandS.Star
import HandS.SetFor
import KE.KDictKeyed
import KE.SortKeyHeap
import KE.SortData
import PyProof.Draws
import KE.GoesMore
import HandS.Style
import HandS.Strs
import PyProof.Rows.TupDisplay
import KE.KDictDisplayH
import KE.KDictWalk
import KE.KDictCopyH
import HandS.Iter
import HandS.SortKw
import KE.DataMinMax
import PyProof.SumAny
import KE.KNestM
import PySem.Challenge.RW_classhouse_k66_whole_tables_judged
section TP01
set_option Elab.async false
set_option linter.all false
set_option maxRecDepth 100000
set_option maxHeartbeats 4000000
/-! P01: data, what represents it, the slots' bindings, the judgements. -/
namespace C66
open PySem PySem.Spec L2

/-- pure data: what never changes any more -/
inductive D where
  | non | bl (b : Bool) | int (i : Int) | str (x : Str) | tup (xs : List D) | lst (xs : List D) | hou (d : D) | edc | scr (ns : List Int)

mutual
def D.py : D → PyData
  | .non => .none
  | .bl b => .bool b
  | .int i => .int i
  | .str x => .str x
  | .tup xs => .tuple (pys xs)
  | .lst xs => .list (pys xs)
  | .hou _ => .none
  | .edc => .dict []
  | .scr ns => .list (ns.map PyData.int)
def pys : List D → List PyData
  | [] => []
  | d :: ds => d.py :: pys ds
end
mutual
/-- data that == serves -/
def D.eqs : D → Bool
  | .hou _ => false
  | .edc => false
  | .scr _ => false
  | .tup xs => eqsL xs
  | .lst xs => eqsL xs
  | _ => true
def eqsL : List D → Bool
  | [] => true
  | d :: ds => d.eqs && eqsL ds
end

/-- what a step never changes -/
def Imm : HO → Prop
  | .tup _ => True
  | .frz _ _ => True
  | .ins _ _ _ => True
  | .own _ => True
  | _ => False
def Ext (H H' : Hp) : Prop := ∀ b o, H b = some o → Imm o → H' b = some o
theorem Ext.refl (H : Hp) : Ext H H := fun _ _ h _ => h
theorem Ext.trans {H H1 H2 : Hp} (a : Ext H H1) (b : Ext H1 H2) : Ext H H2 := fun c o h i => b c o (a c o h i) i
theorem Ext.of_same {H H' : Hp} (s : Same H H') : Ext H H' := fun b o h _ => s b o h

/-- a list that never changes any more -/
def SqF (K : PySem.W.Frag) (H : Hp) (a : Addr) (xs : List V) : Prop :=
  (∃ o, H a = some (.frz o (.lst xs))) ∨
    ∃ (o : Obj) (its : Array Value) (n : Nat), K.lookup a = some o ∧ o.cls = .type "list" ∧ o.dict = none ∧ o.data = .seq its n ∧ its.size ≤ sizeLine ∧ Vals xs its.toList
/-- a frozen list -/
def FrL (H : Hp) (a : Addr) (xs : List V) : Prop := ∃ o, H a = some (.frz o (.lst xs))
theorem FrL.sq {K : PySem.W.Frag} {H : Hp} {a : Addr} {xs : List V} (h : FrL H a xs) : SqL K H a xs := .inl (.inr h)
theorem FrL.ext {H H' : Hp} {a : Addr} {xs : List V} (e : Ext H H') (h : FrL H a xs) : FrL H' a xs := by
  obtain ⟨o, h⟩ := h
  exact ⟨o, e _ _ h trivial⟩
theorem SqF.sq {K : PySem.W.Frag} {H : Hp} {a : Addr} {xs : List V} (h : SqF K H a xs) : SqL K H a xs := by
  rcases h with ⟨o, h⟩ | h
  · exact .inl (.inr ⟨o, h⟩)
  · exact .inr h
theorem SqF.ext {K : PySem.W.Frag} {H H' : Hp} {a : Addr} {xs : List V} (e : Ext H H') (h : SqF K H a xs) : SqF K H' a xs := by
  rcases h with ⟨o, h⟩ | h
  · exact .inl ⟨o, e _ _ h trivial⟩
  · exact .inr h
theorem sqT_ext {K : PySem.W.Frag} {H H' : Hp} {a : Addr} {xs : List V} (e : Ext H H') (h : SqT K H a xs) : SqT K H' a xs := by
  rcases h with (h | ⟨o, h⟩) | h
  · exact .inl (.inl (e _ _ h trivial))
  · exact .inl (.inr ⟨o, e _ _ h trivial⟩)
  · exact .inr h

mutual
/-- the value v is the data d, and stays so -/
inductive Rep (K : PySem.W.Frag) (C : Addr) (H : Hp) : V → D → Prop
  | non : Rep K C H .non .non
  | bl (b : Bool) : Rep K C H (.bl b) (.bl b)
  | int (i : Int) : Rep K C H (.int i) (.int i)
  | str (x : Str) : Rep K C H (.str x) (.str x)
  | tup {a : Addr} {xs : List V} {ds : List D} : SqT K H a xs → RepL K C H xs ds → Rep K C H (.ref a) (.tup ds)
  | lst {a : Addr} {xs : List V} {ds : List D} : FrL H a xs → RepL K C H xs ds → Rep K C H (.ref a) (.lst ds)
  | hou {a dx : Addr} {v : V} {d : D} : H a = some (.ins C dx [("told", v)]) → Rep K C H v d → Rep K C H (.ref a) (.hou d)
  | edc {a : Addr} {o : Obj} : H a = some (.frz o (.dK [])) → Rep K C H (.ref a) .edc
  | scr {a : Addr} {ns : List Int} : SqF K H a (ns.map V.int) → Rep K C H (.ref a) (.scr ns)
inductive RepL (K : PySem.W.Frag) (C : Addr) (H : Hp) : List V → List D → Prop
  | nil : RepL K C H [] []
  | cons {v : V} {vs : List V} {d : D} {ds : List D} : Rep K C H v d → RepL K C H vs ds → RepL K C H (v :: vs) (d :: ds)
end
section
variable {K : PySem.W.Frag} {C : Addr} {H H' : Hp}
mutual
theorem Rep.ext (e : Ext H H') : ∀ {v : V} {d : D}, Rep K C H v d → Rep K C H' v d
  | _, _, .non => .non
  | _, _, .bl b => .bl b
  | _, _, .int i => .int i
  | _, _, .str x => .str x
  | _, _, .tup s r => .tup (sqT_ext e s) (RepL.ext e r)
  | _, _, .lst s r => .lst (s.ext e) (RepL.ext e r)
  | _, _, .hou h r => .hou (e _ _ h trivial) (Rep.ext e r)
  | _, _, .edc h => .edc (e _ _ h trivial)
  | _, _, .scr h => .scr (h.ext e)
theorem RepL.ext (e : Ext H H') : ∀ {vs : List V} {ds : List D}, RepL K C H vs ds → RepL K C H' vs ds
  | _, _, .nil => .nil
  | _, _, .cons r t => .cons (Rep.ext e r) (RepL.ext e t)
end
mutual
theorem Rep.dp : ∀ {v : V} {d : D}, Rep K C H v d → d.eqs = true → Dp K H v d.py
  | _, _, .non, _ => by rw [D.py]; exact .non
  | _, _, .bl b, _ => by rw [D.py]; exact .bl b
  | _, _, .int i, _ => by rw [D.py]; exact .int i
  | _, _, .str x, _ => by rw [D.py]; exact .str x
  | _, _, .tup s r, h => by
    rw [D.eqs] at h
    rw [D.py]; exact .tup s (RepL.dp r h)
  | _, _, .lst s r, h => by
    rw [D.eqs] at h
    rw [D.py]; exact .lst s.sq (RepL.dp r h)
  | _, _, .hou _ _, h => by rw [D.eqs] at h; cases h
  | _, _, .edc _, h => by rw [D.eqs] at h; cases h
  | _, _, .scr _, h => by rw [D.eqs] at h; cases h
theorem RepL.dp : ∀ {vs : List V} {ds : List D}, RepL K C H vs ds → eqsL ds = true → DpAll K H vs (pys ds)
  | _, _, .nil, _ => by rw [pys]; exact .nil
  | _, _, .cons r t, h => by
    rw [eqsL, Bool.and_eq_true] at h
    rw [pys]
    exact .cons (Rep.dp r h.1) (RepL.dp t h.2)
end
theorem RepL.length : ∀ {vs : List V} {ds : List D}, RepL K C H vs ds → vs.length = ds.length
  | _, _, .nil => rfl
  | _, _, .cons _ t => by simp [RepL.length t]
theorem RepL.get : ∀ {vs : List V} {ds : List D} {i : Nat} {d : D}, RepL K C H vs ds → ds[i]? = some d → ∃ v, vs[i]? = some v ∧ Rep K C H v d
  | _, _, _, _, .nil, h => by simp at h
  | _, _, 0, _, .cons r _, h => by
    simp at h; subst h
    exact ⟨_, rfl, r⟩
  | _, _, i + 1, _, .cons _ t, h => by
    obtain ⟨v, h1, h2⟩ := RepL.get (i := i) t (by simpa using h)
    exact ⟨v, by simpa using h1, h2⟩
theorem RepL.getv : ∀ {vs : List V} {ds : List D} {i : Nat} {v : V}, RepL K C H vs ds → vs[i]? = some v → ∃ d, ds[i]? = some d ∧ Rep K C H v d
  | _, _, _, _, .nil, h => by simp at h
  | _, _, 0, _, .cons r _, h => by
    simp at h; subst h
    exact ⟨_, rfl, r⟩
  | _, _, i + 1, _, .cons _ t, h => by
    obtain ⟨v, h1, h2⟩ := RepL.getv (i := i) t (by simpa using h)
    exact ⟨v, by simpa using h1, h2⟩
theorem RepL.append : ∀ {vs us : List V} {ds es : List D}, RepL K C H vs ds → RepL K C H us es → RepL K C H (vs ++ us) (ds ++ es)
  | _, _, _, _, .nil, q => q
  | _, _, _, _, .cons r t, q => .cons r (RepL.append t q)
theorem RepL.take : ∀ {vs : List V} {ds : List D} (n : Nat), RepL K C H vs ds → RepL K C H (vs.take n) (ds.take n)
  | _, _, 0, _ => .nil
  | _, _, _ + 1, .nil => .nil
  | _, _, n + 1, .cons r t => .cons r (RepL.take n t)
theorem RepL.drop : ∀ {vs : List V} {ds : List D} (n : Nat), RepL K C H vs ds → RepL K C H (vs.drop n) (ds.drop n)
  | _, _, 0, r => r
  | _, _, _ + 1, .nil => .nil
  | _, _, n + 1, .cons _ t => RepL.drop n t
theorem RepL.reverse : ∀ {vs : List V} {ds : List D}, RepL K C H vs ds → RepL K C H vs.reverse ds.reverse
  | _, _, .nil => .nil
  | _, _, .cons r t => by
    rw [List.reverse_cons, List.reverse_cons]
    exact (RepL.reverse t).append (.cons r .nil)
theorem RepL.set {v : V} {d : D} (r : Rep K C H v d) : ∀ {vs : List V} {ds : List D} (n : Nat), RepL K C H vs ds → RepL K C H (vs.set n v) (ds.set n d)
  | _, _, _, .nil => .nil
  | _, _, 0, .cons _ t => .cons r t
  | _, _, n + 1, .cons q t => .cons q (RepL.set r n t)
theorem RepL.replicate {v : V} {d : D} (r : Rep K C H v d) : ∀ n : Nat, RepL K C H (List.replicate n v) (List.replicate n d)
  | 0 => .nil
  | n + 1 => .cons r (RepL.replicate r n)
theorem RepL.ints : ∀ ns : List Int, RepL K C H (ns.map V.int) (ns.map D.int)
  | [] => .nil
  | n :: ns => .cons (.int n) (RepL.ints ns)
theorem RepL.of_ints : ∀ {vs : List V} {ns : List Int}, RepL K C H vs (ns.map D.int) → vs = ns.map V.int
  | _, [], h => by
    have h : RepL K C H _ [] := h
    cases h; rfl
  | _, n :: ns, h => by
    have h : RepL K C H _ (.int n :: ns.map D.int) := h
    cases h with
    | cons r t =>
      cases r
      rw [RepL.of_ints t]; rfl
theorem RepL.of_bls : ∀ {vs : List V} {bs : List Bool}, RepL K C H vs (bs.map D.bl) → vs = bs.map V.bl
  | _, [], h => by
    have h : RepL K C H _ [] := h
    cases h; rfl
  | _, n :: ns, h => by
    have h : RepL K C H _ (.bl n :: ns.map D.bl) := h
    cases h with
    | cons r t =>
      cases r
      rw [RepL.of_bls t]; rfl
theorem RepL.of_strs : ∀ {vs : List V} {bs : List Str}, RepL K C H vs (bs.map D.str) → vs = bs.map V.str
  | _, [], h => by
    have h : RepL K C H _ [] := h
    cases h; rfl
  | _, n :: ns, h => by
    have h : RepL K C H _ (.str n :: ns.map D.str) := h
    cases h with
    | cons r t =>
      cases r
      rw [RepL.of_strs t]; rfl
end

/-! ### freezing: a ghost step -/
theorem inv_freeze {X : Cx} {pins : List (Addr × Obj)} {σ : St} {H : Hp} {s : Shared} {a : Addr} {u : HO} (I : Inv X pins σ H s) (h : H a = some u) (hm : (∃ xs, u = .lst xs) ∨ (∃ kvs, u = .dK kvs) ∨ ∃ φ, u = .ext φ) :
    ∃ o, Inv X pins σ (upd H a (.frz o u)) s := by
  have hok := I.hok a _ h
  obtain ⟨o, ho⟩ : ∃ o, s.heap.get? a = some o := by
    rcases hm with ⟨xs, e⟩ | ⟨kvs, e⟩ | ⟨φ, e⟩ <;> subst e
    · obtain ⟨_, _, _, _, z⟩ := hok; exact ⟨_, z⟩
    · obtain ⟨_, _, _, _, o, _, _, z, _⟩ := hok; exact ⟨_, z⟩
    · obtain ⟨_, z, _⟩ := hok; exact z
  have nt : ∀ xs, u ≠ .tup xs := by rcases hm with ⟨xs, e⟩ | ⟨kvs, e⟩ | ⟨φ, e⟩ <;> subst e <;> intro _ z <;> cases z
  have nf : ∀ ob w, u ≠ .frz ob w := by rcases hm with ⟨xs, e⟩ | ⟨kvs, e⟩ | ⟨φ, e⟩ <;> subst e <;> intro _ _ z <;> cases z
  have nb : ∀ ps, u ≠ .tbl ps := by rcases hm with ⟨xs, e⟩ | ⟨kvs, e⟩ | ⟨φ, e⟩ <;> subst e <;> intro _ z <;> cases z
  have no : ∀ ob, u ≠ .own ob := by rcases hm with ⟨xs, e⟩ | ⟨kvs, e⟩ | ⟨φ, e⟩ <;> subst e <;> intro _ z <;> cases z
  have ne : ∀ {b w}, H b = some w → w ≠ u → b ≠ a := fun {b w} q d => ne_of q h d
  refine ⟨o, ⟨I.ok, I.os, I.bare, ⟨I.base.keep, I.base.slot, fun b ob q n hx => ?_, I.base.there, fun b xs q => ?_, fun b ob w q => ?_, fun b ps q => ?_⟩, I.loc, I.cell, ?_, fun x c q => ?_, fun p hp => ?_, fun b w q => ?_, I.len⟩⟩
  · have z := I.base.free b ob q n hx
    rw [upd_ne (fun e => by rw [e, h] at z; cases z)]
    exact z
  · have z := I.base.tups b xs q
    rw [upd_ne (ne z (nt xs).symm)]; exact z
  · have z := I.base.frzs b ob w q
    rw [upd_ne (ne z (nf ob w).symm)]; exact z
  · obtain ⟨m, z⟩ := I.base.tbls b ps q
    exact ⟨m, by rw [upd_ne (ne z (nb _).symm)]; exact z⟩
  · rw [upd_ne (fun e => by have z := I.free; rw [e, h] at z; cases z)]; exact I.free
  · have z := I.freeC x c q
    rw [upd_ne (fun e => by rw [e, h] at z; cases z)]; exact z
  · obtain ⟨z1, z2, z3⟩ := I.pin p hp
    exact ⟨z1, by rw [upd_ne (fun e => by rw [e, h] at z2; cases z2)]; exact z2, z3⟩
  · by_cases hb : b = a
    · subst hb
      rw [upd_same] at q; cases q
      exact ⟨ho, hok.stay (fun c w hc r => r) (fun c r => by rw [upd_ne (ne r (no _).symm)]; exact r) fun c xs r => by rw [upd_ne (ne r (nt _).symm)]; exact r⟩
    · rw [upd_ne hb] at q
      exact (I.hok b w q).stay (fun c w hc r => r) (fun c r => by rw [upd_ne (ne r (no _).symm)]; exact r) fun c xs r => by rw [upd_ne (ne r (nt _).symm)]; exact r

/-! ### what the slots hold -/
/-- the dict with keys of any depth, at a -/
def NdR (P : Program) (w : World) (a : Addr) (xs : List (NestedKey × Addr × V)) (h : Heap) : Prop :=
  (a == sysModules) = false ∧ xs.length ≤ sizeLine ∧ (xs.map (·.1)).Nodup ∧ ∃ ys : List (NestedKey × Addr × Value), Paired (fun (p : NestedKey × Addr × V) (q : NestedKey × Addr × Value) => p.1 = q.1 ∧ p.2.1 = q.2.1 ∧ RelV p.2.2 q.2.2) xs ys ∧
    ∃ o es ep, h.get? a = some o ∧ o.ExactDict ∧ o.data = .dict es ep ∧ es.toList = ys.map (entryOfKey (nestedKind P w))
def NdO (P : Program) (w : World) (a : Addr) (xs : List (NestedKey × Addr × V)) : HO := .ext (NdR P w a xs)
/-! keys and data, as data -/
mutual
def keyD : NestedKey → D
  | .none => .non
  | .num i => .int i
  | .text x => .str x
  | .tup ks => .tup (keyDs ks)
def keyDs : List NestedKey → List D
  | [] => []
  | k :: ks => keyD k :: keyDs ks
end
/-- the entries are those keys and data -/
def NdEnt (K : PySem.W.Frag) (C : Addr) (H : Hp) : List (NestedKey × Addr × V) → List (NestedKey × D) → Prop :=
  Paired fun p q => p.1 = q.1 ∧ Rep K C H (.ref p.2.1) (keyD p.1) ∧ Rep K C H p.2.2 q.2

/-- a slot's binding -/
inductive Bd where
  | dat (d : D)
  | own (ds : List D)
  | cel (a : Addr) (ds : List D)
  | ndc (kvs : List (NestedKey × D))
  | fdc (kvs : List (NestedKey × D))
  | sdc (kvs : List (Str × D))
def Bd.mine : Bd → Bool
  | .own _ => true
  | .cel _ _ => true
  | .ndc _ => true
  | .sdc _ => true
  | _ => false
def SdEnt (K : PySem.W.Frag) (C : Addr) (H : Hp) : List (Key × V) → List (Str × D) → Prop :=
  Paired fun p q => p.1 = Sum.inr q.1 ∧ Rep K C H p.2 q.2
def BRep (P : Program) (w : World) (K : PySem.W.Frag) (C : Addr) (H : Hp) : Bd → V → Prop
  | .dat d, v => Rep K C H v d
  | .own ds, v => ∃ a vs, v = .ref a ∧ H a = some (.lst vs) ∧ RepL K C H vs ds
  | .cel a ds, v => ∃ vs, v = .ref a ∧ H a = some (.lst vs) ∧ RepL K C H vs ds
  | .ndc kvs, v => ∃ a xs, v = .ref a ∧ H a = some (NdO P w a xs) ∧ NdEnt K C H xs kvs
  | .fdc kvs, v => ∃ a o xs, v = .ref a ∧ H a = some (.frz o (NdO P w a xs)) ∧ NdEnt K C H xs kvs
  | .sdc kvs, v => ∃ a xs, v = .ref a ∧ H a = some (.dK xs) ∧ SdEnt K C H xs kvs
theorem Paired.mapQ {α β : Type} {F G : α → β → Prop} {l : List α} {m : List β} (p : Paired F l m) (f : ∀ a b, F a b → G a b) : Paired G l m := Paired.mapP p f
theorem NdEnt.ext {K : PySem.W.Frag} {C : Addr} {H H' : Hp} (e : Ext H H') {xs : List (NestedKey × Addr × V)} {kvs : List (NestedKey × D)} (n : NdEnt K C H xs kvs) : NdEnt K C H' xs kvs :=
  Paired.mapP n fun _ _ q => ⟨q.1, q.2.1.ext e, q.2.2.ext e⟩
theorem SdEnt.ext {K : PySem.W.Frag} {C : Addr} {H H' : Hp} (e : Ext H H') {xs : List (Key × V)} {kvs : List (Str × D)} (n : SdEnt K C H xs kvs) : SdEnt K C H' xs kvs :=
  Paired.mapP n fun _ _ q => ⟨q.1, q.2.ext e⟩
/-- a binding stays where the immutable stays and its own object does -/
theorem BRep.ext {P : Program} {w : World} {K : PySem.W.Frag} {C : Addr} {H H' : Hp} (e : Ext H H') {b : Bd} {v : V} (r : BRep P w K C H b v) (k : b.mine = true → ∀ a o, v = .ref a → H a = some o → H' a = some o) : BRep P w K C H' b v := by
  cases b with
  | dat d => exact Rep.ext e r
  | own ds =>
    obtain ⟨a, vs, rfl, h, q⟩ := r
    exact ⟨a, vs, rfl, k rfl _ _ rfl h, q.ext e⟩
  | cel a ds =>
    obtain ⟨vs, rfl, h, q⟩ := r
    exact ⟨vs, rfl, k rfl _ _ rfl h, q.ext e⟩
  | ndc kvs =>
    obtain ⟨a, xs, rfl, h, q⟩ := r
    exact ⟨a, xs, rfl, k rfl _ _ rfl h, q.ext e⟩
  | fdc kvs =>
    obtain ⟨a, o, xs, rfl, h, q⟩ := r
    exact ⟨a, o, xs, rfl, e _ _ h trivial, q.ext e⟩
  | sdc kvs =>
    obtain ⟨a, xs, rfl, h, q⟩ := r
    exact ⟨a, xs, rfl, k rfl _ _ rfl h, q.ext e⟩
theorem BRep.mine_at {P : Program} {w : World} {K : PySem.W.Frag} {C : Addr} {H : Hp} {b : Bd} {v : V} (r : BRep P w K C H b v) (m : b.mine = true) : ∃ a o, v = .ref a ∧ H a = some o ∧ ¬ Imm o ∧ ∀ ps, o ≠ .tbl ps := by
  cases b with
  | dat d => cases m
  | fdc kvs => cases m
  | own ds =>
    obtain ⟨a, vs, rfl, h, q⟩ := r
    exact ⟨a, _, rfl, h, fun z => z, fun _ z => by cases z⟩
  | cel a ds =>
    obtain ⟨vs, rfl, h, q⟩ := r
    exact ⟨a, _, rfl, h, fun z => z, fun _ z => by cases z⟩
  | ndc kvs =>
    obtain ⟨a, xs, rfl, h, q⟩ := r
    exact ⟨a, _, rfl, h, fun z => z, fun _ z => by unfold NdO at z; cases z⟩
  | sdc kvs =>
    obtain ⟨a, xs, rfl, h, q⟩ := r
    exact ⟨a, _, rfl, h, fun z => z, fun _ z => by cases z⟩

/-- what is fixed through a def's run: the class of the houses, the tables of code objects, the entry's heap, what may be changed of it -/
structure Gm where
  C : Addr
  T : List (Addr × Str)
  H0 : Hp
  R : List Addr
abbrev Rho := List (Option Bd)
def Keep (g : Gm) (H : Hp) : Prop := ∀ b o, g.H0 b = some o → b ∉ g.R → H b = some o ∨ ∃ ps ps', o = .tbl ps ∧ H b = some (.tbl ps')

structure Hold (X : Cx) (g : Gm) (ρ : Rho) (σ : St) (H : Hp) : Prop where
  at_ : ∀ (i : Nat) (b : Bd), ρ[i]? = some (some b) → ∃ v, σ[i]? = some (some v) ∧ BRep X.prog X.w X.K g.C H b v
  own : ∀ (i : Nat) (b : Bd) (a : Addr), ρ[i]? = some (some b) → b.mine = true → σ[i]? = some (some (.ref a)) → g.H0 a = none ∨ a ∈ g.R
  dist : ∀ (i j : Nat) (b c : Bd) (a : Addr), ρ[i]? = some (some b) → b.mine = true → ρ[j]? = some (some c) → c.mine = true → σ[i]? = some (some (.ref a)) → σ[j]? = some (some (.ref a)) → i = j
  keep : Keep g H
  tabs : LamX.Tabs g.T H
  len : σ.length = ρ.length

section
variable {X : Cx} {g : Gm} {ρ ρ' : Rho} {σ : St} {H H' : Hp}
theorem Keep.same (k : Keep g H) (s : Same H H') : Keep g H' := fun b o h n => by
  rcases k b o h n with q | ⟨ps, ps', e, q⟩
  · exact .inl (s _ _ q)
  · exact .inr ⟨ps, ps', e, s _ _ q⟩
theorem Hold.same (E : Hold X g ρ σ H) (s : Same H H') : Hold X g ρ σ H' :=
  ⟨fun i b h => by
    obtain ⟨v, h1, h2⟩ := E.at_ i b h
    exact ⟨v, h1, h2.ext (.of_same s) fun _ a o _ q => s _ _ q⟩, E.own, E.dist, E.keep.same s, E.tabs.ext s, E.len⟩
theorem Hold.fresh (E : Hold X g ρ σ H) {a : Addr} (n : H a = none) : g.H0 a = none ∨ a ∈ g.R := by
  by_cases hr : a ∈ g.R
  · exact .inr hr
  · refine .inl ?_
    cases q : g.H0 a with
    | none => rfl
    | some o =>
      rcases E.keep a o q hr with z | ⟨_, _, _, z⟩ <;> rw [n] at z <;> cases z
/-- a slot gets data -/
theorem Hold.set (E : Hold X g ρ σ H) {i : Nat} {v : V} {d : D} (r : Rep X.K g.C H v d) : Hold X g (ρ.set i (some (.dat d))) (σ.set i (some v)) H := by
  refine ⟨fun j b h => ?_, fun j b a h m q => ?_, fun j k b c a h m h' m' q q' => ?_, E.keep, E.tabs, by simp [E.len]⟩
  · by_cases hj : i = j
    · subst hj
      by_cases hi : i < ρ.length
      · rw [List.getElem?_set_self hi] at h
        cases h
        exact ⟨v, by rw [List.getElem?_set_self (by rw [E.len]; exact hi)], r⟩
      · rw [List.getElem?_eq_none (by simpa using hi)] at h; cases h
    · rw [List.getElem?_set_ne hj] at h ⊢
      exact E.at_ j b h
  · by_cases hj : i = j
    · subst hj
      by_cases hi : i < ρ.length
      · rw [List.getElem?_set_self hi] at h
        cases h; cases m
      · rw [List.getElem?_eq_none (by simpa using hi)] at h; cases h
    · rw [List.getElem?_set_ne hj] at h q
      exact E.own j b a h m q
  · have nj : i ≠ j := fun e => by
      subst e
      by_cases hi : i < ρ.length
      · rw [List.getElem?_set_self hi] at h
        cases h; cases m
      · rw [List.getElem?_eq_none (by simpa using hi)] at h; cases h
    have nk : i ≠ k := fun e => by
      subst e
      by_cases hi : i < ρ.length
      · rw [List.getElem?_set_self hi] at h'
        cases h'; cases m'
      · rw [List.getElem?_eq_none (by simpa using hi)] at h'; cases h'
    rw [List.getElem?_set_ne nj] at h q
    rw [List.getElem?_set_ne nk] at h' q'
    exact E.dist j k b c a h m h' m' q q'
/-- slots forgotten -/
theorem Hold.weak (E : Hold X g ρ σ H) (hl : ρ'.length = ρ.length) (h : ∀ (i : Nat) (b : Bd), ρ'[i]? = some (some b) → ρ[i]? = some (some b)) : Hold X g ρ' σ H :=
  ⟨fun i b q => E.at_ i b (h i b q), fun i b a q => E.own i b a (h i b q), fun i j b c a q m q' => E.dist i j b c a (h i b q) m (h j c q'), E.keep, E.tabs, E.len.trans hl.symm⟩
theorem Hold.forget (E : Hold X g ρ σ H) (i : Nat) : Hold X g (ρ.set i none) σ H := E.weak (by simp) fun j b q => by
  by_cases hj : i = j
  · subst hj
    by_cases hi : i < ρ.length
    · rw [List.getElem?_set_self hi] at q; cases q
    · rw [List.getElem?_eq_none (by simpa using hi)] at q; cases q
  · rwa [List.getElem?_set_ne hj] at q
end

/-! ### judgements -/
def uE (X : Cx) (g : Gm) (ρ ρ' : Rho) (d : D) : TE := fun σ H Q => Hold X g ρ σ H ∧ ∀ v H', Hold X g ρ' σ H' → Ext H H' → Rep X.K g.C H' v d → Q v H'
def uT (X : Cx) (g : Gm) (ρ ρ' : Rho) (b : Bool) : TT := fun σ H Q => Hold X g ρ σ H ∧ ∀ H', Hold X g ρ' σ H' → Ext H H' → Q b H'
def uA (X : Cx) (g : Gm) (ρ ρ' : Rho) (ds : List D) : TA := fun σ H Q => Hold X g ρ σ H ∧ ∀ vs H', Hold X g ρ' σ H' → Ext H H' → RepL X.K g.C H' vs ds → Q vs H'
/-- no slot's own object stands at a -/
def NotOwn (ρ : Rho) (σ : L2.St) (a : Addr) : Prop := ∀ (i : Nat) (b : Bd), ρ[i]? = some (some b) → b.mine = true → σ[i]? ≠ some (some (.ref a))
theorem Hold.notOwn {X : Cx} {g : Gm} {ρ : Rho} {σ : L2.St} {H : Hp} (E : Hold X g ρ σ H) {a : Addr} (n : H a = none) : NotOwn ρ σ a := fun j b h m q => by
  obtain ⟨v, h1, h2⟩ := E.at_ j b h
  rw [q] at h1
  cases h1
  obtain ⟨a', o, e, ho, _⟩ := h2.mine_at m
  cases e
  rw [n] at ho; cases ho
/-- a new list of one's own -/
def uN (X : Cx) (g : Gm) (ρ ρ' : Rho) (ds : List D) : TE := fun σ H Q => Hold X g ρ σ H ∧ ∀ a vs H', Hold X g ρ' σ H' → Ext H H' → H' a = some (.lst vs) → NotOwn ρ' σ a → (g.H0 a = none ∨ a ∈ g.R) → RepL X.K g.C H' vs ds → Q (.ref a) H'
theorem uN_new {X : Cx} {g : Gm} {ρ ρ' : Rho} {ds : List D} {σ : L2.St} {H H1 : Hp} {Q : VK} (q : uN X g ρ ρ' ds σ H Q) (E1 : Hold X g ρ' σ H1) (x1 : Ext H H1) {p : Addr} {vs : List V} (n : H1 p = none) (r : RepL X.K g.C H1 vs ds) : Q (.ref p) (upd H1 p (.lst vs)) := by
  have sm : Same H1 (upd H1 p (.lst vs)) := fun b w hb => by rw [upd_ne (ne_of_none hb n)]; exact hb
  exact q.2 p vs _ (E1.same sm) (x1.trans (.of_same sm)) upd_same (E1.notOwn n) (E1.fresh n) (r.ext (.of_same sm))
/-- what stands apart from the slots changes -/
theorem Hold.other {X : Cx} {g : Gm} {ρ : Rho} {σ : L2.St} {H H' : Hp} (E : Hold X g ρ σ H) {p : Addr} {us : List V} (ho : H p = some (.lst us)) (hn : NotOwn ρ σ p) (hg : g.H0 p = none ∨ p ∈ g.R) (hH : ∀ b, b ≠ p → H' b = H b) : Hold X g ρ σ H' ∧ Ext H H' := by
  have x : Ext H H' := fun b o hb im => by
    rw [hH b (fun e => by subst e; rw [ho] at hb; cases hb; exact im)]
    exact hb
  refine ⟨⟨fun i b q => ?_, E.own, E.dist, fun b o hb nr => ?_, fun pq hp => ?_, E.len⟩, x⟩
  · obtain ⟨v, h1, h2⟩ := E.at_ i b q
    refine ⟨v, h1, h2.ext x fun m a o2 e hb => ?_⟩
    subst e
    rw [hH a (fun e => hn i b q m (by rw [h1, e]))]
    exact hb
  · have ne : b ≠ p := fun e => by
      subst e
      rcases hg with z | z
      · rw [z] at hb; cases hb
      · exact nr z
    rw [hH b ne]
    exact E.keep b o hb nr
  · obtain ⟨ps, h1, h2, h3⟩ := E.tabs pq hp
    have ne : pq.1 ≠ p := fun e => by rw [e, ho] at h1; cases h1
    refine ⟨ps, by rw [hH _ ne]; exact h1, h2, fun ps2 cv hcv => ?_⟩
    obtain ⟨cc, e1, e2⟩ := h3 ps2 cv hcv
    exact ⟨cc, e1, by rw [hH cc (ne_of e2 ho fun z => by unfold LamX.CodeO at z; cases z)]; exact e2⟩
abbrev PU (X : Cx) (g : Gm) (ρ : Rho) (e : Expr) (ρ' : Rho) (d : D) : Prop := PE X e (uE X g ρ ρ' d)
abbrev PTU (X : Cx) (g : Gm) (ρ : Rho) (e : Expr) (ρ' : Rho) (b : Bool) : Prop := PT X e (uT X g ρ ρ' b)
abbrev PWU (X : Cx) (g : Gm) (ρ : Rho) (e : Expr) (ρ' : Rho) (b : Bool) : Prop := PW X e (uT X g ρ ρ' b)
abbrev PAU (X : Cx) (g : Gm) (ρ : Rho) (es : List Expr) (ρ' : Rho) (ds : List D) : Prop := PA X es (uA X g ρ ρ' ds)
abbrev PN (X : Cx) (g : Gm) (ρ : Rho) (e : Expr) (ρ' : Rho) (ds : List D) : Prop := PE X e (uN X g ρ ρ' ds)

theorem pe_weak {X : Cx} {e : Expr} {t t' : TE} (h : PE X e t) (w : ∀ σ H Q, t' σ H Q → t σ H Q) : PE X e t' := ⟨fun pins s σ H Q I q => h.run pins s σ H Q I (w _ _ _ q)⟩
theorem pt_weak {X : Cx} {e : Expr} {t t' : TT} (h : PT X e t) (w : ∀ σ H Q, t' σ H Q → t σ H Q) : PT X e t' := ⟨fun pins s σ H Q I q => h.run pins s σ H Q I (w _ _ _ q)⟩
theorem pw_weak {X : Cx} {e : Expr} {t t' : TT} (h : PW X e t) (w : ∀ σ H Q, t' σ H Q → t σ H Q) : PW X e t' := ⟨fun wh pins s σ H Q I q => h.run wh pins s σ H Q I (w _ _ _ q)⟩
theorem pa_weak {X : Cx} {e : List Expr} {t t' : TA} (h : PA X e t) (w : ∀ σ H Q, t' σ H Q → t σ H Q) : PA X e t' := ⟨fun pos pins s σ H Q I q => h.run pos pins s σ H Q I (w _ _ _ q)⟩
theorem ps_weak {X : Cx} {e : Stmt} {t t' : TS} (h : PS X e t) (w : ∀ D σ H, t' D σ H → t D σ H) : PS X e t' := ⟨fun pins s σ H D I q => h.run pins s σ H D I (w _ _ _ q)⟩
theorem pss_weak {X : Cx} {e : List Stmt} {t t' : TS} (h : PSs X e t) (w : ∀ D σ H, t' D σ H → t D σ H) : PSs X e t' := ⟨fun pins s σ H D I q => h.run pins s σ H D I (w _ _ _ q)⟩

/-- the wish of a new list: frozen at once -/
theorem pu_of_pn {X : Cx} {g : Gm} {ρ ρ' : Rho} {e : Expr} {ds : List D} (h : PN X g ρ e ρ' ds) : PU X g ρ e ρ' (.lst ds) := by
  refine ⟨fun pins s σ H Q I ⟨E, q⟩ => ?_⟩
  refine thn (h.run pins s σ H (fun v H1 => ∃ a vs, v = .ref a ∧ H1 a = some (.lst vs) ∧ Hold X g ρ' σ H1 ∧ Ext H H1 ∧ NotOwn ρ' σ a ∧ (g.H0 a = none ∨ a ∈ g.R) ∧ RepL X.K g.C H1 vs ds) I ⟨E, fun a vs H1 E1 x1 n no hg r => ⟨a, vs, rfl, n, E1, x1, no, hg, r⟩⟩) fun u s1 ⟨v, H1, I1, rv, q1⟩ => ?_
  obtain ⟨a, vs, rfl, ho, E1, x1, no, hg, r⟩ := q1
  obtain ⟨o, I2⟩ := inv_freeze I1 ho (.inl ⟨vs, rfl⟩)
  obtain ⟨E2, x2⟩ := E1.other (H' := upd H1 a (.frz o (.lst vs))) ho no hg fun b e => upd_ne e
  exact ⟨.ref a, _, I2, rv, q _ _ E2 (x1.trans x2) (.lst ⟨o, upd_same⟩ (r.ext x2))⟩
end C66
end TP01
section TP02
set_option Elab.async false
set_option linter.all false
set_option maxRecDepth 100000
set_option maxHeartbeats 4000000
/-! P02: names, constants, operators, tests, displays, calls, over data. -/
namespace C66
open PySem PySem.Spec L2

def visC (sc : Scope) (x : Str) : Bool := match sc.names.lookup x with
  | some .local => true
  | some .cell => true
  | some .free => true
  | _ => false
theorem vis_of {sc : Scope} {x : Str} (h : visC sc x = true) : Vis sc x := by
  unfold visC at h
  split at h
  · exact .inl (by assumption)
  · exact .inr (.inl (by assumption))
  · exact .inr (.inr (by assumption))
  · cases h
def locC (sc : Scope) (x : Str) : Bool := match sc.names.lookup x with
  | some .local => true
  | some .cell => true
  | _ => false
theorem loc_of {sc : Scope} {x : Str} (h : locC sc x = true) : Loc sc x := by
  unfold locC at h
  split at h
  · exact .inl (by assumption)
  · exact .inr (by assumption)
  · cases h
def nameC (x : Str) : Bool := !(x == ("__debug__" : Str)) && !(x == ("__classdict__" : Str))
/-- the slots of a def that may be read, by one look -/
def lookC (N : List Str) (sc : Scope) (vs : List Nat) : Bool := vs.all fun i => match N[i]? with
  | some x => visC sc x && nameC x
  | none => false
structure Lo (X : Cx) (N : List Str) (sc : Scope) (vs : List Nat) : Prop where
  hN : X.N = N
  hs : X.env.scope = sc
  calm : X.calm = true
  nd : N.Nodup
  look : lookC N sc vs = true
theorem Lo.at_ {X : Cx} {N : List Str} {sc : Scope} {vs : List Nat} (L : Lo X N sc vs) {i : Nat} {x : Str} (hi : i ∈ vs) (hN : N[i]? = some x) : Vis sc x ∧ (x == ("__debug__" : Str)) = false ∧ (x == ("__classdict__" : Str)) = false := by
  have h := L.look
  unfold lookC at h
  have q := List.all_eq_true.mp h i hi
  rw [hN] at q
  simp only [Bool.and_eq_true, nameC, Bool.not_eq_true'] at q
  exact ⟨vis_of q.1, q.2.1, q.2.2⟩
def gloC (sc : Scope) (x : Str) : Bool := match sc.names.lookup x with
  | some .globalImplicit => true
  | _ => false
theorem gl_of {X : Cx} {N : List Str} {sc : Scope} {vs : List Nat} (L : Lo X N sc vs) {x : Str} (h : gloC sc x = true) : Gl X x := by
  unfold gloC at h
  show X.env.scope.names.lookup x = _
  rw [L.hs]
  split at h
  · assumption
  · cases h

section
variable {X : Cx} {g : Gm} {ρ ρ1 ρ2 ρ3 : Rho} {N : List Str} {sc : Scope} {vs : List Nat} {pos : Pos} {a b c e : Expr} {rest es : List Expr}

/-! ### names, constants -/
theorem pu_var (L : Lo X N sc vs) (i : Nat) {x : Str} {d : D} (h : ρ[i]? = some (some (.dat d)) := by rfl) (hN : N[i]? = some x := by rfl) (hi : i ∈ vs := by decide) : PU X g ρ (.Name x pos) ρ d := by
  obtain ⟨h1, h2, h3⟩ := L.at_ hi hN
  refine pe_weak (pe_var (i := i) (by rw [L.hN]; exact hN) (by rw [L.hs]; exact h1) h2 h3) fun σ H Q ⟨E, q⟩ => ?_
  obtain ⟨v, e, r⟩ := E.at_ i _ h
  exact ⟨v, e, q v H E (.refl H) r⟩
theorem pu_c {v : V} {d : D} (h : PE X e (tC v)) (r : ∀ H, Rep X.K g.C H v d) : PU X g ρ e ρ d := pe_weak h fun σ H Q ⟨E, q⟩ => q v H E (.refl H) (r H)
theorem pu_int {i : Int} {j pos} : PU X g ρ (.Constant (.int i) j pos) ρ (.int i) := pu_c pe_int fun _ => .int i
theorem pu_bl {i : Bool} {j pos} : PU X g ρ (.Constant (.bool i) j pos) ρ (.bl i) := pu_c pe_bl fun _ => .bl i
theorem pu_non {j pos} : PU X g ρ (.Constant .none j pos) ρ .non := pu_c pe_non fun _ => .non
theorem pu_str {x : Str} {j pos} : PU X g ρ (.Constant (.str x) j pos) ρ (.str x) := pu_c pe_str fun _ => .str x
/-- a constant of the module -/
def GlobD (K : PySem.W.Frag) (C : Addr) (mg : Str → Option Value) (x : Str) (d : D) : Prop := ∃ u v, mg x = some u ∧ RelV v u ∧ ∀ H, Rep K C H v d
theorem pu_glob (L : Lo X N sc vs) {x : Str} {d : D} (h : GlobD X.K g.C X.mg x d) (hg : gloC sc x = true := by decide +kernel) (hd : (x == ("__debug__" : Str)) = false := by decide) : PU X g ρ (.Name x pos) ρ d := by
  obtain ⟨u, v, h1, h2, h3⟩ := h
  exact pu_c (pe_glob (gl_of L hg) h1 h2 hd) h3

/-! ### operators by data -/
def OpU (X : Cx) (C : Addr) (f : Value → Value → Sem Value) (d1 d2 d : D) : Prop := OpR X f fun v u H Q => Rep X.K C H v d1 ∧ Rep X.K C H u d2 ∧ ∀ w H', Same H H' → Rep X.K C H' w d → Q w H'
theorem opr_weak {f : Value → Value → Sem Value} {r r' : R2} (h : OpR X f r) (w : ∀ v u H Q, r' v u H Q → r v u H Q) : OpR X f r' := fun pins s σ H x y v u Q I r1 r2 q => h pins s σ H x y v u Q I r1 r2 (w _ _ _ _ q)
theorem callr_weak {f : Value} {r r' : List V → Hp → VK → Prop} (h : CallR X f r) (w : ∀ vs H Q, r' vs H Q → r vs H Q) : CallR X f r' := fun pins s σ H xs us Q I r1 q => h pins s σ H xs us Q I r1 (w _ _ _ q)
theorem op_read {r : R2} {d1 d2 d : D} (h : ∀ v u H Q, Rep X.K g.C H v d1 → Rep X.K g.C H u d2 → (∀ w H', Same H H' → Rep X.K g.C H' w d → Q w H') → r v u H Q) {σ : L2.St} {H : Hp} {Q : VK} (q : uE X g ρ ρ2 d σ H Q) :
    tOp (fun v u H Q => Rep X.K g.C H v d1 ∧ Rep X.K g.C H u d2 ∧ ∀ w H', Same H H' → Rep X.K g.C H' w d → Q w H') (uE X g ρ ρ1 d1) (uE X g ρ1 ρ2 d2) σ H Q :=
  ⟨q.1, fun v H1 E1 x1 r1 => ⟨E1, fun u H2 E2 x2 r2 => ⟨r1.ext x2, r2, fun w H3 s3 r3 => q.2 w H3 (E2.same s3) ((x1.trans x2).trans (.of_same s3)) r3⟩⟩⟩
theorem op_read2 {d1 d2 d : D} {σ : L2.St} {H : Hp} {Q : VK} (q : uE X g ρ ρ2 d σ H Q) :
    tOp (fun v u H Q => Rep X.K g.C H v d1 ∧ Rep X.K g.C H u d2 ∧ ∀ w H', Same H H' → Rep X.K g.C H' w d → Q w H') (uE X g ρ ρ1 d1) (uE X g ρ1 ρ2 d2) σ H Q :=
  ⟨q.1, fun v H1 E1 x1 r1 => ⟨E1, fun u H2 E2 x2 r2 => ⟨r1.ext x2, r2, fun w H3 s3 r3 => q.2 w H3 (E2.same s3) ((x1.trans x2).trans (.of_same s3)) r3⟩⟩⟩
theorem pu_bin {op : Operator} {d1 d2 d : D} (o : OpU X g.C (binaryOp op) d1 d2 d) (ha : PU X g ρ a ρ1 d1) (hb : PU X g ρ1 b ρ2 d2) : PU X g ρ (.BinOp a op b pos) ρ2 d :=
  pe_weak (pe_op o ha hb) fun σ H Q q => op_read2 q
theorem pu_cmp {op : CmpOp} {d1 d2 d : D} (o : OpU X g.C (compareOp op) d1 d2 d) (ha : PU X g ρ a ρ1 d1) (hb : PU X g ρ1 b ρ2 d2) (hm : behindInMarks op b = false := by rfl) : PU X g ρ (.Compare a [op] [b] pos) ρ2 d :=
  pe_weak (pe_cmpR o ha hb hm) fun σ H Q q => op_read2 q
theorem ptu_cmp {op : CmpOp} {d1 d2 : D} {k : Bool} (o : OpU X g.C (compareOp op) d1 d2 (.bl k)) (ha : PU X g ρ a ρ1 d1) (hb : PU X g ρ1 b ρ2 d2) (hm : behindInMarks op b = false := by rfl) : PTU X g ρ (.Compare a [op] [b] pos) ρ2 k :=
  pt_weak (pt_cmpR o ha hb hm) fun σ H Q q => ⟨q.1, fun v H1 E1 x1 r1 => ⟨E1, fun u H2 E2 x2 r2 => ⟨r1.ext x2, r2, fun w H3 s3 r3 => by
    cases r3
    exact ⟨k, rfl, q.2 H3 (E2.same s3) ((x1.trans x2).trans (.of_same s3))⟩⟩⟩⟩
theorem pu_chain {op op' : CmpOp} {d1 d2 d3 : D} {k k' : Bool} (o : OpU X g.C (compareOp op) d1 d2 (.bl k)) (o' : OpU X g.C (compareOp op') d2 d3 (.bl k')) (ha : PU X g ρ a ρ d1) (hb : PU X g ρ b ρ d2) (hc : PU X g ρ c ρ d3)
    (hm : lastMarks [op, op'] [b, c] = false := by with_unfolding_all rfl) : PU X g ρ (.Compare a [op, op'] [b, c] pos) ρ (.bl (k && k')) :=
  pe_weak (pe_chain o o' ha hb hc hm) fun σ H Q q => ⟨q.1, fun v H1 E1 x1 r1 => ⟨E1, fun u H2 E2 x2 r2 => ⟨r1.ext x2, r2, fun w H3 s3 r3 => by
    cases r3
    refine ⟨k, rfl, ?_⟩
    cases k with
    | false => exact q.2 _ H3 (E2.same s3) ((x1.trans x2).trans (.of_same s3)) (.bl _)
    | true => exact ⟨E2.same s3, fun z H4 E4 x4 r4 => ⟨(r2.ext (.of_same s3)).ext x4, r4, fun y H5 s5 r5 => q.2 y H5 (E4.same s5) ((((x1.trans x2).trans (.of_same s3)).trans x4).trans (.of_same s5)) r5⟩⟩⟩⟩⟩
theorem ptu_chain {op op' : CmpOp} {d1 d2 d3 : D} {k k' : Bool} (o : OpU X g.C (compareOp op) d1 d2 (.bl k)) (o' : OpU X g.C (compareOp op') d2 d3 (.bl k')) (ha : PU X g ρ a ρ d1) (hb : PU X g ρ b ρ d2) (hc : PU X g ρ c ρ d3)
    (hm : lastMarks [op, op'] [b, c] = false := by with_unfolding_all rfl) : PTU X g ρ (.Compare a [op, op'] [b, c] pos) ρ (k && k') :=
  pt_weak (pt_chain o o' ha hb hc hm) fun σ H Q q => ⟨q.1, fun v H1 E1 x1 r1 => ⟨E1, fun u H2 E2 x2 r2 => ⟨r1.ext x2, r2, fun w H3 s3 r3 => by
    cases r3
    refine ⟨k, rfl, ?_⟩
    cases k with
    | false => exact ⟨_, rfl, q.2 H3 (E2.same s3) ((x1.trans x2).trans (.of_same s3))⟩
    | true => exact ⟨E2.same s3, fun z H4 E4 x4 r4 => ⟨(r2.ext (.of_same s3)).ext x4, r4, fun y H5 s5 r5 => by
        cases r5
        exact ⟨_, rfl, q.2 H5 (E4.same s5) ((((x1.trans x2).trans (.of_same s3)).trans x4).trans (.of_same s5))⟩⟩⟩⟩⟩⟩

/-! ### tests -/
theorem ptu_val {k : Bool} (h : PU X g ρ e ρ1 (.bl k)) (he : ∀ whole, isTrue e X.env whole = (do let v ← whole; standAt e.pos; holding [v] (truthy v)) := by intro _; rfl) : PTU X g ρ e ρ1 k :=
  pt_weak (pt_val h he) fun σ H Q q => ⟨q.1, fun v H1 E1 x1 r1 => by
    cases r1
    exact ⟨k, rfl, q.2 H1 E1 x1⟩⟩
theorem pt_when {p : Prop} {t : TT} (h : p → PT X e t) : PT X e fun σ H Q => p ∧ t σ H Q := ⟨fun pins s σ H Q I ⟨hp, q⟩ => (h hp).run pins s σ H Q I q⟩
theorem pw_when {p : Prop} {t : TT} (h : p → PW X e t) : PW X e fun σ H Q => p ∧ t σ H Q := ⟨fun wh pins s σ H Q I ⟨hp, q⟩ => (h hp).run wh pins s σ H Q I q⟩
theorem pe_when {p : Prop} {t : TE} (h : p → PE X e t) : PE X e fun σ H Q => p ∧ t σ H Q := ⟨fun pins s σ H Q I ⟨hp, q⟩ => (h hp).run pins s σ H Q I q⟩
theorem pss_when {p : Prop} {t : TS} {st : List Stmt} (h : p → PSs X st t) : PSs X st fun D σ H => p ∧ t D σ H := ⟨fun pins s σ H D I ⟨hp, q⟩ => (h hp).run pins s σ H D I q⟩
theorem ps_when {p : Prop} {t : TS} {st : Stmt} (h : p → PS X st t) : PS X st fun D σ H => p ∧ t D σ H := ⟨fun pins s σ H D I ⟨hp, q⟩ => (h hp).run pins s σ H D I q⟩
theorem pwu_and1 {k : Bool} (h : PTU X g ρ a ρ1 k) : PWU X g ρ (.BoolOp .And [a] pos) ρ1 k := pw_and1 h
theorem pwu_or1 {k : Bool} (h : PTU X g ρ a ρ1 k) : PWU X g ρ (.BoolOp .Or [a] pos) ρ1 k := pw_or1 h
theorem pwu_and {k k' : Bool} (ha : PTU X g ρ a ρ k) (hb : k = true → PWU X g ρ (.BoolOp .And (b :: rest) pos) ρ k') : PWU X g ρ (.BoolOp .And (a :: b :: rest) pos) ρ (k && k') :=
  pw_weak (pw_and ha (pw_when hb)) fun σ H Q q => ⟨q.1, fun H1 E1 x1 => by
    cases k with
    | false => exact q.2 H1 E1 x1
    | true => exact ⟨rfl, E1, fun H2 E2 x2 => q.2 H2 E2 (x1.trans x2)⟩⟩
theorem pwu_or {k k' : Bool} (ha : PTU X g ρ a ρ k) (hb : k = false → PWU X g ρ (.BoolOp .Or (b :: rest) pos) ρ k') : PWU X g ρ (.BoolOp .Or (a :: b :: rest) pos) ρ (k || k') :=
  pw_weak (pw_or ha (pw_when hb)) fun σ H Q q => ⟨q.1, fun H1 E1 x1 => by
    cases k with
    | true => exact q.2 H1 E1 x1
    | false => exact ⟨rfl, E1, fun H2 E2 x2 => q.2 H2 E2 (x1.trans x2)⟩⟩
theorem ptu_of {k : Bool} (h : PWU X g ρ e ρ1 k) : PTU X g ρ e ρ1 k := h.pt
theorem ptu_not {k : Bool} (h : PTU X g ρ a ρ1 k) : PTU X g ρ (.UnaryOp .Not a pos) ρ1 (!k) := pt_weak (pt_not h) fun σ H Q q => ⟨q.1, fun H1 E1 x1 => q.2 H1 E1 x1⟩
theorem pu_one {op} {d : D} (h : PU X g ρ a ρ1 d) : PU X g ρ (.BoolOp op [a] pos) ρ1 d := pe_one h
theorem pu_and {k k' : Bool} (ha : PU X g ρ a ρ (.bl k)) (hb : k = true → PU X g ρ (.BoolOp .And (b :: rest) pos) ρ (.bl k')) : PU X g ρ (.BoolOp .And (a :: b :: rest) pos) ρ (.bl (k && k')) :=
  pe_weak (pe_and ha (pe_when hb)) fun σ H Q q => ⟨q.1, fun v H1 E1 x1 r1 => by
    cases r1
    refine ⟨k, rfl, ?_⟩
    cases k with
    | false => exact q.2 _ H1 E1 x1 (.bl _)
    | true => exact ⟨rfl, E1, fun u H2 E2 x2 r2 => q.2 u H2 E2 (x1.trans x2) r2⟩⟩
theorem pu_or {k k' : Bool} (ha : PU X g ρ a ρ (.bl k)) (hb : k = false → PU X g ρ (.BoolOp .Or (b :: rest) pos) ρ (.bl k')) : PU X g ρ (.BoolOp .Or (a :: b :: rest) pos) ρ (.bl (k || k')) :=
  pe_weak (pe_or ha (pe_when hb)) fun σ H Q q => ⟨q.1, fun v H1 E1 x1 r1 => by
    cases r1
    refine ⟨k, rfl, ?_⟩
    cases k with
    | true => exact q.2 _ H1 E1 x1 (.bl _)
    | false => exact ⟨rfl, E1, fun u H2 E2 x2 r2 => q.2 u H2 E2 (x1.trans x2) r2⟩⟩
theorem pu_not {k : Bool} (h : PU X g ρ a ρ1 (.bl k)) : PU X g ρ (.UnaryOp .Not a pos) ρ1 (.bl (!k)) := pe_weak (pe_not h) fun σ H Q q => ⟨q.1, fun v H1 E1 x1 r1 => by
  cases r1
  exact ⟨k, rfl, q.2 _ H1 E1 x1 (.bl _)⟩⟩
/-- one of both -/
theorem pu_ifE {k : Bool} {d : D} (hc : PTU X g ρ c ρ k) (ha : k = true → PU X g ρ a ρ1 d) (hb : k = false → PU X g ρ b ρ1 d) : PU X g ρ (.IfExp c a b pos) ρ1 d :=
  pe_weak (pe_ifExp hc (pe_when ha) (pe_when hb)) fun σ H Q q => ⟨q.1, fun H1 E1 x1 => by
    cases k with
    | true => exact ⟨rfl, E1, fun u H2 E2 x2 r2 => q.2 u H2 E2 (x1.trans x2) r2⟩
    | false => exact ⟨rfl, E1, fun u H2 E2 x2 r2 => q.2 u H2 E2 (x1.trans x2) r2⟩⟩
theorem pn_ifE {k : Bool} {ds : List D} (hc : PTU X g ρ c ρ k) (ha : k = true → PN X g ρ a ρ1 ds) (hb : k = false → PN X g ρ b ρ1 ds) : PN X g ρ (.IfExp c a b pos) ρ1 ds :=
  pe_weak (pe_ifExp hc (pe_when ha) (pe_when hb)) fun σ H Q q => ⟨q.1, fun H1 E1 x1 => by
    cases k with
    | true => exact ⟨rfl, E1, fun p vs H2 E2 x2 n z r2 => q.2 p vs H2 E2 (x1.trans x2) n z r2⟩
    | false => exact ⟨rfl, E1, fun p vs H2 E2 x2 n z r2 => q.2 p vs H2 E2 (x1.trans x2) n z r2⟩⟩

/-! ### lists of expressions, displays -/
theorem pau_nil : PAU X g ρ [] ρ [] := pa_weak pa_nil fun σ H Q q => q.2 [] H q.1 (.refl H) .nil
theorem pau_cons {d : D} {ds : List D} (ha : PU X g ρ e ρ1 d) (hr : PAU X g ρ1 es ρ2 ds) (hs : starEach (e :: es) X.env = (false, eval e X.env) :: starEach es X.env := by rfl) : PAU X g ρ (e :: es) ρ2 (d :: ds) :=
  pa_weak (pa_cons ha hr hs) fun σ H Q q => ⟨q.1, fun v H1 E1 x1 r1 => ⟨E1, fun us H2 E2 x2 r2 => q.2 _ H2 E2 (x1.trans x2) (.cons (r1.ext x2) r2)⟩⟩
theorem pau_star {p : Pos} {d : D} {xs ds : List D} (ha : PU X g ρ e ρ1 d) (hd : d = .tup xs ∨ d = .lst xs) (hr : PAU X g ρ1 es ρ2 ds) : PAU X g ρ (.Starred e p :: es) ρ2 (xs ++ ds) :=
  pa_weak (StX.pa_star ha hr) fun σ H Q q => ⟨q.1, fun v H1 E1 x1 r1 => by
    rcases hd with rfl | rfl
    · cases r1 with
      | @tup a us _ s r => exact ⟨a, us, rfl, .inl s, E1, fun ws H2 E2 x2 r2 => q.2 _ H2 E2 (x1.trans x2) ((r.ext x2).append r2)⟩
    · cases r1 with
      | @lst a us _ s r => exact ⟨a, us, rfl, .inr s.sq, E1, fun ws H2 E2 x2 r2 => q.2 _ H2 E2 (x1.trans x2) ((r.ext x2).append r2)⟩⟩
theorem pu_tup {k} {ds : List D} (h : PAU X g ρ es ρ1 ds) (hz : ds.length ≤ sizeLine := by exact Nat.le_of_ble_eq_true rfl) : PU X g ρ (.Tuple es k pos) ρ1 (.tup ds) :=
  pe_weak (pe_tup h) fun σ H Q q => ⟨q.1, fun vs H1 E1 x1 r1 => ⟨by rw [r1.length]; exact hz, fun p n => by
    have sm : Same H1 (upd H1 p (.tup vs)) := fun b w hb => by rw [upd_ne (ne_of_none hb n)]; exact hb
    exact q.2 _ _ (E1.same sm) (x1.trans (.of_same sm)) (.tup (.of upd_same) (r1.ext (.of_same sm)))⟩⟩
theorem pn_lst {ds : List D} (h : PAU X g ρ es ρ1 ds) (hz : ds.length ≤ sizeLine := by exact Nat.le_of_ble_eq_true rfl) : PN X g ρ (.List es pos) ρ1 ds :=
  pe_weak (pe_lst h) fun σ H Q q => ⟨q.1, fun vs H1 E1 x1 r1 => ⟨by rw [r1.length]; exact hz, fun p n => uN_new q E1 x1 n r1⟩⟩
theorem pu_lst {ds : List D} (h : PAU X g ρ es ρ1 ds) (hz : ds.length ≤ sizeLine := by exact Nat.le_of_ble_eq_true rfl) : PU X g ρ (.List es pos) ρ1 (.lst ds) := pu_of_pn (pn_lst h hz)

/-! ### subscripts -/
def dAt {α : Type} (ds : List α) (i : Int) : Option α := if 0 ≤ i then ds[i.toNat]? else none
theorem dAt_nat {α : Type} {ds : List α} {i : Nat} : dAt ds (i : Int) = ds[i]? := by
  unfold dAt
  rw [if_pos (Int.natCast_nonneg i)]
  rfl
theorem dAt_rep {K : PySem.W.Frag} {C : Addr} {H : Hp} {vs : List V} {ds : List D} {i : Int} {d : D} (r : RepL K C H vs ds) (h : dAt ds i = some d) : ∃ v, atI vs i = some v ∧ Rep K C H v d := by
  unfold dAt at h
  split at h
  · rename_i h0
    obtain ⟨v, h1, h2⟩ := r.get h
    refine ⟨v, ?_, h2⟩
    have e := atI_nat h1
    rwa [Int.toNat_of_nonneg h0] at e
  · cases h
theorem pu_ixT {ds : List D} {i : Int} {d : D} (ha : PU X g ρ a ρ1 (.tup ds)) (hb : PU X g ρ1 b ρ2 (.int i)) (h : dAt ds i = some d) (hs : PlainIx b := by exact fun _ _ => rfl) : PU X g ρ (.Subscript a b pos) ρ2 d :=
  pe_weak (pe_ix ix_tup ha hb hs) fun σ H Q q => ⟨q.1, fun v H1 E1 x1 r1 => ⟨E1, fun u H2 E2 x2 r2 => by
    cases r2
    cases r1 with
    | @tup p us _ s r =>
      obtain ⟨w, h1, h2⟩ := dAt_rep (r.ext x2) h
      exact ⟨p, us, i, w, rfl, rfl, sqT_ext x2 s, h1, q.2 w H2 E2 (x1.trans x2) h2⟩⟩⟩
theorem pu_ixL {ds : List D} {i : Int} {d : D} (ha : PU X g ρ a ρ1 (.lst ds)) (hb : PU X g ρ1 b ρ2 (.int i)) (h : dAt ds i = some d) (hs : PlainIx b := by exact fun _ _ => rfl) : PU X g ρ (.Subscript a b pos) ρ2 d :=
  pe_weak (pe_ix ix_list ha hb hs) fun σ H Q q => ⟨q.1, fun v H1 E1 x1 r1 => ⟨E1, fun u H2 E2 x2 r2 => by
    cases r2
    cases r1 with
    | @lst p us _ s r =>
      obtain ⟨w, h1, h2⟩ := dAt_rep (r.ext x2) h
      exact ⟨p, us, i, w, rfl, rfl, (s.ext x2).sq, h1, q.2 w H2 E2 (x1.trans x2) h2⟩⟩⟩
/-- of a list of one's own, by its name -/
theorem pu_ixO (L : Lo X N sc vs) (j : Nat) {x : Str} {px : Pos} {ds : List D} {i : Int} {d : D} (hb : PU X g ρ b ρ (.int i)) (h : dAt ds i = some d) (hj : ρ[j]? = some (some (.own ds)) := by rfl) (hN : N[j]? = some x := by rfl) (hi : j ∈ vs := by decide)
    (hs : PlainIx b := by exact fun _ _ => rfl) : PU X g ρ (.Subscript (.Name x px) b pos) ρ d := by
  obtain ⟨h1, h2, h3⟩ := L.at_ hi hN
  refine pe_weak (pe_ix ix_list (pe_var (i := j) (by rw [L.hN]; exact hN) (by rw [L.hs]; exact h1) h2 h3) hb hs) fun σ H Q ⟨E, q⟩ => ?_
  obtain ⟨v, e, r⟩ := E.at_ j _ hj
  refine ⟨v, e, E, fun u H2 E2 x2 r2 => ?_⟩
  obtain ⟨v', e', r'⟩ := E2.at_ j _ hj
  rw [e] at e'
  cases e'
  obtain ⟨p, us, rfl, s, r'⟩ := r'
  cases r2
  obtain ⟨w, h1, h2⟩ := dAt_rep r' h
  exact ⟨p, us, i, w, rfl, rfl, .of s, h1, q w H2 E2 x2 h2⟩
end
end C66
end TP02
section TP03
set_option Elab.async false
set_option linter.all false
set_option maxRecDepth 100000
set_option maxHeartbeats 4000000
/-! P03: operators and built-in functions over data. -/
namespace C66
open PySem PySem.Spec L2

section
variable {X : Cx} {C : Addr} {g : Gm} {ρ ρ1 ρ2 ρ3 : Rho} {N : List Str} {sc : Scope} {vs : List Nat} {pos p p2 : Pos} {a b c e : Expr} {rest es : List Expr}

/-! ### numbers -/
theorem ou_i {f : Value → Value → Sem Value} {h : Int → Int → V} {i j : Int} {d : D} (o : OpR X f (rI0 h)) (r : ∀ H, Rep X.K C H (h i j) d) : OpU X C f (.int i) (.int j) d :=
  opr_weak o fun v u H Q ⟨r1, r2, q⟩ => by
    cases r1; cases r2
    exact ⟨i, j, rfl, rfl, q _ H (.refl H) (r H)⟩
theorem ou_ic {f : Value → Value → Sem Value} {P : Int → Int → Prop} {h : Int → Int → V} {i j : Int} {d : D} (o : OpR X f (rI P h)) (hc : P i j) (r : ∀ H, Rep X.K C H (h i j) d) : OpU X C f (.int i) (.int j) d :=
  opr_weak o fun v u H Q ⟨r1, r2, q⟩ => by
    cases r1; cases r2
    exact ⟨i, j, rfl, rfl, hc, q _ H (.refl H) (r H)⟩
theorem ou_add {i j : Int} : OpU X C (binaryOp .Add) (.int i) (.int j) (.int (i + j)) := ou_i op_add fun _ => .int _
theorem ou_sub {i j : Int} : OpU X C (binaryOp .Sub) (.int i) (.int j) (.int (i - j)) := ou_i op_sub fun _ => .int _
theorem ou_mul {i j : Int} (h : CMul i j) : OpU X C (binaryOp .Mult) (.int i) (.int j) (.int (i * j)) := ou_ic op_mul h fun _ => .int _
theorem ou_mod {i j : Int} (h : 0 < j) : OpU X C (binaryOp .Mod) (.int i) (.int j) (.int (i % j)) := ou_ic op_mod h fun _ => .int _
theorem ou_fdiv {i j : Int} (h : CDivN i j) : OpU X C (binaryOp .FloorDiv) (.int i) (.int j) (.int (i.fdiv j)) := ou_ic op_fdivN h fun _ => .int _
theorem ou_pow {i j : Int} (h : CPow i j) : OpU X C (binaryOp .Pow) (.int i) (.int j) (.int (i ^ j.toNat)) := ou_ic op_pow h fun _ => .int _
theorem ou_lt {i j : Int} : OpU X C (compareOp .Lt) (.int i) (.int j) (.bl (decide (i < j))) := ou_i op_lt fun _ => .bl _
theorem ou_le {i j : Int} : OpU X C (compareOp .LtE) (.int i) (.int j) (.bl (decide (i ≤ j))) := ou_i op_le fun _ => .bl _
theorem ou_gt {i j : Int} : OpU X C (compareOp .Gt) (.int i) (.int j) (.bl (decide (j < i))) := ou_i op_gt fun _ => .bl _
theorem ou_ge {i j : Int} : OpU X C (compareOp .GtE) (.int i) (.int j) (.bl (decide (j ≤ i))) := ou_i op_ge fun _ => .bl _
/-! ### == and != -/
theorem ou_eqI {i j : Int} : OpU X C (compareOp .Eq) (.int i) (.int j) (.bl (decide (i = j))) :=
  opr_weak op_eq fun v u H Q ⟨r1, r2, q⟩ => by
    cases r1; cases r2
    have e : decide (V.int i = V.int j) = decide (i = j) := by rw [dec_int, Bool.beq_eq_decide_eq]
    exact ⟨rfl, by rw [e]; exact q _ H (.refl H) (.bl _)⟩
theorem ou_neI {i j : Int} : OpU X C (compareOp .NotEq) (.int i) (.int j) (.bl (!decide (i = j))) :=
  opr_weak op_ne fun v u H Q ⟨r1, r2, q⟩ => by
    cases r1; cases r2
    have e : decide (V.int i = V.int j) = decide (i = j) := by rw [dec_int, Bool.beq_eq_decide_eq]
    exact ⟨rfl, by rw [e]; exact q _ H (.refl H) (.bl _)⟩
theorem ou_eqS {i j : Str} : OpU X C (compareOp .Eq) (.str i) (.str j) (.bl (decide (i = j))) :=
  opr_weak op_eq fun v u H Q ⟨r1, r2, q⟩ => by
    cases r1; cases r2
    have e : decide (V.str i = V.str j) = decide (i = j) := by rw [dec_str, Bool.beq_eq_decide_eq]
    exact ⟨rfl, by rw [e]; exact q _ H (.refl H) (.bl _)⟩
theorem ou_neS {i j : Str} : OpU X C (compareOp .NotEq) (.str i) (.str j) (.bl (!decide (i = j))) :=
  opr_weak op_ne fun v u H Q ⟨r1, r2, q⟩ => by
    cases r1; cases r2
    have e : decide (V.str i = V.str j) = decide (i = j) := by rw [dec_str, Bool.beq_eq_decide_eq]
    exact ⟨rfl, by rw [e]; exact q _ H (.refl H) (.bl _)⟩
/-- data of any form (no more than 64 deep) -/
def D.shp (d : D) : Bool := d.eqs && SeqAt.shaped d.py
theorem ou_eqD {d1 d2 : D} (hu : X.A.units + 64 < cLine) (h1 : d1.shp = true) (h2 : d2.shp = true) : OpU X C (compareOp .Eq) d1 d2 (.bl (PyData.eqv d1.py d2.py)) :=
  opr_weak (op_eqD hu) fun v u H Q ⟨r1, r2, q⟩ => by
    unfold D.shp at h1 h2
    rw [Bool.and_eq_true] at h1 h2
    exact ⟨_, _, r1.dp h1.1, r2.dp h2.1, h1.2, h2.2, q _ H (.refl H) (.bl _)⟩
theorem ou_neD {d1 d2 : D} (hu : X.A.units + 64 < cLine) (h1 : d1.shp = true) (h2 : d2.shp = true) : OpU X C (compareOp .NotEq) d1 d2 (.bl (!PyData.eqv d1.py d2.py)) :=
  opr_weak (op_neD hu) fun v u H Q ⟨r1, r2, q⟩ => by
    unfold D.shp at h1 h2
    rw [Bool.and_eq_true] at h1 h2
    exact ⟨_, _, r1.dp h1.1, r2.dp h2.1, h1.2, h2.2, q _ H (.refl H) (.bl _)⟩
/-! ### is None -/
def isNon : D → Bool
  | .non => true
  | _ => false
theorem rep_non {K : PySem.W.Frag} {H : Hp} {v : V} {d : D} (r : Rep K C H v d) : decide (v = .non) = isNon d := by
  cases r <;> rfl
theorem pu_isN {d : D} {j pos'} (ha : PU X g ρ a ρ1 d) : PU X g ρ (.Compare a [.Is] [.Constant .none j pos'] pos) ρ1 (.bl (isNon d)) :=
  pe_weak (pe_cmp (pc_isN ha)) fun σ H Q q => ⟨q.1, fun v H1 E1 x1 r1 => by
    simp only [rep_non r1]
    exact q.2 _ H1 E1 x1 (.bl _)⟩
theorem pu_notN {d : D} {j pos'} (ha : PU X g ρ a ρ1 d) : PU X g ρ (.Compare a [.IsNot] [.Constant .none j pos'] pos) ρ1 (.bl (!isNon d)) :=
  pe_weak (pe_cmp (pc_notN ha)) fun σ H Q q => ⟨q.1, fun v H1 E1 x1 r1 => by
    simp only [rep_non r1]
    exact q.2 _ H1 E1 x1 (.bl _)⟩
theorem ptu_isN {d : D} {j pos'} (ha : PU X g ρ a ρ1 d) : PTU X g ρ (.Compare a [.Is] [.Constant .none j pos'] pos) ρ1 (isNon d) :=
  pt_weak (pt_cmp (pc_isN ha)) fun σ H Q q => ⟨q.1, fun v H1 E1 x1 r1 => by
    simp only [rep_non r1]
    exact ⟨_, rfl, q.2 H1 E1 x1⟩⟩
theorem ptu_notN {d : D} {j pos'} (ha : PU X g ρ a ρ1 d) : PTU X g ρ (.Compare a [.IsNot] [.Constant .none j pos'] pos) ρ1 (!isNon d) :=
  pt_weak (pt_cmp (pc_notN ha)) fun σ H Q q => ⟨q.1, fun v H1 E1 x1 r1 => by
    simp only [rep_non r1]
    exact ⟨_, rfl, q.2 H1 E1 x1⟩⟩
/-! ### in -/
theorem inV_strs {x : Str} : ∀ ss : List Str, inV (.str x) (ss.map V.str) = decide (x ∈ ss)
  | [] => rfl
  | s :: ss => by
    have ih := inV_strs (x := x) ss
    unfold inV at ih ⊢
    rw [List.map_cons, List.any_cons, ih]
    show ((s == x) || decide (x ∈ ss)) = _
    rw [Bool.beq_eq_decide_eq, ← Bool.decide_or]
    simp only [List.mem_cons]
    exact decide_eq_decide.mpr ⟨fun h => h.elim (fun e => .inl e.symm) .inr, fun h => h.elim (fun e => .inl e.symm) .inr⟩
theorem inV_ints {x : Int} : ∀ ss : List Int, inV (.int x) (ss.map V.int) = decide (x ∈ ss)
  | [] => rfl
  | s :: ss => by
    have ih := inV_ints (x := x) ss
    unfold inV at ih ⊢
    rw [List.map_cons, List.any_cons, ih]
    show ((s == x) || decide (x ∈ ss)) = _
    rw [Bool.beq_eq_decide_eq, ← Bool.decide_or]
    simp only [List.mem_cons]
    exact decide_eq_decide.mpr ⟨fun h => h.elim (fun e => .inl e.symm) .inr, fun h => h.elim (fun e => .inl e.symm) .inr⟩
theorem flat_strs : ∀ ss : List Str, (ss.map V.str).all flatV = true
  | [] => rfl
  | s :: ss => by rw [List.map_cons, List.all_cons, flat_strs ss]; rfl
theorem flat_ints : ∀ ss : List Int, (ss.map V.int).all flatV = true
  | [] => rfl
  | s :: ss => by rw [List.map_cons, List.all_cons, flat_ints ss]; rfl
theorem ou_inS {x : Str} {ss : List Str} {d : D} (h : d = .tup (ss.map D.str) ∨ d = .lst (ss.map D.str)) : OpU X C (compareOp .In) (.str x) d (.bl (decide (x ∈ ss))) :=
  opr_weak op_in_seq fun v u H Q ⟨r1, r2, q⟩ => by
    cases r1
    rcases h with rfl | rfl
    · cases r2 with
      | @tup p us _ s r =>
        rw [r.of_strs] at s
        exact ⟨p, _, rfl, .inr s, rfl, flat_strs ss, by rw [inV_strs]; exact q _ H (.refl H) (.bl _)⟩
    · cases r2 with
      | @lst p us _ s r =>
        rw [r.of_strs] at s
        exact ⟨p, _, rfl, .inl s.sq, rfl, flat_strs ss, by rw [inV_strs]; exact q _ H (.refl H) (.bl _)⟩
theorem ou_niS {x : Str} {ss : List Str} {d : D} (h : d = .tup (ss.map D.str) ∨ d = .lst (ss.map D.str)) : OpU X C (compareOp .NotIn) (.str x) d (.bl (!decide (x ∈ ss))) :=
  opr_weak op_notIn_seq fun v u H Q ⟨r1, r2, q⟩ => by
    cases r1
    rcases h with rfl | rfl
    · cases r2 with
      | @tup p us _ s r =>
        rw [r.of_strs] at s
        exact ⟨p, _, rfl, .inr s, rfl, flat_strs ss, by rw [inV_strs]; exact q _ H (.refl H) (.bl _)⟩
    · cases r2 with
      | @lst p us _ s r =>
        rw [r.of_strs] at s
        exact ⟨p, _, rfl, .inl s.sq, rfl, flat_strs ss, by rw [inV_strs]; exact q _ H (.refl H) (.bl _)⟩
theorem ou_inI {x : Int} {ss : List Int} {d : D} (h : d = .tup (ss.map D.int) ∨ d = .lst (ss.map D.int)) : OpU X C (compareOp .In) (.int x) d (.bl (decide (x ∈ ss))) :=
  opr_weak op_in_seq fun v u H Q ⟨r1, r2, q⟩ => by
    cases r1
    rcases h with rfl | rfl
    · cases r2 with
      | @tup p us _ s r =>
        rw [r.of_ints] at s
        exact ⟨p, _, rfl, .inr s, rfl, flat_ints ss, by rw [inV_ints]; exact q _ H (.refl H) (.bl _)⟩
    · cases r2 with
      | @lst p us _ s r =>
        rw [r.of_ints] at s
        exact ⟨p, _, rfl, .inl s.sq, rfl, flat_ints ss, by rw [inV_ints]; exact q _ H (.refl H) (.bl _)⟩
/-- a sign in a text -/
theorem ou_inC {c : Nat} {z : Str} : OpU X C (compareOp .In) (.str ⟨#[c]⟩) (.str z) (.bl (decide (c ∈ z.cps.toList))) :=
  opr_weak op_in_sign fun v u H Q ⟨r1, r2, q⟩ => by
    cases r1; cases r2
    exact ⟨c, z, rfl, rfl, q _ H (.refl H) (.bl _)⟩
/-! ### sums of lists, of tuples; products of tuples -/
theorem ou_catT {xs ys : List D} (hz : xs.length + ys.length ≤ sizeLine) : OpU X C (binaryOp .Add) (.tup xs) (.tup ys) (.tup (xs ++ ys)) :=
  opr_weak op_catA fun v u H Q ⟨r1, r2, q⟩ => by
    cases r1 with
    | @tup p us _ s r =>
      cases r2 with
      | @tup p' us' _ s' r' =>
        refine ⟨p, p', us, us', rfl, rfl, s, s', by rw [r.length, r'.length]; exact hz, fun e => ?_, fun _ e => ?_, fun _ _ w n => ?_⟩
        · subst e
          cases r
          exact q _ H (.refl H) (.tup s' r')
        · subst e
          cases r'
          rw [List.append_nil] at q
          exact q _ H (.refl H) (.tup s r)
        · have sm : Same H (upd H w (.tup (us ++ us'))) := fun b o hb => by rw [upd_ne (ne_of_none hb n)]; exact hb
          exact q _ _ sm (.tup (.of upd_same) ((r.append r').ext (.of_same sm)))
theorem ou_repT {xs : List D} {k : Int} (hn : xs ≠ []) (h1 : 2 ≤ k) (h2 : k ≤ 1000) (hz : xs.length ≤ 1000) : OpU X C (binaryOp .Mult) (.tup xs) (.int k) (.tup (List.replicate k.toNat xs).flatten) :=
  opr_weak op_repT fun v u H Q ⟨r1, r2, q⟩ => by
    cases r2
    cases r1 with
    | @tup p us _ s r =>
      refine ⟨p, k, us, rfl, rfl, s, fun e => ?_, h1, h2, by rw [r.length]; exact hz, fun w n => ?_⟩
      · subst e
        cases r
        exact hn rfl
      · have sm : Same H (upd H w (.tup (List.replicate k.toNat us).flatten)) := fun b o hb => by rw [upd_ne (ne_of_none hb n)]; exact hb
        refine q _ _ sm (.tup (.of upd_same) ?_)
        have all : ∀ m : Nat, RepL X.K C H (List.replicate m us).flatten (List.replicate m xs).flatten := fun m => by
          induction m with
          | zero => exact .nil
          | succ m ih =>
            rw [List.replicate_succ, List.replicate_succ, List.flatten_cons, List.flatten_cons]
            exact r.append ih
        exact (all _).ext (.of_same sm)
/-- two frozen lists -/
theorem op_catF : OpR X (binaryOp .Add) fun x y H Q => ∃ l b xs zs, x = .ref l ∧ y = .ref b ∧ FrL H l xs ∧ FrL H b zs ∧ xs.length + zs.length ≤ sizeLine ∧ ∀ w, H w = none → Q (.ref w) (upd H w (.lst (xs ++ zs))) := by
  intro pins s σ H x y v u Q I rx ry h
  obtain ⟨l, b, xs, zs, rfl, rfl, ⟨o1, h1⟩, ⟨o2, h2⟩, hz, q⟩ := h
  cases rx
  cases ry
  obtain ⟨z, its, n, r, e⟩ := (show ObjOk X.prog X.w H s.heap l (.lst xs) from (I.hok l _ h1).2)
  obtain ⟨z2, its2, n2, r2, e2⟩ := (show ObjOk X.prog X.w H s.heap b (.lst zs) from (I.hok b _ h2).2)
  have hl := r.length
  have hl2 := r2.length
  refine PySem.P.add_list e e2 ?_ (by rw [List.size_toArray, List.size_toArray]; omega)
  rw [show its.toArray ++ its2.toArray = (its ++ its2).toArray by simp]
  exact ⟨.ref _, _, I.lnew (t' := s.toks) (r.append r2) (by rw [List.length_append]; omega), rfl, q _ I.fresh⟩
theorem pn_cat {xs ys : List D} (hz : xs.length + ys.length ≤ sizeLine) (ha : PU X g ρ a ρ1 (.lst xs)) (hb : PU X g ρ1 b ρ2 (.lst ys)) : PN X g ρ (.BinOp a .Add b pos) ρ2 (xs ++ ys) :=
  pe_weak (pe_op op_catF ha hb) fun σ H Q q => ⟨q.1, fun v H1 E1 x1 r1 => ⟨E1, fun u H2 E2 x2 r2 => by
    cases r1 with
    | @lst l us _ s r =>
      cases r2 with
      | @lst l' us' _ s' r' =>
        exact ⟨l, l', us, us', rfl, rfl, s.ext x2, s', by rw [r.length, r'.length]; exact hz, fun w n => uN_new q E2 (x1.trans x2) n ((r.ext x2).append r')⟩⟩⟩

/-! ### calls of built-in functions -/
def CallU (X : Cx) (C : Addr) (f : Value) (ds : List D) (d : D) : Prop := CallR X f fun vs H Q => RepL X.K C H vs ds ∧ ∀ w H', Same H H' → Rep X.K C H' w d → Q w H'
theorem cb_read {ds : List D} {d : D} {σ : L2.St} {H : Hp} {Q : VK} (q : uE X g ρ ρ1 d σ H Q) :
    tCB (fun vs H Q => RepL X.K g.C H vs ds ∧ ∀ w H', Same H H' → Rep X.K g.C H' w d → Q w H') (uA X g ρ ρ1 ds) σ H Q :=
  ⟨q.1, fun vs H1 E1 x1 r1 => ⟨r1, fun w H2 s2 r2 => q.2 w H2 (E1.same s2) (x1.trans (.of_same s2)) r2⟩⟩
theorem pu_callB {id : String} {x : Str} {ds : List D} {d : D} (L : Lo X N sc vs) (hc : CallU X g.C (.builtin id) ds d) (hm : X.mg x = none) (hv : bootBuiltins x = some (.builtin id)) (ha : PAU X g ρ (e :: es) ρ1 ds) (hg : gloC sc x = true := by decide +kernel)
    (hn : x ≠ "__name__" := by decide) (hdb : (x == ("__debug__" : Str)) = false := by decide) (he : starEach (e :: es) X.env = (false, eval e X.env) :: starEach es X.env := by rfl) (hpl : (backTo pos (starEach es X.env)).any (·.1) = false := by rfl) :
    PU X g ρ (.Call (.Name x p) (e :: es) [] pos) ρ1 d := pe_weak (pe_callB hc (gl_of L hg) hm hv ha hn hdb he hpl) fun σ H Q q => cb_read q
theorem pu_callTy {T : String} {x : Str} {ds : List D} {d : D} (L : Lo X N sc vs) (hc : CallU X g.C (.type T) ds d) (hm : X.mg x = none) (hv : bootBuiltins x = some (.type T)) (ha : PAU X g ρ (e :: es) ρ1 ds) (hg : gloC sc x = true := by decide +kernel)
    (hn : x ≠ "__name__" := by decide) (hdb : (x == ("__debug__" : Str)) = false := by decide) (he : starEach (e :: es) X.env = (false, eval e X.env) :: starEach es X.env := by rfl) (hpl : (backTo pos (starEach es X.env)).any (·.1) = false := by rfl) :
    PU X g ρ (.Call (.Name x p) (e :: es) [] pos) ρ1 d := pe_weak (pe_callTy hc (gl_of L hg) hm hv ha hn hdb he hpl) fun σ H Q q => cb_read q
theorem cu_len {ds : List D} {d : D} (h : d = .tup ds ∨ d = .lst ds) : CallU X C (.builtin "len") [d] (.int ds.length) :=
  callr_weak call_len_seq fun vs H Q ⟨r, q⟩ => by
    cases r with
    | cons r t =>
      cases t
      rcases h with rfl | rfl
      · cases r with
        | @tup p us _ s r => exact ⟨p, us, rfl, .inr s, by rw [r.length]; exact q _ H (.refl H) (.int _)⟩
      · cases r with
        | @lst p us _ s r => exact ⟨p, us, rfl, .inl s.sq, by rw [r.length]; exact q _ H (.refl H) (.int _)⟩
theorem cu_lenS {z : Str} (h : z.length ≤ sizeLine) : CallU X C (.builtin "len") [.str z] (.int z.length) :=
  callr_weak call_len_str fun vs H Q ⟨r, q⟩ => by
    cases r with
    | cons r t =>
      cases t
      cases r
      exact ⟨z, rfl, h, q _ H (.refl H) (.int _)⟩
theorem cu_lenC {ns : List Int} : CallU X C (.builtin "len") [.scr ns] (.int ns.length) :=
  callr_weak call_len_seq fun vs H Q ⟨r, q⟩ => by
    cases r with
    | cons r t =>
      cases t
      cases r with
      | @scr p _ s => exact ⟨p, _, rfl, .inl s.sq, by rw [List.length_map]; exact q _ H (.refl H) (.int _)⟩
theorem cu_all {bs : List Bool} (hc : X.calm = true) : CallU X C (.builtin "all") [.lst (bs.map D.bl)] (.bl (bs.all id)) :=
  callr_weak (cr_all hc) fun vs H Q ⟨r, q⟩ => by
    cases r with
    | cons r t =>
      cases t
      cases r with
      | @lst p us _ s r =>
        rw [r.of_bls] at s
        exact ⟨p, bs, rfl, s.sq, q _ H (.refl H) (.bl _)⟩
theorem cu_int {i : Int} : CallU X C (.type "int") [.int i] (.int i) :=
  callr_weak call_int1 fun vs H Q ⟨r, q⟩ => by
    cases r with
    | cons r t =>
      cases t
      cases r
      exact .inl ⟨i, rfl, q _ H (.refl H) (.int _)⟩
theorem cu_tup {ds : List D} : CallU X C (.type "tuple") [.lst ds] (.tup ds) :=
  callr_weak call_tuple_of fun vs H Q ⟨r, q⟩ => by
    cases r with
    | cons r t =>
      cases t
      cases r with
      | @lst p us _ s r =>
        refine ⟨p, us, rfl, .inl ⟨s.sq, fun l n => ?_⟩⟩
        have sm : Same H (upd H l (.tup us)) := fun b o hb => by rw [upd_ne (ne_of_none hb n)]; exact hb
        exact q _ _ sm (.tup (.of upd_same) (r.ext (.of_same sm)))
/-- isinstance by the name of a built-in class -/
def tyn : D → String
  | .non => "NoneType"
  | .bl _ => "bool"
  | .int _ => "int"
  | .str _ => "str"
  | .tup _ => "tuple"
  | .lst _ => "list"
  | .scr _ => "list"
  | .edc => "dict"
  | .hou _ => ""
def isK (T s : String) : Bool := s == T || (s == "bool" && T == "int")
def isD (T : String) (d : D) : Bool := isK T (tyn d)
def nohou : D → Bool
  | .hou _ => false
  | _ => true
/-- the classes that the text asks for -/
def asked (T : String) : Bool := T == "int" || T == "bool" || T == "str" || T == "tuple" || T == "list"
theorem tyx_of {K : PySem.W.Frag} {H : Hp} {v : V} {d : D} (r : Rep K C H v d) (hn : nohou d = true) {T : String} (hT : asked T = true) : ∃ t, TyX K H v t ∧ PySem.W.kitOne K t (.type T) = some (isD T d) := by
  have all : T = "int" ∨ T = "bool" ∨ T = "str" ∨ T = "tuple" ∨ T = "list" := by
    simpa [asked, or_assoc] using hT
  have kt : ∀ s : String, s ∈ ["NoneType", "bool", "int", "str", "tuple", "list", "dict"] → PySem.W.kitOne K (.type s) (.type T) = some (isK T s) := fun s hs => by
    simp only [List.mem_cons, List.not_mem_nil, or_false] at hs
    rcases all with rfl | rfl | rfl | rfl | rfl <;> rcases hs with rfl | rfl | rfl | rfl | rfl | rfl | rfl <;> exact kit_ty (by decide +kernel)
  cases r with
  | non => exact ⟨_, .base .non, kt _ (by decide)⟩
  | bl b => exact ⟨_, .base (.bl b), kt _ (by decide)⟩
  | int b => exact ⟨_, .base (.int b), kt _ (by decide)⟩
  | str b => exact ⟨_, .base (.str b), kt _ (by decide)⟩
  | @tup p us ds s r =>
    refine ⟨.type "tuple", ?_, kt _ (by decide)⟩
    rcases s with (s | ⟨o, s⟩) | ⟨o, its, n, h1, h2, _⟩
    · exact .base (.tup s)
    · exact .fTuple s
    · exact .kTuple h1 h2
  | @lst p us ds s r =>
    refine ⟨.type "list", ?_, kt _ (by decide)⟩
    obtain ⟨o, s⟩ := s
    exact .base (.frz s)
  | @scr p ns s =>
    refine ⟨.type "list", ?_, kt _ (by decide)⟩
    rcases s with ⟨o, s⟩ | ⟨o, its, n, h1, h2, _⟩
    · exact .base (.frz s)
    · exact .kList h1 h2
  | @edc p o s =>
    exact ⟨.type "dict", .fDict s, kt _ (by decide)⟩
  | hou _ _ => cases hn
/-- isinstance(e, T) -/
theorem pu_isi (L : Lo X N sc vs) {T : String} {x : Str} {px : Pos} {d : D} (ha : PU X g ρ e ρ1 d) (hn : nohou d = true) (hT : asked T = true) (hm : X.mg "isinstance" = none) (hx : X.mg x = none) (hv : bootBuiltins x = some (.type T)) (hgx : gloC sc x = true := by decide +kernel) (hg : gloC sc "isinstance" = true := by decide +kernel)
    (hn1 : x ≠ "__name__" := by decide) (hd1 : (x == ("__debug__" : Str)) = false := by decide) (he : starEach [e, .Name x px] X.env = (false, eval e X.env) :: starEach [.Name x px] X.env := by rfl) (he2 : starEach [.Name x px] X.env = (false, eval (.Name x px) X.env) :: starEach [] X.env := by rfl)
    (hpl : (backTo pos (starEach [.Name x px] X.env)).any (·.1) = false := by rfl) : PU X g ρ (.Call (.Name "isinstance" p) [e, .Name x px] [] pos) ρ1 (.bl (isD T d)) :=
  pe_weak (pe_callB call_isi (gl_of L hg) hm (by decide +kernel) (pa_cons ha (pa_cons (pe_bltn (v := .ty T) (gl_of L hgx) hx hv rfl hn1 hd1) pa_nil he2) he) (by decide) (by decide) he hpl) fun σ H Q q =>
    ⟨q.1, fun v H1 E1 x1 r1 => by
      obtain ⟨t, h1, h2⟩ := tyx_of r1 hn hT
      exact ⟨v, .ty T, t, .type T, isD T d, rfl, .ty T, h1, h2, q.2 _ H1 E1 x1 (.bl _)⟩⟩
end
end C66
end TP03
section TP04
set_option Elab.async false
set_option linter.all false
set_option maxRecDepth 100000
set_option maxHeartbeats 4000000
/-! P04: statements, loops, a def's promise. -/
namespace C66
open PySem PySem.Spec L2

/-- what is wanted behind statements -/
structure Post where
  nx : Rho → Prop
  rt : Rho → Bd → Prop
  bk : Rho → Prop := fun _ => False
  ct : Rho → Prop := fun _ => False
def uS (X : Cx) (g : Gm) (ρ : Rho) (p : Post) : TS := fun D σ H => Hold X g ρ σ H ∧
  (∀ ρ' σ' H', p.nx ρ' → Hold X g ρ' σ' H' → Ext H H' → D.nx σ' H') ∧
  (∀ ρ' b v σ' H', p.rt ρ' b → Hold X g ρ' σ' H' → Ext H H' → BRep X.prog X.w X.K g.C H' b v → D.rt v H') ∧
  (∀ ρ' σ' H', p.bk ρ' → Hold X g ρ' σ' H' → Ext H H' → D.bk σ' H') ∧
  (∀ ρ' σ' H', p.ct ρ' → Hold X g ρ' σ' H' → Ext H H' → D.ct σ' H')
abbrev SU (X : Cx) (g : Gm) (ρ : Rho) (st : Stmt) (p : Post) : Prop := PS X st (uS X g ρ p)
abbrev SUs (X : Cx) (g : Gm) (ρ : Rho) (sts : List Stmt) (p : Post) : Prop := PSs X sts (uS X g ρ p)

/-- a def's slots, its exits -/
structure LoD (X : Cx) (N : List Str) (sc : Scope) (vs : List Nat) : Prop extends Lo X N sc vs where
  fn : ∀ x, X.fn x = true
  px : PassesOwn (model X.prog X.w) X.A X.env X.xe
  hu : X.A.units + 64 < cLine

section
variable {X : Cx} {g : Gm} {ρ ρ1 ρ2 : Rho} {N : List Str} {sc : Scope} {vs : List Nat} {pos px py : Pos} {a b c e : Expr} {st : Stmt} {sts body orelse rest : List Stmt} {p : Post}

theorem pss_any {t : TS} (h : ∀ D σ H, t D σ H → ∃ t', PSs X sts t' ∧ t' D σ H) : PSs X sts t := ⟨fun pins s σ H D I q => by
  obtain ⟨t', h', q'⟩ := h _ _ _ q
  exact h'.run pins s σ H D I q'⟩
theorem pe_any {t : TE} (h : ∀ σ H Q, t σ H Q → ∃ t', PE X e t' ∧ t' σ H Q) : PE X e t := ⟨fun pins s σ H D I q => by
  obtain ⟨t', h', q'⟩ := h _ _ _ q
  exact h'.run pins s σ H D I q'⟩
theorem su_nil (h : p.nx ρ) : SUs X g ρ [] p := pss_weak pss_nil fun D σ H q => q.2.1 ρ σ H h q.1 (.refl H)
theorem su_cons (h : SU X g ρ st { p with nx := fun ρ' => SUs X g ρ' rest p }) : SUs X g ρ (st :: rest) p :=
  pss_weak (pss_cons h (pss_any (t := fun D σ H => ∃ ρ', SUs X g ρ' rest p ∧ uS X g ρ' p D σ H) fun D σ H ⟨ρ', h1, h2⟩ => ⟨_, h1, h2⟩)) fun D σ H q =>
    ⟨q.1, fun ρ' σ' H' hn E' x' => ⟨ρ', hn, E', fun r s K1 a1 a2 a3 => q.2.1 r s K1 a1 a2 (x'.trans a3), fun r bb v s K1 a1 a2 a3 a4 => q.2.2.1 r bb v s K1 a1 a2 (x'.trans a3) a4,
      fun r s K1 a1 a2 a3 => q.2.2.2.1 r s K1 a1 a2 (x'.trans a3), fun r s K1 a1 a2 a3 => q.2.2.2.2 r s K1 a1 a2 (x'.trans a3)⟩, q.2.2.1, q.2.2.2.1, q.2.2.2.2⟩
theorem su_one (h : SU X g ρ st p) : SUs X g ρ [st] p := pss_one h
theorem su_imp {q : Post} (h : SUs X g ρ sts q) (h1 : ∀ r, q.nx r → p.nx r) (h2 : ∀ r d, q.rt r d → p.rt r d) (h3 : ∀ r, q.bk r → p.bk r) (h4 : ∀ r, q.ct r → p.ct r) : SUs X g ρ sts p :=
  pss_weak h fun D σ H z => ⟨z.1, fun r s K a1 => z.2.1 r s K (h1 r a1), fun r bb v s K a1 => z.2.2.1 r bb v s K (h2 r bb a1), fun r s K a1 => z.2.2.2.1 r s K (h3 r a1), fun r s K a1 => z.2.2.2.2 r s K (h4 r a1)⟩
/-- slots forgotten -/
theorem su_weak (h : SUs X g ρ1 sts p) (hl : ρ1.length = ρ.length) (hw : ∀ (i : Nat) (b : Bd), ρ1[i]? = some (some b) → ρ[i]? = some (some b)) : SUs X g ρ sts p :=
  pss_weak h fun D σ H q => ⟨q.1.weak hl hw, q.2⟩
theorem su_forget (i : Nat) (h : SUs X g (ρ.set i none) sts p) : SUs X g ρ sts p := pss_weak h fun D σ H q => ⟨q.1.forget i, q.2⟩

theorem su_ret {d : D} (he : PU X g ρ e ρ1 d) (h : p.rt ρ1 (.dat d)) : SU X g ρ (.Return (some e) pos) p :=
  ps_weak (ps_ret he) fun D σ H q => ⟨q.1, fun v H1 E1 x1 r1 => q.2.2.1 ρ1 (.dat d) v σ H1 h E1 x1 r1⟩
theorem su_retN (h : p.rt ρ (.dat .non)) : SU X g ρ (.Return none pos) p :=
  ps_weak ps_retN fun D σ H q => q.2.2.1 ρ (.dat .non) .non σ H h q.1 (.refl H) Rep.non
theorem su_if {k : Bool} (hc : PTU X g ρ c ρ1 k) (ha : k = true → SUs X g ρ1 body p) (hb : k = false → SUs X g ρ1 orelse p) : SU X g ρ (.If c body orelse pos) p :=
  ps_weak (ps_if hc (pss_when ha) (pss_when hb)) fun D σ H q => ⟨q.1, fun H1 E1 x1 => by
    have go : uS X g ρ1 p D σ H1 := ⟨E1, fun r s K1 a1 a2 a3 => q.2.1 r s K1 a1 a2 (x1.trans a3), fun r bb v s K1 a1 a2 a3 a4 => q.2.2.1 r bb v s K1 a1 a2 (x1.trans a3) a4,
      fun r s K1 a1 a2 a3 => q.2.2.2.1 r s K1 a1 a2 (x1.trans a3), fun r s K1 a1 a2 a3 => q.2.2.2.2 r s K1 a1 a2 (x1.trans a3)⟩
    cases k with
    | true => exact ⟨rfl, go⟩
    | false => exact ⟨rfl, go⟩⟩
theorem su_break (h : p.bk ρ) : SU X g ρ (.Break pos) p := ps_weak ps_break fun D σ H q => q.2.2.2.1 ρ σ H h q.1 (.refl H)
theorem su_continue (h : p.ct ρ) : SU X g ρ (.Continue pos) p := ps_weak ps_continue fun D σ H q => q.2.2.2.2 ρ σ H h q.1 (.refl H)
/-- x = e -/
theorem su_set (L : LoD X N sc vs) (i : Nat) {x : Str} {d : D} (he : PU X g ρ e ρ1 d) (h : p.nx (ρ1.set i (some (.dat d)))) (hs : swapsWith e (some (.Name x px)) pos.line X.env = pure false := by rfl) (hN : N[i]? = some x := by rfl) (hl : locC sc x = true := by decide +kernel) :
    SU X g ρ (.Assign [.Name x px] e pos) p :=
  ps_weak (ps_set (i := i) (by rw [L.hN]; exact L.nd) (by rw [L.hN]; exact hN) (by rw [L.hs]; exact loc_of hl) he hs (.inl (L.fn x))) fun D σ H q =>
    ⟨q.1, fun v H1 E1 x1 r1 => q.2.1 _ _ H1 h (E1.set r1) x1⟩
/-- a new own list is laid in a slot -/
theorem Hold.setOwn {σ : L2.St} {H : Hp} (E1 : Hold X g ρ σ H) {i : Nat} {a : Addr} {us : List V} {ds : List D} (ho : H a = some (.lst us)) (other : NotOwn ρ σ a) (hg : g.H0 a = none ∨ a ∈ g.R) (r : RepL X.K g.C H us ds) : Hold X g (ρ.set i (some (.own ds))) (σ.set i (some (.ref a))) H := by
  have sp : ∀ (j : Nat) (b : Bd), (ρ.set i (some (.own ds)))[j]? = some (some b) → (j = i ∧ b = .own ds ∧ i < ρ.length) ∨ (j ≠ i ∧ ρ[j]? = some (some b)) := fun j b h => by
    by_cases hj : i = j
    · subst hj
      by_cases hi : i < ρ.length
      · rw [List.getElem?_set_self hi] at h
        cases h
        exact .inl ⟨rfl, rfl, hi⟩
      · rw [List.getElem?_eq_none (by simpa using hi)] at h; cases h
    · rw [List.getElem?_set_ne hj] at h
      exact .inr ⟨Ne.symm hj, h⟩
  refine ⟨fun j b h => ?_, fun j b a' h m q => ?_, fun j k b c a' h m h' m' q q' => ?_, E1.keep, E1.tabs, by simp [E1.len]⟩
  · rcases sp j b h with ⟨rfl, rfl, hi⟩ | ⟨hj, h⟩
    · exact ⟨.ref a, by rw [List.getElem?_set_self (by rw [E1.len]; exact hi)], a, us, rfl, ho, r⟩
    · rw [List.getElem?_set_ne (Ne.symm hj)]
      exact E1.at_ j b h
  · rcases sp j b h with ⟨rfl, rfl, hi⟩ | ⟨hj, h⟩
    · rw [List.getElem?_set_self (by rw [E1.len]; exact hi)] at q
      cases q
      exact hg
    · rw [List.getElem?_set_ne (Ne.symm hj)] at q
      exact E1.own j b a' h m q
  · rcases sp j b h with ⟨rfl, rfl, hi⟩ | ⟨hj, h⟩
    · rw [List.getElem?_set_self (by rw [E1.len]; exact hi)] at q
      cases q
      rcases sp k c h' with ⟨rfl, rfl, _⟩ | ⟨hk, h'⟩
      · rfl
      · rw [List.getElem?_set_ne (Ne.symm hk)] at q'
        exact absurd q' (other k c h' m')
    · rw [List.getElem?_set_ne (Ne.symm hj)] at q
      rcases sp k c h' with ⟨ek, rfl, hi⟩ | ⟨hk, h'⟩
      · rw [ek, List.getElem?_set_self (by rw [E1.len]; exact hi)] at q'
        cases q'
        exact absurd q (other j b h m)
      · rw [List.getElem?_set_ne (Ne.symm hk)] at q'
        exact E1.dist j k b c a' h m h' m' q q'
/-- an own object is changed in place -/
theorem Hold.change {σ : L2.St} {H : Hp} (E : Hold X g ρ σ H) {i : Nat} {a : Addr} {b0 b1 : Bd} {o o' : HO} (h : ρ[i]? = some (some b0)) (m : b0.mine = true) (m1 : b1.mine = true) (hv : σ[i]? = some (some (.ref a))) (ho : H a = some o) (ni : ¬ Imm o) (nt : ∀ ps, o ≠ .tbl ps)
    (nc : ∀ P q c, (P, q) ∈ g.T → H c = some (LamX.CodeO c q) → c ≠ a) (r : Ext H (upd H a o') → BRep X.prog X.w X.K g.C (upd H a o') b1 (.ref a)) : Hold X g (ρ.set i (some b1)) σ (upd H a o') ∧ Ext H (upd H a o') := by
  have x : Ext H (upd H a o') := fun b w hb im => by
    by_cases e : b = a
    · subst e
      rw [ho] at hb; cases hb
      exact absurd im ni
    · rw [upd_ne e]; exact hb
  have hi : i < ρ.length := (List.getElem?_eq_some_iff.mp h).1
  have sp : ∀ (j : Nat) (b : Bd), (ρ.set i (some b1))[j]? = some (some b) → (j = i ∧ b = b1) ∨ (j ≠ i ∧ ρ[j]? = some (some b)) := fun j b q => by
    by_cases hj : i = j
    · subst hj
      rw [List.getElem?_set_self hi] at q
      cases q
      exact .inl ⟨rfl, rfl⟩
    · rw [List.getElem?_set_ne hj] at q
      exact .inr ⟨Ne.symm hj, q⟩
  refine ⟨⟨fun j b q => ?_, fun j b a' q m' z => ?_, fun j k b c a' q mq q' mq' z z' => ?_, fun b w hb nr => ?_, fun pq hp => ?_, by simp [E.len]⟩, x⟩
  · rcases sp j b q with ⟨rfl, rfl⟩ | ⟨hj, q⟩
    · exact ⟨_, hv, r x⟩
    · obtain ⟨v, h1, h2⟩ := E.at_ j b q
      refine ⟨v, h1, h2.ext x fun mb a' o2 e hb => ?_⟩
      subst e
      rw [upd_ne (fun e => hj (E.dist j i b b0 a q mb h m (by rw [h1, e]) hv))]
      exact hb
  · rcases sp j b q with ⟨rfl, rfl⟩ | ⟨hj, q⟩
    · exact E.own j b0 a' h m z
    · exact E.own j b a' q m' z
  · have un : ∀ (j : Nat) (b : Bd), (ρ.set i (some b1))[j]? = some (some b) → b.mine = true → ∃ b', ρ[j]? = some (some b') ∧ b'.mine = true := fun j b q mb => by
      rcases sp j b q with ⟨rfl, rfl⟩ | ⟨hj, q⟩
      · exact ⟨b0, h, m⟩
      · exact ⟨b, q, mb⟩
    obtain ⟨b', q1, m1'⟩ := un j b q mq
    obtain ⟨c', q2, m2'⟩ := un k c q' mq'
    exact E.dist j k b' c' a' q1 m1' q2 m2' z z'
  · have ne : b ≠ a := fun e => by
      subst e
      rcases E.own i b0 b h m hv with z | z
      · rw [z] at hb; cases hb
      · exact nr z
    rcases E.keep b w hb nr with z | ⟨ps, ps', e1, z⟩
    · exact .inl (by rw [upd_ne ne]; exact z)
    · exact .inr ⟨ps, ps', e1, by rw [upd_ne ne]; exact z⟩
  · obtain ⟨ps, h1, h2, h3⟩ := E.tabs pq hp
    have ne : pq.1 ≠ a := fun e => by
      rw [e, ho] at h1
      exact nt ps (Option.some.inj h1)
    refine ⟨ps, by rw [upd_ne ne]; exact h1, h2, fun ps2 cv hcv => ?_⟩
    obtain ⟨cc, e1, e2⟩ := h3 ps2 cv hcv
    exact ⟨cc, e1, by rw [upd_ne (nc pq.1 pq.2 cc hp e2)]; exact e2⟩
theorem code_ne_lst {H : Hp} {a c : Addr} {q : Str} {xs : List V} (h : H a = some (.lst xs)) (hc : H c = some (LamX.CodeO c q)) : c ≠ a := ne_of hc h fun z => by unfold LamX.CodeO at z; cases z
/-- x = a new list -/
theorem su_setN (L : LoD X N sc vs) (i : Nat) {x : Str} {ds : List D} (he : PN X g ρ e ρ1 ds) (h : p.nx (ρ1.set i (some (.own ds)))) (hs : swapsWith e (some (.Name x px)) pos.line X.env = pure false := by rfl) (hN : N[i]? = some x := by rfl) (hl : locC sc x = true := by decide +kernel) :
    SU X g ρ (.Assign [.Name x px] e pos) p :=
  ps_weak (ps_set (i := i) (by rw [L.hN]; exact L.nd) (by rw [L.hN]; exact hN) (by rw [L.hs]; exact loc_of hl) he hs (.inl (L.fn x))) fun D σ H q =>
    ⟨q.1, fun a us H1 E1 x1 n no hg r1 => q.2.1 _ _ _ h (E1.setOwn n no hg r1) x1⟩
/-- an own list becomes data -/
theorem Hold.frozen {σ : L2.St} {H : Hp} (E : Hold X g ρ σ H) {i : Nat} {a : Addr} {us : List V} {ds : List D} {o : Obj} (h : ρ[i]? = some (some (.own ds))) (hv : σ[i]? = some (some (.ref a))) (ho : H a = some (.lst us)) (r : RepL X.K g.C H us ds) :
    Hold X g (ρ.set i (some (.dat (.lst ds)))) σ (upd H a (.frz o (.lst us))) ∧ Ext H (upd H a (.frz o (.lst us))) := by
  obtain ⟨E1, x⟩ := E.change (b1 := .own ds) (o' := .lst us) h rfl rfl hv ho (fun z => z) (fun _ z => by cases z) (fun P q c _ hc => code_ne_lst ho hc) fun x => ⟨a, us, rfl, upd_same, r.ext x⟩
  have x2 : Ext H (upd H a (.frz o (.lst us))) := fun b w hb im => by
    by_cases e : b = a
    · subst e
      rw [ho] at hb; cases hb
      cases im
    · rw [upd_ne e]; exact hb
  have hi : i < ρ.length := (List.getElem?_eq_some_iff.mp h).1
  have same : ∀ b, b ≠ a → upd H a (.frz o (.lst us)) b = H b := fun b e => upd_ne e
  have sp : ∀ (j : Nat) (b : Bd), (ρ.set i (some (.dat (.lst ds))))[j]? = some (some b) → (j = i ∧ b = .dat (.lst ds)) ∨ (j ≠ i ∧ ρ[j]? = some (some b)) := fun j b q => by
    by_cases hj : i = j
    · subst hj
      rw [List.getElem?_set_self hi] at q
      cases q
      exact .inl ⟨rfl, rfl⟩
    · rw [List.getElem?_set_ne hj] at q
      exact .inr ⟨Ne.symm hj, q⟩
  refine ⟨⟨fun j b q => ?_, fun j b a' q m' z => ?_, fun j k b c a' q mq q' mq' z z' => ?_, fun b w hb nr => ?_, fun pq hp => ?_, by simp [E.len]⟩, x2⟩
  · rcases sp j b q with ⟨rfl, rfl⟩ | ⟨hj, q⟩
    · exact ⟨_, hv, Rep.lst ⟨o, upd_same⟩ (r.ext x2)⟩
    · obtain ⟨v, h1, h2⟩ := E.at_ j b q
      refine ⟨v, h1, h2.ext x2 fun mb a' o2 e hb => ?_⟩
      subst e
      rw [upd_ne (fun e => hj (E.dist j i b _ a q mb h rfl (by rw [h1, e]) hv))]
      exact hb
  · rcases sp j b q with ⟨rfl, rfl⟩ | ⟨hj, q⟩
    · cases m'
    · exact E.own j b a' q m' z
  · rcases sp j b q with ⟨rfl, rfl⟩ | ⟨hj, q⟩
    · cases mq
    · rcases sp k c q' with ⟨rfl, rfl⟩ | ⟨hk, q'⟩
      · cases mq'
      · exact E.dist j k b c a' q mq q' mq' z z'
  · have ne : b ≠ a := fun e => by
      subst e
      rcases E.own i _ b h rfl hv with z | z
      · rw [z] at hb; cases hb
      · exact nr z
    rcases E.keep b w hb nr with z | ⟨ps, ps', e1, z⟩
    · exact .inl (by rw [upd_ne ne]; exact z)
    · exact .inr ⟨ps, ps', e1, by rw [upd_ne ne]; exact z⟩
  · obtain ⟨ps, h1, h2, h3⟩ := E.tabs pq hp
    have ne : pq.1 ≠ a := fun e => by
      rw [e, ho] at h1
      cases h1
    refine ⟨ps, by rw [upd_ne ne]; exact h1, h2, fun ps2 cv hcv => ?_⟩
    obtain ⟨cc, e1, e2⟩ := h3 ps2 cv hcv
    exact ⟨cc, e1, by rw [upd_ne (code_ne_lst ho e2)]; exact e2⟩
theorem su_freeze (i : Nat) {ds : List D} (h : SUs X g (ρ.set i (some (.dat (.lst ds)))) sts p) (hi : ρ[i]? = some (some (.own ds)) := by rfl) : SUs X g ρ sts p := by
  refine ⟨fun pins s σ H D I q => ?_⟩
  obtain ⟨v, h1, a, us, rfl, ho, r⟩ := q.1.at_ i _ hi
  obtain ⟨o, I2⟩ := inv_freeze I ho (.inl ⟨us, rfl⟩)
  obtain ⟨E2, x2⟩ := q.1.frozen (o := o) hi h1 ho r
  exact h.run pins s σ _ D I2 ⟨E2, fun r s K1 a1 a2 a3 => q.2.1 r s K1 a1 a2 (x2.trans a3), fun r bb v s K1 a1 a2 a3 a4 => q.2.2.1 r bb v s K1 a1 a2 (x2.trans a3) a4,
      fun r s K1 a1 a2 a3 => q.2.2.2.1 r s K1 a1 a2 (x2.trans a3), fun r s K1 a1 a2 a3 => q.2.2.2.2 r s K1 a1 a2 (x2.trans a3)⟩
/-- x.append(e), x a list of one's own -/
theorem su_append (L : LoD X N sc vs) (i : Nat) {x : Str} {d : D} {ds : List D} {apos cpos : Pos} (he : PU X g ρ e ρ d) (h : p.nx (ρ.set i (some (.own (ds ++ [d]))))) (hz : ds.length < sizeLine) (hi : ρ[i]? = some (some (.own ds)) := by rfl) (hN : N[i]? = some x := by rfl) (hm : i ∈ vs := by decide)
    (hst : starEach [e] X.env = (false, eval e X.env) :: starEach [] X.env := by rfl) (hbase : attributeBase (.Name x px) "append" X.env (eval (.Name x px) X.env) = eval (.Name x px) X.env := by rfl)
    (hfew : ((backTo cpos (starEach [e] X.env)).all (fun x => !x.1) && (backToKw cpos (keywordEach [] X.env)).all (fun x => x.1.isSome) && decide (([e] : List Expr).length + ([] : List Keyword).length + (if ([] : List Keyword).isEmpty then 0 else 1) < 30)) = true := by rfl)
    (hline : (apos.endLine == cpos.line) = true := by rfl) (hplain : (backTo cpos (starEach [] X.env)).any (·.1) = false := by rfl) (hsw : swapsWith (.Call (.Attribute (.Name x px) "append" apos) [e] [] cpos) none pos.line X.env = pure false := by rfl) :
    SU X g ρ (.Expr (.Call (.Attribute (.Name x px) "append" apos) [e] [] cpos) pos) p := by
  obtain ⟨h1, h2, h3⟩ := L.at_ hm hN
  refine ps_weak (ps_expr (pe_bm PySem.F.plainAttrs_list PySem.F.slot_list_append PySem.F.type_list_append mt_append (pe_var (i := i) (by rw [L.hN]; exact hN) (by rw [L.hs]; exact h1) h2 h3) (pa_cons he pa_nil hst) hbase hfew hline hst hplain) hsw) fun D σ H q => ?_
  obtain ⟨v, hv, a, us, rfl, ho, r⟩ := q.1.at_ i _ hi
  refine ⟨.ref a, hv, .inl ⟨rfl, _, .inl (.inl ho)⟩, q.1, fun w H1 E1 x1 r1 => ?_⟩
  obtain ⟨v', hv', a', us', rfl, ho', r'⟩ := E1.at_ i _ hi
  rw [hv] at hv'
  cases hv'
  obtain ⟨E2, x2⟩ := E1.change (b1 := .own (ds ++ [d])) (o' := .lst (us' ++ [w])) hi rfl rfl hv ho' (fun z => z) (fun _ z => by cases z) (fun P q c _ hc => code_ne_lst ho' hc) fun x => ⟨a, _, rfl, upd_same, (r'.append (.cons r1 .nil)).ext x⟩
  exact ⟨a, us', w, rfl, rfl, ho', by rw [r'.length]; exact hz, q.2.1 _ _ _ h E2 (x1.trans x2)⟩

/-! ### loops -/
/-- J walks the data ds while S holds -/
structure WalkD (X : Cx) (g : Gm) (J : It) (ds : List D) (S : Hp → Prop) : Prop where
  ext : ∀ {H H'}, S H → Ext H H' → S H'
  go : ∀ {i H}, S H → i < ds.length → J.go i H
  stop : ∀ {H}, S H → J.stop ds.length H
  yld : ∀ {i H x H'}, S H → i < ds.length → J.yld i H x H' → Same H H' ∧ ∃ d, ds[i]? = some d ∧ Rep X.K g.C H' x d
def uI (X : Cx) (g : Gm) (ρ ρ' : Rho) (ds : List D) : TI := fun σ H R => Hold X g ρ σ H ∧ ∀ J S H1, Hold X g ρ' σ H1 → Ext H H1 → WalkD X g J ds S → S H1 → R J H1
abbrev PIU (X : Cx) (g : Gm) (ρ : Rho) (tg iter : Expr) (ρ' : Rho) (ds : List D) : Prop := PI X tg iter (uI X g ρ ρ' ds)
theorem pi_weak {tg iter : Expr} {t t' : TI} (h : PI X tg iter t) (w : ∀ σ H R, t' σ H R → t σ H R) : PI X tg iter t' := ⟨fun pins s σ H R I q => h.run pins s σ H R I (w _ _ _ q)⟩
/-- S: the slots that the target stores -/
def uG (X : Cx) (g : Gm) (S : List Nat) (ρ ρ' : Rho) (d : D) : TG := fun v σ H Q => Hold X g ρ σ H ∧ Rep X.K g.C H v d ∧ ∀ σ' H', Hold X g ρ' σ' H' → Ext H H' → Same H H' → wipe σ' S = wipe σ S → Q σ' H'
/-- the target takes d, from ρ to ρ' -/
abbrev PGU (X : Cx) (g : Gm) (S : List Nat) (ρ : Rho) (tg : Expr) (d : D) (ρ' : Rho) : Prop := PG X tg (uG X g S ρ ρ' d)
theorem wipe_get {σ : L2.St} {S : List Nat} {j : Nat} : (wipe σ S)[j]? = if j ∈ S then (if j < σ.length then some none else none) else σ[j]? := by
  induction S with
  | nil => simp [wipe]
  | cons v S ih =>
    unfold wipe
    by_cases hv : v = j
    · subst hv
      rw [if_pos List.mem_cons_self]
      by_cases hl : v < σ.length
      · rw [if_pos hl, List.getElem?_set_self (by rw [wipe_length]; exact hl)]
      · rw [if_neg hl, List.getElem?_eq_none (by rw [List.length_set, wipe_length]; omega)]
    · rw [List.getElem?_set_ne hv, ih]
      have e : (j ∈ v :: S) ↔ j ∈ S := by simp [Ne.symm hv]
      simp only [e]
theorem wipe_set {σ : L2.St} {S : List Nat} {i : Nat} {v : Option V} (h : i ∈ S) : wipe (σ.set i v) S = wipe σ S := by
  apply List.ext_getElem?
  intro j
  rw [wipe_get, wipe_get, List.length_set]
  split
  · rfl
  · rw [List.getElem?_set_ne (fun e => by subst e; contradiction)]
theorem pg_weak {tg : Expr} {t t' : TG} (h : PG X tg t) (w : ∀ v σ H Q, t' v σ H Q → t v σ H Q) : PG X tg t' := ⟨fun pins s σ H v u Q I r q => h.run pins s σ H v u Q I r (w _ _ _ _ q)⟩
theorem pg_any {tg : Expr} {t : TG} (h : ∀ v σ H Q, t v σ H Q → ∃ t', PG X tg t' ∧ t' v σ H Q) : PG X tg t := ⟨fun pins s σ H v u Q I r q => by
  obtain ⟨t', h', q'⟩ := h _ _ _ _ q
  exact h'.run pins s σ H v u Q I r q'⟩
/-- what a name as a target asks -/
theorem pgu_name (L : Lo X N sc vs) (i : Nat) {x : Str} {d : D} (hf : X.fn x = true ∨ X.env.scope.names.lookup x = some .local) (hN : N[i]? = some x := by rfl) (hl : locC sc x = true := by decide +kernel) {S : List Nat} (hS : i ∈ S := by decide) : PGU X g S ρ (.Name x pos) d (ρ.set i (some (.dat d))) :=
  pg_weak (pg_name (i := i) (by rw [L.hN]; exact L.nd) (by rw [L.hN]; exact hN) (by rw [L.hs]; exact loc_of hl) hf) fun v σ H Q q => q.2.2 _ H (q.1.set q.2.1) (.refl H) (.refl H) (wipe_set hS)
theorem pgu_pair {S : List Nat} {ta tb : Expr} {k : Nat} {d1 d2 : D} (hc : X.calm = true) (h1 : PGU X g S ρ ta d1 ρ1) (h2 : PGU X g S ρ1 tb d2 ρ2) (hn : (assignEach [ta, tb] X.env).length = 2 := by rfl) (hst : (assignEach [ta, tb] X.env).findIdx? (·.1) = none := by rfl)
    (e1 : (assignEach [ta, tb] X.env).map (·.2) = assign ta X.env :: (assignEach [tb] X.env).map (·.2) := by rfl) (e2 : (assignEach [tb] X.env).map (·.2) = assign tb X.env :: (assignEach [] X.env).map (·.2) := by rfl) : PGU X g S ρ (.Tuple [ta, tb] k pos) (.tup [d1, d2]) ρ2 :=
  pg_weak (pg_tup hc (pgs_cons h1 (pgs_cons h2 pgs_nil e2) e1) hn hst) fun v σ H Q q => by
    obtain ⟨E, r, q⟩ := q
    cases r with
    | @tup p us _ s r =>
      cases r with
      | cons r1 t =>
        cases t with
        | cons r2 t =>
          cases t
          exact ⟨p, _, rfl, s, rfl, _, _, rfl, ⟨E, r1, fun σ1 H1 E1 x1 s1 w1 => ⟨_, _, rfl, ⟨E1, r2.ext x1, fun σ2 H2 E2 x2 s2 w2 => ⟨rfl, q σ2 H2 E2 (x1.trans x2) (s1.trans s2) (w2.trans w1)⟩⟩⟩⟩⟩
theorem piu_lst {tg : Expr} {ds : List D} (h : PU X g ρ e ρ1 (.lst ds)) : PIU X g ρ tg e ρ1 ds :=
  pi_weak (pi_list h) fun σ H R q => ⟨q.1, fun v H1 E1 x1 r1 => by
    cases r1 with
    | @lst a us _ s r =>
      refine ⟨a, rfl, ⟨us, s.sq⟩, q.2 _ (fun H => FrL H a us ∧ RepL X.K g.C H us ds) H1 E1 x1 ⟨fun q x => ⟨q.1.ext x, q.2.ext x⟩, fun {i H} q hi => ?_, fun q => ⟨us, q.1.sq, by rw [q.2.length]; exact Nat.le_refl _⟩, fun q _ y => ?_⟩ ⟨s, r⟩⟩
      · exact ⟨us, us[i]'(by rw [q.2.length]; exact hi), q.1.sq, List.getElem?_eq_getElem _⟩
      · obtain ⟨rfl, y⟩ := y
        exact ⟨.refl _, q.2.getv (y us q.1.sq)⟩⟩
theorem piu_tup {tg : Expr} {ds : List D} (h : PU X g ρ e ρ1 (.tup ds)) : PIU X g ρ tg e ρ1 ds :=
  pi_weak (pi_tup h) fun σ H R q => ⟨q.1, fun v H1 E1 x1 r1 => by
    cases r1 with
    | @tup a us _ s r =>
      refine ⟨a, rfl, ⟨us, s⟩, q.2 _ (fun H => SqT X.K H a us ∧ RepL X.K g.C H us ds) H1 E1 x1 ⟨fun q x => ⟨sqT_ext x q.1, q.2.ext x⟩, fun {i H} q hi => ?_, fun q => ⟨us, q.1, by rw [q.2.length]; exact Nat.le_refl _⟩, fun q _ y => ?_⟩ ⟨s, r⟩⟩
      · exact ⟨us, us[i]'(by rw [q.2.length]; exact hi), q.1, List.getElem?_eq_getElem _⟩
      · obtain ⟨rfl, y⟩ := y
        exact ⟨.refl _, q.2.getv (y us q.1)⟩⟩
/-- range(n) -/
theorem piu_range (L : Lo X N sc vs) {tg : Expr} {n : Int} {p1 : Pos} (h : PU X g ρ e ρ1 (.int n)) (hm : X.mg "range" = none) (h0 : 0 ≤ n) (h1 : n < 2 ^ 62) (hg : gloC sc "range" = true := by decide +kernel) (hs : starEach [e] X.env = [(false, eval e X.env)] := by rfl) :
    PIU X g ρ tg (.Call (.Name "range" p1) [e] [] pos) ρ1 ((List.range n.toNat).map fun (i : Nat) => D.int (i : Int)) :=
  pi_weak (pi_range1 (gl_of L hg) hm (pa_cons h pa_nil hs) hs) fun σ H R q => ⟨q.1, fun v H1 E1 x1 r1 => by
    cases r1
    refine ⟨n, rfl, by omega, h1, q.2 _ (fun _ => True) H1 E1 x1 ⟨fun _ _ => trivial, fun {i H} _ hi => ?_, fun _ => ?_, fun {i H x H'} _ hi y => ?_⟩ trivial⟩
    · show i < n.toNat
      simpa using hi
    · show n.toNat ≤ _
      simp
    · obtain ⟨rfl, rfl⟩ := y
      refine ⟨.refl _, ?_⟩
      rw [Int.zero_add]
      have hi : i < n.toNat := by simpa using hi
      exact ⟨.int (i : Int), by simp [hi], .int _⟩⟩
/-- for target in iter: P i what holds ahead of turn i -/
theorem su_for (L : LoD X N sc vs) {tg iter : Expr} {ds : List D} {S : List Nat} (T : Rho → D → Rho) (P : Nat → Rho → Prop) (hi : PIU X g ρ tg iter ρ1 ds) (hg : ∀ i d ρ', ds[i]? = some d → P i ρ' → PGU X g S ρ' tg d (T ρ' d)) (h0 : P 0 ρ1)
    (step : ∀ i d ρ', ds[i]? = some d → P i ρ' → SUs X g (T ρ' d) body { nx := P (i + 1), ct := P (i + 1), bk := p.nx, rt := p.rt }) (done : ∀ ρ', P ds.length ρ' → p.nx ρ')
    (hs : ∀ x, foldedSetIterable iter X.env x = pure x := by intro _; rfl) : SU X g ρ (.For tg iter body [] pos) p := by
  refine ps_weak (ps_for (g := fun v σ H Q => ∃ ρ' d, PGU X g S ρ' tg d (T ρ' d) ∧ uG X g S ρ' (T ρ' d) d v σ H Q) (tb := fun D σ H => ∃ ρ' q, SUs X g ρ' body q ∧ uS X g ρ' q D σ H) L.px L.calm hi (pg_any fun v σ H Q ⟨ρ', d, h1, h2⟩ => ⟨_, h1, h2⟩) (pss_any fun D σ H ⟨ρ', q, h1, h2⟩ => ⟨_, h1, h2⟩) hs) fun D σ H q => ?_
  refine ⟨q.1, fun J SH H1 E1 x1 W hS => ⟨fun i m σ H2 => m = ds.length - i ∧ i ≤ ds.length ∧ SH H2 ∧ Ext H H2 ∧ ∃ ρ', P i ρ' ∧ Hold X g ρ' σ H2, ⟨_, rfl, Nat.zero_le _, hS, x1, ρ1, h0, E1⟩, ?_⟩⟩
  rintro i m σ2 H2 ⟨rfl, hle, hS2, x2, ρ', hP, E2⟩
  by_cases hlt : i < ds.length
  · refine .inr ⟨W.go hS2 hlt, fun σ' H' => SH H' ∧ Ext H H' ∧ ∃ ρ'', P (i + 1) ρ'' ∧ Hold X g ρ'' σ' H', fun σ' H' ⟨a1, a2, a3⟩ => ⟨_, by omega, rfl, hlt, a1, a2, a3⟩, fun x H3 y => ?_⟩
    obtain ⟨s3, d, hd, r3⟩ := W.yld hS2 hlt y
    have x3 := x2.trans (.of_same s3)
    refine ⟨ρ', d, hg i d ρ' hd hP, E2.same s3, r3, fun σ4 H4 E4 x4 _ _ => ⟨T ρ' d, _, step i d ρ' hd hP, E4, ?_, ?_, ?_, ?_⟩⟩
    · exact fun r s K a1 a2 a3 => ⟨W.ext (W.ext (W.ext hS2 (.of_same s3)) x4) a3, (x3.trans x4).trans a3, r, a1, a2⟩
    · exact fun r bb v s K a1 a2 a3 a4 => q.2.2.1 r bb v s K a1 a2 ((x3.trans x4).trans a3) a4
    · exact fun r s K a1 a2 a3 => q.2.1 r s K a1 a2 ((x3.trans x4).trans a3)
    · exact fun r s K a1 a2 a3 => ⟨W.ext (W.ext (W.ext hS2 (.of_same s3)) x4) a3, (x3.trans x4).trans a3, r, a1, a2⟩
  · have e : i = ds.length := by omega
    subst e
    exact .inl ⟨W.stop hS2, q.2.1 ρ' σ2 H2 (done ρ' hP) E2 x2⟩
/-- while c: P what holds ahead of each turn, mu its measure -/
theorem su_while (L : LoD X N sc vs) (P : Nat → Rho → Prop) (n0 : Nat) (h0 : P n0 ρ) (step : ∀ n ρ', P n ρ' → ∃ k, PTU X g ρ' c ρ' k ∧ (k = true → SUs X g ρ' body { nx := fun r => ∃ m, m < n ∧ P m r, ct := fun r => ∃ m, m < n ∧ P m r, bk := p.nx, rt := p.rt }) ∧ (k = false → p.nx ρ')) :
    SU X g ρ (.While c body [] pos) p := by
  refine ps_weak (ps_while (tc := fun σ H Q => ∃ ρ' k, PTU X g ρ' c ρ' k ∧ uT X g ρ' ρ' k σ H Q) (tb := fun D σ H => ∃ ρ' q, SUs X g ρ' body q ∧ uS X g ρ' q D σ H) L.px ⟨fun pins s σ H Q I ⟨ρ', k, h1, h2⟩ => h1.run pins s σ H Q I h2⟩ (pss_any fun D σ H ⟨ρ', q, h1, h2⟩ => ⟨_, h1, h2⟩)) fun D σ H q => ?_
  refine ⟨fun m σ2 H2 => Ext H H2 ∧ ∃ ρ', P m ρ' ∧ Hold X g ρ' σ2 H2, ⟨n0, .refl H, ρ, h0, q.1⟩, ?_⟩
  rintro m σ2 H2 ⟨x2, ρ', hP, E2⟩
  obtain ⟨k, hc, ht, hf⟩ := step m ρ' hP
  refine ⟨ρ', k, hc, E2, fun H3 E3 x3 => ?_⟩
  cases k with
  | true =>
    refine ⟨fun σ' H' => ∃ m', m' < m ∧ Ext H H' ∧ ∃ ρ'', P m' ρ'' ∧ Hold X g ρ'' σ' H', fun σ' H' ⟨m', a1, a2, a3⟩ => ⟨m', a1, a2, a3⟩, ρ', _, ht rfl, E3, ?_, ?_, ?_, ?_⟩
    · exact fun r s K ⟨m', b1, b2⟩ a2 a3 => ⟨m', b1, (x2.trans x3).trans a3, r, b2, a2⟩
    · exact fun r bb v s K a1 a2 a3 a4 => q.2.2.1 r bb v s K a1 a2 ((x2.trans x3).trans a3) a4
    · exact fun r s K a1 a2 a3 => q.2.1 r s K a1 a2 ((x2.trans x3).trans a3)
    · exact fun r s K ⟨m', b1, b2⟩ a2 a3 => ⟨m', b1, (x2.trans x3).trans a3, r, b2, a2⟩
  | false => exact q.2.1 ρ' σ2 H3 (hf rfl) E3 (x2.trans x3)
end

/-! ### what a def promises -/
inductive BRepL (P : Program) (w : World) (K : PySem.W.Frag) (C : Addr) (H : Hp) : List Bd → List V → Prop
  | nil : BRepL P w K C H [] []
  | cons {b : Bd} {v : V} {bs : List Bd} {vs : List V} : BRep P w K C H b v → BRepL P w K C H bs vs → BRepL P w K C H (b :: bs) (v :: vs)
/-- nothing changes but the tables, and what R says -/
def KeepR (R : List Addr) (H H' : Hp) : Prop := ∀ b o, H b = some o → b ∉ R → H' b = some o ∨ ∃ ps ps', o = .tbl ps ∧ H' b = some (.tbl ps')
/-- data in, one binding out: pre (arguments) (what may come) -/
def spF (C : Addr) (T : List (Addr × Str)) (P : Program) (w : World) (K : PySem.W.Frag) (pre : List D → (Bd → Prop) → Prop) : Sp := fun vs H Q _ =>
  ∃ ds post, pre ds post ∧ LamX.Tabs T H ∧ RepL K C H vs ds ∧ ∀ b v H', post b → KeepR [] H H' → LamX.Tabs T H' → BRep P w K C H' b v → Q v H'
/-- the first argument is a list that is changed -/
def spR (C : Addr) (T : List (Addr × Str)) (P : Program) (w : World) (K : PySem.W.Frag) (pre : List D → List D → (List D → Bd → Prop) → Prop) : Sp := fun vs H Q _ =>
  ∃ a us row vs' ds post, pre row ds post ∧ vs = .ref a :: vs' ∧ H a = some (.lst us) ∧ RepL K C H us row ∧ LamX.Tabs T H ∧ RepL K C H vs' ds ∧
    ∀ row' b v us' H', post row' b → KeepR [a] H H' → H' a = some (.lst us') → RepL K C H' us' row' → LamX.Tabs T H' → BRep P w K C H' b v → Q v H'
section
variable {P : Program} {w : World} {K : PySem.W.Frag} {mg : Str → Option Value} {base : Heap}
theorem hold_start {X : Cx} {g : Gm} {N : List Str} {ds : List D} {us : List V} {H : Hp} (h : RepL X.K g.C H us ds) (hl : ds.length ≤ N.length) (e : g.H0 = H) (ht : LamX.Tabs g.T H) : Hold X g (ds.map (fun d => some (Bd.dat d)) ++ List.replicate (N.length - ds.length) none) (L2.start N us) H := by
  have hlen := h.length
  have get : ∀ (i : Nat) (b : Bd), (ds.map (fun d => some (Bd.dat d)) ++ List.replicate (N.length - ds.length) none)[i]? = some (some b) → ∃ d, ds[i]? = some d ∧ b = .dat d := fun i b q => by
    rw [List.getElem?_append] at q
    split at q
    · rename_i hi
      rw [List.getElem?_map] at q
      cases z : ds[i]? with
      | none => rw [z] at q; cases q
      | some d =>
        rw [z] at q
        simp at q
        exact ⟨d, rfl, q.symm⟩
    · rw [List.getElem?_replicate] at q
      split at q <;> simp at q
  refine ⟨fun i b q => ?_, fun i b a q m => ?_, fun i j b c a q m => ?_, fun b o q _ => .inl (by rw [← e]; exact q), ht, ?_⟩
  · obtain ⟨d, hd, rfl⟩ := get i b q
    obtain ⟨v, h1, h2⟩ := h.get hd
    refine ⟨v, ?_, h2⟩
    unfold L2.start
    rw [List.getElem?_append_left (by rw [List.length_map]; exact (List.getElem?_eq_some_iff.mp h1).1), List.getElem?_map, h1]
    rfl
  · obtain ⟨d, hd, rfl⟩ := get i b q
    cases m
  · obtain ⟨d, hd, rfl⟩ := get i b q
    cases m
  · unfold L2.start
    simp [hlen]
/-- THE RULE for a def of data -/
theorem fn_data {x qual : Str} {st : Stmt} {f : Addr} {fd : FuncData} {N ps : List Str} {k : Nat} {C : Addr} {T : List (Addr × Str)} {pre : List D → (Bd → Prop) → Prop} (vis : List Nat) (F : Fun K x qual st f fd) (S : FnScope N ps (defScope st)) (hlook : lookC N (defScope st) vis = true)
    (len : ∀ ds post, pre ds post → ds.length = ps.length) (hle : ps.length ≤ N.length)
    (body : ∀ (X : Cx), X.prog = P → X.w = w → X.K = K → X.mg = mg → X.base = base → LoD X N (defScope st) vis → Room k X.A → ∀ g : Gm, g.C = C → g.T = T → g.R = [] → ∀ ds post, pre ds post →
      SUs X g (ds.map (fun d => some (Bd.dat d)) ++ List.replicate (N.length - ds.length) none) (defBody st) { nx := fun _ => post (.dat .non), rt := fun _ b => post b }) : FnOk P w K mg base CX0 (k + 1) f fd ps (spF C T P w K pre) := by
  refine F.ok S (fun vs H Q E h => ?_) (fun cdv A outer s H vs Q E hr h => ?_)
  · obtain ⟨ds, post, h1, h2, h3, h4⟩ := h
    rw [h3.length]
    exact len ds post h1
  · obtain ⟨ds, post, h1, h2, h3, h4⟩ := h
    have L : LoD (cxOf CX0 P w K mg base N qual (defScope st) f cdv A outer s H E).nox N (defScope st) vis := ⟨⟨rfl, rfl, rfl, S.nd, hlook⟩, fun _ => rfl, PassesOwn.never, hr.units⟩
    refine ⟨_, body _ rfl rfl rfl rfl rfl L hr ⟨C, T, H, []⟩ rfl rfl rfl ds post h1, ?_⟩
    refine ⟨hold_start (X := (cxOf CX0 P w K mg base N qual (defScope st) f cdv A outer s H E).nox) (g := ⟨C, T, H, []⟩) h3 (by rw [len ds post h1]; exact hle) rfl h2, fun ρ' σ' H' hn E' _ => ?_, fun ρ' b v σ' H' hn E' _ r => ?_, fun _ _ _ z => z.elim, fun _ _ _ z => z.elim⟩
    · exact h4 (.dat .non) .non H' hn (fun b o hb nb => E'.keep b o hb nb) E'.tabs Rep.non
    · exact h4 b v H' hn (fun b o hb nb => E'.keep b o hb nb) E'.tabs r
end
end C66
end TP04
section TP05
set_option Elab.async false
set_option linter.all false
set_option maxRecDepth 100000
set_option maxHeartbeats 4000000
/-! P05: calls of the text's own defs. -/
namespace C66
open PySem PySem.Spec L2

/-- a def of data that is known: k its level, x its name -/
def Dfn (P : Program) (w : World) (K : PySem.W.Frag) (mg : Str → Option Value) (base : Heap) (C : Addr) (T : List (Addr × Str)) (k : Nat) (x : Str) (pre : List D → (Bd → Prop) → Prop) : Prop :=
  ∃ f fd ps, FnOk P w K mg base CX0 k f fd ps (spF C T P w K pre) ∧ mg x = some (.ref f) ∧ PySem.W.keepIn K (.ref f) = true ∧ Binds K fd ps []
def Dfr (P : Program) (w : World) (K : PySem.W.Frag) (mg : Str → Option Value) (base : Heap) (C : Addr) (T : List (Addr × Str)) (k : Nat) (x : Str) (pre : List D → List D → (List D → Bd → Prop) → Prop) : Prop :=
  ∃ f fd ps, FnOk P w K mg base CX0 k f fd ps (spR C T P w K pre) ∧ mg x = some (.ref f) ∧ PySem.W.keepIn K (.ref f) = true ∧ Binds K fd ps []
/-- one value, given by the arguments -/
def one (f : List D → Option D) : List D → (Bd → Prop) → Prop := fun ds post => ∃ d, f ds = some d ∧ post = fun b => b = .dat d

section
variable {X : Cx} {g : Gm} {ρ ρ1 ρ2 : Rho} {N : List Str} {sc : Scope} {vs : List Nat} {pos p px py : Pos} {a b c e : Expr} {es : List Expr} {x : Str} {k j : Nat} {pre : List D → (Bd → Prop) → Prop} {ds : List D} {d : D} {pp : Post}

theorem KeepR.ext {R : List Addr} {H H' : Hp} (k : KeepR R H H') (h : ∀ b ∈ R, ∀ o, H b = some o → ¬ Imm o) : Ext H H' := fun b o hb im => by
  rcases k b o hb (fun hr => h b hr o hb im) with z | ⟨ps, _, e, _⟩
  · exact z
  · subst e; cases im
theorem Hold.called {σ : L2.St} {H H' : Hp} (E : Hold X g ρ σ H) (kr : KeepR [] H H') (ht : LamX.Tabs g.T H') : Hold X g ρ σ H' ∧ Ext H H' := by
  have x := kr.ext (fun b hb => absurd hb (by simp))
  refine ⟨⟨fun i b q => ?_, E.own, E.dist, fun b o hb nr => ?_, ht, E.len⟩, x⟩
  · obtain ⟨v, h1, h2⟩ := E.at_ i b q
    refine ⟨v, h1, h2.ext x fun m a' o2 e hb => ?_⟩
    subst e
    obtain ⟨a2, o3, e3, h3, _, nt⟩ := h2.mine_at m
    cases e3
    rw [h3] at hb; cases hb
    rcases kr _ _ h3 (by simp) with z | ⟨ps, _, e, _⟩
    · exact z
    · exact absurd e (nt ps)
  · rcases E.keep b o hb nr with z | ⟨ps, ps', e1, z⟩
    · rcases kr _ _ z (by simp) with z' | ⟨qs, qs', e2, z'⟩
      · exact .inl z'
      · exact .inr ⟨qs, qs', e2, z'⟩
    · rcases kr _ _ z (by simp) with z' | ⟨qs, qs', e2, z'⟩
      · exact .inr ⟨ps, ps', e1, z'⟩
      · exact .inr ⟨ps, qs', e1, z'⟩
theorem Hold.calledR {σ : L2.St} {H H' : Hp} {i : Nat} {aa : Addr} {us us' : List V} {row row' : List D} (E : Hold X g ρ σ H) (h : ρ[i]? = some (some (.own row))) (hv : σ[i]? = some (some (.ref aa))) (ho : H aa = some (.lst us)) (kr : KeepR [aa] H H') (ho' : H' aa = some (.lst us'))
    (r' : RepL X.K g.C H' us' row') (ht : LamX.Tabs g.T H') : Hold X g (ρ.set i (some (.own row'))) σ H' ∧ Ext H H' := by
  have x := kr.ext (fun b hb o q im => by
    have e : b = aa := by simpa using hb
    subst e
    rw [ho] at q; cases q
    exact im)
  have hi : i < ρ.length := (List.getElem?_eq_some_iff.mp h).1
  have sp : ∀ (j : Nat) (b : Bd), (ρ.set i (some (.own row')))[j]? = some (some b) → (j = i ∧ b = .own row') ∨ (j ≠ i ∧ ρ[j]? = some (some b)) := fun j b q => by
    by_cases hj : i = j
    · subst hj
      rw [List.getElem?_set_self hi] at q
      cases q
      exact .inl ⟨rfl, rfl⟩
    · rw [List.getElem?_set_ne hj] at q
      exact .inr ⟨Ne.symm hj, q⟩
  have un : ∀ (j : Nat) (b : Bd), (ρ.set i (some (.own row')))[j]? = some (some b) → b.mine = true → ∃ b', ρ[j]? = some (some b') ∧ b'.mine = true := fun j b q mb => by
    rcases sp j b q with ⟨rfl, rfl⟩ | ⟨hj, q⟩
    · exact ⟨_, h, rfl⟩
    · exact ⟨b, q, mb⟩
  refine ⟨⟨fun j b q => ?_, fun j b a' q m z => ?_, fun j k b c a' q mq q' mq' z z' => ?_, fun b o hb nr => ?_, ht, by simp [E.len]⟩, x⟩
  · rcases sp j b q with ⟨rfl, rfl⟩ | ⟨hj, q⟩
    · exact ⟨_, hv, aa, us', rfl, ho', r'⟩
    · obtain ⟨v, h1, h2⟩ := E.at_ j b q
      refine ⟨v, h1, h2.ext x fun m a' o2 e hb => ?_⟩
      subst e
      obtain ⟨a2, o3, e3, h3, _, nt⟩ := h2.mine_at m
      cases e3
      rw [h3] at hb; cases hb
      have ne : a' ≠ aa := fun e => hj (E.dist j i b _ aa q m h rfl (by rw [h1, e]) hv)
      rcases kr _ _ h3 (by simpa using ne) with z | ⟨ps, _, e, _⟩
      · exact z
      · exact absurd e (nt ps)
  · obtain ⟨b', q1, m1⟩ := un j b q m
    exact E.own j b' a' q1 m1 z
  · obtain ⟨b', q1, m1⟩ := un j b q mq
    obtain ⟨c', q2, m2⟩ := un k c q' mq'
    exact E.dist j k b' c' a' q1 m1 q2 m2 z z'
  · have ne : b ≠ aa := fun e => by
      subst e
      rcases E.own i _ b h rfl hv with z | z
      · rw [z] at hb; cases hb
      · exact nr z
    rcases E.keep b o hb nr with z | ⟨ps, ps', e1, z⟩
    · rcases kr _ _ z (by simpa using ne) with z' | ⟨qs, qs', e2, z'⟩
      · exact .inl z'
      · exact .inr ⟨qs, qs', e2, z'⟩
    · rcases kr _ _ z (by simpa using ne) with z' | ⟨qs, qs', e2, z'⟩
      · exact .inr ⟨ps, ps', e1, z'⟩
      · exact .inr ⟨ps, qs', e1, z'⟩

/-- f(e, ..), one value -/
theorem pu_call (L : Lo X N sc vs) (G : Dfn X.prog X.w X.K X.mg X.base g.C g.T k x pre) (hr : Room k X.A) (ha : PAU X g ρ (e :: es) ρ1 ds) (hp : pre ds fun b => b = .dat d) (hg : gloC sc x = true := by decide +kernel) (hdb : (x == ("__debug__" : Str)) = false := by decide)
    (he : starEach (e :: es) X.env = (false, eval e X.env) :: starEach es X.env := by rfl) (hpl : (backTo pos (starEach es X.env)).any (·.1) = false := by rfl) : PU X g ρ (.Call (.Name x p) (e :: es) [] pos) ρ1 d := by
  obtain ⟨f, fd, ps, F, hm, hk, hb⟩ := G
  refine pe_weak (pe_call F hr (gl_of L hg) hm hk hb .nil pass0 ha hdb he hpl) fun σ H Q q => ⟨q.1, fun us H1 E1 x1 r1 => ?_⟩
  show spF g.C g.T X.prog X.w X.K pre (us ++ []) H1 _ E0
  rw [List.append_nil]
  refine ⟨ds, _, hp, E1.tabs, r1, fun b v H2 hb' kr ht r2 => ?_⟩
  subst hb'
  obtain ⟨E2, x2⟩ := E1.called kr ht
  exact q.2 v H2 E2 (x1.trans x2) r2
/-- f(e, ..) of a list of one's own that it changes: row, then row' -/
theorem pu_callR {preR : List D → List D → (List D → Bd → Prop) → Prop} (L : Lo X N sc vs) (i : Nat) {y : Str} {row row' : List D} (G : Dfr X.prog X.w X.K X.mg X.base g.C g.T k x preR) (hr : Room k X.A) (ha : PAU X g ρ es ρ1 ds)
    (hp : preR row ds fun r b => r = row' ∧ b = .dat d) (h0 : ∃ row0, ρ[i]? = some (some (.own row0))) (h1 : ρ1[i]? = some (some (.own row)) := by rfl) (hN : N[i]? = some y := by rfl) (hi : i ∈ vs := by decide) (hg : gloC sc x = true := by decide +kernel) (hdb : (x == ("__debug__" : Str)) = false := by decide)
    (he : starEach (.Name y py :: es) X.env = (false, eval (.Name y py) X.env) :: starEach es X.env := by rfl) (hpl : (backTo pos (starEach es X.env)).any (·.1) = false := by rfl) : PU X g ρ (.Call (.Name x p) (.Name y py :: es) [] pos) (ρ1.set i (some (.own row'))) d := by
  obtain ⟨f, fd, ps, F, hm, hk, hb⟩ := G
  obtain ⟨v1, v2, v3⟩ := L.at_ hi hN
  obtain ⟨row0, h0⟩ := h0
  refine pe_weak (pe_call F hr (gl_of L hg) hm hk hb .nil pass0 (pa_cons (pe_var (i := i) (by rw [L.hN]; exact hN) (by rw [L.hs]; exact v1) v2 v3) ha he) hdb he hpl) fun σ H Q q => ?_
  obtain ⟨v, hv, aa, us0, rfl, ho0, _⟩ := q.1.at_ i _ h0
  refine ⟨.ref aa, hv, q.1, fun us H1 E1 x1 r1 => ?_⟩
  show spR g.C g.T X.prog X.w X.K preR ((.ref aa :: us) ++ []) H1 Q E0
  rw [List.append_nil]
  obtain ⟨v', hv', aa', us1, rfl, ho1, rr⟩ := E1.at_ i _ h1
  rw [hv] at hv'
  cases hv'
  refine ⟨aa, us1, row, us, ds, _, hp, rfl, ho1, rr, E1.tabs, r1, fun rw_ b v us' H2 hb' kr ho' rr' ht r2 => ?_⟩
  obtain ⟨rfl, rfl⟩ := hb'
  obtain ⟨E2, x2⟩ := E1.calledR h1 hv ho1 kr ho' rr' ht
  exact q.2 v H2 E2 (x1.trans x2) r2
/-- y = f(e, ..), whatever of post comes -/
theorem su_call (L : LoD X N sc vs) (i : Nat) {y : Str} {post : Bd → Prop} (G : Dfn X.prog X.w X.K X.mg X.base g.C g.T k x pre) (hr : Room k X.A) (ha : PAU X g ρ (e :: es) ρ1 ds) (hp : pre ds post) (hm : ∀ b, post b → b.mine = false) (h : ∀ b, post b → pp.nx (ρ1.set i (some b))) (hg : gloC sc x = true := by decide +kernel) (hdb : (x == ("__debug__" : Str)) = false := by decide)
    (hN : N[i]? = some y := by rfl) (hl : locC sc y = true := by decide +kernel) (he : starEach (e :: es) X.env = (false, eval e X.env) :: starEach es X.env := by rfl) (hpl : (backTo px (starEach es X.env)).any (·.1) = false := by rfl)
    (hs : swapsWith (.Call (.Name x p) (e :: es) [] px) (some (.Name y py)) pos.line X.env = pure false := by rfl) : SU X g ρ (.Assign [.Name y py] (.Call (.Name x p) (e :: es) [] px) pos) pp := by
  obtain ⟨f, fd, ps, F, hmg, hk, hb⟩ := G
  refine ps_weak (ps_set (i := i) (by rw [L.hN]; exact L.nd) (by rw [L.hN]; exact hN) (by rw [L.hs]; exact loc_of hl) (pe_call F hr (gl_of L.toLo hg) hmg hk hb .nil pass0 ha hdb he hpl) hs (.inl (L.fn y))) fun D σ H q => ⟨q.1, fun us H1 E1 x1 r1 => ?_⟩
  show spF g.C g.T X.prog X.w X.K pre (us ++ []) H1 _ E0
  rw [List.append_nil]
  refine ⟨ds, _, hp, E1.tabs, r1, fun b v H2 hb' kr ht r2 => ?_⟩
  obtain ⟨E2, x2⟩ := E1.called kr ht
  refine q.2.1 _ _ H2 (h b hb') ?_ (x1.trans x2)
  -- the slot gets the binding
  have hmm := hm b hb'
  have sp : ∀ (j : Nat) (c : Bd), (ρ1.set i (some b))[j]? = some (some c) → (j = i ∧ c = b ∧ i < ρ1.length) ∨ (j ≠ i ∧ ρ1[j]? = some (some c)) := fun j c q => by
    by_cases hj : i = j
    · subst hj
      by_cases hi : i < ρ1.length
      · rw [List.getElem?_set_self hi] at q
        cases q
        exact .inl ⟨rfl, rfl, hi⟩
      · rw [List.getElem?_eq_none (by simpa using hi)] at q; cases q
    · rw [List.getElem?_set_ne hj] at q
      exact .inr ⟨Ne.symm hj, q⟩
  refine ⟨fun j c z => ?_, fun j c a' z m z' => ?_, fun j l c d' a' z m z' m' y y' => ?_, E2.keep, E2.tabs, by simp [E2.len]⟩
  · rcases sp j c z with ⟨rfl, rfl, hi⟩ | ⟨hj, z⟩
    · exact ⟨v, List.getElem?_set_self (by rw [E2.len]; exact hi), r2⟩
    · rw [List.getElem?_set_ne (Ne.symm hj)]
      exact E2.at_ j c z
  · rcases sp j c z with ⟨rfl, rfl, hi⟩ | ⟨hj, z⟩
    · rw [hmm] at m; cases m
    · rw [List.getElem?_set_ne (Ne.symm hj)] at z'
      exact E2.own j c a' z m z'
  · rcases sp j c z with ⟨rfl, rfl, hi⟩ | ⟨hj, z⟩
    · rw [hmm] at m; cases m
    · rcases sp l d' z' with ⟨rfl, rfl, hi⟩ | ⟨hl', z'⟩
      · rw [hmm] at m'; cases m'
      · rw [List.getElem?_set_ne (Ne.symm hj)] at y
        rw [List.getElem?_set_ne (Ne.symm hl')] at y'
        exact E2.dist j l c d' a' z m z' m' y y'
end
end C66
end TP05
section TP06
set_option Elab.async false
set_option linter.all false
set_option maxRecDepth 100000
set_option maxHeartbeats 4000000
/-! P06: list comprehensions over data. -/
namespace C66
open PySem PySem.Spec L2

theorem wipe_wipe {σ : L2.St} {S : List Nat} : wipe (wipe σ S) S = wipe σ S := by
  apply List.ext_getElem?
  intro j
  rw [wipe_get, wipe_get, wipe_length]
  split
  · rfl
  · rfl
/-- slots forgotten -/
def wipeR (ρ : Rho) : List Nat → Rho
  | [] => ρ
  | v :: vs => (wipeR ρ vs).set v none
theorem wipeR_length (ρ : Rho) : ∀ S, (wipeR ρ S).length = ρ.length
  | [] => rfl
  | v :: vs => by unfold wipeR; rw [List.length_set, wipeR_length ρ vs]
theorem wipeR_get {ρ : Rho} {S : List Nat} {j : Nat} {b : Bd} (h : (wipeR ρ S)[j]? = some (some b)) : ρ[j]? = some (some b) ∧ j ∉ S := by
  induction S with
  | nil => exact ⟨h, by simp⟩
  | cons v S ih =>
    unfold wipeR at h
    by_cases hv : v = j
    · subst hv
      by_cases hl : v < (wipeR ρ S).length
      · rw [List.getElem?_set_self hl] at h; cases h
      · rw [List.getElem?_eq_none (by rw [List.length_set]; omega)] at h; cases h
    · rw [List.getElem?_set_ne hv] at h
      obtain ⟨h1, h2⟩ := ih h
      exact ⟨h1, by simp only [List.mem_cons, not_or]; exact ⟨fun e => hv e.symm, h2⟩⟩
/-- the own objects of the slots -/
def ownAt (x : Option (Option Bd)) (y : Option (Option V)) : Option Addr := match x, y with
  | some (some b), some (some (V.ref a)) => if b.mine then some a else none
  | _, _ => none
def owns (ρ : Rho) (σ : L2.St) : List Addr := (List.range ρ.length).filterMap fun i => ownAt ρ[i]? σ[i]?
theorem mem_owns {ρ : Rho} {σ : L2.St} {a : Addr} : a ∈ owns ρ σ ↔ ∃ (i : Nat) (b : Bd), ρ[i]? = some (some b) ∧ b.mine = true ∧ σ[i]? = some (some (V.ref a)) := by
  unfold owns
  rw [List.mem_filterMap]
  constructor
  · rintro ⟨i, _, h⟩
    unfold ownAt at h
    split at h
    · rename_i b a' h1 h2
      split at h
      · cases h
        exact ⟨i, b, h1, by assumption, h2⟩
      · cases h
    · cases h
  · rintro ⟨i, b, h1, h2, h3⟩
    refine ⟨i, List.mem_range.mpr (List.getElem?_eq_some_iff.mp h1).1, ?_⟩
    rw [h1, h3]
    simp [ownAt, h2]
/-- nothing is told of the slots S -/
def Clean (ρ : Rho) (S : List Nat) : Prop := ∀ (i : Nat) (b : Bd), ρ[i]? = some (some b) → i ∉ S
theorem wipeR_clean (ρ : Rho) (S : List Nat) : Clean (wipeR ρ S) S := fun _ _ h => (wipeR_get h).2

section
variable {X : Cx} {g : Gm} {ρ ρ1 ρ2 : Rho} {N : List Str} {sc : Scope} {vs : List Nat} {pos px py : Pos} {a b c e : Expr}

/-- the context of a comprehension's block -/
abbrev Bk (X : Cx) (s : Shared) (H : Hp) (scope : Scope) (C : Addr) (cl : List (Str × Addr)) (fp : List Addr) : Cx := X.blk s H scope (compEnvC scope cl C X.env) fp
abbrev PTsU (X : Cx) (g : Gm) (ρ : Rho) (ifs : List Expr) (ρ' : Rho) (k : Bool) : Prop := PTs X ifs (uT X g ρ ρ' k)
theorem ptsu_nil : PTsU X g ρ [] ρ true := ⟨fun pins s σ H Q I q => pts_nil.run pins s σ H Q I (q.2 H q.1 (.refl H))⟩
theorem ptsu_one {k : Bool} (h : PTU X g ρ c ρ1 k) : PTsU X g ρ [c] ρ1 k := pts_one h
theorem pts_any {ifs : List Expr} {t : TT} (h : ∀ σ H Q, t σ H Q → ∃ t', PTs X ifs t' ∧ t' σ H Q) : PTs X ifs t := ⟨fun pins s σ H Q I q => by
  obtain ⟨t', h', q'⟩ := h _ _ _ q
  exact h'.run pins s σ H Q I q'⟩
/-- the same slots, what may be changed told anew -/
theorem Hold.rebase {σ : L2.St} {H : Hp} (E : Hold X g ρ σ H) : Hold X ⟨g.C, g.T, H, owns ρ σ⟩ ρ σ H :=
  ⟨E.at_, fun i b a h m q => .inr (mem_owns.mpr ⟨i, b, h, m, q⟩), E.dist, fun b o h _ => .inl h, E.tabs, E.len⟩
theorem Hold.blk {σ : L2.St} {H : Hp} (E : Hold X g ρ σ H) {s0 : Shared} {H0 : Hp} {sc0 : Scope} {C0 : Addr} {cl0 : List (Str × Addr)} {fp0 : List Addr} : Hold (Bk X s0 H0 sc0 C0 cl0 fp0) g ρ σ H := ⟨E.at_, E.own, E.dist, E.keep, E.tabs, E.len⟩
theorem Hold.unblk {σ : L2.St} {H : Hp} {s0 : Shared} {H0 : Hp} {sc0 : Scope} {C0 : Addr} {cl0 : List (Str × Addr)} {fp0 : List Addr} (E : Hold (Bk X s0 H0 sc0 C0 cl0 fp0) g ρ σ H) : Hold X g ρ σ H := ⟨E.at_, E.own, E.dist, E.keep, E.tabs, E.len⟩
/-- slots of the block's own forgotten -/
theorem Hold.wiped {σ : L2.St} {H : Hp} {S : List Nat} (E : Hold X g ρ σ H) (c : Clean ρ S) : Hold X g ρ (wipe σ S) H := by
  have hsl : ∀ {i : Nat} {b : Bd}, ρ[i]? = some (some b) → (wipe σ S)[i]? = σ[i]? := fun q => by rw [wipe_get, if_neg (c _ _ q)]
  exact ⟨fun i b q => by rw [hsl q]; exact E.at_ i b q, fun i b a q m z => by rw [hsl q] at z; exact E.own i b a q m z, fun i j b c a q m q' m' z z' => by rw [hsl q] at z; rw [hsl q'] at z'; exact E.dist i j b c a q m q' m' z z', E.keep, E.tabs, by rw [wipe_length]; exact E.len⟩
theorem Hold.unwiped {σ σ2 : L2.St} {H : Hp} {S : List Nat} (E : Hold X g ρ σ2 H) (c : Clean ρ S) (w : wipe σ2 S = wipe σ S) : Hold X g ρ σ H := by
  have hsl : ∀ {i : Nat} {b : Bd}, ρ[i]? = some (some b) → σ2[i]? = σ[i]? := fun {i b} q => by
    have e := congrArg (fun l : L2.St => l[i]?) w
    simp only [wipe_get, if_neg (c _ _ q)] at e
    exact e
  have hl : σ2.length = σ.length := by
    have e := congrArg List.length w
    rwa [wipe_length, wipe_length] at e
  exact ⟨fun i b q => by rw [← hsl q]; exact E.at_ i b q, fun i b a q m z => by rw [← hsl q] at z; exact E.own i b a q m z, fun i j b c a q m q' m' z z' => by rw [← hsl q] at z; rw [← hsl q'] at z'; exact E.dist i j b c a q m q' m' z z', E.keep, E.tabs, by rw [← hl]; exact E.len⟩
/-- back from a block's turn: g' told the heap Hb anew -/
theorem Hold.back {σ σ2 : L2.St} {Hb H' : Hp} {S : List Nat} {ρ' ρ3 : Rho} {p : Addr} {us : List V} (E0 : Hold X g ρ' σ Hb) (hp : Hb p = some (.lst us)) (hn : NotOwn ρ' σ p) (hg : g.H0 p = none ∨ p ∈ g.R)
    (E : Hold X ⟨g.C, g.T, Hb, owns ρ' σ⟩ ρ3 σ2 H') (w : wipe σ2 S = wipe σ S) (c : Clean ρ3 S) : Hold X g ρ3 σ H' ∧ H' p = some (.lst us) ∧ NotOwn ρ3 σ p := by
  have E1 : Hold X ⟨g.C, g.T, Hb, owns ρ' σ⟩ ρ3 σ H' := E.unwiped c w
  have inR : ∀ a, a ∈ owns ρ' σ → (g.H0 a = none ∨ a ∈ g.R) ∧ a ≠ p := fun a ha => by
    obtain ⟨i, b, h1, h2, h3⟩ := mem_owns.mp ha
    exact ⟨E0.own i b a h1 h2 h3, fun e => hn i b h1 h2 (by rw [h3, e])⟩
  refine ⟨⟨E1.at_, fun i b a q m z => ?_, E1.dist, fun b o hb nr => ?_, E1.tabs, E1.len⟩, ?_, fun i b q m z => ?_⟩
  · rcases E1.own i b a q m z with y | y
    · exact E0.fresh y
    · exact (inR a y).1
  · have nR : b ∉ owns ρ' σ := fun y => by
      rcases (inR b y).1 with z | z
      · rw [z] at hb; cases hb
      · exact nr z
    rcases E0.keep b o hb nr with z | ⟨ps, ps', e1, z⟩
    · rcases E1.keep b o z nR with z' | ⟨qs, qs', e2, z'⟩
      · exact .inl z'
      · exact .inr ⟨qs, qs', e2, z'⟩
    · rcases E1.keep b _ z nR with z' | ⟨qs, qs', e2, z'⟩
      · exact .inr ⟨ps, ps', e1, z'⟩
      · exact .inr ⟨ps, qs', e1, z'⟩
  · rcases E1.keep p _ hp (fun y => (inR p y).2 rfl) with z | ⟨ps, _, e, _⟩
    · exact z
    · cases e
  · rcases E1.own i b p q m z with y | y
    · rw [show Hb p = none from y] at hp; cases hp
    · exact (inR p y).2 rfl

/-- a comprehension's readings, told over data -/
def LcD (X : Cx) (g : Gm) (ρ ρ2 : Rho) (elt tg iter : Expr) (ifs : List Expr) (scope : Scope) (own : List (Str × Nat)) (out : List D) : Prop :=
  BlkOk X.N X.env.scope scope own ∧ ∃ wi gg tt te, PI X tg iter wi ∧ (∀ s H C cl fp, PG (Bk X s H scope C cl fp) tg gg) ∧ (∀ s H C cl fp, PTs (Bk X s H scope C cl fp) ifs tt) ∧ (∀ s H C cl fp, PE (Bk X s H scope C cl fp) elt te) ∧
    ∀ σ H Q, uN X g ρ ρ2 out σ H Q → tLc wi gg tt te (own.map (·.2)) σ H Q
theorem pn_of_lc (L : Lo X N sc vs) {elt tg iter : Expr} {ifs : List Expr} {scope : Scope} {own : List (Str × Nat)} {out : List D} (h : LcD X g ρ ρ2 elt tg iter ifs scope own out) (hfs : ∀ x, foldedSetIterable iter X.env x = pure x := by intro _; rfl) :
    PN X g ρ (.ListComp elt [⟨tg, iter, ifs, 0⟩] scope pos) ρ2 out := by
  obtain ⟨hbk, wi, gg, tt, te, h1, h2, h3, h4, h5⟩ := h
  exact pe_weak (pe_lc (own := own) L.calm (by rw [L.hN]; exact L.nd) h1 hbk h2 h3 h4 hfs) h5
/-- y = [..] on one line, y a local -/
theorem su_setLc (L : LoD X N sc vs) (i : Nat) {y : Str} {elt tg iter : Expr} {ifs : List Expr} {scope : Scope} {own : List (Str × Nat)} {out : List D} {spos : Pos} {p : Post} (h : LcD X g ρ ρ2 elt tg iter ifs scope own out) (hp : p.nx (ρ2.set i (some (.own out)))) (hN : N[i]? = some y := by rfl)
    (hl : sc.names.lookup y = some .local := by decide +kernel) (hk : sc.kind = .function := by rfl) (hln : (py.line == pos.line) = true := by rfl) (ha : (scope.names.any fun (n, k) => n == y && (k == .local || k == .cell)) = false := by decide +kernel)
    (hfs : ∀ x, foldedSetIterable iter X.env x = pure x := by intro _; rfl) : SU X g ρ (.Assign [.Name y py] (.ListComp elt [⟨tg, iter, ifs, 0⟩] scope pos) spos) p := by
  obtain ⟨hbk, wi, gg, tt, te, h1, h2, h3, h4, h5⟩ := h
  have nd : X.N.Nodup := by rw [L.hN]; exact L.nd
  refine ps_weak (ps_setLc (own := own) (i := i) L.calm nd (by rw [L.hN]; exact hN) (by rw [L.hs]; exact hl) (sw_true (by rw [L.hs]; exact hk) (by rw [L.hs]; exact hl) hln ha) h1 hbk h2 h3 h4 hfs) fun D σ H q => ?_
  exact h5 σ H _ ⟨q.1, fun a us H1 E1 x1 n no hg r1 => q.2.1 _ _ _ hp (E1.setOwn n no hg r1) x1⟩
/-- [elt for tg in iter if ..]: P i what holds ahead of turn i of the slots and of what is made so far -/
theorem lc_dataG (L : Lo X N sc vs) {elt tg iter : Expr} {ifs : List Expr} {scope : Scope} (own : List (Str × Nat)) (vs' : List Nat) {ds out : List D} (T : Rho → D → Rho) (P : Nat → Rho → List D → Prop) (hi : PIU X g ρ tg iter ρ1 ds)
    (hb : blkC N sc scope own = true) (hlk : lookC N (relS scope sc) vs' = true) (h0 : P 0 (wipeR ρ1 (own.map (·.2))) [])
    (step : ∀ i d ρ' acc, ds[i]? = some d → P i ρ' acc → ∃ k r ρ3, (∀ s H C cl fp H0 R, Lo (Bk X s H scope C cl fp) N (relS scope sc) vs' →
      PGU (Bk X s H scope C cl fp) ⟨g.C, g.T, H0, R⟩ (own.map (·.2)) ρ' tg d (T ρ' d) ∧ PTsU (Bk X s H scope C cl fp) ⟨g.C, g.T, H0, R⟩ (T ρ' d) ifs (T ρ' d) k ∧ (k = true → PU (Bk X s H scope C cl fp) ⟨g.C, g.T, H0, R⟩ (T ρ' d) elt ρ3 r)) ∧
        (k = false → P (i + 1) (wipeR (T ρ' d) (own.map (·.2))) acc) ∧ (k = true → P (i + 1) (wipeR ρ3 (own.map (·.2))) (acc ++ [r])))
    (done : ∀ ρ' acc, P ds.length ρ' acc → (∀ (i : Nat) (b : Bd), ρ2[i]? = some (some b) → ρ'[i]? = some (some b)) ∧ ρ2.length = ρ'.length ∧ acc = out) (hz : ds.length ≤ sizeLine)
    (hlen : ∀ i ρ' acc, P i ρ' acc → acc.length ≤ i ∧ Clean ρ' (own.map (·.2))) : LcD X g ρ ρ2 elt tg iter ifs scope own out := by
  have lo : ∀ s H C cl fp, Lo (Bk X s H scope C cl fp) N (relS scope sc) vs' := fun s H C cl fp => ⟨L.hN, by show relS scope X.env.scope = _; rw [L.hs], L.calm, L.nd, hlk⟩
  have hbk : BlkOk X.N X.env.scope scope own := by rw [L.hN, L.hs]; exact blkOk_by hb
  refine ⟨hbk, _, fun v σ H Q => ∃ (H0 : Hp) (R : List Addr) (ρ' : Rho) (d : D), (∀ s H C cl fp, PGU (Bk X s H scope C cl fp) ⟨g.C, g.T, H0, R⟩ (own.map (·.2)) ρ' tg d (T ρ' d)) ∧ uG X ⟨g.C, g.T, H0, R⟩ (own.map (·.2)) ρ' (T ρ' d) d v σ H Q,
    fun σ H Q => ∃ (H0 : Hp) (R : List Addr) (ρ' : Rho) (k : Bool), (∀ s H C cl fp, PTsU (Bk X s H scope C cl fp) ⟨g.C, g.T, H0, R⟩ ρ' ifs ρ' k) ∧ uT X ⟨g.C, g.T, H0, R⟩ ρ' ρ' k σ H Q,
    fun σ H Q => ∃ (H0 : Hp) (R : List Addr) (ρ' ρ3 : Rho) (r : D), (∀ s H C cl fp, PU (Bk X s H scope C cl fp) ⟨g.C, g.T, H0, R⟩ ρ' elt ρ3 r) ∧ uE X ⟨g.C, g.T, H0, R⟩ ρ' ρ3 r σ H Q, hi,
    fun s H C cl fp => pg_any fun v σ H' Q ⟨H0, R, ρ', d, h1, h2⟩ => ⟨_, h1 s H C cl fp, h2.1.blk, h2.2.1, fun σ' H' E => h2.2.2 σ' H' E.unblk⟩,
    fun s H C cl fp => pts_any fun σ H' Q ⟨H0, R, ρ', k, h1, h2⟩ => ⟨_, h1 s H C cl fp, h2.1.blk, fun H' E => h2.2 H' E.unblk⟩,
    fun s H C cl fp => pe_any fun σ H' Q ⟨H0, R, ρ', ρ3, r, h1, h2⟩ => ⟨_, h1 s H C cl fp, h2.1.blk, fun v H' E => h2.2 v H' E.unblk⟩, fun σ H Q q => ?_⟩
  refine ⟨q.1, fun J SH H1 E1 x1 W hS p np => ?_⟩
  have smp : Same H1 (upd H1 p (.lst [])) := fun b w hb => by rw [upd_ne (ne_of_none hb np)]; exact hb
  have hgp := E1.fresh np
  refine ⟨fun i m H2 => m = ds.length - i ∧ i ≤ ds.length ∧ SH H2 ∧ Ext H H2 ∧ ∃ ρ' acc us, P i ρ' acc ∧ Hold X g ρ' σ H2 ∧ H2 p = some (.lst us) ∧ RepL X.K g.C H2 us acc ∧ NotOwn ρ' σ p,
    ⟨_, rfl, Nat.zero_le _, W.ext hS (.of_same smp), x1.trans (.of_same smp), _, [], [], h0, (E1.same smp).weak (wipeR_length _ _) fun i b q => (wipeR_get q).1, upd_same, .nil, fun i b q m => E1.notOwn np i b (wipeR_get q).1 m⟩, ?_⟩
  rintro i m H2 ⟨rfl, hle, hS2, x2, ρ', acc, us, hP, E2, ho, r2, hno⟩
  obtain ⟨hal, hcl⟩ := hlen i ρ' acc hP
  by_cases hlt : i < ds.length
  · refine .inr ⟨W.go hS2 hlt, fun H' => SH H' ∧ Ext H H' ∧ ∃ ρ'' acc' us', P (i + 1) ρ'' acc' ∧ Hold X g ρ'' σ H' ∧ H' p = some (.lst us') ∧ RepL X.K g.C H' us' acc' ∧ NotOwn ρ'' σ p, fun H' z => ⟨_, by omega, rfl, hlt, z⟩, fun x H3 y => ?_⟩
    obtain ⟨s3, d, hd, r3⟩ := W.yld hS2 hlt y
    have E3 := E2.same s3
    have x3 := x2.trans (.of_same s3)
    have hS3 := W.ext hS2 (.of_same s3)
    have ho3 := s3 _ _ ho
    have E3w : Hold X ⟨g.C, g.T, H3, owns ρ' σ⟩ ρ' (wipe σ (own.map (·.2))) H3 := E3.rebase.wiped hcl
    obtain ⟨k, r, ρ3, hblk, kf, kt⟩ := step i d ρ' acc hd hP
    have st := fun s H C cl fp => hblk s H C cl fp H3 (owns ρ' σ) (lo s H C cl fp)
    refine ⟨H3, owns ρ' σ, ρ', d, fun s H C cl fp => (st s H C cl fp).1, E3w, r3, fun σ4 H4 E4 x4 s4 w4 => ?_⟩
    rw [wipe_wipe] at w4
    refine ⟨w4, H3, owns ρ' σ, T ρ' d, k, fun s H C cl fp => (st s H C cl fp).2.1, E4, fun H5 E5 x5 => ?_⟩
    have x35 : Ext H3 H5 := x4.trans x5
    cases k with
    | false =>
      have Ew : Hold X ⟨g.C, g.T, H3, owns ρ' σ⟩ (wipeR (T ρ' d) (own.map (·.2))) σ4 H5 := E5.weak (wipeR_length _ _) fun j b q => (wipeR_get q).1
      obtain ⟨a1, a2, a3⟩ := Hold.back E3 ho3 hno hgp Ew w4 (wipeR_clean _ _)
      exact ⟨W.ext hS3 x35, x3.trans x35, _, acc, us, kf rfl, a1, a2, (r2.ext (.of_same s3)).ext x35, a3⟩
    | true =>
      refine ⟨H3, owns ρ' σ, T ρ' d, ρ3, r, fun s H C cl fp => (st s H C cl fp).2.2 rfl, E5, fun w H6 E6 x6 r6 => ?_⟩
      have x36 : Ext H3 H6 := x35.trans x6
      have Ew : Hold X ⟨g.C, g.T, H3, owns ρ' σ⟩ (wipeR ρ3 (own.map (·.2))) σ4 H6 := E6.weak (wipeR_length _ _) fun j b q => (wipeR_get q).1
      obtain ⟨a1, a2, a3⟩ := Hold.back E3 ho3 hno hgp Ew w4 (wipeR_clean _ _)
      have r6' := (r2.ext (.of_same s3)).ext x36
      obtain ⟨E7, x7⟩ := a1.other (H' := upd H6 p (.lst (us ++ [w]))) a2 a3 hgp fun b e => upd_ne e
      exact ⟨us, a2, by rw [r2.length]; omega, W.ext (W.ext hS3 x36) x7, (x3.trans x36).trans x7, _, acc ++ [r], us ++ [w], kt rfl, E7, upd_same, (r6'.append (.cons r6 .nil)).ext x7, a3⟩
  · have ei : i = ds.length := by omega
    subst ei
    obtain ⟨hd1, hd2, rfl⟩ := done ρ' acc hP
    exact .inl ⟨W.stop hS2, q.2 p us H2 (E2.weak hd2 hd1) x2 ho (fun j b h m => hno j b (hd1 j b h) m) hgp r2⟩

/-- .. that changes no slot: each item's value, or none -/
theorem lc_data (L : Lo X N sc vs) {elt tg iter : Expr} {ifs : List Expr} {scope : Scope} (own : List (Str × Nat)) (vs' : List Nat) {ds : List D} (T : Rho → D → Rho) (f : D → Option D) (hi : PIU X g ρ tg iter ρ1 ds) (hcl : ∀ i ∈ own.map (·.2), ρ1[i]? = some none)
    (hT : ∀ d, wipeR (T ρ1 d) (own.map (·.2)) = ρ1)
    (step : ∀ s H C cl fp H0 R, Lo (Bk X s H scope C cl fp) N (relS scope sc) vs' → ∀ d ∈ ds, ∀ ρ', ρ' = ρ1 →
      PGU (Bk X s H scope C cl fp) ⟨g.C, g.T, H0, R⟩ (own.map (·.2)) ρ' tg d (T ρ' d) ∧ PTsU (Bk X s H scope C cl fp) ⟨g.C, g.T, H0, R⟩ (T ρ' d) ifs (T ρ' d) (f d).isSome ∧ (∀ r, f d = some r → PU (Bk X s H scope C cl fp) ⟨g.C, g.T, H0, R⟩ (T ρ' d) elt (T ρ' d) r))
    (hz : ds.length ≤ sizeLine) (hb : blkC N sc scope own = true := by decide +kernel) (hlk : lookC N (relS scope sc) vs' = true := by decide +kernel) : LcD X g ρ ρ1 elt tg iter ifs scope own (ds.filterMap f) := by
  have cl : Clean ρ1 (own.map (·.2)) := fun i b h hm => by rw [hcl i hm] at h; cases h
  have we : wipeR ρ1 (own.map (·.2)) = ρ1 := by
    have all : ∀ S : List Nat, (∀ i ∈ S, ρ1[i]? = some none) → wipeR ρ1 S = ρ1 := fun S => by
      induction S with
      | nil => intro _; rfl
      | cons v S ih =>
        intro h
        unfold wipeR
        rw [ih fun i hi => h i (List.mem_cons_of_mem _ hi)]
        apply List.ext_getElem?
        intro j
        by_cases hv : v = j
        · subst hv
          have e := h v List.mem_cons_self
          rw [List.getElem?_set_self (List.getElem?_eq_some_iff.mp e).1, e]
        · rw [List.getElem?_set_ne hv]
    exact all _ hcl
  refine lc_dataG L own vs' T (fun i ρ' acc => ρ' = ρ1 ∧ acc = (ds.take i).filterMap f) hi hb hlk ⟨we, by simp⟩ ?_ ?_ hz ?_
  · rintro i d ρ' acc hd ⟨rfl, rfl⟩
    have st := fun s H C cl fp H0 R L' => step s H C cl fp H0 R L' d (List.mem_of_getElem? hd) ρ' rfl
    have tk : ds.take (i + 1) = ds.take i ++ [d] := by rw [List.take_add_one, hd]; rfl
    cases q : f d with
    | none =>
      refine ⟨false, .non, ρ', fun s H C cl fp H0 R L' => ?_, fun _ => ⟨hT d, by rw [tk, List.filterMap_append]; simp [q]⟩, fun z => by cases z⟩
      have z := st s H C cl fp H0 R L'
      rw [q] at z
      exact ⟨z.1, z.2.1, fun z => by cases z⟩
    | some r =>
      refine ⟨true, r, T ρ' d, fun s H C cl fp H0 R L' => ?_, (fun z => by cases z), fun _ => ⟨hT d, by rw [tk, List.filterMap_append]; simp [q]⟩⟩
      have z := st s H C cl fp H0 R L'
      rw [q] at z
      exact ⟨z.1, z.2.1, fun _ => z.2.2 r rfl⟩
  · rintro ρ' acc ⟨rfl, rfl⟩
    exact ⟨fun _ _ h => h, rfl, by rw [List.take_length]⟩
  · rintro i ρ' acc ⟨rfl, rfl⟩
    exact ⟨Nat.le_trans (List.length_filterMap_le _ _) (by rw [List.length_take]; exact Nat.min_le_left _ _), cl⟩
theorem pn_lc (L : Lo X N sc vs) {elt tg iter : Expr} {ifs : List Expr} {scope : Scope} (own : List (Str × Nat)) (vs' : List Nat) {ds : List D} (T : Rho → D → Rho) (f : D → Option D) (hi : PIU X g ρ tg iter ρ1 ds) (hcl : ∀ i ∈ own.map (·.2), ρ1[i]? = some none)
    (hT : ∀ d, wipeR (T ρ1 d) (own.map (·.2)) = ρ1)
    (step : ∀ s H C cl fp H0 R, Lo (Bk X s H scope C cl fp) N (relS scope sc) vs' → ∀ d ∈ ds, ∀ ρ', ρ' = ρ1 →
      PGU (Bk X s H scope C cl fp) ⟨g.C, g.T, H0, R⟩ (own.map (·.2)) ρ' tg d (T ρ' d) ∧ PTsU (Bk X s H scope C cl fp) ⟨g.C, g.T, H0, R⟩ (T ρ' d) ifs (T ρ' d) (f d).isSome ∧ (∀ r, f d = some r → PU (Bk X s H scope C cl fp) ⟨g.C, g.T, H0, R⟩ (T ρ' d) elt (T ρ' d) r))
    (hz : ds.length ≤ sizeLine) (hb : blkC N sc scope own = true := by decide +kernel) (hlk : lookC N (relS scope sc) vs' = true := by decide +kernel) (hfs : ∀ x, foldedSetIterable iter X.env x = pure x := by intro _; rfl) : PN X g ρ (.ListComp elt [⟨tg, iter, ifs, 0⟩] scope pos) ρ1 (ds.filterMap f) :=
  pn_of_lc L (lc_data L own vs' T f hi hcl hT step hz hb hlk) hfs
end
end C66
end TP06
section TP07
set_option Elab.async false
set_option linter.all false
set_option maxRecDepth 100000
set_option maxHeartbeats 4000000
/-! P07: the text by places, what the top leaves. -/
namespace C66
open PySem PySem.Spec L2

def topS (i : Nat) : Stmt := PySem.Challenge.pw_classhouse_k66_whole_tables_judged.main.body.getD i (.Pass ⟨0, 0, 0, 0⟩)

/-! the rules where no slot changes -/
section
variable {X : Cx} {g : Gm} {ρ ρ1 ρ2 : Rho} {N : List Str} {sc : Scope} {vs : List Nat} {pos px py : Pos} {a b c e : Expr} {st : Stmt} {sts body orelse rest : List Stmt} {p : Post}
theorem s_ret {d : D} (he : PU X g ρ e ρ d) (h : p.rt ρ (.dat d)) : SU X g ρ (.Return (some e) pos) p := su_ret he h
theorem s_if {k : Bool} (hc : PTU X g ρ c ρ k) (ha : k = true → SUs X g ρ body p) (hb : k = false → SUs X g ρ orelse p) : SU X g ρ (.If c body orelse pos) p := su_if hc ha hb
/-- if c: .. that returns (or leaves otherwise), then the rest -/
theorem s_ifR {k : Bool} (hc : PTU X g ρ c ρ k) (ha : k = true → SUs X g ρ body { p with nx := fun _ => False }) (hb : k = false → SUs X g ρ rest p) : SUs X g ρ (.If c body [] pos :: rest) p :=
  su_cons (su_if hc (fun h => su_imp (ha h) (fun _ z => z.elim) (fun _ _ z => z) (fun _ z => z) fun _ z => z) fun h => su_nil (hb h))
theorem s_ifF {k : Bool} (hc : PTU X g ρ c ρ k) (hk : k = false) (hb : SUs X g ρ rest p) : SUs X g ρ (.If c body [] pos :: rest) p :=
  su_cons (su_if hc (fun h => by rw [hk] at h; cases h) fun _ => su_nil hb)
theorem s_ifT {k : Bool} (hc : PTU X g ρ c ρ k) (hk : k = true) (ha : SUs X g ρ body { p with nx := fun r => SUs X g r rest p }) : SUs X g ρ (.If c body orelse pos :: rest) p :=
  su_cons (su_if hc (fun _ => ha) fun h => by rw [hk] at h; cases h)
theorem s_retE {d d' : D} (he : PU X g ρ e ρ d) (hd : d = d') (h : p.rt ρ (.dat d')) : SU X g ρ (.Return (some e) pos) p := su_ret he (by rw [hd]; exact h)
theorem s_set (L : LoD X N sc vs) (i : Nat) {x : Str} {d : D} (he : PU X g ρ e ρ d) (h : SUs X g (ρ.set i (some (.dat d))) rest p) (hs : swapsWith e (some (.Name x px)) pos.line X.env = pure false := by rfl) (hN : N[i]? = some x := by rfl) (hl : locC sc x = true := by decide +kernel) :
    SUs X g ρ (.Assign [.Name x px] e pos :: rest) p := su_cons (su_set L i he h hs hN hl)
theorem s_setN (L : LoD X N sc vs) (i : Nat) {x : Str} {ds : List D} (he : PN X g ρ e ρ ds) (h : SUs X g (ρ.set i (some (.own ds))) rest p) (hs : swapsWith e (some (.Name x px)) pos.line X.env = pure false := by rfl) (hN : N[i]? = some x := by rfl) (hl : locC sc x = true := by decide +kernel) :
    SUs X g ρ (.Assign [.Name x px] e pos :: rest) p := su_cons (su_setN L i he h hs hN hl)
end

/-- what the top leaves, but for the defs -/
structure Txt (K : PySem.W.Frag) (C : Addr) (mg : Str → Option Value) : Prop where
  isinstance : mg "isinstance" = none
  int : mg "int" = none
  bool : mg "bool" = none
  str : mg "str" = none
  tuple : mg "tuple" = none
  list : mg "list" = none
  len : mg "len" = none
  all : mg "all" = none
  range : mg "range" = none
  enumerate : mg "enumerate" = none
  sorted : mg "sorted" = none
  set : mg "set" = none
  sum : mg "sum" = none
  min : mg "min" = none
  LETTERS : GlobD K C mg "LETTERS" (.str "abcdefghijklmnopqrstuvwxyz")
  MOST_CLASSES : GlobD K C mg "MOST_CLASSES" (.int 8)
  MOST_PARTS : GlobD K C mg "MOST_PARTS" (.int 4)
  MOST_STEPS : GlobD K C mg "MOST_STEPS" (.int 20)
  MOST_INS : GlobD K C mg "MOST_INS" (.int 3)
  LOCALS : GlobD K C mg "LOCALS" (.int 4)
  TOP : GlobD K C mg "TOP" (.str "top")
  NUM : GlobD K C mg "NUM" (.str "num")
  BARRED : GlobD K C mg "BARRED" (.tup ((["top", "num", "none", "odd", "unset"] : List Str).map D.str))
  BARE : GlobD K C mg "BARE" (.tup ((["none", "add", "less", "same", "give", "throw", "enter", "leave", "copy", "drop", "print"] : List Str).map D.str))
  ENDS : GlobD K C mg "ENDS" (.tup ((["give", "go", "throw"] : List Str).map D.str))
  MOST_HOLDS : GlobD K C mg "MOST_HOLDS" (.int 6)
  NOTHING : GlobD K C mg "NOTHING" (.tup [.int 0, .int 0, .int 0, .int 0])
end C66
end TP07
section TP08
set_option Elab.async false
set_option linter.all false
set_option maxRecDepth 100000
set_option maxHeartbeats 4000000
/-! P08: enumerate of a tuple, texts walked. -/
namespace C66
open PySem PySem.Spec L2
open PyProof.Rows (IsTup Call_)

theorem meets_enumT (a : Addr) (its : Array Value) (n : Nat) (dd : Option Addr) (sl : Array (Option Value)) :
    Meets (Builtin.«enumerate.__new__» ⟨[.type "enumerate", .ref a], []⟩) fun _ R s =>
      s.heap.get? a = some { cls := .type "tuple", dict := dd, data := .seq its n, slots := sl } ∧
      R (.ok (.ret (.ref (s.heap.push { cls := .type "tuple_iterator", data := .fields #[.ref a, .int 0 0] }).objs.size)))
        { s with heap := (s.heap.push { cls := .type "tuple_iterator", data := .fields #[.ref a, .int 0 0] }).push { cls := .type "enumerate", data := .fields #[.none, .bool false, .ref s.heap.objs.size, rawInt 0, .none, .none] } } := by
  refine .of_wp fun prog w A R s h => ?_
  obtain ⟨hp, gg, d, tk, os⟩ := s
  obtain ⟨hl, h⟩ := h
  have hsub := sub_enumerate
  have hT : Heap.IsTuple (Shared.heap ⟨hp, gg, d, tk, os⟩) a its := ⟨_, hl, rfl, n, rfl⟩
  wp_walk using AutoSeq1.wpAny_loadPart' hl
  refine wpAny_stack_any fun st => wpAny_pure ?_
  split
  · rename_i cc _ _ _ _ _
    cases (cc == Value.type "enumerate") <;> (wp_walk using AutoSeq1.wpAny_loadPart' hl, wpAny_pyIter_tuple hT; exact ⟨_, rfl, h⟩)
  · wp_walk using AutoSeq1.wpAny_loadPart' hl, wpAny_pyIter_tuple hT
    exact ⟨_, rfl, h⟩
section
variable {prog : Program} {w : World} {A : Around} {E : Value → Shared → Prop} {s : Shared}
theorem call_enumT {a : Addr} {its : Array Value} {Q : Value → Shared → Prop} (hT : IsTup s.heap a its)
    (h : ∀ h', IsEnum h' (s.heap.objs.size + 1) s.heap.objs.size 0 .none → h'.IsTupleIter s.heap.objs.size a 0 → (∀ b o, s.heap.get? b = some o → h'.get? b = some o) → Q (.ref (s.heap.objs.size + 1)) { s with heap := h' }) :
    wpAny (model prog w) A (call (.type "enumerate") [.ref a]) Q E s := by
  obtain ⟨⟨cc, dd, dt, sl⟩, hl, hc, n, hd⟩ := hT
  simp only at hc hd
  subst hc hd
  refine callType_new F.called_enumerate (by decide) (F.typeCall_enumerate_1 _) (F.newCall_enumerate_1 _) (fun obj => F.args_object_init_2 obj _) F.entry_enumerate_new (meets_enumT a its n dd sl) ⟨hl, ?_⟩
  generalize ho : ({ cls := .type "tuple_iterator", data := .fields #[.ref a, .int 0 0] } : Obj) = oi
  have hz : (s.heap.push oi).objs.size = s.heap.objs.size + 1 := Heap.size_push ..
  have hi : (s.heap.push oi).get? s.heap.objs.size = some oi := Heap.get?_push_size _ (by rw [← ho]; rfl)
  show _ ∧ _
  rw [hz]
  have he := Heap.get?_push_size (s.heap.push oi) (o := { cls := .type "enumerate", data := .fields #[.none, .bool false, .ref s.heap.objs.size, rawInt 0, .none, .none] }) rfl
  rw [hz] at he
  exact ⟨⟨_, he, rfl⟩, h _ he ⟨_, Heap.get?_push_of_some _ hi, by rw [← ho], by rw [← ho]; rfl⟩ fun b o x => Heap.get?_push_of_some _ (Heap.get?_push_of_some _ x)⟩
end
/-- the tuple at a, the items in new pairs -/
def IteT (K : PySem.W.Frag) (a : Addr) : It where
  go := fun i H => ∃ (xs : List V) (x : V), SqT K H a xs ∧ xs[i]? = some x
  yld := fun i H v H' => ∃ T x, v = .ref T ∧ H T = none ∧ H' = upd H T (.tup [.int (i : Nat), x]) ∧ ∀ xs, SqT K H a xs → xs[i]? = some x
  stop := fun i H => ∃ xs : List V, SqT K H a xs ∧ xs.length = i
theorem turn_enumT {P : Program} {w : World} {K : PySem.W.Frag} {elts : List Expr} {kk : Nat} {tpos : Pos} (a e it : Addr) :
    Turn P w K (.Tuple elts kk tpos) (IteT K a) [e, it] e (fun i h => (∃ old, IsEnum h e it ((i : Nat) : Int) old) ∧ h.IsTupleIter it a i ∧ e ≠ it) where
  mem := List.mem_cons_self
  obj := fun i h ⟨⟨old, he⟩, ⟨o, ho, _, hd⟩, _⟩ b hb => by
    simp only [List.mem_cons, List.not_mem_nil, or_false] at hb
    rcases hb with rfl | rfl
    · exact ⟨_, he, fun v q => nomatch q⟩
    · exact ⟨o, ho, fun v q => by rw [hd] at q; cases q⟩
  keep := fun i h h' ⟨⟨old, he⟩, hi, hne⟩ k => ⟨⟨old, k e List.mem_cons_self _ he⟩, hi.at fun o q => k it (by simp) o q, hne⟩
  item := by
    intro X hP hw hK hc i pins s σ H E I hf ⟨⟨old, he⟩, hit, hne⟩ ⟨xs, x, hq, hx⟩
    subst hP hw hK
    obtain ⟨its, rv, pt, hz⟩ := I.tuple hq
    obtain ⟨u, hu, ru⟩ := rv.get hx
    have hh := I.ok.hd hc
    have ha : ∃ o, s.heap.get? a = some o ∧ o.cls = .type "tuple" := by obtain ⟨o, h1, h2, _⟩ := pt; exact ⟨o, h1, h2⟩
    have nae : a ≠ e := fun z => by
      obtain ⟨o, h1, h2⟩ := ha
      rw [z, he] at h1; cases h1
      injection h2 with y; exact absurd y (by decide)
    have nai : a ≠ it := fun z => by
      obtain ⟨o, h1, h2⟩ := ha
      obtain ⟨o', h3, h4, _⟩ := hit
      rw [z, h3] at h1; cases h1
      rw [h4] at h2
      injection h2 with y; exact absurd y (by decide)
    have hel : e < s.heap.objs.size := Heap.lt_size he
    have hil : it < s.heap.objs.size := by obtain ⟨_, q, _⟩ := hit; exact Heap.lt_size q
    have hlt : i < its.toArray.size := by rw [List.size_toArray]; exact (List.getElem?_eq_some_iff.mp hu).1
    refine wpAny_pyNext_enum_itemD (Draws.tuple (A := X.A.in1) (prog := X.prog) (w := X.w) hh it a nai its.toArray) he ⟨hit, pt⟩ hlt hne (by simp [hne, Ne.symm nae]) fun x' h' tk hP' ho hst hT hsz hk => ?_
    have ex : x' = u := by
      have q : its[i]? = some x' := by simpa using hP'
      rw [hu] at q
      exact (Option.some.inj q).symm
    subst ex
    refine ⟨_, rfl, wpAny_letOwnedTupleGo_enum (s := { s with heap := h', toks := tk + 1 }) ho fun h'' he' sb => ?_⟩
    have hT2 := (sb.2 _ (Nat.ne_of_gt hel)).trans hT
    have new : ObjOk X.prog X.w (upd H s.heap.objs.size (.tup [.int (i : Nat), x])) h'' s.heap.objs.size (.tup [.int (i : Nat), x]) :=
      ⟨by show 2 ≤ sizeLine; decide, [.int i tk, x'], .cons ⟨_, rfl⟩ (.cons ru .nil), _, hT2, rfl, _, rfl⟩
    have hf2 : ∀ b ∈ [e, it], FpOk X pins H b := hf
    have I1 := Inv.turnedNew (t' := tk + 1) (ch := [e, it]) I (fun b ob hb q => (sb.2 b (fun z => hb (by simp [z]))).trans (hk b ob (fun z => hb (by simp [z])) (fun z => hb (by simp [z])) q)) hf2 (Nat.le_refl _) new
    refine ⟨.ref s.heap.objs.size, _, I1, rfl, ⟨_, x, rfl, I.hok.fresh (Nat.le_refl _), rfl, fun ys hy => by rw [I.tuple_inj hy hq]; exact hx⟩, ⟨⟨x', ?_⟩, hst.1.at fun o q => (sb.2 it (Ne.symm hne)).trans q, hne⟩, fun b hb => ?_⟩
    · rw [Int.natCast_add]
      exact he'
    · have hb' : b < s.heap.objs.size := by
        simp only [List.mem_cons, List.not_mem_nil, or_false] at hb
        rcases hb with rfl | rfl <;> assumption
      rw [upd_ne (Nat.ne_of_lt hb')]
      exact (hf b hb).1
  done := by
    intro X hP hw hK hc i pins s σ H E I hf ⟨⟨old, he⟩, hit, hne⟩ ⟨xs, hq, hx⟩
    subst hP hw hK
    obtain ⟨its, rv, pt, hz⟩ := I.tuple hq
    obtain ⟨f0, f1, f2, f3, f4, f5⟩ := hf it (by simp)
    have hl := rv.length
    have hh := I.ok.hd hc
    have ha : ∃ o, s.heap.get? a = some o ∧ o.cls = .type "tuple" := by obtain ⟨o, h1, h2, _⟩ := pt; exact ⟨o, h1, h2⟩
    have nai : a ≠ it := fun z => by
      obtain ⟨o, h1, h2⟩ := ha
      obtain ⟨o', h3, h4, _⟩ := hit
      rw [z, h3] at h1; cases h1
      rw [h4] at h2
      injection h2 with y; exact absurd y (by decide)
    refine wpAny_pyNext_enum_endD (Draws.tuple (A := X.A.in1) (prog := X.prog) (w := X.w) hh it a nai its.toArray) he ⟨?_, pt⟩ fun h' eb => ⟨rfl, I.turned (t' := s.toks) (fun b o hb q => eb b o hb q) f0 f1 f3 f4 f5⟩
    have ei : its.toArray.size = i := by rw [List.size_toArray]; omega
    rw [ei]; exact hit
  self := fun A i s Q E ⟨⟨_, he⟩, _⟩ h => wpAny_pyIter_enum he h
section
variable {X : Cx} {g : Gm} {ρ ρ1 ρ2 : Rho} {N : List Str} {sc : Scope} {vs : List Nat} {pos p px py : Pos} {a b c e : Expr}
/-- enumerate(t) of a tuple -/
def iEnumT (K : PySem.W.Frag) (ta : TA) : TI := fun σ H R => ta σ H fun vs H1 => ∃ a xs, vs = [.ref a] ∧ SqT K H1 a xs ∧ R (IteT K a) H1
theorem pi_enumT {ta : TA} {tpos : Pos} {elts : List Expr} {kk : Nat} (hg : Gl X "enumerate") (hm : X.mg "enumerate" = none) (ha : PA X [e] ta) (hs : starEach [e] X.env = [(false, eval e X.env)] := by rfl) :
    PI X (.Tuple elts kk tpos) (.Call (.Name "enumerate" p) [e] [] pos) (iEnumT X.K ta) := by
  refine ⟨fun pins s σ H R I h => ?_⟩
  refine Call_ (ld_blt I hg hm PyProof.Rows.boot_enumerate (PyProof.Rows.callWith_type1 (thn (ha.run pos pins s σ H _ I h) fun us s1 ⟨vs, H1, I1, r1, q1⟩ => ?_) hs rfl))
  obtain ⟨aa, xs, ex, hq, q⟩ := q1
  subst ex
  obtain rfl := Vals.ref1 r1
  obtain ⟨its, rv, pt, hz⟩ := I1.tuple hq
  refine call_enumT pt fun h' he hit hk => wpAny_pyIter_enum he ?_
  have I2 : Inv X pins σ H1 { s1 with heap := h' } := I1.kept (t' := s1.toks) hk
  refine ⟨s1.heap.objs.size + 1, [s1.heap.objs.size + 1, s1.heap.objs.size], _, _, H1, rfl, I2, turn_enumT aa (s1.heap.objs.size + 1) s1.heap.objs.size, ⟨⟨.none, he⟩, hit, Nat.succ_ne_self _⟩, fun b hb => ?_, q⟩
  have hle : s1.heap.objs.size ≤ b := by
    simp only [List.mem_cons, List.not_mem_nil, or_false] at hb
    rcases hb with rfl | rfl
    · exact Nat.le_succ _
    · exact Nat.le_refl _
  exact I1.fpOk hle (I1.hok.fresh hle)
def pairsD (ds : List D) : List D := (List.range ds.length).zipWith (fun (i : Nat) d => D.tup [.int (i : Int), d]) ds
theorem pairsD_get {ds : List D} {i : Nat} {d : D} (h : ds[i]? = some d) : (pairsD ds)[i]? = some (.tup [.int (i : Int), d]) := by
  have hi := (List.getElem?_eq_some_iff.mp h).1
  unfold pairsD
  rw [List.getElem?_zipWith, List.getElem?_range hi, h]
theorem pairsD_length {ds : List D} : (pairsD ds).length = ds.length := by simp [pairsD]
theorem pairsD_at {ds : List D} {i : Nat} {d : D} (h : (pairsD ds)[i]? = some d) : ∃ x, ds[i]? = some x ∧ d = .tup [.int (i : Int), x] := by
  have hi : i < ds.length := by
    have z := (List.getElem?_eq_some_iff.mp h).1
    rwa [pairsD_length] at z
  rw [pairsD_get (List.getElem?_eq_getElem hi)] at h
  exact ⟨_, List.getElem?_eq_getElem hi, (Option.some.inj h).symm⟩
theorem piu_enumT (L : Lo X N sc vs) {tpos : Pos} {elts : List Expr} {kk : Nat} {ds : List D} (h : PU X g ρ e ρ1 (.tup ds)) (hm : X.mg "enumerate" = none) (hg : gloC sc "enumerate" = true := by decide +kernel) (hs : starEach [e] X.env = [(false, eval e X.env)] := by rfl) :
    PIU X g ρ (.Tuple elts kk tpos) (.Call (.Name "enumerate" p) [e] [] pos) ρ1 (pairsD ds) :=
  pi_weak (pi_enumT (gl_of L hg) hm (pa_cons h pa_nil hs) hs) fun σ H R q => ⟨q.1, fun v H1 E1 x1 r1 => by
    cases r1 with
    | @tup aa us _ s r =>
      refine ⟨aa, us, rfl, s, q.2 _ (fun H => SqT X.K H aa us ∧ RepL X.K g.C H us ds) H1 E1 x1 ⟨fun q x => ⟨sqT_ext x q.1, q.2.ext x⟩, fun {i H} q hi => ?_, fun q => ⟨us, q.1, by rw [q.2.length, pairsD_length]⟩, fun {i H x H'} q hi y => ?_⟩ ⟨s, r⟩⟩
      · rw [pairsD_length] at hi
        exact ⟨us, us[i]'(by rw [q.2.length]; exact hi), q.1, List.getElem?_eq_getElem _⟩
      · obtain ⟨T, y', rfl, nT, rfl, y⟩ := y
        have sm : Same H (upd H T (.tup [.int (i : Nat), y'])) := fun b w hb => by rw [upd_ne (ne_of_none hb nT)]; exact hb
        obtain ⟨d, hd, rd⟩ := q.2.getv (y us q.1)
        exact ⟨sm, _, pairsD_get hd, .tup (.of upd_same) (.cons (.int _) (.cons (rd.ext (.of_same sm)) .nil))⟩⟩
/-- enumerate(l) of a list -/
theorem piu_enumL (L : Lo X N sc vs) {tpos : Pos} {elts : List Expr} {kk : Nat} {ds : List D} (h : PU X g ρ e ρ1 (.lst ds)) (hm : X.mg "enumerate" = none) (hg : gloC sc "enumerate" = true := by decide +kernel) (hs : starEach [e] X.env = [(false, eval e X.env)] := by rfl) :
    PIU X g ρ (.Tuple elts kk tpos) (.Call (.Name "enumerate" p) [e] [] pos) ρ1 (pairsD ds) :=
  pi_weak (pi_enum (gl_of L hg) hm (pa_cons h pa_nil hs) hs) fun σ H R q => ⟨q.1, fun v H1 E1 x1 r1 => by
    cases r1 with
    | @lst aa us _ s r =>
      refine ⟨aa, us, rfl, s.sq, q.2 _ (fun H => FrL H aa us ∧ RepL X.K g.C H us ds) H1 E1 x1 ⟨fun q x => ⟨q.1.ext x, q.2.ext x⟩, fun {i H} q hi => ?_, fun q => ⟨us, q.1.sq, by rw [q.2.length, pairsD_length]; exact Nat.le_refl _⟩, fun {i H x H'} q hi y => ?_⟩ ⟨s, r⟩⟩
      · rw [pairsD_length] at hi
        exact ⟨us, us[i]'(by rw [q.2.length]; exact hi), q.1.sq, List.getElem?_eq_getElem _⟩
      · obtain ⟨T, y', rfl, nT, rfl, y⟩ := y
        have sm : Same H (upd H T (.tup [.int (i : Nat), y'])) := fun b w hb => by rw [upd_ne (ne_of_none hb nT)]; exact hb
        obtain ⟨d, hd, rd⟩ := q.2.getv (y us q.1.sq)
        exact ⟨sm, _, pairsD_get hd, .tup (.of upd_same) (.cons (.int _) (.cons (rd.ext (.of_same sm)) .nil))⟩⟩
/-- the signs of a text -/
theorem piu_str {tg : Expr} {x : Str} (h : PU X g ρ e ρ1 (.str x)) : PIU X g ρ tg e ρ1 (x.cps.toList.map fun c => D.str ⟨#[c]⟩) :=
  pi_weak (pi_str h) fun σ H R q => ⟨q.1, fun v H1 E1 x1 r1 => by
    cases r1
    refine ⟨x, rfl, q.2 _ (fun _ => True) H1 E1 x1 ⟨fun _ _ => trivial, fun {i H} _ hi => ?_, fun _ => ?_, fun {i H v H'} _ hi y => ?_⟩ trivial⟩
    · show i < x.cps.size
      simpa using hi
    · show x.cps.size ≤ _
      simp
    · obtain ⟨rfl, cc, hc, rfl⟩ := y
      exact ⟨.refl _, .str ⟨#[cc]⟩, by rw [List.getElem?_map, Array.getElem?_toList, hc]; rfl, .str _⟩⟩
end
end C66
end TP08
section TP09
set_option Elab.async false
set_option linter.all false
set_option maxRecDepth 100000
set_option maxHeartbeats 4000000
/-! P09: slices, an instance's field, isinstance of the own class, a tuple times one. -/
namespace C66
open PySem PySem.Spec L2
open PyProof.Rows (IsTup Subscript_ tail_any subscriptTail)

section
variable {X : Cx} {g : Gm} {ρ ρ1 ρ2 ρ3 : Rho} {N : List Str} {sc : Scope} {vs : List Nat} {pos p p2 px py : Pos} {a b c e : Expr}
/-! ### slices -/
def cutD (ds : List D) (lo hi : Option Int) : List D := (ds.drop (HT.sIx ds.length 0 lo)).take (HT.sIx ds.length ds.length hi - HT.sIx ds.length 0 lo)
theorem cut_rep {K : PySem.W.Frag} {C : Addr} {H : Hp} {us : List V} {ds : List D} (r : RepL K C H us ds) (lo hi : Option Int) : RepL K C H (cutV us lo hi) (cutD ds lo hi) := by
  unfold cutV cutD
  rw [r.length]
  exact (r.drop _).take _
/-- a slice's part -/
def PartU (X : Cx) (g : Gm) (ρ : Rho) (e : Option Expr) (o : Option Int) : Prop := match e, o with
  | none, none => True
  | some e, some i => PU X g ρ e ρ (.int i)
  | _, _ => False
def uO (X : Cx) (g : Gm) (ρ : Rho) (o : Option Int) : TO := fun σ H Q => Hold X g ρ σ H ∧ ∀ H', Hold X g ρ σ H' → Ext H H' → Q o H'
theorem po_weak {e : Option Expr} {t t' : TO} (h : PO X e t) (w : ∀ σ H Q, t' σ H Q → t σ H Q) : PO X e t' := ⟨fun pins s σ H Q I q => h.run pins s σ H Q I (w _ _ _ q)⟩
theorem PartU.po {e : Option Expr} {o : Option Int} (h : PartU X g ρ e o) : PO X e (uO X g ρ o) := by
  cases e with
  | none =>
    cases o with
    | none => exact po_weak po_none fun σ H Q q => q.2 H q.1 (.refl H)
    | some i => exact h.elim
  | some e =>
    cases o with
    | none => exact h.elim
    | some i => exact po_weak (po_some (show PU X g ρ e ρ (.int i) from h)) fun σ H Q q => ⟨q.1, fun v H1 E1 x1 r1 => by
        cases r1
        exact ⟨i, rfl, q.2 H1 E1 x1⟩⟩
theorem pu_slT {ds : List D} {lo hi : Option Expr} {ol oh : Option Int} (ha : PU X g ρ a ρ (.tup ds)) (hl : PartU X g ρ lo ol) (hh : PartU X g ρ hi oh) : PU X g ρ (.Subscript a (.Slice lo hi none p2) pos) ρ (.tup (cutD ds ol oh)) :=
  pe_weak (pe_slice sl_tupA ha hl.po hh.po) fun σ H Q q => ⟨q.1, fun v H1 E1 x1 r1 => ⟨E1, fun H2 E2 x2 => ⟨E2, fun H3 E3 x3 => by
    have r := r1.ext (x2.trans x3)
    have x := (x1.trans x2).trans x3
    cases r with
    | @tup aa us _ s r =>
      refine ⟨aa, us, rfl, s, fun ⟨h1, h2⟩ => ?_, fun _ w n => ?_⟩
      · have e : cutD ds ol oh = ds := by
          unfold cutD
          rw [r.length] at h1 h2
          rw [h1, h2, List.drop_zero, Nat.sub_zero, List.take_length]
        rw [e] at q
        exact q.2 _ H3 E3 x (.tup s r)
      · have sm : Same H3 (upd H3 w (.tup (cutV us ol oh))) := fun b o hb => by rw [upd_ne (ne_of_none hb n)]; exact hb
        exact q.2 _ _ (E3.same sm) (x.trans (.of_same sm)) (.tup (.of upd_same) ((cut_rep r ol oh).ext (.of_same sm)))⟩⟩⟩
theorem pn_slL {ds : List D} {lo hi : Option Expr} {ol oh : Option Int} (ha : PU X g ρ a ρ (.lst ds)) (hl : PartU X g ρ lo ol) (hh : PartU X g ρ hi oh) : PN X g ρ (.Subscript a (.Slice lo hi none p2) pos) ρ (cutD ds ol oh) :=
  pe_weak (pe_slice sl_list ha hl.po hh.po) fun σ H Q q => ⟨q.1, fun v H1 E1 x1 r1 => ⟨E1, fun H2 E2 x2 => ⟨E2, fun H3 E3 x3 => by
    have r := r1.ext (x2.trans x3)
    have x := (x1.trans x2).trans x3
    cases r with
    | @lst aa us _ s r => exact ⟨aa, us, rfl, s.sq, fun w n => uN_new q E3 x n (cut_rep r ol oh)⟩⟩⟩⟩
theorem pn_revL {ds : List D} {k : Nat} {p1 p3 : Pos} (ha : PU X g ρ a ρ1 (.lst ds)) : PN X g ρ (.Subscript a (.Slice none none (some (.UnaryOp .USub (.Constant (.int 1) k p1) p2)) p3) pos) ρ1 ds.reverse :=
  pe_weak (pe_revL ha) fun σ H Q q => ⟨q.1, fun v H1 E1 x1 r1 => by
    cases r1 with
    | @lst aa us _ s r => exact ⟨aa, us, rfl, s.sq, fun w n => uN_new q E1 x1 n r.reverse⟩⟩
/-- t[::-1] of at most one item -/
theorem rev_applied {prog : Program} {w : World} {A : Around} {E : Value → Shared → Prop} {s : Shared} {sl : Addr} {vl vu v1 : Value} {n : Nat} {Q : Int × Int × Nat → Shared → Prop} (hs : s.heap.IsSliceOf sl vl vu v1) (pl : IsPart vl none) (pu : IsPart vu none) (ps : IsPart v1 (some (-1)))
    (h : Q ((n : Int) - 1, -1, Builtin.Slice.slicePlaces ((n : Int) - 1) (-1) (-1)) s) : wpAny (model prog w) A (Builtin.Slice.sliceApplied (.ref sl) (pure (n : Int))) Q E s := by
  obtain ⟨os, hos, hcs, hds⟩ := id hs
  unfold Builtin.Slice.sliceApplied Builtin.Slice.sliceFields
  refine wpAny_bind (wpAny_bind (wpAny_field hos hds (x := vl) rfl (wpAny_bind (wpAny_field hos hds (x := vu) rfl (wpAny_bind (wpAny_field hos hds (x := v1) rfl (wpAny_pure ?_)))))))
  refine wpAny_bind (HT.slicePart_ ps ?_)
  show wpAny _ _ (if ((-1 : Int) == 0) = true then _ else _) _ _ s
  rw [if_neg (by decide)]
  exact wpAny_bind (HT.slicePart_ pl (wpAny_bind (HT.slicePart_ pu (wpAny_bind (wpAny_pure (wpAny_pure h))))))
theorem pu_revT {ds : List D} {k : Nat} {p1 p3 : Pos} (ha : PU X g ρ a ρ1 (.tup ds)) (h1 : ds.length ≤ 1) : PU X g ρ (.Subscript a (.Slice none none (some (.UnaryOp .USub (.Constant (.int 1) k p1) p2)) p3) pos) ρ1 (.tup ds) := by
  refine ⟨fun pins s σ H Q I ⟨E, q⟩ => ?_⟩
  refine Subscript_ (thn (ha.run pins s σ H (fun v H1 => Hold X g ρ1 σ H1 ∧ Ext H H1 ∧ Rep X.K g.C H1 v (.tup ds)) I ⟨E, fun v H1 a b c => ⟨a, b, c⟩⟩) fun v s1 ⟨x, H1, I1, r1, E1, x1, q1⟩ => ?_)
  have hst : PO X (some (.UnaryOp .USub (.Constant (.int 1) k p1) p2)) (tPart (tUn (rU fun i => .int (-i)) (tC (.int 1)))) := po_some (pe_un un_neg pe_int)
  refine wpAny_Slice (thn (po_none.run pins s1 σ H1 (fun o H2 => o = none ∧ H2 = H1) I1 ⟨rfl, rfl⟩) fun vl s2 ⟨l, H2, I2, pl, el, e2⟩ => ?_)
  subst el e2
  refine thn (po_none.run pins s2 σ H2 (fun o H3 => o = none ∧ H3 = H2) I2 ⟨rfl, rfl⟩) fun vu s3 ⟨u, H3, I3, pu, eu, e3⟩ => ?_
  subst eu e3
  refine thn (hst.run pins s3 σ H3 (fun o H4 => o = some (-1) ∧ H4 = H3) I3 ⟨1, rfl, -1, rfl, rfl, rfl⟩) fun v1 s4 ⟨o, H4, I4, ps, eo, e4⟩ => ?_
  subst eo e4
  cases q1 with
  | @tup aa us _ hT r =>
    obtain rfl : v = Value.ref aa := r1
    have I5 : Inv X pins σ H4 { s4 with heap := s4.heap.push { cls := .type "slice", data := .fields #[vl, vu, v1] } } := I4.kept (t' := s4.toks) fun b ob z => Heap.get?_push_of_some _ z
    obtain ⟨its, rv, pt, hz⟩ := I5.tuple hT
    have hsl := Heap.IsSliceOf.new s4.heap vl vu v1
    have hlen : its.length = ds.length := by rw [← rv.length, r.length]
    have hTs : Shared.TypeIs { s4 with heap := s4.heap.push { cls := .type "slice", data := .fields #[vl, vu, v1] } } (.ref s4.heap.objs.size) "slice" := by
      obtain ⟨os, hos, hcs, _⟩ := id hsl
      exact ⟨os, hos, hcs⟩
    show wpAny (model X.prog X.w) X.A (subscriptTail a (.Slice none none (some (.UnaryOp .USub (.Constant (.int 1) k p1) p2)) p3) (.ref aa) (.ref s4.heap.objs.size)) _ X.xe _
    refine tail_any (ops := [.ref aa, .ref s4.heap.objs.size]) pt.typeIs PyProof.Rows.slot_tuple_getitem.lookup ?_ (by with_unfolding_all rfl)
    unfold getItem
    try with_reducible refine wpAny_holding ?_
    first | refine wpAny_bind (wpAny_pure ?_) | skip
    refine wpAny_bind (wpAny_sequenceKey pt.typeIs (by decide) ?_)
    refine wpAny_bind (wpAny_callSpecial?_slot (name := Str.ofString "__getitem__") pt.typeIs PyProof.Rows.slot_tuple_getitem
      (wpAny_call_entry PyProof.Rows.slot_tuple_getitem pt.typeIs PyProof.Rows.entry_tuple_getitem ?_ (PyProof.Rows.args_tuple_getitem _ _)))
    show wpAny _ _ (Builtin.Tuple.tupleItemsOf (.ref aa) >>= _) _ _ _
    refine wpAny_bind (PyProof.Rows.tupleItemsOf_ pt ?_)
    refine wpAny_bind (wpAny_typeOf hTs ?_)
    rw [if_pos (by decide)]
    refine wpAny_bind (rev_applied hsl pl pu ps ?_)
    have fin : ∀ arr : Array Value, arr = its.toArray → EP X pins σ Q (.ref (s4.heap.push { cls := .type "slice", data := .fields #[vl, vu, v1] }).objs.size) { s4 with heap := (s4.heap.push { cls := .type "slice", data := .fields #[vl, vu, v1] }).push { cls := .type "tuple", data := .seq arr } } := fun arr ea => by
      subst ea
      have nn := I5.hok.fresh (Nat.le_refl _)
      have sm : Same H4 (upd H4 (s4.heap.push { cls := .type "slice", data := .fields #[vl, vu, v1] }).objs.size (.tup us)) := fun b o hb => by rw [upd_ne (ne_of_none hb nn)]; exact hb
      exact ⟨.ref _, _, I5.laid (t' := s4.toks) (o := .tup us) (fun b ob z => Heap.get?_push_of_some _ z) (Nat.le_refl _) ⟨hz, its, rv, IsTup.new _ _⟩, rfl, q _ _ (E1.same sm) (x1.trans (.of_same sm)) (.tup (.of upd_same) (r.ext (.of_same sm)))⟩
    have hsz : sizeOk (.seq its.toArray) := by
      show its.toArray.size ≤ sizeLine
      rw [List.size_toArray, hlen]
      exact Nat.le_trans h1 (by decide)
    match its, hlen, fin, hsz with
    | [], _, fin, hsz => exact wpAny_bind (m := Builtin.Tuple.tupleExact _) (wpAny_newObj_type (wpAny_pure ⟨_, rfl, wpAny_pure (fin _ rfl)⟩) hsz)
    | [y], _, fin, hsz =>
      show wpAny _ _ (Builtin.Tuple.tupleExact ((List.range (Builtin.Slice.slicePlaces ((1 : Int) - 1) (-1) (-1))).filterMap fun (k : Nat) => (([y] : List Value).toArray)[((1 : Int) - 1 + (k : Int) * -1).toNat]?).toArray >>= _) _ _ _
      have e2 : ((List.range (Builtin.Slice.slicePlaces ((1 : Int) - 1) (-1) (-1))).filterMap fun (k : Nat) => (([y] : List Value).toArray)[((1 : Int) - 1 + (k : Int) * -1).toNat]?).toArray = ([y] : List Value).toArray := by
        rw [show Builtin.Slice.slicePlaces ((1 : Int) - 1) (-1) (-1) = 1 by decide]
        rfl
      rw [e2]
      exact wpAny_bind (m := Builtin.Tuple.tupleExact _) (wpAny_newObj_type (wpAny_pure ⟨_, rfl, wpAny_pure (fin _ rfl)⟩) hsz)
    | y :: z :: m, hl, _, _ => simp at hl; omega
end
end C66
end TP09
section TP10
set_option Elab.async false
set_option linter.all false
set_option maxRecDepth 100000
set_option maxHeartbeats 4000000
/-! P10: bindings in flight: several values at once, stored in several names. -/
namespace C66
open PySem PySem.Spec L2

section
variable {X : Cx} {g : Gm} {ρ ρ1 ρ2 ρ3 : Rho} {N : List Str} {sc : Scope} {vs : List Nat} {pos p p2 px py pz : Pos} {a b c e : Expr} {es : List Expr} {pp : Post}

/-- an own object that no slot holds yet -/
def FreshB (g : Gm) (ρ : Rho) (σ : L2.St) (b : Bd) (v : V) : Prop := b.mine = true → ∀ a, v = .ref a → NotOwn ρ σ a ∧ (g.H0 a = none ∨ a ∈ g.R)
theorem freshB_dat {σ : L2.St} {d : D} {v : V} : FreshB g ρ σ (.dat d) v := fun h => by cases h
theorem Hold.setB {σ : L2.St} {H : Hp} (E : Hold X g ρ σ H) {i : Nat} {v : V} {b : Bd} (r : BRep X.prog X.w X.K g.C H b v) (f : FreshB g ρ σ b v) : Hold X g (ρ.set i (some b)) (σ.set i (some v)) H := by
  have sp : ∀ (j : Nat) (c : Bd), (ρ.set i (some b))[j]? = some (some c) → (j = i ∧ c = b ∧ i < ρ.length) ∨ (j ≠ i ∧ ρ[j]? = some (some c)) := fun j c q => by
    by_cases hj : i = j
    · subst hj
      by_cases hi : i < ρ.length
      · rw [List.getElem?_set_self hi] at q
        cases q
        exact .inl ⟨rfl, rfl, hi⟩
      · rw [List.getElem?_eq_none (by simpa using hi)] at q; cases q
    · rw [List.getElem?_set_ne hj] at q
      exact .inr ⟨Ne.symm hj, q⟩
  refine ⟨fun j c z => ?_, fun j c a' z m z' => ?_, fun j l c d' a' z m z' m' y y' => ?_, E.keep, E.tabs, by simp [E.len]⟩
  · rcases sp j c z with ⟨rfl, rfl, hi⟩ | ⟨hj, z⟩
    · exact ⟨v, List.getElem?_set_self (by rw [E.len]; exact hi), r⟩
    · rw [List.getElem?_set_ne (Ne.symm hj)]
      exact E.at_ j c z
  · rcases sp j c z with ⟨rfl, rfl, hi⟩ | ⟨hj, z⟩
    · rw [List.getElem?_set_self (by rw [E.len]; exact hi)] at z'
      exact (f m a' (Option.some.inj (Option.some.inj z'))).2
    · rw [List.getElem?_set_ne (Ne.symm hj)] at z'
      exact E.own j c a' z m z'
  · rcases sp j c z with ⟨e1, rfl, hi⟩ | ⟨hj, z⟩
    · rw [e1, List.getElem?_set_self (by rw [E.len]; exact hi)] at y
      rcases sp l d' z' with ⟨e2, _, _⟩ | ⟨hl, z'⟩
      · rw [e1, e2]
      · rw [List.getElem?_set_ne (Ne.symm hl)] at y'
        exact absurd y' ((f m a' (Option.some.inj (Option.some.inj y))).1 l d' z' m')
    · rw [List.getElem?_set_ne (Ne.symm hj)] at y
      rcases sp l d' z' with ⟨e2, e3, hi⟩ | ⟨hl, z'⟩
      · rw [e2, List.getElem?_set_self (by rw [E.len]; exact hi)] at y'
        rw [e3] at m'
        exact absurd y ((f m' a' (Option.some.inj (Option.some.inj y'))).1 j c z m)
      · rw [List.getElem?_set_ne (Ne.symm hl)] at y'
        exact E.dist j l c d' a' z m z' m' y y'
/-- an expression whose value is a binding -/
def uB (X : Cx) (g : Gm) (ρ ρ' : Rho) (b : Bd) : TE := fun σ H Q => Hold X g ρ σ H ∧ ∀ v H', Hold X g ρ' σ H' → Ext H H' → BRep X.prog X.w X.K g.C H' b v → FreshB g ρ' σ b v → Q v H'
abbrev PB (X : Cx) (g : Gm) (ρ : Rho) (e : Expr) (ρ' : Rho) (b : Bd) : Prop := PE X e (uB X g ρ ρ' b)
theorem pb_dat {d : D} (h : PU X g ρ e ρ1 d) : PB X g ρ e ρ1 (.dat d) := pe_weak h fun σ H Q q => ⟨q.1, fun v H1 E1 x1 r1 => q.2 v H1 E1 x1 r1 freshB_dat⟩
theorem pb_own {ds : List D} (h : PN X g ρ e ρ1 ds) : PB X g ρ e ρ1 (.own ds) := pe_weak h fun σ H Q q => ⟨q.1, fun a us H1 E1 x1 ho no hg r => q.2 (.ref a) H1 E1 x1 ⟨a, us, rfl, ho, r⟩ fun _ a' e => by cases e; exact ⟨no, hg⟩⟩
/-- several: each in flight while the next ones are reckoned -/
inductive FreshL (g : Gm) (ρ : Rho) (σ : L2.St) : List Bd → List V → Prop
  | nil : FreshL g ρ σ [] []
  | cons {b : Bd} {v : V} {bs : List Bd} {vs : List V} : FreshB g ρ σ b v → (b.mine = true → ∀ (j : Nat) (b' : Bd) (a : Addr), bs[j]? = some b' → b'.mine = true → vs[j]? = some (V.ref a) → v ≠ V.ref a) → FreshL g ρ σ bs vs → FreshL g ρ σ (b :: bs) (v :: vs)
def uAB (X : Cx) (g : Gm) (ρ : Rho) (bs : List Bd) : TA := fun σ H Q => Hold X g ρ σ H ∧ ∀ vs H', Hold X g ρ σ H' → Ext H H' → BRepL X.prog X.w X.K g.C H' bs vs → FreshL g ρ σ bs vs → Q vs H'
abbrev PAB (X : Cx) (g : Gm) (ρ : Rho) (es : List Expr) (bs : List Bd) : Prop := PA X es (uAB X g ρ bs)
theorem pab_nil : PAB X g ρ [] [] := pa_weak pa_nil fun σ H Q q => q.2 [] H q.1 (.refl H) .nil .nil
theorem BRepL.at_ {P : Program} {w : World} {K : PySem.W.Frag} {C : Addr} {H : Hp} : ∀ {bs : List Bd} {vs : List V} {j : Nat} {b : Bd}, BRepL P w K C H bs vs → bs[j]? = some b → ∃ v, vs[j]? = some v ∧ BRep P w K C H b v
  | _, _, _, _, .nil, h => by simp at h
  | _, _, 0, _, .cons r _, h => by
    simp at h; subst h
    exact ⟨_, rfl, r⟩
  | _, _, j + 1, _, .cons _ t, h => by
    obtain ⟨v, h1, h2⟩ := BRepL.at_ (j := j) t (by simpa using h)
    exact ⟨v, by simpa using h1, h2⟩
theorem FreshL.mono {σ : L2.St} {g' : Gm} {bs : List Bd} {us : List V} (f : FreshL g' ρ σ bs us) (h : ∀ b v, FreshB g' ρ σ b v → FreshB g ρ σ b v) : FreshL g ρ σ bs us := by
  induction f with
  | nil => exact .nil
  | cons a b _ ih => exact .cons (h _ _ a) b ih
theorem FreshL.at_ {σ : L2.St} {bs : List Bd} {us : List V} (f : FreshL g ρ σ bs us) {j : Nat} {b : Bd} {v : V} (h1 : bs[j]? = some b) (h2 : us[j]? = some v) : FreshB g ρ σ b v := by
  induction f generalizing j with
  | nil => simp at h1
  | cons a _ _ ih =>
    cases j with
    | zero =>
      simp at h1 h2
      subst h1 h2
      exact a
    | succ j => exact ih (by simpa using h1) (by simpa using h2)
/-- behind the turn of what is reckoned while an own object is in flight -/
theorem Hold.flight {σ : L2.St} {Hb H' : Hp} {v : V} {b : Bd} (E0 : Hold X g ρ σ Hb) (r : BRep X.prog X.w X.K g.C Hb b v) (f : FreshB g ρ σ b v) (E : Hold X ⟨g.C, g.T, Hb, owns ρ σ⟩ ρ σ H') (x : Ext Hb H') :
    Hold X g ρ σ H' ∧ BRep X.prog X.w X.K g.C H' b v ∧ (∀ (b' : Bd) (v' : V), FreshB ⟨g.C, g.T, Hb, owns ρ σ⟩ ρ σ b' v' → FreshB g ρ σ b' v' ∧ (b'.mine = true → b.mine = true → ∀ a, v' = .ref a → v ≠ .ref a)) := by
  have inR : ∀ a, a ∈ owns ρ σ → (g.H0 a = none ∨ a ∈ g.R) := fun a ha => by
    obtain ⟨i, b, h1, h2, h3⟩ := mem_owns.mp ha
    exact E0.own i b a h1 h2 h3
  have cond : ∀ a, (Hb a = none ∨ a ∈ owns ρ σ) → (g.H0 a = none ∨ a ∈ g.R) := fun a y => y.elim (fun y => E0.fresh y) (inR a)
  refine ⟨⟨E.at_, fun i b a q m z => cond a (E.own i b a q m z), E.dist, fun bb o hb nr => ?_, E.tabs, E.len⟩, r.ext x fun m a o e ho => ?_, fun b' v' f' => ⟨fun m a e => ⟨(f' m a e).1, cond a (f' m a e).2⟩, fun m' m a e e2 => ?_⟩⟩
  · have nR : bb ∉ owns ρ σ := fun y => by
      rcases inR bb y with z | z
      · rw [z] at hb; cases hb
      · exact nr z
    rcases E0.keep bb o hb nr with z | ⟨ps, ps', e1, z⟩
    · rcases E.keep bb o z nR with z' | ⟨qs, qs', e2, z'⟩
      · exact .inl z'
      · exact .inr ⟨qs, qs', e2, z'⟩
    · rcases E.keep bb _ z nR with z' | ⟨qs, qs', e2, z'⟩
      · exact .inr ⟨ps, ps', e1, z'⟩
      · exact .inr ⟨ps, qs', e1, z'⟩
  · obtain ⟨a2, o2, e2, h2, _, nt⟩ := r.mine_at m
    rw [e] at e2; cases e2
    rw [h2] at ho; cases ho
    rcases E.keep a _ h2 (fun y => by
      obtain ⟨i, b1, y1, y2, y3⟩ := mem_owns.mp y
      exact (f m a e).1 i b1 y1 y2 y3) with z | ⟨ps, _, e3, _⟩
    · exact z
    · exact absurd e3 (nt ps)
  · obtain ⟨a2, o2, e3, h2, _, nt⟩ := r.mine_at m
    rw [e2] at e3; cases e3
    rcases (f' m' a e).2 with z | z
    · rw [show Hb a = none from z] at h2; cases h2
    · obtain ⟨i, b1, y1, y2, y3⟩ := mem_owns.mp z
      exact (f m a e2).1 i b1 y1 y2 y3
theorem pab_cons {b0 : Bd} {bs : List Bd} (ha : PB X g ρ e ρ1 b0) (hr : ∀ H0 R, PAB X ⟨g.C, g.T, H0, R⟩ ρ1 es bs) (e1 : ρ1 = ρ) (hs : starEach (e :: es) X.env = (false, eval e X.env) :: starEach es X.env := by rfl) : PAB X g ρ (e :: es) (b0 :: bs) := by
  subst e1
  refine pa_weak (pa_cons (t := fun σ H Q => ∃ H0 R, uAB X ⟨g.C, g.T, H0, R⟩ ρ1 bs σ H Q) ha ⟨fun pos pins s σ H Q I ⟨H0, R, q⟩ => (hr H0 R).run pos pins s σ H Q I q⟩ hs) fun σ H Q q => ⟨q.1, fun v H1 E1 x1 r1 f1 => ⟨H1, owns ρ1 σ, E1.rebase, fun us H2 E2 x2 r2 f2 => ?_⟩⟩
  obtain ⟨a1, a2, a3⟩ := E1.flight r1 f1 E2 x2
  refine q.2 _ H2 a1 (x1.trans x2) (.cons a2 r2) (.cons f1 (fun m j b' aa h1 m' h2 => ?_) (f2.mono fun b v f => (a3 b v f).1))
  exact (a3 b' _ (f2.at_ h1 h2)).2 m' m aa rfl
/-- x, y = e1, e2: one name behind the other -/
theorem FreshB.set {σ : L2.St} {i : Nat} {b0 b : Bd} {v0 v : V} (f : FreshB g ρ σ b v) (ne : b.mine = true → b0.mine = true → ∀ a, v = .ref a → v0 ≠ .ref a) (hl : σ.length = ρ.length) : FreshB g (ρ.set i (some b0)) (σ.set i (some v0)) b v := fun m a e => ⟨fun j c q mc z => by
  by_cases hj : i = j
  · subst hj
    by_cases hi : i < ρ.length
    · rw [List.getElem?_set_self hi] at q
      rw [List.getElem?_set_self (by rw [hl]; exact hi)] at z
      cases q
      cases z
      exact ne m mc a e rfl
    · rw [List.getElem?_eq_none (by simpa using hi)] at q; cases q
  · rw [List.getElem?_set_ne hj] at q z
    exact (f m a e).1 j c q mc z, (f m a e).2⟩
theorem su_two (L : LoD X N sc vs) (i j : Nat) {x y : Str} {b1 b2 : Bd} {k k2 : Nat} {pt pt2 : Pos} (ha : PAB X g ρ [a, b] [b1, b2]) (hij : i ≠ j) (h : pp.nx ((ρ.set i (some b1)).set j (some b2)))
    (hw : swappedStores [.Tuple [.Name x px, .Name y py] k pt] (.Tuple [a, b] k2 pt2) X.env = pure (some [x, y])) (hi : N[i]? = some x := by rfl) (hj : N[j]? = some y := by rfl) (hx : sc.names.lookup x = some .local := by decide +kernel) (hy : sc.names.lookup y = some .local := by decide +kernel)
    (hs : swapsWithSole [.Tuple [.Name x px, .Name y py] k pt] (.Tuple [a, b] k2 pt2) pos.line X.env = pure false := by rfl) : SU X g ρ (.Assign [.Tuple [.Name x px, .Name y py] k pt] (.Tuple [a, b] k2 pt2) pos) pp :=
  ps_weak (ps_par (i := i) (j := j) L.calm (by rw [L.hN]; exact L.nd) (by rw [L.hN]; exact hi) (by rw [L.hN]; exact hj) hij (by rw [L.hs]; exact hx) (by rw [L.hs]; exact hy) ha hw hs) fun D σ H q => ⟨q.1, fun us H1 E1 x1 r1 f1 => by
    cases r1 with
    | cons r1 t =>
      cases t with
      | cons r2 t =>
        cases t
        cases f1 with
        | cons f1 ne f2 =>
          cases f2 with
          | cons f2 _ _ =>
            refine ⟨_, _, rfl, q.2.1 _ _ H1 h ((E1.setB r1 f1).setB r2 (f2.set (fun m2 m1 aa e => ?_) E1.len)) x1⟩
            exact ne m1 0 _ aa rfl m2 (by simpa using e)⟩
/-- the same by a tuple that is laid (a captured name among the targets) -/
theorem su_twoG (L : LoD X N sc vs) (i j : Nat) {x y : Str} {b1 b2 : Bd} {k k2 : Nat} {pt pt2 : Pos} (ha : PAB X g ρ [a, b] [b1, b2]) (h : pp.nx ((ρ.set i (some b1)).set j (some b2))) (hi : N[i]? = some x := by rfl) (hj : N[j]? = some y := by rfl) (hx : locC sc x = true := by decide +kernel) (hy : locC sc y = true := by decide +kernel)
    (hw : swappedStores [.Tuple [.Name x px, .Name y py] k pt] (.Tuple [a, b] k2 pt2) X.env = pure none) (hs : swapsWithSole [.Tuple [.Name x px, .Name y py] k pt] (.Tuple [a, b] k2 pt2) pos.line X.env = pure false := by rfl)
    (h1 : (assignEach [.Tuple [.Name x px, .Name y py] k pt] X.env).map (·.2) = [assign (.Tuple [.Name x px, .Name y py] k pt) X.env] := by rfl) (e1 : (assignEach [.Name x px, .Name y py] X.env).map (·.2) = assign (.Name x px) X.env :: (assignEach [.Name y py] X.env).map (·.2) := by rfl)
    (e2 : (assignEach [.Name y py] X.env).map (·.2) = assign (.Name y py) X.env :: (assignEach [] X.env).map (·.2) := by rfl) (hn : (assignEach [.Name x px, .Name y py] X.env).length = 2 := by rfl) (hst : (assignEach [.Name x px, .Name y py] X.env).findIdx? (·.1) = none := by rfl) :
    SU X g ρ (.Assign [.Tuple [.Name x px, .Name y py] k pt] (.Tuple [a, b] k2 pt2) pos) pp := by
  have nd : X.N.Nodup := by rw [L.hN]; exact L.nd
  refine ps_weak (ps_asg (pe_tup ha) (pg_tup L.calm (pgs_cons (pg_name (i := i) nd (by rw [L.hN]; exact hi) (by rw [L.hs]; exact loc_of hx) (.inl (L.fn x))) (pgs_cons (pg_name (i := j) nd (by rw [L.hN]; exact hj) (by rw [L.hs]; exact loc_of hy) (.inl (L.fn y))) pgs_nil e2) e1) hn hst) hs hw h1) fun D σ H q => ⟨q.1, fun us H1 E1 x1 r1 f1 => ?_⟩
  cases r1 with
  | cons r1 t =>
    cases t with
    | cons r2 t =>
      cases t
      cases f1 with
      | cons f1 ne f2 =>
        cases f2 with
        | cons f2 _ _ =>
          refine ⟨by show 2 ≤ sizeLine; decide, fun w n => ⟨w, _, rfl, .of upd_same, rfl, _, _, rfl, _, _, rfl, rfl, ?_⟩⟩
          have E2 := (E1.setB (i := i) r1 f1).setB (i := j) r2 (f2.set (fun m2 m1 aa e => ne m1 0 _ aa rfl m2 (by simpa using e)) E1.len)
          refine q.2.1 _ _ _ h (E2.same fun bb o hb => ?_) (x1.trans (.of_same fun bb o hb => ?_)) <;> (rw [upd_ne (ne_of_none hb n)]; exact hb)
/-- x, y = e of a pair of data -/
theorem su_unpack (L : LoD X N sc vs) (i j : Nat) {x y : Str} {d1 d2 : D} {k : Nat} {pt : Pos} (ha : PU X g ρ e ρ1 (.tup [d1, d2])) (h : pp.nx ((ρ1.set i (some (.dat d1))).set j (some (.dat d2)))) (hi : N[i]? = some x := by rfl) (hj : N[j]? = some y := by rfl) (hx : locC sc x = true := by decide +kernel) (hy : locC sc y = true := by decide +kernel)
    (hw : swappedStores [.Tuple [.Name x px, .Name y py] k pt] e X.env = pure none := by rfl) (hs : swapsWithSole [.Tuple [.Name x px, .Name y py] k pt] e pos.line X.env = pure false := by rfl)
    (h1 : (assignEach [.Tuple [.Name x px, .Name y py] k pt] X.env).map (·.2) = [assign (.Tuple [.Name x px, .Name y py] k pt) X.env] := by rfl) (e1 : (assignEach [.Name x px, .Name y py] X.env).map (·.2) = assign (.Name x px) X.env :: (assignEach [.Name y py] X.env).map (·.2) := by rfl)
    (e2 : (assignEach [.Name y py] X.env).map (·.2) = assign (.Name y py) X.env :: (assignEach [] X.env).map (·.2) := by rfl) (hn : (assignEach [.Name x px, .Name y py] X.env).length = 2 := by rfl) (hst : (assignEach [.Name x px, .Name y py] X.env).findIdx? (·.1) = none := by rfl) :
    SU X g ρ (.Assign [.Tuple [.Name x px, .Name y py] k pt] e pos) pp :=
  ps_weak (ps_asg ha (pgu_pair (S := [i, j]) (d1 := d1) (d2 := d2) (ρ := ρ1) (ρ1 := ρ1.set i (some (.dat d1))) L.calm (pgu_name L.toLo i (.inl (L.fn x)) hi hx (by simp)) (pgu_name L.toLo j (.inl (L.fn y)) hj hy (by simp)) hn hst e1 e2) hs hw h1) fun D σ H q =>
    ⟨q.1, fun v H1 E1 x1 r1 => ⟨E1, r1, fun σ' H' E' x' _ _ => q.2.1 _ _ _ h E' (x1.trans x')⟩⟩
end
end C66
end TP10
section TP11
set_option Elab.async false
set_option linter.all false
set_option maxRecDepth 100000
set_option maxHeartbeats 4000000
/-! P11: the own class, a list of one's own stored by place, list(t). -/
namespace C66
open PySem PySem.Spec L2

/-- what the class of the houses is -/
structure HTxt (K : PySem.W.Frag) (C : Addr) (mg : Str → Option Value) : Prop where
  gl : mg "House" = some (.ref C)
  cls : Cls K C
  na : NoAttr K C "told"
  ha : PySem.W.findIn K (.ref C) "__class__" = some (some (.builtin "object.__class__"))
  hn : PySem.W.specialIn K (.builtin "object.__class__") "__get__" = some (some (.builtin "getset_descriptor.__get__"))
  htk : PySem.W.takesIn K (.builtin "object.__class__") = some true
  hm : PySem.W.mroIn K C (.type "object") = some true
  kit : PySem.W.kitOne K (.ref C) (.ref C) = some true
section
variable {X : Cx} {g : Gm} {ρ ρ1 ρ2 ρ3 : Rho} {N : List Str} {sc : Scope} {vs : List Nat} {pos p p2 px py pz : Pos} {a b c e : Expr} {es : List Expr} {pp : Post}
theorem pu_told (T : HTxt X.K g.C X.mg) {d : D} (ha : PU X g ρ e ρ1 (.hou d)) (hb : attributeBase e "told" X.env (eval e X.env) = eval e X.env := by rfl) : PU X g ρ (.Attribute e "told" pos) ρ1 d :=
  pe_weak (pe_fld ha hb) fun σ H Q q => ⟨q.1, fun v H1 E1 x1 r1 => by
    cases r1 with
    | @hou aa dx v d h r => exact ⟨aa, g.C, dx, _, v, rfl, h, T.cls, T.na, rfl, q.2 v H1 E1 x1 r⟩⟩
theorem pu_isHou (L : Lo X N sc vs) (T : HTxt X.K g.C X.mg) {d : D} (ha : PU X g ρ e ρ1 (.hou d)) (hm : X.mg "isinstance" = none) (hgx : gloC sc "House" = true := by decide +kernel) (hg : gloC sc "isinstance" = true := by decide +kernel)
    (he : starEach [e, .Name "House" px] X.env = (false, eval e X.env) :: starEach [.Name "House" px] X.env := by rfl) (he2 : starEach [.Name "House" px] X.env = (false, eval (.Name "House" px) X.env) :: starEach [] X.env := by rfl)
    (hpl : (backTo pos (starEach [.Name "House" px] X.env)).any (·.1) = false := by rfl) : PU X g ρ (.Call (.Name "isinstance" p) [e, .Name "House" px] [] pos) ρ1 (.bl true) :=
  pe_weak (pe_callB call_isi (gl_of L hg) hm (by decide +kernel) (pa_cons ha (pa_cons (pe_glob (v := .ref g.C) (gl_of L hgx) T.gl rfl) pa_nil he2) he) (by decide) (by decide) he hpl) fun σ H Q q =>
    ⟨q.1, fun v H1 E1 x1 r1 => by
      cases r1 with
      | @hou aa dx v d h r => exact ⟨.ref aa, .ref g.C, .ref g.C, .ref g.C, true, rfl, .own g.C, .base (.ins h T.cls T.ha T.hn T.htk T.hm), T.kit, q.2 _ H1 E1 x1 (.bl _)⟩⟩

/-! ### lists of one's own -/
theorem op_ix {n : Nat} {i : Int} (h0 : 0 ≤ i) (h1 : i < n) : ixN n i = some i.toNat := by
  unfold ixN
  rw [if_pos h0, if_pos h1]
/-- x[i] = e -/
theorem su_put (L : LoD X N sc vs) (j : Nat) {x : Str} {d : D} {ds : List D} {i : Int} (he : PU X g ρ e ρ d) (hb : PU X g ρ b ρ (.int i)) (h0 : 0 ≤ i) (h1 : i < ds.length) (h : pp.nx (ρ.set j (some (.own (ds.set i.toNat d))))) (hj : ρ[j]? = some (some (.own ds)) := by rfl) (hN : N[j]? = some x := by rfl) (hi : j ∈ vs := by decide)
    (ha : ∀ v, assign (.Subscript (.Name x px) b py) X.env v = (do
      let ov ← holding [v] (eval (.Name x px) X.env)
      let iv ← holding [v, ov] (eval b X.env)
      standAt py
      holding [v, ov, iv] (setItem ov iv v)
      release [v, ov, iv] []) := by intro _; rfl) (hs : swapsWithSole [.Subscript (.Name x px) b py] e pos.line X.env = pure false := by rfl) (hw : swappedStores [.Subscript (.Name x px) b py] e X.env = pure none := by rfl)
    (h2 : (assignEach [.Subscript (.Name x px) b py] X.env).map (·.2) = [assign (.Subscript (.Name x px) b py) X.env] := by rfl) : SU X g ρ (.Assign [.Subscript (.Name x px) b py] e pos) pp := by
  obtain ⟨v1, v2, v3⟩ := L.at_ hi hN
  refine ps_weak (ps_asg he (pg_sub (pe_var (i := j) (by rw [L.hN]; exact hN) (by rw [L.hs]; exact v1) v2 v3) hb set_list ha) hs hw h2) fun D σ H q => ⟨q.1, fun v H1 E1 x1 r1 => ?_⟩
  obtain ⟨w, hw', aa, us, rfl, ho, r⟩ := E1.at_ j _ hj
  refine ⟨.ref aa, hw', E1, fun u H2 E2 x2 r2 => ?_⟩
  cases r2
  obtain ⟨w, hw2, aa', us, rfl, ho, r⟩ := E2.at_ j _ hj
  rw [hw'] at hw2
  cases hw2
  obtain ⟨E3, x3⟩ := E2.change (b1 := .own (ds.set i.toNat d)) (o' := .lst (us.set i.toNat v)) hj rfl rfl hw' ho (fun z => z) (fun _ z => by cases z) (fun P q c _ hc => code_ne_lst ho hc) fun x => ⟨aa, _, rfl, upd_same, (RepL.set (r1.ext x2) i.toNat r).ext x⟩
  exact ⟨aa, us, i, i.toNat, rfl, rfl, ho, op_ix h0 (by rw [r.length]; exact h1), q.2.1 _ _ _ h E3 ((x1.trans x2).trans x3)⟩
/-- list(t) of a tuple -/
theorem pn_listT (L : Lo X N sc vs) {ds : List D} (ha : PU X g ρ e ρ1 (.tup ds)) (hm : X.mg "list" = none) (hg : gloC sc "list" = true := by decide +kernel) (he : starEach [e] X.env = (false, eval e X.env) :: starEach [] X.env := by rfl) (hpl : (backTo pos (starEach [] X.env)).any (·.1) = false := by rfl) :
    PN X g ρ (.Call (.Name "list" p) [e] [] pos) ρ1 ds :=
  pe_weak (pe_callTy call_list_of (gl_of L hg) hm (by decide +kernel) (pa_cons ha pa_nil he) (by decide) (by decide) he hpl) fun σ H Q q => ⟨q.1, fun v H1 E1 x1 r1 => by
    cases r1 with
    | @tup aa us _ s r => exact ⟨aa, us, rfl, .inr s, fun l n => uN_new q E1 x1 n r⟩⟩
end
end C66
end TP11
section TP12
set_option Elab.async false
set_option linter.all false
set_option maxRecDepth 100000
set_option maxHeartbeats 4000000
/-! P12: short words for the text's own calls of built-ins. -/
namespace C66
open PySem PySem.Spec L2
section
variable {X : Cx} {g : Gm} {ρ ρ1 ρ2 : Rho} {N : List Str} {sc : Scope} {vs : List Nat} {pos p px py : Pos} {a b c e : Expr} {es : List Expr} {d : D}
theorem i_int (L : Lo X N sc vs) (T : Txt X.K g.C X.mg) (ha : PU X g ρ e ρ1 d) (hn : nohou d = true := by rfl) (hgx : gloC sc "int" = true := by decide +kernel) (hg : gloC sc "isinstance" = true := by decide +kernel)
    (he : starEach [e, .Name "int" px] X.env = (false, eval e X.env) :: starEach [.Name "int" px] X.env := by rfl) (he2 : starEach [.Name "int" px] X.env = (false, eval (.Name "int" px) X.env) :: starEach [] X.env := by rfl) (hpl : (backTo pos (starEach [.Name "int" px] X.env)).any (·.1) = false := by rfl) :
    PU X g ρ (.Call (.Name "isinstance" p) [e, .Name "int" px] [] pos) ρ1 (.bl (isD "int" d)) := pu_isi L (T := "int") ha hn rfl T.isinstance T.int (by decide +kernel) hgx hg (by decide) (by decide) he he2 hpl
theorem i_bool (L : Lo X N sc vs) (T : Txt X.K g.C X.mg) (ha : PU X g ρ e ρ1 d) (hn : nohou d = true := by rfl) (hgx : gloC sc "bool" = true := by decide +kernel) (hg : gloC sc "isinstance" = true := by decide +kernel)
    (he : starEach [e, .Name "bool" px] X.env = (false, eval e X.env) :: starEach [.Name "bool" px] X.env := by rfl) (he2 : starEach [.Name "bool" px] X.env = (false, eval (.Name "bool" px) X.env) :: starEach [] X.env := by rfl) (hpl : (backTo pos (starEach [.Name "bool" px] X.env)).any (·.1) = false := by rfl) :
    PU X g ρ (.Call (.Name "isinstance" p) [e, .Name "bool" px] [] pos) ρ1 (.bl (isD "bool" d)) := pu_isi L (T := "bool") ha hn rfl T.isinstance T.bool (by decide +kernel) hgx hg (by decide) (by decide) he he2 hpl
theorem i_str (L : Lo X N sc vs) (T : Txt X.K g.C X.mg) (ha : PU X g ρ e ρ1 d) (hn : nohou d = true := by rfl) (hgx : gloC sc "str" = true := by decide +kernel) (hg : gloC sc "isinstance" = true := by decide +kernel)
    (he : starEach [e, .Name "str" px] X.env = (false, eval e X.env) :: starEach [.Name "str" px] X.env := by rfl) (he2 : starEach [.Name "str" px] X.env = (false, eval (.Name "str" px) X.env) :: starEach [] X.env := by rfl) (hpl : (backTo pos (starEach [.Name "str" px] X.env)).any (·.1) = false := by rfl) :
    PU X g ρ (.Call (.Name "isinstance" p) [e, .Name "str" px] [] pos) ρ1 (.bl (isD "str" d)) := pu_isi L (T := "str") ha hn rfl T.isinstance T.str (by decide +kernel) hgx hg (by decide) (by decide) he he2 hpl
theorem i_tuple (L : Lo X N sc vs) (T : Txt X.K g.C X.mg) (ha : PU X g ρ e ρ1 d) (hn : nohou d = true := by rfl) (hgx : gloC sc "tuple" = true := by decide +kernel) (hg : gloC sc "isinstance" = true := by decide +kernel)
    (he : starEach [e, .Name "tuple" px] X.env = (false, eval e X.env) :: starEach [.Name "tuple" px] X.env := by rfl) (he2 : starEach [.Name "tuple" px] X.env = (false, eval (.Name "tuple" px) X.env) :: starEach [] X.env := by rfl) (hpl : (backTo pos (starEach [.Name "tuple" px] X.env)).any (·.1) = false := by rfl) :
    PU X g ρ (.Call (.Name "isinstance" p) [e, .Name "tuple" px] [] pos) ρ1 (.bl (isD "tuple" d)) := pu_isi L (T := "tuple") ha hn rfl T.isinstance T.tuple (by decide +kernel) hgx hg (by decide) (by decide) he he2 hpl
theorem i_list (L : Lo X N sc vs) (T : Txt X.K g.C X.mg) (ha : PU X g ρ e ρ1 d) (hn : nohou d = true := by rfl) (hgx : gloC sc "list" = true := by decide +kernel) (hg : gloC sc "isinstance" = true := by decide +kernel)
    (he : starEach [e, .Name "list" px] X.env = (false, eval e X.env) :: starEach [.Name "list" px] X.env := by rfl) (he2 : starEach [.Name "list" px] X.env = (false, eval (.Name "list" px) X.env) :: starEach [] X.env := by rfl) (hpl : (backTo pos (starEach [.Name "list" px] X.env)).any (·.1) = false := by rfl) :
    PU X g ρ (.Call (.Name "isinstance" p) [e, .Name "list" px] [] pos) ρ1 (.bl (isD "list" d)) := pu_isi L (T := "list") ha hn rfl T.isinstance T.list (by decide +kernel) hgx hg (by decide) (by decide) he he2 hpl
theorem u_len (L : Lo X N sc vs) (T : Txt X.K g.C X.mg) {ds : List D} (ha : PU X g ρ e ρ1 d) (hd : d = .tup ds ∨ d = .lst ds) (hg : gloC sc "len" = true := by decide +kernel) (he : starEach [e] X.env = (false, eval e X.env) :: starEach [] X.env := by rfl) (hpl : (backTo pos (starEach [] X.env)).any (·.1) = false := by rfl) :
    PU X g ρ (.Call (.Name "len" p) [e] [] pos) ρ1 (.int ds.length) := pu_callB L (cu_len hd) T.len PySem.boot_len (pau_cons ha pau_nil he) hg (by decide) (by decide) he hpl
theorem u_lenT (L : Lo X N sc vs) (T : Txt X.K g.C X.mg) {ds : List D} (ha : PU X g ρ e ρ1 (.tup ds)) (hg : gloC sc "len" = true := by decide +kernel) (he : starEach [e] X.env = (false, eval e X.env) :: starEach [] X.env := by rfl) (hpl : (backTo pos (starEach [] X.env)).any (·.1) = false := by rfl) :
    PU X g ρ (.Call (.Name "len" p) [e] [] pos) ρ1 (.int ds.length) := u_len L T ha (.inl rfl) hg he hpl
theorem u_lenL (L : Lo X N sc vs) (T : Txt X.K g.C X.mg) {ds : List D} (ha : PU X g ρ e ρ1 (.lst ds)) (hg : gloC sc "len" = true := by decide +kernel) (he : starEach [e] X.env = (false, eval e X.env) :: starEach [] X.env := by rfl) (hpl : (backTo pos (starEach [] X.env)).any (·.1) = false := by rfl) :
    PU X g ρ (.Call (.Name "len" p) [e] [] pos) ρ1 (.int ds.length) := u_len L T ha (.inr rfl) hg he hpl
/-- t[k], k written -/
theorem u_at {ds : List D} {k : Nat} {j : Nat} {cp : Pos} (ha : PU X g ρ a ρ1 (.tup ds)) (h : ds[k]? = some d) : PU X g ρ (.Subscript a (.Constant (.int (k : Int)) j cp) pos) ρ1 d := pu_ixT ha pu_int (by rw [dAt_nat]; exact h)
/-! slices -/
theorem sIx_int {n d : Nat} {k : Int} (h : 0 ≤ k) : HT.sIx n d (some k) = min k.toNat n := by
  have e := HT.sIx_nat n d k.toNat
  rwa [Int.toNat_of_nonneg h] at e
theorem cut_to {ds : List D} {k : Int} (h : 0 ≤ k) : cutD ds none (some k) = ds.take k.toNat := by
  unfold cutD
  rw [sIx_int h, HT.sIx_none, List.drop_zero, Nat.sub_zero]
  by_cases hk : k.toNat ≤ ds.length
  · rw [Nat.min_eq_left hk]
  · rw [Nat.min_eq_right (by omega), List.take_length, List.take_of_length_le (by omega)]
theorem cut_from {ds : List D} {k : Int} (h : 0 ≤ k) : cutD ds (some k) none = ds.drop k.toNat := by
  unfold cutD
  rw [sIx_int h, HT.sIx_none]
  by_cases hk : k.toNat ≤ ds.length
  · rw [Nat.min_eq_left hk, List.take_of_length_le (by rw [List.length_drop]; exact Nat.le_refl _)]
  · rw [Nat.min_eq_right (by omega), List.drop_length, List.drop_eq_nil_of_le (by omega), List.take_nil]
theorem u_slTo {ds : List D} {hi : Expr} {p2 : Pos} {k : Int} (ha : PU X g ρ a ρ (.tup ds)) (hh : PU X g ρ hi ρ (.int k)) (h : 0 ≤ k) : PU X g ρ (.Subscript a (.Slice none (some hi) none p2) pos) ρ (.tup (ds.take k.toNat)) := by
  rw [← cut_to h]
  exact pu_slT (ol := none) (oh := some k) ha trivial hh
theorem u_slFrom {ds : List D} {lo : Expr} {p2 : Pos} {k : Int} (ha : PU X g ρ a ρ (.tup ds)) (hh : PU X g ρ lo ρ (.int k)) (h : 0 ≤ k) : PU X g ρ (.Subscript a (.Slice (some lo) none none p2) pos) ρ (.tup (ds.drop k.toNat)) := by
  rw [← cut_from h]
  exact pu_slT (ol := some k) (oh := none) ha hh trivial
theorem n_slTo {ds : List D} {hi : Expr} {p2 : Pos} {k : Int} (ha : PU X g ρ a ρ (.lst ds)) (hh : PU X g ρ hi ρ (.int k)) (h : 0 ≤ k) : PN X g ρ (.Subscript a (.Slice none (some hi) none p2) pos) ρ (ds.take k.toNat) := by
  rw [← cut_to h]
  exact pn_slL (ol := none) (oh := some k) ha trivial hh
/-- t[:-1] -/
theorem u_slM1 {ds : List D} {p2 p3 p4 : Pos} {j : Nat} (ha : PU X g ρ a ρ (.tup ds)) (h : ds ≠ []) : PU X g ρ (.Subscript a (.Slice none (some (.UnaryOp .USub (.Constant (.int 1) j p3) p4)) none p2) pos) ρ (.tup ds.dropLast) := by
  have hu : PU X g ρ (.UnaryOp .USub (.Constant (.int 1) j p3) p4) ρ (.int (-1)) := pe_weak (pe_un un_neg pe_int) fun σ H Q q => ⟨1, rfl, q.2 _ H q.1 (.refl H) (.int _)⟩
  have e : cutD ds none (some (-1)) = ds.dropLast := by
    unfold cutD
    rw [HT.sIx_none, List.drop_zero, Nat.sub_zero, List.dropLast_eq_take]
    show ds.take (if (-1 : Int) < 0 then ((-1 : Int) + (ds.length : Int)).toNat else min (-1 : Int).toNat ds.length) = _
    rw [if_pos (by decide)]
    congr 1
    omega
  rw [← e]
  exact pu_slT (ol := none) (oh := some (-1)) ha trivial hu
end
end C66
end TP12
section TD01
set_option Elab.async false
set_option linter.all false
set_option maxRecDepth 100000
set_option maxHeartbeats 4000000
namespace C66
open PySem PySem.Spec L2
section
variable {P : Program} {w : World} {K : PySem.W.Frag} {mg : Str → Option Value} {base : Heap} {C : Addr} {Tb : List (Addr × Str)}

/-! is_in -/
abbrev nIsIn : List Str := ["value", "least", "most"]
theorem scIsIn : FnScope nIsIn ["value", "least", "most"] (defScope (topS 24)) := ⟨rfl, rfl, rfl, by decide +kernel, rfl, by decide +kernel, by decide +kernel⟩
def isInD (v : D) (lo hi : Int) : Bool := match v with
  | .int i => decide (lo ≤ i) && decide (i ≤ hi)
  | _ => false
def preIsIn : List D → (Bd → Prop) → Prop := fun ds post => ∃ v lo hi, ds = [v, .int lo, .int hi] ∧ nohou v = true ∧ ∀ b, b = .dat (.bl (isInD v lo hi)) → post b
theorem ok_is_in {f : Addr} {fd : FuncData} (F : Fun K "is_in" "is_in" (topS 24) f fd) (T : Txt K C mg) : FnOk P w K mg base CX0 1 f fd ["value", "least", "most"] (spF C Tb P w K preIsIn) := by
  refine fn_data [0, 1, 2] F scIsIn (by decide +kernel) (fun ds post ⟨_, _, _, e, _⟩ => by rw [e]; rfl) (by decide) ?_
  rintro X rfl rfl rfl rfl rfl L hr g rfl rfl hR ds post ⟨v, lo, hi, rfl, hv, hp⟩
  show SUs X g [some (.dat v), some (.dat (.int lo)), some (.dat (.int hi))] _ _
  refine su_one (s_ret (d := .bl (isInD v lo hi)) ?_ (hp _ rfl))
  have e : isInD v lo hi = (isD "int" v && (!isD "bool" v && (match v with | .int i => decide (lo ≤ i) && decide (i ≤ hi) | _ => false))) := by
    cases v <;> simp [isInD, isD, isK, tyn]
  rw [e]
  refine pu_and (pu_isi L.toLo (pu_var L.toLo 0) hv rfl T.isinstance T.int (by decide +kernel)) fun h1 => pu_and (pu_not (pu_isi L.toLo (pu_var L.toLo 0) hv rfl T.isinstance T.bool (by decide +kernel))) fun h2 => pu_one ?_
  cases v with
  | int i => exact pu_chain ou_le ou_le (pu_var L.toLo 1) (pu_var L.toLo 0) (pu_var L.toLo 2)
  | bl b => simp [isD, isK, tyn] at h2
  | _ => simp [isD, isK, tyn] at h1
end
end C66
end TD01
section TD02
set_option Elab.async false
set_option linter.all false
set_option maxRecDepth 100000
set_option maxHeartbeats 4000000
namespace C66
open PySem PySem.Spec L2
section
variable {P : Program} {w : World} {K : PySem.W.Frag} {mg : Str → Option Value} {base : Heap} {C : Addr} {Tb : List (Addr × Str)}

/-! is_word, of a text -/
def letters : Str := "abcdefghijklmnopqrstuvwxyz"
def isWordB (x : Str) : Bool := (decide ((1 : Int) ≤ (x.length : Nat)) && decide (((x.length : Nat) : Int) ≤ 6)) && x.cps.toList.all fun c => decide (c ∈ letters.cps.toList)
abbrev nIsWord : List Str := ["value", "sign"]
theorem scIsWord : FnScope nIsWord ["value"] (defScope (topS 25)) := ⟨rfl, rfl, rfl, by decide +kernel, rfl, by decide +kernel, by decide +kernel⟩
def preIsWord : List D → (Bd → Prop) → Prop := fun ds post => ∃ x : Str, ds = [.str x] ∧ x.length ≤ 100 ∧ ∀ b, b = .dat (.bl (isWordB x)) → post b
theorem ok_is_word {f : Addr} {fd : FuncData} (F : Fun K "is_word" "is_word" (topS 25) f fd) (T : Txt K C mg) : FnOk P w K mg base CX0 1 f fd ["value"] (spF C Tb P w K preIsWord) := by
  refine fn_data [0] F scIsWord (by decide +kernel) (fun ds post ⟨_, e, _⟩ => by rw [e]; rfl) (by decide) ?_
  rintro X rfl rfl rfl rfl rfl L hr g rfl rfl hR ds post ⟨x, rfl, hx, hp⟩
  show SUs X g [some (.dat (.str x)), none] _ _
  have hl : x.length ≤ sizeLine := Nat.le_trans hx (by decide)
  refine su_one (s_ret (d := .bl (isWordB x)) ?_ (hp _ rfl))
  have e : isWordB x = (isD "str" (.str x) && ((decide ((1 : Int) ≤ (x.length : Nat)) && decide (((x.length : Nat) : Int) ≤ 6)) && (x.cps.toList.map fun c => decide (c ∈ letters.cps.toList)).all id)) := by
    show _ = (true && _)
    rw [Bool.true_and, List.all_map]
    rfl
  rw [e]
  refine pu_and (pu_isi L.toLo (pu_var L.toLo 0) rfl rfl T.isinstance T.str (by decide +kernel)) fun _ => pu_and (pu_chain ou_le ou_le pu_int (pu_callB L.toLo (cu_lenS hl) T.len PySem.boot_len (pau_cons (pu_var L.toLo 0) pau_nil)) pu_int) fun _ => pu_one ?_
  refine pu_callB L.toLo (cu_all L.calm) T.all (by decide +kernel) (pau_cons (pu_of_pn ?_) pau_nil)
  have em : (x.cps.toList.map fun c => decide (c ∈ letters.cps.toList)).map D.bl = (x.cps.toList.map fun c => D.str ⟨#[c]⟩).filterMap fun d => match d with
      | .str ⟨#[c]⟩ => some (D.bl (decide (c ∈ letters.cps.toList)))
      | _ => none := by
    rw [List.map_map, List.filterMap_map]
    have : ∀ l : List Nat, l.map (D.bl ∘ fun c => decide (c ∈ letters.cps.toList)) = l.filterMap ((fun d => match d with
      | D.str ⟨#[c]⟩ => some (D.bl (decide (c ∈ letters.cps.toList)))
      | _ => none) ∘ fun c => D.str ⟨#[c]⟩) := fun l => by
      induction l with
      | nil => rfl
      | cons c l ih => rw [List.map_cons, ih]; rfl
    exact this _
  rw [em]
  refine pn_lc L.toLo [("sign", 1)] [1] (fun ρ d => ρ.set 1 (some (.dat d))) _ (piu_str (pu_var L.toLo 0)) (by intro i hi; simp at hi; subst hi; rfl) (fun d => rfl) (fun s H Cc cl fp H0 R L' d hd ρ' e' => ?_) (by rw [List.length_map, Array.length_toList]; exact hl)
  subst e'
  obtain ⟨cc, _, rfl⟩ := List.mem_map.mp hd
  exact ⟨pgu_name L' 1 (.inr (by rfl)), ptsu_nil, fun r hr' => by
    cases hr'
    exact pu_cmp ou_inC (pu_var L' 1) (pu_glob L' T.LETTERS)⟩

/-! is_list -/
abbrev nIsList : List Str := ["value", "most"]
theorem scIsList : FnScope nIsList ["value", "most"] (defScope (topS 26)) := ⟨rfl, rfl, rfl, by decide +kernel, rfl, by decide +kernel, by decide +kernel⟩
def preIsList : List D → (Bd → Prop) → Prop := fun ds post => ∃ (xs : List D) (m : Int), ds = [.tup xs, .int m] ∧ ∀ b, b = .dat (.bl (decide ((xs.length : Int) ≤ m))) → post b
theorem ok_is_list {f : Addr} {fd : FuncData} (F : Fun K "is_list" "is_list" (topS 26) f fd) (T : Txt K C mg) : FnOk P w K mg base CX0 1 f fd ["value", "most"] (spF C Tb P w K preIsList) := by
  refine fn_data [0, 1] F scIsList (by decide +kernel) (fun ds post ⟨_, _, e, _⟩ => by rw [e]; rfl) (by decide) ?_
  rintro X rfl rfl rfl rfl rfl L hr g rfl rfl hR ds post ⟨xs, m, rfl, hp⟩
  show SUs X g [some (.dat (.tup xs)), some (.dat (.int m))] _ _
  refine su_one (s_ret (d := .bl (isD "tuple" (.tup xs) && decide ((xs.length : Int) ≤ m))) ?_ (hp _ (by rw [show isD "tuple" (.tup xs) = true from rfl, Bool.true_and])))
  exact pu_and (pu_isi L.toLo (pu_var L.toLo 0) rfl rfl T.isinstance T.tuple (by decide +kernel)) fun _ => pu_one (pu_cmp ou_le (pu_callB L.toLo (cu_len (.inl rfl)) T.len PySem.boot_len (pau_cons (pu_var L.toLo 0) pau_nil)) (pu_var L.toLo 1))
end
end C66
end TD02
section TD03
set_option Elab.async false
set_option linter.all false
set_option maxRecDepth 100000
set_option maxHeartbeats 4000000
namespace C66
open PySem PySem.Spec L2

/-- a class as data -/
def boxD (f m : D) : D := .tup [.str "box", .str "top", f, m]
/-- how things of a list are told by their first items -/
def fstS : D → Option D
  | .tup (.str x :: _) => some (.str x)
  | _ => none
/-- no class, or the one -/
inductive ClsN : List D → List Str → Prop
  | nil : ClsN [] ["top"]
  | one (f m : D) : ClsN [boxD f m] ["top", "box"]
section
variable {P : Program} {w : World} {K : PySem.W.Frag} {mg : Str → Option Value} {base : Heap} {C : Addr} {Tb : List (Addr × Str)}

/-! names_of -/
abbrev nNamesOf : List Str := ["classes", "told"]
theorem scNamesOf : FnScope nNamesOf ["classes"] (defScope (topS 27)) := ⟨rfl, rfl, rfl, by decide +kernel, rfl, by decide +kernel, by decide +kernel⟩
def preNamesOf : List D → (Bd → Prop) → Prop := fun ds post => ∃ cls ns, ds = [.tup cls] ∧ ClsN cls ns ∧ ∀ b, b = .dat (.lst (ns.map D.str)) → post b
theorem ok_names_of {f : Addr} {fd : FuncData} (F : Fun K "names_of" "names_of" (topS 27) f fd) (T : Txt K C mg) : FnOk P w K mg base CX0 1 f fd ["classes"] (spF C Tb P w K preNamesOf) := by
  refine fn_data [0] F scNamesOf (by decide +kernel) (fun ds post ⟨_, _, e, _⟩ => by rw [e]; rfl) (by decide) ?_
  rintro X rfl rfl rfl rfl rfl L hr g rfl rfl hR ds post ⟨cls, ns, rfl, hc, hp⟩
  show SUs X g [some (.dat (.tup cls)), none] _ _
  have e : ns.map D.str = .str "top" :: (cls.filterMap fstS ++ []) := by cases hc <;> rfl
  have hz : (D.str "top" :: (cls.filterMap fstS ++ [])).length ≤ sizeLine := by cases hc <;> exact Nat.le_of_ble_eq_true rfl
  refine su_one (s_ret (d := .lst (.str "top" :: (cls.filterMap fstS ++ []))) ?_ (hp _ (by rw [e])))
  refine pu_lst (pau_cons (pu_glob L.toLo T.TOP) (pau_star (pu_of_pn (pn_lc L.toLo [("told", 1)] [1] (fun ρ d => ρ.set 1 (some (.dat d))) fstS (piu_tup (pu_var L.toLo 0)) (by intro i hi; simp at hi; subst hi; rfl) (fun d => rfl) (fun s H Cc cl fp H0 R L' d hd ρ' e' => ?_) (by cases hc <;> exact Nat.le_of_ble_eq_true rfl))) (.inr rfl) pau_nil)) hz
  subst e'
  refine ⟨pgu_name L' 1 (.inr (by rfl)), ?_, fun r hr' => ?_⟩
  · cases hc with
    | nil => cases hd
    | one f m =>
      simp at hd; subst hd
      exact ptsu_nil
  · cases hc with
    | nil => cases hd
    | one f m =>
      simp at hd; subst hd
      cases hr'
      exact pu_ixT (pu_var L' 1) pu_int rfl

/-! row_of -/
abbrev nRowOf : List Str := ["classes", "name", "found", "told"]
theorem scRowOf : FnScope nRowOf ["classes", "name"] (defScope (topS 28)) := ⟨rfl, rfl, rfl, by decide +kernel, rfl, by decide +kernel, by decide +kernel⟩
def rowD (cls : List D) (n : Str) : List D := if n = "box" then cls else []
def preRowOf : List D → (Bd → Prop) → Prop := fun ds post => ∃ cls ns n, ds = [.tup cls, .str n] ∧ ClsN cls ns ∧ ∀ b, b = .dat (.lst (rowD cls n)) → post b
theorem ok_row_of {f : Addr} {fd : FuncData} (F : Fun K "row_of" "row_of" (topS 28) f fd) (T : Txt K C mg) : FnOk P w K mg base CX0 1 f fd ["classes", "name"] (spF C Tb P w K preRowOf) := by
  refine fn_data [0, 1, 2, 3] F scRowOf (by decide +kernel) (fun ds post ⟨_, _, _, e, _⟩ => by rw [e]; rfl) (by decide) ?_
  rintro X rfl rfl rfl rfl rfl L hr g rfl rfl hR ds post ⟨cls, ns, n, rfl, hc, hp⟩
  show SUs X g [some (.dat (.tup cls)), some (.dat (.str n)), none, none] _ _
  refine s_setN L 2 (pn_lst pau_nil) ?_
  show SUs X g [some (.dat (.tup cls)), some (.dat (.str n)), some (.own []), none] _ _
  have fin : ∀ (x y : Option Bd), SUs X g [some (.dat (.tup cls)), x, some (.own (rowD cls n)), y] ((defBody (topS 28)).drop 2) { nx := fun _ => post (.dat .non), rt := fun _ b => post b } := fun x y => by
    refine su_freeze 2 ?_
    exact su_one (s_ret (pu_var L.toLo 2) (hp _ rfl))
  refine su_cons (su_for L (S := [3]) (fun ρ d => ρ.set 3 (some (.dat d))) (fun i ρ => (i = 0 ∧ ρ = [some (.dat (.tup cls)), some (.dat (.str n)), some (.own []), none]) ∨ (i = cls.length ∧ ∃ x y, ρ = [some (.dat (.tup cls)), x, some (.own (rowD cls n)), y]))
    (piu_tup (pu_revT (pu_var L.toLo 0) (by cases hc <;> exact Nat.le_of_ble_eq_true rfl))) (fun i d ρ' _ _ => pgu_name L.toLo 3 (.inl (L.fn _)) (hS := by decide)) (.inl ⟨rfl, rfl⟩) (fun i d ρ' hd hP => ?_) (fun ρ' hP => ?_))
  · cases hc with
    | nil => simp at hd
    | one f m =>
      have hi : i = 0 := by
        cases i with
        | zero => rfl
        | succ i => simp at hd
      subst hi
      simp at hd; subst hd
      rcases hP with ⟨_, rfl⟩ | ⟨h, _⟩
      · show SUs X g [some (.dat (.tup [boxD f m])), some (.dat (.str n)), some (.own []), some (.dat (boxD f m))] _ _
        refine su_one (s_if (k := decide (("box" : Str) = n)) (ptu_cmp ou_eqS (pu_ixT (pu_var L.toLo 3) pu_int rfl) (pu_var L.toLo 1)) (fun h => ?_) fun h => su_nil ?_)
        · have hn : ("box" : Str) = n := of_decide_eq_true h
          subst hn
          refine su_cons (su_append L 2 (d := boxD f m) (ds := []) (pu_var L.toLo 3) ?_ (by decide))
          refine s_set L 1 (pu_ixT (pu_var L.toLo 3) pu_int rfl) (su_nil (.inr ⟨rfl, _, _, rfl⟩))
        · have hn : n ≠ "box" := fun e => by rw [e] at h; simp at h
          have e0 : rowD [boxD f m] n = [] := if_neg hn
          exact .inr ⟨rfl, some (.dat (.str n)), some (.dat (boxD f m)), by rw [e0]⟩
      · simp at h
  · rcases hP with ⟨h, rfl⟩ | ⟨_, x, y, rfl⟩
    · cases hc with
      | nil => exact (by rw [show rowD [] n = [] by unfold rowD; split <;> rfl] at fin; exact fin _ _)
      | one f m => simp at h
    · exact fin x y
end
end C66
end TD03
section TD04
set_option Elab.async false
set_option linter.all false
set_option maxRecDepth 100000
set_option maxHeartbeats 4000000
namespace C66
open PySem PySem.Spec L2
section
variable {P : Program} {w : World} {K : PySem.W.Frag} {mg : Str → Option Value} {base : Heap} {C : Addr} {Tb : List (Addr × Str)}
theorem w_box : isWordB "box" = true := by decide +kernel
theorem w_top : isWordB "top" = true := by decide +kernel
theorem w_num : isWordB "num" = true := by decide +kernel
theorem w_ma : isWordB "ma" = true := by decide +kernel
/-- is_word of a text that is one -/
theorem pre_word {x : Str} (h : isWordB x = true) (hl : x.length ≤ 100 := by decide) : preIsWord [.str x] fun b => b = .dat (.bl true) := ⟨x, rfl, hl, fun b e => by rw [e, h]⟩

/-! is_class -/
abbrev nIsClass : List Str := ["classes", "value"]
theorem scIsClass : FnScope nIsClass ["classes", "value"] (defScope (topS 29)) := ⟨rfl, rfl, rfl, by decide +kernel, rfl, by decide +kernel, by decide +kernel⟩
def preIsClass : List D → (Bd → Prop) → Prop := fun ds post => ∃ f m, ds = [.tup [], boxD f m] ∧ ∀ b, b = .dat (.bl true) → post b
theorem ok_is_class {f : Addr} {fd : FuncData} (F : Fun K "is_class" "is_class" (topS 29) f fd) (T : Txt K C mg) (G1 : Dfn P w K mg base C Tb 1 "is_word" preIsWord) (G2 : Dfn P w K mg base C Tb 1 "names_of" preNamesOf) : FnOk P w K mg base CX0 2 f fd ["classes", "value"] (spF C Tb P w K preIsClass) := by
  refine fn_data [0, 1] F scIsClass (by decide +kernel) (fun ds post ⟨_, _, e, _⟩ => by rw [e]; rfl) (by decide) ?_
  rintro X rfl rfl rfl rfl rfl L hr g rfl rfl hR ds post ⟨ff, mm, rfl, hp⟩
  show SUs X g [some (.dat (.tup [])), some (.dat (boxD ff mm))] _ _
  refine s_ifF (k := _) (ptu_of (pwu_or (ptu_not (ptu_val (i_tuple L.toLo T (pu_var L.toLo 1)))) fun _ => pwu_or (ptu_cmp ou_neI (u_lenT L.toLo T (pu_var L.toLo 1)) pu_int) fun _ =>
    pwu_or1 (ptu_not (ptu_val (pu_call L.toLo G1 hr (pau_cons (pu_ixT (pu_var L.toLo 1) pu_int rfl) pau_nil) (pre_word w_box)))))) rfl ?_
  refine s_ifF (k := _) (ptu_of (pwu_or (ptu_cmp (ou_inS (.inl rfl)) (pu_ixT (pu_var L.toLo 1) pu_int rfl) (pu_glob L.toLo T.BARRED)) fun _ => pwu_or1 (ptu_cmp (ou_inS (.inr rfl)) (pu_ixT (pu_var L.toLo 1) pu_int rfl) (pu_call L.toLo G2 hr (pau_cons (pu_var L.toLo 0) pau_nil) ⟨_, _, rfl, .nil, fun b h => h⟩)))) (by decide +kernel) ?_
  refine su_one (s_retE (d' := .bl true) (pu_and (pu_call L.toLo G1 hr (pau_cons (pu_ixT (pu_var L.toLo 1) pu_int rfl) pau_nil) (pre_word w_top)) fun _ => pu_one (pu_cmp (ou_inS (.inr rfl)) (pu_ixT (pu_var L.toLo 1) pu_int rfl) (pu_call L.toLo G2 hr (pau_cons (pu_var L.toLo 0) pau_nil) ⟨_, _, rfl, .nil, fun b h => h⟩))) ?_ (hp _ rfl))
  exact congrArg D.bl (by decide +kernel)
end
end C66
end TD04
section TD05
set_option Elab.async false
set_option linter.all false
set_option maxRecDepth 100000
set_option maxHeartbeats 4000000
namespace C66
open PySem PySem.Spec L2
section
variable {X : Cx} {g : Gm} {ρ ρ1 ρ2 : Rho} {N : List Str} {sc : Scope} {vs : List Nat} {pos p px py : Pos} {a b c e : Expr} {es : List Expr}
theorem pe_never : PE X e (fun _ _ _ => False) := ⟨fun _ _ _ _ _ _ h => h.elim⟩
/-- y = [.. for .. for ..], the first over nothing -/
theorem su_setLc2_nil (L : LoD X N sc vs) (i : Nat) {y : Str} {elt tg iter tg1 iter1 : Expr} {ifs ifs1 : List Expr} {scope : Scope} {spos : Pos} {pp : Post} (own : List (Str × Nat)) (hi : PIU X g ρ tg iter ρ1 []) (hp : pp.nx (ρ1.set i (some (.own []))))
    (hb : blkC N sc scope own = true := by decide +kernel) (hN : N[i]? = some y := by rfl) (hl : sc.names.lookup y = some .local := by decide +kernel) (hk : sc.kind = .function := by rfl) (hln : (py.line == pos.line) = true := by rfl) (ha : (scope.names.any fun (n, k) => n == y && (k == .local || k == .cell)) = false := by decide +kernel)
    (hfs : ∀ x, foldedSetIterable iter X.env x = pure x := by intro _; rfl) (hfs1 : ∀ (env : PySem.Env) x, foldedSetIterable iter1 env x = pure x := by intro _ _; rfl) : SU X g ρ (.Assign [.Name y py] (.ListComp elt [⟨tg, iter, ifs, 0⟩, ⟨tg1, iter1, ifs1, 0⟩] scope pos) spos) pp := by
  have hbk : BlkOk X.N X.env.scope scope own := by rw [L.hN, L.hs]; exact blkOk_by hb
  have nd : X.N.Nodup := by rw [L.hN]; exact L.nd
  refine ps_weak (ps_setLc2 (own := own) (i := i) (vs1 := []) (g := fun _ _ _ _ => False) (tt := fun _ _ _ => False) (wi1 := fun _ _ _ => False) (g1 := fun _ _ _ _ => False) (tt1 := fun _ _ _ => False) (te := fun _ _ _ => False) L.calm nd (by rw [L.hN]; exact hN) (by rw [L.hs]; exact hl) (sw_true (by rw [L.hs]; exact hk) (by rw [L.hs]; exact hl) hln ha) hi hbk (fun i hi => by cases hi)
    (fun _ _ _ _ _ => ⟨fun _ _ _ _ _ _ _ _ _ (h : False) => h.elim⟩) (fun _ _ _ _ _ => ⟨fun _ _ _ _ _ _ h => h.elim⟩) (fun _ _ _ _ _ => ⟨fun _ _ _ _ _ _ h => h.elim⟩) (fun _ _ _ _ _ => ⟨fun _ _ _ _ _ _ _ _ _ (h : False) => h.elim⟩) (fun _ _ _ _ _ => ⟨fun _ _ _ _ _ _ h => h.elim⟩) (fun _ _ _ _ _ => pe_never) hfs hfs1) fun D σ H q => ?_
  refine ⟨q.1, fun J S H1 E1 x1 W hS p np => ⟨fun i m H2 => i = 0 ∧ H2 = upd H1 p (.lst []), ⟨0, rfl, rfl⟩, ?_⟩⟩
  rintro j m H2 ⟨rfl, rfl⟩
  have sm : Same H1 (upd H1 p (.lst [])) := fun b w hb => by rw [upd_ne (ne_of_none hb np)]; exact hb
  exact .inl ⟨W.stop (W.ext hS (.of_same sm)), q.2.1 _ _ _ hp ((E1.same sm).setOwn upd_same (E1.notOwn np) (E1.fresh np) .nil) (x1.trans (.of_same sm))⟩
end
section
variable {P : Program} {w : World} {K : PySem.W.Frag} {mg : Str → Option Value} {base : Heap} {C : Addr} {Tb : List (Addr × Str)}
/-- the names of the house -/
abbrev namesD : D := .lst ((["top", "box"] : List Str).map D.str)

/-! are_fields -/
abbrev nAreF : List Str := ["classes", "names", "told", "seen", "field", "upper"]
theorem scAreF : FnScope nAreF ["classes", "names", "told"] (defScope (topS 30)) := ⟨rfl, rfl, rfl, by decide +kernel, rfl, by decide +kernel, by decide +kernel⟩
def preAreF : List D → (Bd → Prop) → Prop := fun ds post => ∃ m, ds = [.tup [], namesD, boxD (.tup []) m] ∧ ∀ b, b = .dat (.bl true) → post b
theorem ok_are_fields {f : Addr} {fd : FuncData} (F : Fun K "are_fields" "are_fields" (topS 30) f fd) (T : Txt K C mg) (G1 : Dfn P w K mg base C Tb 1 "is_list" preIsList) (G2 : Dfn P w K mg base C Tb 1 "row_of" preRowOf) : FnOk P w K mg base CX0 2 f fd ["classes", "names", "told"] (spF C Tb P w K preAreF) := by
  refine fn_data [0, 1, 2, 3, 4] F scAreF (by decide +kernel) (fun ds post ⟨_, e, _⟩ => by rw [e]; rfl) (by decide) ?_
  rintro X rfl rfl rfl rfl rfl L hr g rfl rfl hR ds post ⟨m, rfl, hp⟩
  show SUs X g [some (.dat (.tup [])), some (.dat namesD), some (.dat (boxD (.tup []) m)), none, none, none] _ _
  refine s_ifF (k := _) (ptu_not (ptu_val (pu_call L.toLo G1 hr (pau_cons (pu_ixT (pu_var L.toLo 2) pu_int rfl) (pau_cons (pu_glob L.toLo T.MOST_PARTS) pau_nil)) ⟨_, _, rfl, fun b h => h⟩))) rfl ?_
  refine su_cons (su_setLc2_nil L 3 [("upper", 5), ("field", 4)] (piu_lst (pu_call L.toLo G2 hr (pau_cons (pu_var L.toLo 0) (pau_cons (pu_ixT (pu_var L.toLo 2) pu_int rfl) pau_nil)) ⟨_, _, "top", rfl, .nil, fun b h => h⟩)) ?_)
  refine su_freeze 3 ?_
  refine su_cons (su_for L (S := [4]) (ds := []) (fun ρ d => ρ.set 4 (some (.dat d))) (fun _ ρ => ρ = [some (.dat (.tup [])), some (.dat namesD), some (.dat (boxD (.tup []) m)), some (.dat (.lst [])), none, none]) (piu_tup (pu_ixT (pu_var L.toLo 2) pu_int rfl)) (fun i d ρ' hd _ => by simp at hd) rfl (fun i d ρ' hd _ => by simp at hd) (fun ρ' e => ?_))
  subst e
  exact su_one (s_ret pu_bl (hp _ rfl))

/-! is_kind_in -/
abbrev nKindIn : List Str := ["names", "value"]
theorem scKindIn : FnScope nKindIn ["names", "value"] (defScope (topS 31)) := ⟨rfl, rfl, rfl, by decide +kernel, rfl, by decide +kernel, by decide +kernel⟩
def preKindIn : List D → (Bd → Prop) → Prop := fun ds post => ds = [namesD, .str "num"] ∧ ∀ b, b = .dat (.bl true) → post b
theorem ok_is_kind_in {f : Addr} {fd : FuncData} (F : Fun K "is_kind_in" "is_kind_in" (topS 31) f fd) (T : Txt K C mg) (G1 : Dfn P w K mg base C Tb 1 "is_word" preIsWord) : FnOk P w K mg base CX0 2 f fd ["names", "value"] (spF C Tb P w K preKindIn) := by
  refine fn_data [0, 1] F scKindIn (by decide +kernel) (fun ds post ⟨e, _⟩ => by rw [e]; rfl) (by decide) ?_
  rintro X rfl rfl rfl rfl rfl L hr g rfl rfl hR ds post ⟨rfl, hp⟩
  show SUs X g [some (.dat namesD), some (.dat (.str "num"))] _ _
  refine su_one (s_retE (d' := .bl true) (pu_and (pu_call L.toLo G1 hr (pau_cons (pu_var L.toLo 1) pau_nil) (pre_word w_num)) fun _ => pu_one (pu_or (pu_cmp ou_eqS (pu_var L.toLo 1) (pu_glob L.toLo T.NUM)) fun _ => pu_one (pu_cmp (ou_inS (.inr rfl)) (pu_var L.toLo 1) (pu_var L.toLo 0)))) ?_ (hp _ rfl))
  exact congrArg D.bl (by decide +kernel)

/-! is_method -/
def methD (code hs : D) : D := .tup [.str "ma", .tup [], .str "num", code, hs]
abbrev nIsMeth : List Str := ["classes", "names", "told", "at", "value", "upper", "method", "kind"]
theorem scIsMeth : FnScope nIsMeth ["classes", "names", "told", "at"] (defScope (topS 32)) := ⟨rfl, rfl, rfl, by decide +kernel, rfl, by decide +kernel, by decide +kernel⟩
def preIsMeth : List D → (Bd → Prop) → Prop := fun ds post => ∃ c hs, ds = [.tup [], namesD, boxD (.tup []) (.tup [methD c hs]), .int 0] ∧ ∀ b, b = .dat (.bl true) → post b
theorem ok_is_method {f : Addr} {fd : FuncData} (F : Fun K "is_method" "is_method" (topS 32) f fd) (T : Txt K C mg) (G1 : Dfn P w K mg base C Tb 1 "is_word" preIsWord) (G2 : Dfn P w K mg base C Tb 1 "is_list" preIsList) (G3 : Dfn P w K mg base C Tb 2 "is_kind_in" preKindIn)
    (G4 : Dfn P w K mg base C Tb 1 "row_of" preRowOf) : FnOk P w K mg base CX0 3 f fd ["classes", "names", "told", "at"] (spF C Tb P w K preIsMeth) := by
  refine fn_data [0, 1, 2, 3, 4, 5, 6] F scIsMeth (by decide +kernel) (fun ds post ⟨_, _, e, _⟩ => by rw [e]; rfl) (by decide) ?_
  rintro X rfl rfl rfl rfl rfl L hr g rfl rfl hR ds post ⟨c, hs, rfl, hp⟩
  show SUs X g [some (.dat (.tup [])), some (.dat namesD), some (.dat (boxD (.tup []) (.tup [methD c hs]))), some (.dat (.int 0)), none, none, none, none] _ _
  refine s_set L 4 (pu_ixT (pu_ixT (pu_var L.toLo 2) pu_int rfl) (pu_var L.toLo 3) rfl) ?_
  show SUs X g [some (.dat (.tup [])), some (.dat namesD), some (.dat (boxD (.tup []) (.tup [methD c hs]))), some (.dat (.int 0)), some (.dat (methD c hs)), none, none, none] _ _
  refine s_ifF (k := _) (ptu_of (pwu_or (ptu_not (ptu_val (i_tuple L.toLo T (pu_var L.toLo 4)))) fun _ => pwu_or (ptu_cmp ou_neI (u_lenT L.toLo T (pu_var L.toLo 4)) pu_int) fun _ =>
    pwu_or1 (ptu_not (ptu_val (pu_call L.toLo G1 (hr.mono (by decide)) (pau_cons (pu_ixT (pu_var L.toLo 4) pu_int rfl) pau_nil) (pre_word w_ma)))))) rfl ?_
  refine s_ifF (k := _) (ptu_of (pwu_or (ptu_cmp (ou_inS (ss := []) (.inr rfl)) (pu_ixT (pu_var L.toLo 4) pu_int rfl) (pu_of_pn (pn_lc (ds := []) L.toLo [("method", 6)] [6] (fun ρ d => ρ.set 6 (some (.dat d))) fstS (piu_tup (u_slTo (k := 0) (pu_ixT (pu_var L.toLo 2) pu_int rfl) (pu_var L.toLo 3) (by decide)))
      (by intro i hi; simp at hi; subst hi; rfl) (fun d => rfl) (fun s H Cc cl fp H0 R L' d hd => by cases hd) (Nat.zero_le _)))) fun _ =>
    pwu_or1 (ptu_not (ptu_val (pu_call L.toLo G2 (hr.mono (by decide)) (pau_cons (pu_ixT (pu_var L.toLo 4) pu_int rfl) (pau_cons (pu_glob L.toLo T.MOST_INS) pau_nil)) ⟨_, _, rfl, fun b h => h⟩))))) rfl ?_
  refine s_ifF (k := _) (ptu_of (pwu_or (ptu_not (ptu_val (pu_callB L.toLo (cu_all (bs := []) L.calm) T.all (by decide +kernel) (pau_cons (pu_of_pn (pn_lc (ds := []) L.toLo [("kind", 7)] [1, 7] (fun ρ d => ρ.set 7 (some (.dat d))) (fun _ => none) (piu_tup (pu_ixT (pu_var L.toLo 4) pu_int rfl))
      (by intro i hi; simp at hi; subst hi; rfl) (fun d => rfl) (fun s H Cc cl fp H0 R L' d hd => by cases hd) (by decide))) pau_nil)))) fun _ =>
    pwu_or1 (ptu_not (ptu_val (pu_call L.toLo G3 hr (pau_cons (pu_var L.toLo 1) (pau_cons (pu_ixT (pu_var L.toLo 4) pu_int rfl) pau_nil)) ⟨rfl, fun b h => h⟩))))) rfl ?_
  refine su_cons (su_for L (S := [5]) (ds := []) (fun ρ d => ρ.set 5 (some (.dat d))) (fun _ ρ => ρ = _) (piu_lst (pu_call L.toLo G4 (hr.mono (by decide)) (pau_cons (pu_var L.toLo 0) (pau_cons (pu_ixT (pu_var L.toLo 2) pu_int rfl) pau_nil)) ⟨_, _, "top", rfl, .nil, fun b h => h⟩)) (fun i d ρ' hd _ => by simp at hd) rfl (fun i d ρ' hd _ => by simp at hd) (fun ρ' e => ?_))
  subst e
  exact su_one (s_ret pu_bl (hp _ rfl))
end
end C66
end TD05
section TP13
set_option Elab.async false
set_option linter.all false
set_option maxRecDepth 100000
set_option maxHeartbeats 4000000
/-! P13: dicts of one's own with texts as keys. -/
namespace C66
open PySem PySem.Spec L2

def sdGet (kvs : List (Str × D)) (x : Str) : Option D := match kvs with
  | [] => none
  | (k, d) :: r => if k = x then some d else sdGet r x
def sdPut (kvs : List (Str × D)) (x : Str) (d : D) : List (Str × D) := match kvs with
  | [] => [(x, d)]
  | (k, e) :: r => if k = x then (k, d) :: r else (k, e) :: sdPut r x d
theorem paired_append {α β : Type} {F : α → β → Prop} {l l' : List α} {m m' : List β} (p : Paired F l m) (q : Paired F l' m') : Paired F (l ++ l') (m ++ m') := by
  induction p with
  | nil => exact q
  | cons h _ ih => exact .cons h ih
/-- what stands apart from the slots changes (any object but a table) -/
theorem Hold.otherO {X : Cx} {g : Gm} {ρ : Rho} {σ : L2.St} {H H' : Hp} {o : HO} (E : Hold X g ρ σ H) {p : Addr} (ho : H p = some o) (ni : ¬ Imm o) (nt : ∀ ps, o ≠ .tbl ps) (nc : ∀ c q, H c = some (LamX.CodeO c q) → c ≠ p) (hn : NotOwn ρ σ p) (hg : g.H0 p = none ∨ p ∈ g.R) (hH : ∀ b, b ≠ p → H' b = H b) : Hold X g ρ σ H' ∧ Ext H H' := by
  have x : Ext H H' := fun b o' hb im => by
    rw [hH b (fun e => by subst e; rw [ho] at hb; cases hb; exact ni im)]
    exact hb
  refine ⟨⟨fun i b q => ?_, E.own, E.dist, fun b o hb nr => ?_, fun pq hp => ?_, E.len⟩, x⟩
  · obtain ⟨v, h1, h2⟩ := E.at_ i b q
    refine ⟨v, h1, h2.ext x fun m a o2 e hb => ?_⟩
    subst e
    rw [hH a (fun e => hn i b q m (by rw [h1, e]))]
    exact hb
  · have ne : b ≠ p := fun e => by
      subst e
      rcases hg with z | z
      · rw [z] at hb; cases hb
      · exact nr z
    rw [hH b ne]
    exact E.keep b o hb nr
  · obtain ⟨ps, h1, h2, h3⟩ := E.tabs pq hp
    have ne : pq.1 ≠ p := fun e => by rw [e, ho] at h1; exact nt ps (Option.some.inj h1)
    refine ⟨ps, by rw [hH _ ne]; exact h1, h2, fun ps2 cv hcv => ?_⟩
    obtain ⟨cc, e1, e2⟩ := h3 ps2 cv hcv
    exact ⟨cc, e1, by rw [hH cc (nc _ _ e2)]; exact e2⟩
inductive RepO (K : PySem.W.Frag) (C : Addr) (H : Hp) : Option V → Option D → Prop
  | no : RepO K C H none none
  | yes {v : V} {d : D} : Rep K C H v d → RepO K C H (some v) (some d)
theorem RepO.isSome {K : PySem.W.Frag} {C : Addr} {H : Hp} {o1 : Option V} {o2 : Option D} (r : RepO K C H o1 o2) : o1.isSome = o2.isSome := by cases r <;> rfl
section
variable {K : PySem.W.Frag} {C : Addr} {H : Hp}
theorem SdEnt.get {xs : List (Key × V)} {kvs : List (Str × D)} (n : SdEnt K C H xs kvs) (x : Str) : RepO K C H (valV xs (Sum.inr x)) (sdGet kvs x) := by
  unfold SdEnt at n
  induction n with
  | nil => exact .no
  | @cons p q ps qs h t ih =>
    obtain ⟨h1, h2⟩ := h
    obtain ⟨k, d⟩ := q
    unfold sdGet
    by_cases e : k = x
    · rw [if_pos e, valV_pos (h1.trans (congrArg Sum.inr e))]
      exact .yes h2
    · rw [if_neg e, valV_neg (fun z => e (Sum.inr.inj (h1.symm.trans z)))]
      exact ih
theorem valV_of_notIn {xs : List (Key × V)} {k : Key} (h : k ∉ xs.map (·.1)) : valV xs k = none := by
  induction xs with
  | nil => rfl
  | cons p r ih =>
    rw [List.map_cons, List.mem_cons, not_or] at h
    rw [valV_neg (Ne.symm h.1)]
    exact ih h.2
theorem SdEnt.keys {xs : List (Key × V)} {kvs : List (Str × D)} (n : SdEnt K C H xs kvs) : xs.map (·.1) = kvs.map (Sum.inr ·.1) := by
  unfold SdEnt at n
  induction n with
  | nil => rfl
  | cons h t ih => rw [List.map_cons, List.map_cons, ih, h.1]
theorem mergeK_new : ∀ (more kvs : List (Key × V)), ((kvs ++ more).map (·.1)).Nodup → mergeK kvs more = kvs ++ more
  | [], kvs, _ => by rw [List.append_nil]; rfl
  | p :: r, kvs, h => by
    have e : putK kvs p.1 p.2 = kvs ++ [p] := by
      refine putK_new p.2 (valV_of_notIn fun z => ?_)
      rw [List.map_append, List.nodup_append] at h
      exact h.2.2 _ z _ (by simp) rfl
    show mergeK (putK kvs p.1 p.2) r = _
    rw [e, mergeK_new r (kvs ++ [p]) (by rw [List.append_assoc]; exact h), List.append_assoc]
    rfl
/-- a store at the end -/
theorem SdEnt.put {xs : List (Key × V)} {kvs : List (Str × D)} (n : SdEnt K C H xs kvs) {x : Str} {v : V} {d : D} (r : Rep K C H v d) (hx : sdGet kvs x = none) : SdEnt K C H (putK xs (Sum.inr x) v) (kvs ++ [(x, d)]) := by
  have h := n.get x
  rw [hx] at h
  have e : valV xs (Sum.inr x) = none := by
    cases q : valV xs (Sum.inr x) with
    | none => rfl
    | some _ => rw [q] at h; cases h
  rw [putK_new v e]
  exact paired_append n (.cons ⟨rfl, r⟩ .nil)
end
section
variable {X : Cx} {g : Gm} {ρ ρ1 ρ2 ρ3 : Rho} {N : List Str} {sc : Scope} {vs : List Nat} {pos p p2 px py pz cpos apos : Pos} {a b c e f : Expr} {es : List Expr} {pp : Post} {d : D}
/-- x = e, a binding -/
theorem su_setB (L : LoD X N sc vs) (i : Nat) {x : Str} {bd : Bd} (he : PB X g ρ e ρ1 bd) (h : pp.nx (ρ1.set i (some bd))) (hs : swapsWith e (some (.Name x px)) pos.line X.env = pure false := by rfl) (hN : N[i]? = some x := by rfl) (hl : locC sc x = true := by decide +kernel) :
    SU X g ρ (.Assign [.Name x px] e pos) pp :=
  ps_weak (ps_set (i := i) (by rw [L.hN]; exact L.nd) (by rw [L.hN]; exact hN) (by rw [L.hs]; exact loc_of hl) he hs (.inl (L.fn x))) fun D σ H q =>
    ⟨q.1, fun v H1 E1 x1 r1 f1 => q.2.1 _ _ _ h (E1.setB r1 f1) x1⟩
/-- the pairs of a display -/
def uPr (X : Cx) (g : Gm) (ρ : Rho) (kvs : List (Str × D)) (σ : L2.St) (H : Hp) (Q : List (V × V) → Hp → Prop) : Prop := Hold X g ρ σ H ∧ ∀ xs H', Hold X g ρ σ H' → Ext H H' → SdEnt X.K g.C H' xs kvs → Q (xs.map fun kv => (kV kv.1, kv.2)) H'
def PPU (X : Cx) (g : Gm) (ρ : Rho) (pos : Pos) (ks : List (Option Expr)) (vs : List Expr) (kvs : List (Str × D)) : Prop := ∃ trs, PPs X pos ks vs trs ∧ ∀ H0 R σ H Q, uPr X ⟨g.C, g.T, H0, R⟩ ρ kvs σ H Q → tPairs trs σ H Q
theorem ppu_nil : PPU X g ρ pos [] [] [] := ⟨[], pps_nil, fun H0 R σ H Q q => q.2 [] H q.1 (.refl H) .nil⟩
theorem ppu_cons {x : Str} {j : Nat} {ks : List (Option Expr)} {ws : List Expr} {kvs : List (Str × D)} (hv : ∀ H0 R, PU X ⟨g.C, g.T, H0, R⟩ ρ e ρ d) (hr : PPU X g ρ pos ks ws kvs) : PPU X g ρ pos (some (.Constant (.str x) j px) :: ks) (e :: ws) ((x, d) :: kvs) := by
  obtain ⟨trs, h1, h2⟩ := hr
  refine ⟨_, pps_cons (pe_any (t := fun σ H Q => ∃ H0 R, uE X ⟨g.C, g.T, H0, R⟩ ρ ρ (.str x) σ H Q) fun σ H Q ⟨H0, R, q⟩ => ⟨_, pu_str, q⟩)
    (pe_any (t := fun σ H Q => ∃ H0 R, uE X ⟨g.C, g.T, H0, R⟩ ρ ρ d σ H Q) fun σ H Q ⟨H0, R, q⟩ => ⟨_, hv H0 R, q⟩) h1, fun H0 R σ H Q q => ⟨H0, R, q.1, fun v H1 E1 x1 r1 => ⟨H0, R, E1, fun u H2 E2 x2 r2 => h2 H0 R _ _ _ ⟨E2, fun xs H3 E3 x3 r3 => ?_⟩⟩⟩⟩
  cases r1
  exact q.2 ((Sum.inr x, u) :: xs) H3 E3 ((x1.trans x2).trans x3) (.cons ⟨rfl, r2.ext x3⟩ r3)
/-- {"..": e, ..} -/
theorem pb_sdisp {ks : List (Option Expr)} {ws : List Expr} {kvs : List (Str × D)} (h : PPU X g ρ pos ks ws kvs) (nd : (kvs.map (·.1)).Nodup := by decide +kernel) (hall : ks.all (·.isSome) = true := by rfl) (hl : ks.length = ws.length := by rfl) (h0 : ks ≠ [] := by exact fun e => by cases e)
    (h15 : ks.length ≤ 15 := by exact Nat.le_of_ble_eq_true rfl) (hk : kvs.length ≤ 15 := by exact Nat.le_of_ble_eq_true rfl) : PB X g ρ (.Dict ks ws pos) ρ (.sdc kvs) := by
  obtain ⟨trs, h1, h2⟩ := h
  refine pe_weak (pe_disp h1 hall hl h0 h15) fun σ H Q q p n => ?_
  have sm : Same H (upd H p (.dK [])) := fun b w hb => by rw [upd_ne (ne_of_none hb n)]; exact hb
  have E1 := q.1.same sm
  have hno : NotOwn ρ σ p := q.1.notOwn n
  have hgp := q.1.fresh n
  refine h2 _ _ _ _ _ ⟨E1.rebase, fun xs H2 E2 x2 r2 => ?_⟩
  have r0 : BRep X.prog X.w X.K g.C (upd H p (.dK [])) (.sdc []) (.ref p) := ⟨p, [], rfl, upd_same, .nil⟩
  obtain ⟨a1, a2, a3⟩ := E1.flight r0 (fun _ a e => by cases e; exact ⟨hno, hgp⟩) E2 x2
  obtain ⟨p', xs0, e, hp, n0⟩ := a2
  cases e
  cases n0
  refine ⟨hp, xs, rfl, by rw [Paired.length r2]; exact hk, ?_⟩
  have em : mergeK [] xs = xs := by
    refine (mergeK_new xs [] ?_).trans (List.nil_append _)
    rw [List.nil_append, r2.keys]
    have e2 : (kvs.map fun x => (Sum.inr x.1 : Key)) = (kvs.map (·.1)).map Sum.inr := by rw [List.map_map]; rfl
    rw [e2]
    exact nd.map _ fun _ _ h e => h (Sum.inr.inj e)
  rw [em]
  obtain ⟨E3, x3⟩ := a1.otherO (o := .dK []) (H' := upd H2 p (.dK xs)) hp (fun z => z) (fun _ z => by cases z) (fun c q hc e => by rw [e, hp] at hc; unfold LamX.CodeO at hc; cases hc) hno hgp fun b e => upd_ne e
  exact q.2 _ _ E3 (((Ext.of_same sm).trans x2).trans x3) ⟨p, xs, rfl, upd_same, r2.ext x3⟩ fun _ a e => by cases e; exact ⟨hno, hgp⟩
/-- d[e] by the dict's name -/
theorem pu_sdget (L : LoD X N sc vs) (j : Nat) {x y : Str} {kvs : List (Str × D)} (hb : PU X g ρ b ρ (.str y)) (h : sdGet kvs y = some d) (hj : ρ[j]? = some (some (.sdc kvs)) := by rfl) (hN : N[j]? = some x := by rfl) (hi : j ∈ vs := by decide) (hs : NoSl b := by exact fun _ _ => rfl) :
    PU X g ρ (.Subscript (.Name x px) b pos) ρ d := by
  obtain ⟨h1, h2, h3⟩ := L.at_ hi hN
  refine pe_weak (pe_dget (by have := L.hu; omega) (pe_var (i := j) (by rw [L.hN]; exact hN) (by rw [L.hs]; exact h1) h2 h3) hb hs) fun σ H Q ⟨E, q⟩ => ?_
  obtain ⟨v, hv, a', xs', rfl, _, _⟩ := E.at_ j _ hj
  refine ⟨.ref a', hv, E, fun u H2 E2 x2 r2 => ?_⟩
  obtain ⟨v', hv', a, xs, rfl, ho, r⟩ := E2.at_ j _ hj
  rw [hv] at hv'
  cases hv'
  cases r2
  have g1 := r.get y
  rw [h] at g1
  cases hg : valV xs (Sum.inr y) with
  | none => rw [hg] at g1; cases g1
  | some w =>
    rw [hg] at g1
    cases g1 with
    | yes rr => exact ⟨_, w, rfl, by rw [← hg]; exact DGet.k (k := Sum.inr y) ho, q w H2 E2 x2 rr⟩
/-- e in d by the dict's name -/
theorem ptu_sdin (L : LoD X N sc vs) (j : Nat) {x y : Str} {kvs : List (Str × D)} (hb : PU X g ρ b ρ (.str y)) (hj : ρ[j]? = some (some (.sdc kvs)) := by rfl) (hN : N[j]? = some x := by rfl) (hi : j ∈ vs := by decide) :
    PTU X g ρ (.Compare b [.In] [.Name x px] pos) ρ (sdGet kvs y).isSome := by
  obtain ⟨h1, h2, h3⟩ := L.at_ hi hN
  refine pt_weak (pt_cmp (pc_din (by have := L.hu; omega) hb (pe_var (i := j) (by rw [L.hN]; exact hN) (by rw [L.hs]; exact h1) h2 h3))) fun σ H Q ⟨E, q⟩ => ⟨E, fun u H2 E2 x2 r2 => ?_⟩
  obtain ⟨v', hv', a, xs, rfl, ho, r⟩ := E2.at_ j _ hj
  cases r2
  refine ⟨_, hv', a, _, rfl, DGet.k (k := Sum.inr y) ho, _, rfl, ?_⟩
  have g1 := r.get y
  have e : (valV xs (Sum.inr y)).isSome = (sdGet kvs y).isSome := g1.isSome
  rw [e]
  exact q H2 E2 x2
/-- d.get(e, f) by the dict's name -/
theorem pu_sdget2 (L : LoD X N sc vs) (j : Nat) {x y : Str} {dd : D} {kvs : List (Str × D)} (hb : PU X g ρ b ρ (.str y)) (hf : PU X g ρ f ρ dd) (hj : ρ[j]? = some (some (.sdc kvs)) := by rfl) (hN : N[j]? = some x := by rfl) (hi : j ∈ vs := by decide)
    (hbase : attributeBase (.Name x px) "get" X.env (eval (.Name x px) X.env) = eval (.Name x px) X.env := by rfl)
    (hfew : ((backTo cpos (starEach [b, f] X.env)).all (fun x => !x.1) && (backToKw cpos (keywordEach [] X.env)).all (fun x => x.1.isSome) && decide (([b, f] : List Expr).length + ([] : List Keyword).length + (if ([] : List Keyword).isEmpty then 0 else 1) < 30)) = true := by rfl)
    (hline : (apos.endLine == cpos.line) = true := by rfl) (htr : backTo cpos (starEach [b, f] X.env) = [(false, eval b X.env), (false, eval f X.env)] := by rfl) :
    PU X g ρ (.Call (.Attribute (.Name x px) "get" apos) [b, f] [] cpos) ρ ((sdGet kvs y).getD dd) := by
  obtain ⟨h1, h2, h3⟩ := L.at_ hi hN
  refine pe_weak (pe_dget2 (by have := L.hu; omega) (pe_var (i := j) (by rw [L.hN]; exact hN) (by rw [L.hs]; exact h1) h2 h3) hb hf ⟨hbase, hfew, hline, htr⟩) fun σ H Q ⟨E, q⟩ => ?_
  obtain ⟨v, hv, a', xs', rfl, ho', _⟩ := E.at_ j _ hj
  refine ⟨.ref a', hv, a', rfl, .inl ⟨_, .inl ho'⟩, E, fun u H2 E2 x2 r2 => ⟨E2, fun w H3 E3 x3 r3 => ?_⟩⟩
  obtain ⟨v', hv', a, xs, rfl, ho, r⟩ := E3.at_ j _ hj
  rw [hv] at hv'
  cases hv'
  cases r2
  refine ⟨_, DGet.k (k := Sum.inr y) ho, q _ H3 E3 (x2.trans x3) ?_⟩
  have g1 := r.get y
  revert g1
  generalize valV xs (Sum.inr y) = o1
  generalize sdGet kvs y = o2
  intro g1
  cases g1 with
  | no => exact r3
  | yes rr => exact rr
/-- d[k] = e, a new key -/
theorem su_sdput (L : LoD X N sc vs) (j : Nat) {x y : Str} {kvs : List (Str × D)} (he : PU X g ρ e ρ d) (hb : PU X g ρ b ρ (.str y)) (hn : sdGet kvs y = none) (hz : kvs.length < sizeLine) (h : pp.nx (ρ.set j (some (.sdc (kvs ++ [(y, d)]))))) (hj : ρ[j]? = some (some (.sdc kvs)) := by rfl) (hN : N[j]? = some x := by rfl) (hi : j ∈ vs := by decide)
    (hs : swapsWith e (some (.Subscript (.Name x px) b py)) pos.line X.env = pure false := by rfl) : SU X g ρ (.Assign [.Subscript (.Name x px) b py] e pos) pp := by
  obtain ⟨h1, h2, h3⟩ := L.at_ hi hN
  refine ps_weak (ps_dput (by have := L.hu; omega) (pe_var (i := j) (by rw [L.hN]; exact hN) (by rw [L.hs]; exact h1) h2 h3) hb he hs) fun D σ H q => ⟨q.1, fun v H1 E1 x1 r1 => ?_⟩
  obtain ⟨w, hw, a', xs', rfl, ho', _⟩ := E1.at_ j _ hj
  refine ⟨_, hw, E1, fun u H2 E2 x2 r2 => ?_⟩
  obtain ⟨w', hw', a, xs, rfl, ho, r⟩ := E2.at_ j _ hj
  rw [hw] at hw'
  cases hw'
  cases r2
  have r3 := r.put (r1.ext x2) hn
  obtain ⟨E3, x3⟩ := E2.change (b1 := .sdc (kvs ++ [(y, d)])) (o' := .dK (putK xs (Sum.inr y) v)) hj rfl rfl hw ho (fun z => z) (fun _ z => by cases z) (fun P q c _ hc e => by subst e; rw [ho] at hc; unfold LamX.CodeO at hc; cases hc) fun x => ⟨_, _, rfl, upd_same, r3.ext x⟩
  exact ⟨_, _, rfl, DPut.k (k := Sum.inr y) ho (by rw [Paired.length r]; exact hz), q.2.1 _ _ _ h E3 ((x1.trans x2).trans x3)⟩
end
end C66
end TP13
section TM01
set_option Elab.async false
set_option linter.all false
set_option maxRecDepth 100000
set_option maxHeartbeats 4000000
/-! M01: the plain side: codes, handlers, next steps, tables. -/
namespace C66
open PySem PySem.Spec L2

/-! ### data that == serves, by depth -/
def D.low (k : Nat) (d : D) : Prop := d.eqs = true ∧ d.py.canLay0 = true ∧ d.py.depth ≤ k
theorem low_mono {k j : Nat} {d : D} (h : d.low k) (hk : k ≤ j) : d.low j := ⟨h.1, h.2.1, Nat.le_trans h.2.2 hk⟩
theorem low_shp {k : Nat} {d : D} (h : d.low k) (hk : k ≤ 64) : d.shp = true := by
  unfold D.shp SeqAt.shaped
  rw [h.1, h.2.1, decide_eq_true (Nat.le_trans h.2.2 hk)]
  rfl
theorem low_all {k : Nat} : ∀ ds : List D, (∀ d ∈ ds, d.low k) → eqsL ds = true ∧ PyData.canLayAll0 (pys ds) = true ∧ PyData.depthAll (pys ds) ≤ k
  | [], _ => ⟨by rw [eqsL], by rw [pys, PyData.canLayAll0], by rw [pys, PyData.depthAll]; exact Nat.zero_le _⟩
  | d :: ds, h => by
    obtain ⟨h1, h2, h3⟩ := h d List.mem_cons_self
    obtain ⟨i1, i2, i3⟩ := low_all ds fun x hx => h x (List.mem_cons_of_mem _ hx)
    exact ⟨by rw [eqsL, h1, i1]; rfl, by rw [pys, PyData.canLayAll0, h2, i2]; rfl, by rw [pys, PyData.depthAll]; exact Nat.max_le.mpr ⟨h3, i3⟩⟩
theorem low_tup {k : Nat} {ds : List D} (h : ∀ d ∈ ds, d.low k) : (D.tup ds).low (k + 1) := by
  obtain ⟨h1, h2, h3⟩ := low_all ds h
  exact ⟨by rw [D.eqs, h1], by rw [D.py, PyData.canLay0, h2], by rw [D.py, PyData.depth]; omega⟩
theorem low_lst {k : Nat} {ds : List D} (h : ∀ d ∈ ds, d.low k) : (D.lst ds).low (k + 1) := by
  obtain ⟨h1, h2, h3⟩ := low_all ds h
  exact ⟨by rw [D.eqs, h1], by rw [D.py, PyData.canLay0, h2], by rw [D.py, PyData.depth]; omega⟩
theorem low_int {i : Int} : (D.int i).low 0 := ⟨rfl, by show (PyData.int i).canLay0 = true; rw [PyData.canLay0], by show (PyData.int i).depth ≤ 0; simp [PyData.depth]⟩
theorem low_non : D.non.low 0 := ⟨rfl, by show (PyData.none).canLay0 = true; rw [PyData.canLay0], by show (PyData.none).depth ≤ 0; simp [PyData.depth]⟩
theorem low_bl {b : Bool} : (D.bl b).low 0 := ⟨rfl, by show (PyData.bool b).canLay0 = true; rw [PyData.canLay0], by show (PyData.bool b).depth ≤ 0; simp [PyData.depth]⟩
theorem low_str {x : Str} (h : (PyData.str x).canLay0 = true) : (D.str x).low 0 := ⟨rfl, h, by show (PyData.str x).depth ≤ 0; simp [PyData.depth]⟩
theorem eqv_ints : ∀ xs ys : List Int, PyData.eqvAll (pys (xs.map D.int)) (pys (ys.map D.int)) = decide (xs = ys)
  | [], [] => by rw [List.map_nil, pys, PyData.eqvAll]; rfl
  | [], y :: ys => by rw [List.map_nil, List.map_cons, pys, pys, PyData.eqvAll]; rfl
  | x :: xs, [] => by rw [List.map_nil, List.map_cons, pys, pys, PyData.eqvAll]; rfl
  | x :: xs, y :: ys => by
    rw [List.map_cons, List.map_cons, pys, pys, PyData.eqvAll, eqv_ints xs ys, D.py, D.py, PyData.eqv, Bool.beq_eq_decide_eq, ← Bool.decide_and]
    exact decide_eq_decide.mpr (by rw [List.cons.injEq])

/-! ### codes -/
abbrev Stp := Str × Option Int
def stD (s : Stp) : D := match s.2 with
  | none => .tup [.str s.1]
  | some k => .tup [.str s.1, .int k]
abbrev Hnd := Int × Int × Str × Int
def hdD (h : Hnd) : D := .tup [.int h.1, .int h.2.1, .str h.2.2.1, .int h.2.2.2]
def codeD (c : List Stp) : D := .tup (c.map stD)
def hsD (hs : List Hnd) : D := .tup (hs.map hdD)
/-- what a step may be in a code of n steps -/
inductive StpOk (n : Nat) : Stp → Prop
  | give : StpOk n ("give", none)
  | throw : StpOk n ("throw", none)
  | enter : StpOk n ("enter", none)
  | leave : StpOk n ("leave", none)
  | drop : StpOk n ("drop", none)
  | push {k : Int} : 0 ≤ k → k ≤ 3 → StpOk n ("push", some k)
  | take {k : Int} : 0 ≤ k → k ≤ 3 → StpOk n ("take", some k)
  | keep {k : Int} : 0 ≤ k → k ≤ 3 → StpOk n ("keep", some k)
  | go {k : Int} : 0 ≤ k → k < n → StpOk n ("go", some k)
  | ifs {k : Int} : 0 ≤ k → k < n → StpOk n ("if", some k)
def HndOk (n : Nat) (h : Hnd) : Prop := 0 ≤ h.1 ∧ h.1 < n ∧ h.1 + 1 ≤ h.2.1 ∧ h.2.1 ≤ n ∧ (h.2.2.1 = "top" ∨ h.2.2.1 = "box") ∧ 0 ≤ h.2.2.2 ∧ h.2.2.2 < n
def isHoldStep (s : Stp) : Bool := s.1 == "enter" || s.1 == "leave"
/-- the goals of a code -/
def goalS (s : Stp) : Option Int := if s.1 = "go" ∨ s.1 = "if" then s.2 else none
structure CodeOk (c : List Stp) (hs : List Hnd) : Prop where
  pos : 1 ≤ c.length
  most : c.length ≤ 20
  step : ∀ s ∈ c, StpOk c.length s
  last : ∀ s, c[c.length - 1]? = some s → s.1 = "give" ∨ s.1 = "go" ∨ s.1 = "throw"
  hold : ∀ (i : Nat) s, c[i]? = some s → isHoldStep s = true → ∃ j k, i = j + 1 ∧ c[j]? = some ((("take" : Str), some k) : Stp)
  aim : ∀ (i : Nat) s, c[i]? = some s → isHoldStep s = true → (i : Int) ∉ c.filterMap goalS ∧ ∀ h ∈ hs, h.2.2.2 ≠ (i : Int)
  few : hs.length ≤ 2
  hnd : ∀ h ∈ hs, HndOk c.length h
theorem StpOk.low0 {n : Nat} {s : Stp} (h : StpOk n s) : (D.str s.1).low 0 := by
  refine low_str ?_
  cases h <;> (dsimp only; decide +kernel)
theorem StpOk.low {n : Nat} {s : Stp} (h : StpOk n s) : (stD s).low 1 := by
  have h0 := h.low0
  obtain ⟨x, o⟩ := s
  cases o with
  | none =>
    exact low_tup fun d hd => by
      simp only [List.mem_cons, List.not_mem_nil, or_false] at hd
      subst hd; exact h0
  | some k =>
    exact low_tup fun d hd => by
      simp only [List.mem_cons, List.not_mem_nil, or_false] at hd
      rcases hd with rfl | rfl
      · exact h0
      · exact low_int
theorem CodeOk.low {c : List Stp} {hs : List Hnd} (h : CodeOk c hs) : (codeD c).low 2 := low_tup fun d hd => by
  obtain ⟨s, hs', rfl⟩ := List.mem_map.mp hd
  exact (h.step s hs').low
theorem codeD_get {c : List Stp} {i : Nat} {s : Stp} (h : c[i]? = some s) : (c.map stD)[i]? = some (stD s) := by rw [List.getElem?_map, h]; rfl
end C66
end TM01
section TD06
set_option Elab.async false
set_option linter.all false
set_option autoImplicit false
set_option maxRecDepth 100000
set_option maxHeartbeats 4000000
namespace C66
open PySem PySem.Spec L2
section
variable {P : Program} {w : World} {K : PySem.W.Frag} {mg : Str → Option Value} {base : Heap} {C : Addr} {Tb : List (Addr × Str)}
def endsL : List Str := ["give", "go", "throw"]
def bareL : List Str := ["none", "add", "less", "same", "give", "throw", "enter", "leave", "copy", "drop", "print"]
theorem eqv_cons_nil {d : D} {ds : List D} : PyData.eqv (D.tup (d :: ds)).py (D.tup []).py = false := by
  show PyData.eqv (.tuple (d.py :: pys ds)) (.tuple []) = false
  rw [PyData.eqv, PyData.eqvAll]
theorem u_lenM {X : Cx} {g : Gm} {ρ ρ1 : Rho} {N : List Str} {sc : Scope} {vs : List Nat} {pos p : Pos} {e : Expr} {α : Type} {l : List α} {fn : α → D} (L : Lo X N sc vs) (T : Txt X.K g.C X.mg) (ha : PU X g ρ e ρ1 (.tup (l.map fn))) (hg : gloC sc "len" = true := by decide +kernel)
    (he : starEach [e] X.env = (false, eval e X.env) :: starEach [] X.env := by rfl) (hpl : (backTo pos (starEach [] X.env)).any (·.1) = false := by rfl) : PU X g ρ (.Call (.Name "len" p) [e] [] pos) ρ1 (.int l.length) := by
  have h := u_lenT (p := p) L T ha hg he hpl
  rwa [List.length_map] at h
/-! is_step -/
abbrev nIsStep : List Str := ["classes", "code", "at", "step", "spans", "parts"]
theorem scIsStep : FnScope nIsStep ["classes", "code", "at"] (defScope (topS 34)) := ⟨rfl, rfl, rfl, by decide +kernel, rfl, by decide +kernel, by decide +kernel⟩
def preIsStep : List D → (Bd → Prop) → Prop := fun ds post => ∃ cls c i s, ds = [cls, codeD c, .int (i : Nat)] ∧ c[i]? = some s ∧ StpOk c.length s ∧ (i + 1 = c.length → s.1 ∈ endsL) ∧ ∀ b, b = .dat (.bl true) → post b
theorem ok_is_step {f : Addr} {fd : FuncData} (F : Fun K "is_step" "is_step" (topS 34) f fd) (T : Txt K C mg) (G1 : Dfn P w K mg base C Tb 1 "is_in" preIsIn) : FnOk P w K mg base CX0 2 f fd ["classes", "code", "at"] (spF C Tb P w K preIsStep) := by
  refine fn_data [0, 1, 2, 3, 4, 5] F scIsStep (by decide +kernel) (fun ds post ⟨_, _, _, _, e, _⟩ => by rw [e]; rfl) (by decide) ?_
  rintro X rfl rfl rfl rfl rfl L hr g rfl rfl hR ds post ⟨cls, c, i, s, rfl, hs, hok, hend, hp⟩
  show SUs X g [some (.dat cls), some (.dat (codeD c)), some (.dat (.int i)), none, none, none] _ _
  have hi : i < c.length := (List.getElem?_eq_some_iff.mp hs).1
  refine s_set L 3 (pu_ixT (pu_var L.toLo 1) (pu_var L.toLo 2) (by rw [dAt_nat]; exact codeD_get hs)) ?_
  show SUs X g [some (.dat cls), some (.dat (codeD c)), some (.dat (.int i)), some (.dat (stD s)), none, none] _ _
  have fin : (∃ x, s = (x, none) ∧ x ∈ bareL) ∨ ∃ (x : Str) (k m : Int) (l : Int), s = (x, some k) ∧ l = (c.length : Int) - 1 ∧ sdGet [("push", .int 15), ("take", .int 3), ("keep", .int 3), ("go", .int l), ("if", .int l)] x = some (.int m) ∧ 0 ≤ k ∧ k ≤ m := by
    cases hok with
    | give => exact .inl ⟨_, rfl, by decide +kernel⟩
    | throw => exact .inl ⟨_, rfl, by decide +kernel⟩
    | enter => exact .inl ⟨_, rfl, by decide +kernel⟩
    | leave => exact .inl ⟨_, rfl, by decide +kernel⟩
    | drop => exact .inl ⟨_, rfl, by decide +kernel⟩
    | push h1 h2 => exact .inr ⟨_, _, 15, _, rfl, rfl, rfl, h1, by omega⟩
    | take h1 h2 => exact .inr ⟨_, _, 3, _, rfl, rfl, rfl, h1, by omega⟩
    | keep h1 h2 => exact .inr ⟨_, _, 3, _, rfl, rfl, rfl, h1, by omega⟩
    | go h1 h2 => exact .inr ⟨_, _, _, _, rfl, rfl, rfl, h1, by omega⟩
    | ifs h1 h2 => exact .inr ⟨_, _, _, _, rfl, rfl, rfl, h1, by omega⟩
  have hlow := hok.low
  rcases fin with ⟨x, rfl, hx⟩ | ⟨x, k, m, l, rfl, rfl, hm, h0, h1⟩
  · show SUs X g [some (.dat cls), some (.dat (codeD c)), some (.dat (.int i)), some (.dat (.tup [.str x])), none, none] _ _
    refine s_ifF (k := _) (ptu_of (pwu_or (ptu_not (ptu_val (i_tuple L.toLo T (pu_var L.toLo 3)))) fun _ => pwu_or (ptu_cmp (ou_eqD L.hu (low_shp hlow (by decide)) (by decide +kernel)) (pu_var L.toLo 3) (pu_tup pau_nil)) fun _ =>
      pwu_or1 (ptu_not (ptu_val (i_str L.toLo T (pu_ixT (pu_var L.toLo 3) pu_int rfl)))))) (by
        show (false || (PyData.eqv (D.tup [.str x]).py (D.tup []).py || false)) = false
        rw [eqv_cons_nil]; rfl) ?_
    refine s_ifF (k := decide ((i : Int) = (c.length : Int) - 1) && !decide (x ∈ endsL)) (ptu_of (pwu_and (ptu_cmp ou_eqI (pu_var L.toLo 2) (pu_bin ou_sub (u_lenM (fn := stD) L.toLo T (pu_var L.toLo 1)) pu_int)) fun _ => pwu_and1 (ptu_cmp (ou_niS (ss := endsL) (.inl rfl)) (pu_ixT (pu_var L.toLo 3) pu_int rfl) (pu_glob L.toLo T.ENDS)))) (by
        by_cases hl : i + 1 = c.length
        · rw [decide_eq_true (hend hl)]; simp
        · rw [decide_eq_false (by omega)]; rfl) ?_
    refine s_ifT (k := true) (ptu_cmp ou_eqI (u_lenT L.toLo T (pu_var L.toLo 3)) pu_int) rfl ?_
    exact su_one (s_retE (d' := .bl true) (pu_cmp (ou_inS (ss := bareL) (.inl rfl)) (pu_ixT (pu_var L.toLo 3) pu_int rfl) (pu_glob L.toLo T.BARE)) (congrArg D.bl (decide_eq_true hx)) (hp _ rfl))
  · show SUs X g [some (.dat cls), some (.dat (codeD c)), some (.dat (.int i)), some (.dat (.tup [.str x, .int k])), none, none] _ _
    refine s_ifF (k := _) (ptu_of (pwu_or (ptu_not (ptu_val (i_tuple L.toLo T (pu_var L.toLo 3)))) fun _ => pwu_or (ptu_cmp (ou_eqD L.hu (low_shp hlow (by decide)) (by decide +kernel)) (pu_var L.toLo 3) (pu_tup pau_nil)) fun _ =>
      pwu_or1 (ptu_not (ptu_val (i_str L.toLo T (pu_ixT (pu_var L.toLo 3) pu_int rfl)))))) (by
        show (false || (PyData.eqv (D.tup [.str x, .int k]).py (D.tup []).py || false)) = false
        rw [eqv_cons_nil]; rfl) ?_
    refine s_ifF (k := decide ((i : Int) = (c.length : Int) - 1) && !decide (x ∈ endsL)) (ptu_of (pwu_and (ptu_cmp ou_eqI (pu_var L.toLo 2) (pu_bin ou_sub (u_lenM (fn := stD) L.toLo T (pu_var L.toLo 1)) pu_int)) fun _ => pwu_and1 (ptu_cmp (ou_niS (ss := endsL) (.inl rfl)) (pu_ixT (pu_var L.toLo 3) pu_int rfl) (pu_glob L.toLo T.ENDS)))) (by
        by_cases hl : i + 1 = c.length
        · rw [decide_eq_true (hend hl)]; simp
        · rw [decide_eq_false (by omega)]; rfl) ?_
    refine s_ifF (k := false) (ptu_cmp ou_eqI (u_lenT L.toLo T (pu_var L.toLo 3)) pu_int) rfl ?_
    refine s_ifT (k := true) (ptu_cmp ou_eqI (u_lenT L.toLo T (pu_var L.toLo 3)) pu_int) rfl ?_
    refine su_cons (su_setB L 4 (bd := .sdc [("push", .int 15), ("take", .int 3), ("keep", .int 3), ("go", .int ((c.length : Int) - 1)), ("if", .int ((c.length : Int) - 1))]) (pb_sdisp (ppu_cons (fun H0 R => pu_int) (ppu_cons (fun H0 R => pu_bin ou_sub (pu_glob (g := ⟨g.C, g.T, H0, R⟩) L.toLo T.LOCALS) pu_int) (ppu_cons (fun H0 R => pu_bin ou_sub (pu_glob (g := ⟨g.C, g.T, H0, R⟩) L.toLo T.LOCALS) pu_int)
      (ppu_cons (fun H0 R => pu_bin ou_sub (u_lenM (g := ⟨g.C, g.T, H0, R⟩) (fn := stD) L.toLo T (pu_var L.toLo 1)) pu_int) (ppu_cons (fun H0 R => pu_bin ou_sub (u_lenM (g := ⟨g.C, g.T, H0, R⟩) (fn := stD) L.toLo T (pu_var L.toLo 1)) pu_int) ppu_nil))))) (nd := by show (["push", "take", "keep", "go", "if"] : List Str).Nodup; decide +kernel)) ?_)
    refine su_cons (su_if (k := (sdGet [("push", .int 15), ("take", .int 3), ("keep", .int 3), ("go", .int ((c.length : Int) - 1)), ("if", .int ((c.length : Int) - 1))] x).isSome) (ptu_sdin L 4 (pu_ixT (pu_var L.toLo 3) pu_int rfl)) (fun _ => ?_) (fun h => by rw [hm] at h; cases h))
    refine su_one (s_retE (d' := .bl true) (pu_call L.toLo G1 (hr.mono (by decide)) (pau_cons (pu_ixT (pu_var L.toLo 3) pu_int rfl) (pau_cons pu_int (pau_cons (pu_sdget L 4 (pu_ixT (pu_var L.toLo 3) pu_int rfl) hm) pau_nil))) ⟨_, _, _, rfl, rfl, fun b h => h⟩) ?_ (hp _ rfl))
    show D.bl (decide (0 ≤ k) && decide (k ≤ m)) = .bl true
    rw [decide_eq_true h0, decide_eq_true h1]; rfl
end
end C66
end TD06
section TD07
set_option Elab.async false
set_option linter.all false
set_option autoImplicit false
set_option maxRecDepth 100000
set_option maxHeartbeats 4000000
namespace C66
open PySem PySem.Spec L2
/-- e, its value unused -/
theorem su_expr {X : Cx} {g : Gm} {ρ ρ1 : Rho} {e : Expr} {pos : Pos} {p : Post} {d : D} (he : PU X g ρ e ρ1 d) (h : p.nx ρ1) (hs : swapsWith e none pos.line X.env = pure false := by rfl) : SU X g ρ (.Expr e pos) p :=
  ps_weak (ps_expr he hs) fun D σ H q => ⟨q.1, fun v H1 E1 x1 r1 => q.2.1 ρ1 σ H1 h E1 x1⟩
section
variable {P : Program} {w : World} {K : PySem.W.Frag} {mg : Str → Option Value} {base : Heap} {C : Addr} {Tb : List (Addr × Str)}
/-! is_handler -/
abbrev nIsHnd : List Str := ["classes", "code", "value"]
theorem scIsHnd : FnScope nIsHnd ["classes", "code", "value"] (defScope (topS 35)) := ⟨rfl, rfl, rfl, by decide +kernel, rfl, by decide +kernel, by decide +kernel⟩
def preIsHnd : List D → (Bd → Prop) → Prop := fun ds post => ∃ ff mm c h, ds = [.tup [boxD ff mm], codeD c, hdD h] ∧ HndOk c.length h ∧ ∀ b, b = .dat (.bl true) → post b
theorem ok_is_handler {f : Addr} {fd : FuncData} (F : Fun K "is_handler" "is_handler" (topS 35) f fd) (T : Txt K C mg) (G1 : Dfn P w K mg base C Tb 1 "is_in" preIsIn) (G2 : Dfn P w K mg base C Tb 1 "is_word" preIsWord) (G3 : Dfn P w K mg base C Tb 1 "names_of" preNamesOf) :
    FnOk P w K mg base CX0 2 f fd ["classes", "code", "value"] (spF C Tb P w K preIsHnd) := by
  refine fn_data [0, 1, 2] F scIsHnd (by decide +kernel) (fun ds post ⟨_, _, _, _, e, _⟩ => by rw [e]; rfl) (by decide) ?_
  rintro X rfl rfl rfl rfl rfl L hr g rfl rfl hR ds post ⟨ff, mm, c, ⟨hb, he, hn, hg⟩, rfl, ⟨h1, h2, h3, h4, h5, h6, h7⟩, hp⟩
  show SUs X g [some (.dat (.tup [boxD ff mm])), some (.dat (codeD c)), some (.dat (.tup [.int hb, .int he, .str hn, .int hg]))] _ _
  dsimp only at h1 h2 h3 h4 h5 h6 h7
  refine s_ifF (k := _) (ptu_of (pwu_or (ptu_not (ptu_val (i_tuple L.toLo T (pu_var L.toLo 2)))) fun _ => pwu_or (ptu_cmp ou_neI (u_lenT L.toLo T (pu_var L.toLo 2)) pu_int) fun _ =>
    pwu_or1 (ptu_not (ptu_val (pu_call L.toLo G1 hr (pau_cons (pu_ixT (pu_var L.toLo 2) pu_int rfl) (pau_cons pu_int (pau_cons (pu_bin ou_sub (u_lenM (fn := stD) L.toLo T (pu_var L.toLo 1)) pu_int) pau_nil))) ⟨_, _, _, rfl, rfl, fun b h => h⟩))))) (by
      show (false || (false || !(decide (0 ≤ hb) && decide (hb ≤ (c.length : Int) - 1)))) = false
      rw [decide_eq_true h1, decide_eq_true (by omega)]; rfl) ?_
  refine s_ifF (k := _) (ptu_of (pwu_or (ptu_not (ptu_val (pu_call L.toLo G1 hr (pau_cons (pu_ixT (pu_var L.toLo 2) pu_int rfl) (pau_cons (pu_bin ou_add (pu_ixT (pu_var L.toLo 2) pu_int rfl) pu_int) (pau_cons (u_lenM (fn := stD) L.toLo T (pu_var L.toLo 1)) pau_nil))) ⟨_, _, _, rfl, rfl, fun b h => h⟩))) fun _ =>
    pwu_or (ptu_not (ptu_val (pu_call L.toLo G2 hr (pau_cons (pu_ixT (pu_var L.toLo 2) pu_int rfl) pau_nil) (pre_word (x := hn) (by rcases h5 with rfl | rfl <;> decide +kernel) (by rcases h5 with rfl | rfl <;> decide))))) fun _ =>
    pwu_or1 (ptu_cmp (ou_niS (.inr rfl)) (pu_ixT (pu_var L.toLo 2) pu_int rfl) (pu_call L.toLo G3 hr (pau_cons (pu_var L.toLo 0) pau_nil) ⟨_, _, rfl, .one ff mm, fun b h => h⟩)))) (by
      show (!(decide (hb + 1 ≤ he) && decide (he ≤ (c.length : Int))) || (false || !decide (hn ∈ (["top", "box"] : List Str)))) = false
      rw [decide_eq_true h3, decide_eq_true h4, decide_eq_true (by rcases h5 with rfl | rfl <;> decide)]; rfl) ?_
  refine su_one (s_retE (d' := .bl true) (pu_call L.toLo G1 hr (pau_cons (pu_ixT (pu_var L.toLo 2) pu_int rfl) (pau_cons pu_int (pau_cons (pu_bin ou_sub (u_lenM (fn := stD) L.toLo T (pu_var L.toLo 1)) pu_int) pau_nil))) ⟨_, _, _, rfl, rfl, fun b h => h⟩) ?_ (hp _ rfl))
  show D.bl (decide (0 ≤ hg) && decide (hg ≤ (c.length : Int) - 1)) = .bl true
  rw [decide_eq_true h6, decide_eq_true (by omega)]; rfl

/-! check_code -/
abbrev nChk : List Str := ["classes", "index", "place", "method", "code", "step", "row", "handler"]
theorem scChk : FnScope nChk ["classes", "index", "place", "method"] (defScope (topS 36)) := ⟨rfl, rfl, rfl, by decide +kernel, rfl, by decide +kernel, by decide +kernel⟩
def preChk : List D → (Bd → Prop) → Prop := fun ds post => ∃ ff mm i j c hs, ds = [.tup [boxD ff mm], i, j, methD (codeD c) (hsD hs)] ∧ CodeOk c hs ∧ ∀ b, b = .dat .non → post b
theorem ok_check_code {f : Addr} {fd : FuncData} (F : Fun K "check_code" "check_code" (topS 36) f fd) (T : Txt K C mg) (G1 : Dfn P w K mg base C Tb 1 "is_list" preIsList) (G2 : Dfn P w K mg base C Tb 2 "is_step" preIsStep) (G3 : Dfn P w K mg base C Tb 2 "is_handler" preIsHnd) :
    FnOk P w K mg base CX0 3 f fd ["classes", "index", "place", "method"] (spF C Tb P w K preChk) := by
  refine fn_data [0, 1, 2, 3, 4, 5, 6, 7] F scChk (by decide +kernel) (fun ds post ⟨_, _, _, _, _, _, e, _⟩ => by rw [e]; rfl) (by decide) ?_
  rintro X rfl rfl rfl rfl rfl L hr g rfl rfl hR ds post ⟨ff, mm, ii, jj, c, hs, rfl, ok, hp⟩
  show SUs X g [some (.dat (.tup [boxD ff mm])), some (.dat ii), some (.dat jj), some (.dat (methD (codeD c) (hsD hs))), none, none, none, none] _ _
  refine s_set L 4 (pu_ixT (pu_var L.toLo 3) pu_int rfl) ?_
  have sh : ∀ x y z : Option Bd, ∃ ρ : Rho, ρ = [some (.dat (.tup [boxD ff mm])), some (.dat ii), some (.dat jj), some (.dat (methD (codeD c) (hsD hs))), some (.dat (codeD c)), x, y, z] := fun _ _ _ => ⟨_, rfl⟩
  show SUs X g [some (.dat (.tup [boxD ff mm])), some (.dat ii), some (.dat jj), some (.dat (methD (codeD c) (hsD hs))), some (.dat (codeD c)), none, none, none] _ _
  obtain ⟨s0, rest, hcs⟩ : ∃ s0 rest, c = s0 :: rest := by
    cases hc : c with
    | nil => have := ok.pos; rw [hc] at this; simp at this
    | cons s0 rest => exact ⟨_, _, rfl⟩
  refine s_ifF (k := _) (ptu_of (pwu_or (ptu_not (ptu_val (pu_call L.toLo G1 (hr.mono (by decide)) (pau_cons (pu_var L.toLo 4) (pau_cons (pu_glob L.toLo T.MOST_STEPS) pau_nil)) ⟨_, _, rfl, fun b h => h⟩))) fun _ => pwu_or1 (ptu_cmp (ou_eqD L.hu (low_shp ok.low (by decide)) (by decide +kernel)) (pu_var L.toLo 4) (pu_tup pau_nil)))) (by
    have e1 : PyData.eqv (codeD c).py (D.tup []).py = false := by rw [hcs]; exact eqv_cons_nil
    rw [e1, List.length_map, decide_eq_true (by have := ok.most; omega)]; rfl) ?_
  refine su_cons (su_for L (S := [5]) (fun ρ d => ρ.set 5 (some (.dat d))) (fun _ ρ => ∃ x, ρ = [some (.dat (.tup [boxD ff mm])), some (.dat ii), some (.dat jj), some (.dat (methD (codeD c) (hsD hs))), some (.dat (codeD c)), x, none, none])
    (piu_range L.toLo (u_lenM (fn := stD) L.toLo T (pu_var L.toLo 4)) T.range (by omega) (by have := ok.most; omega)) (fun i d ρ' _ _ => pgu_name L.toLo 5 (.inl (L.fn _)) (hS := by decide)) ⟨none, rfl⟩ (fun i d ρ' hd hP => ?_) (fun ρ' hP => ?_))
  · obtain ⟨x, rfl⟩ := hP
    have hi : i < c.length := by
      have := (List.getElem?_eq_some_iff.mp hd).1
      simpa using this
    have ed : d = .int (i : Int) := by
      rw [List.getElem?_map, List.getElem?_range (by simpa using hi)] at hd
      simpa using hd.symm
    subst ed
    show SUs X g [some (.dat (.tup [boxD ff mm])), some (.dat ii), some (.dat jj), some (.dat (methD (codeD c) (hsD hs))), some (.dat (codeD c)), some (.dat (.int i)), none, none] _ _
    have hs' : c[i]? = some c[i] := List.getElem?_eq_getElem hi
    refine s_ifF (k := _) (ptu_not (ptu_val (pu_call L.toLo G2 hr (pau_cons (pu_var L.toLo 0) (pau_cons (pu_var L.toLo 4) (pau_cons (pu_var L.toLo 5) pau_nil))) ⟨_, c, i, c[i], rfl, hs', ok.step _ (List.getElem_mem hi), fun he => ?_, fun b h => h⟩))) rfl (su_nil ⟨_, rfl⟩)
    have hl := ok.last c[i] (by rw [show c.length - 1 = i by omega]; exact hs')
    rcases hl with h | h | h <;> rw [h] <;> decide
  · obtain ⟨x, rfl⟩ := hP
    refine s_ifF (k := _) (ptu_not (ptu_val (pu_call L.toLo G1 (hr.mono (by decide)) (pau_cons (pu_ixT (pu_var L.toLo 3) pu_int rfl) (pau_cons (pu_glob L.toLo T.MOST_PARTS) pau_nil)) ⟨_, _, rfl, fun b h => h⟩))) (by
      rw [List.length_map, decide_eq_true (by have := ok.few; omega)]; rfl) ?_
    refine su_one (su_for L (S := [6, 7]) (fun ρ d => match d with | .tup [a, b] => (ρ.set 6 (some (.dat a))).set 7 (some (.dat b)) | _ => ρ) (fun _ ρ => ∃ y z, ρ = [some (.dat (.tup [boxD ff mm])), some (.dat ii), some (.dat jj), some (.dat (methD (codeD c) (hsD hs))), some (.dat (codeD c)), x, y, z])
      (piu_enumT L.toLo (ds := hs.map hdD) (pu_ixT (pu_var L.toLo 3) pu_int rfl) T.enumerate) (fun i d ρ' hd _ => ?_) ⟨none, none, rfl⟩ (fun i d ρ' hd hP => ?_) (fun ρ' _ => hp _ rfl))
    · obtain ⟨y, _, rfl⟩ := pairsD_at hd
      exact pgu_pair L.calm (pgu_name L.toLo 6 (.inl (L.fn _)) (hS := by decide)) (pgu_name L.toLo 7 (.inl (L.fn _)) (hS := by decide))
    · obtain ⟨y, hy, rfl⟩ := pairsD_at hd
      obtain ⟨y1, y2, rfl⟩ := hP
      rw [List.getElem?_map] at hy
      cases hh : hs[i]? with
      | none => rw [hh] at hy; cases hy
      | some h =>
        rw [hh] at hy
        cases hy
        show SUs X g [some (.dat (.tup [boxD ff mm])), some (.dat ii), some (.dat jj), some (.dat (methD (codeD c) (hsD hs))), some (.dat (codeD c)), x, some (.dat (.int i)), some (.dat (hdD h))] _ _
        exact s_ifF (k := _) (ptu_not (ptu_val (pu_call L.toLo G3 hr (pau_cons (pu_var L.toLo 0) (pau_cons (pu_var L.toLo 4) (pau_cons (pu_var L.toLo 7) pau_nil))) ⟨_, _, c, h, rfl, ok.hnd h (List.mem_of_getElem? hh), fun b h => h⟩))) rfl (su_nil ⟨_, _, rfl⟩)
end
end C66
end TD07
section TD08
set_option Elab.async false
set_option linter.all false
set_option autoImplicit false
set_option maxRecDepth 100000
set_option maxHeartbeats 4000000
namespace C66
open PySem PySem.Spec L2
def clsD (c : List Stp) (hs : List Hnd) : D := .tup [boxD (.tup []) (.tup [methD (codeD c) (hsD hs)])]
section
variable {P : Program} {w : World} {K : PySem.W.Frag} {mg : Str → Option Value} {base : Heap} {C : Addr} {Tb : List (Addr × Str)}
/-! check_classes -/
abbrev nChkC : List Str := ["classes", "index", "told", "names", "place", "method"]
theorem scChkC : FnScope nChkC ["classes"] (defScope (topS 37)) := ⟨rfl, rfl, rfl, by decide +kernel, rfl, by decide +kernel, by decide +kernel⟩
def preChkC : List D → (Bd → Prop) → Prop := fun ds post => ∃ c hs, ds = [clsD c hs] ∧ CodeOk c hs ∧ ∀ b, b = .dat .non → post b
theorem one_at {d x : D} {i : Nat} (h : [x][i]? = some d) : i = 0 ∧ d = x := by
  cases i with
  | zero => exact ⟨rfl, by simpa using h.symm⟩
  | succ i => simp at h
theorem ok_check_classes {f : Addr} {fd : FuncData} (F : Fun K "check_classes" "check_classes" (topS 37) f fd) (T : Txt K C mg) (G1 : Dfn P w K mg base C Tb 1 "is_list" preIsList) (G2 : Dfn P w K mg base C Tb 2 "is_class" preIsClass) (G3 : Dfn P w K mg base C Tb 1 "names_of" preNamesOf)
    (G4 : Dfn P w K mg base C Tb 2 "are_fields" preAreF) (G5 : Dfn P w K mg base C Tb 3 "is_method" preIsMeth) (G6 : Dfn P w K mg base C Tb 3 "check_code" preChk) : FnOk P w K mg base CX0 4 f fd ["classes"] (spF C Tb P w K preChkC) := by
  refine fn_data [0, 1, 2, 3, 4, 5] F scChkC (by decide +kernel) (fun ds post ⟨_, _, e, _⟩ => by rw [e]; rfl) (by decide) ?_
  rintro X rfl rfl rfl rfl rfl L hr g rfl rfl hR ds post ⟨c, hs, rfl, ok, hp⟩
  show SUs X g [some (.dat (clsD c hs)), none, none, none, none, none] _ _
  refine s_ifF (k := _) (ptu_of (pwu_or (ptu_not (ptu_val (pu_call L.toLo G1 (hr.mono (by decide)) (pau_cons (pu_var L.toLo 0) (pau_cons (pu_glob L.toLo T.MOST_CLASSES) pau_nil)) ⟨_, _, rfl, fun b h => h⟩))) fun _ => pwu_or1 (ptu_cmp (ou_eqD L.hu (low_shp (k := 64) (low_mono (low_tup (k := 5) fun d hd => ?_) (by decide)) (by decide)) (by decide +kernel)) (pu_var L.toLo 0) (pu_tup pau_nil)))) (by
    show (false || PyData.eqv (clsD c hs).py (D.tup []).py) = false
    rw [show clsD c hs = .tup (boxD (.tup []) (.tup [methD (codeD c) (hsD hs)]) :: []) from rfl, eqv_cons_nil]; rfl) ?_
  · simp only [List.mem_cons, List.not_mem_nil, or_false] at hd
    subst hd
    refine low_mono (low_tup (k := 4) fun d hd => ?_) (by decide)
    simp only [List.mem_cons, List.not_mem_nil, or_false] at hd
    rcases hd with rfl | rfl | rfl | rfl
    · exact low_mono (low_str (by decide +kernel)) (by decide)
    · exact low_mono (low_str (by decide +kernel)) (by decide)
    · exact low_mono (low_tup (k := 0) fun d hd => by cases hd) (by decide)
    · refine low_tup (k := 3) fun d hd => ?_
      simp only [List.mem_cons, List.not_mem_nil, or_false] at hd
      subst hd
      refine low_tup (k := 2) fun d hd => ?_
      simp only [List.mem_cons, List.not_mem_nil, or_false] at hd
      rcases hd with rfl | rfl | rfl | rfl | rfl
      · exact low_mono (low_str (by decide +kernel)) (by decide)
      · exact low_mono (low_tup (k := 0) fun d hd => by cases hd) (by decide)
      · exact low_mono (low_str (by decide +kernel)) (by decide)
      · exact ok.low
      · refine low_tup (k := 1) fun d hd => ?_
        obtain ⟨h, hh, rfl⟩ := List.mem_map.mp hd
        refine low_tup (k := 0) fun d hd => ?_
        simp only [List.mem_cons, List.not_mem_nil, or_false] at hd
        rcases hd with rfl | rfl | rfl | rfl
        · exact low_int
        · exact low_int
        · rcases (ok.hnd h hh).2.2.2.2.1 with e | e <;> rw [e] <;> exact low_str (by decide +kernel)
        · exact low_int
  refine su_cons (su_for L (S := [1, 2]) (fun ρ d => match d with | .tup [a, b] => (ρ.set 1 (some (.dat a))).set 2 (some (.dat b)) | _ => ρ) (fun _ ρ => ∃ y z, ρ = [some (.dat (clsD c hs)), y, z, none, none, none])
    (piu_enumT L.toLo (pu_var L.toLo 0) T.enumerate) (fun i d ρ' hd _ => ?_) ⟨none, none, rfl⟩ (fun i d ρ' hd hP => ?_) (fun ρ' hP => ?_))
  · obtain ⟨y, _, rfl⟩ := pairsD_at hd
    exact pgu_pair L.calm (pgu_name L.toLo 1 (.inl (L.fn _)) (hS := by decide)) (pgu_name L.toLo 2 (.inl (L.fn _)) (hS := by decide))
  · obtain ⟨y, hy, rfl⟩ := pairsD_at hd
    obtain ⟨y1, y2, rfl⟩ := hP
    obtain ⟨rfl, rfl⟩ := one_at hy
    show SUs X g [some (.dat (clsD c hs)), some (.dat (.int ((0 : Nat) : Int))), some (.dat (boxD (.tup []) (.tup [methD (codeD c) (hsD hs)]))), none, none, none] _ _
    exact s_ifF (k := _) (ptu_not (ptu_val (pu_call L.toLo G2 (hr.mono (by decide)) (pau_cons (u_slTo (k := 0) (pu_var L.toLo 0) (pu_var L.toLo 1) (by decide)) (pau_cons (pu_var L.toLo 2) pau_nil)) ⟨_, _, rfl, fun b h => h⟩))) rfl (su_nil ⟨_, _, rfl⟩)
  obtain ⟨y1, y2, rfl⟩ := hP
  refine s_set L 3 (d := namesD) (pu_call L.toLo G3 (hr.mono (by decide)) (pau_cons (pu_var L.toLo 0) pau_nil) ⟨_, _, rfl, .one _ _, fun b h => h⟩) ?_
  show SUs X g [some (.dat (clsD c hs)), y1, y2, some (.dat namesD), none, none] _ _
  refine su_cons (su_for L (S := [1, 2]) (fun ρ d => match d with | .tup [a, b] => (ρ.set 1 (some (.dat a))).set 2 (some (.dat b)) | _ => ρ) (fun _ ρ => ∃ y z u, ρ = [some (.dat (clsD c hs)), y, z, some (.dat namesD), u, none])
    (piu_enumT L.toLo (pu_var L.toLo 0) T.enumerate) (fun i d ρ' hd _ => ?_) ⟨_, _, _, rfl⟩ (fun i d ρ' hd hP => ?_) (fun ρ' hP => ?_))
  · obtain ⟨y, _, rfl⟩ := pairsD_at hd
    exact pgu_pair L.calm (pgu_name L.toLo 1 (.inl (L.fn _)) (hS := by decide)) (pgu_name L.toLo 2 (.inl (L.fn _)) (hS := by decide))
  · obtain ⟨y, hy, rfl⟩ := pairsD_at hd
    obtain ⟨y1, y2, u, rfl⟩ := hP
    obtain ⟨rfl, rfl⟩ := one_at hy
    show SUs X g [some (.dat (clsD c hs)), some (.dat (.int ((0 : Nat) : Int))), some (.dat (boxD (.tup []) (.tup [methD (codeD c) (hsD hs)]))), some (.dat namesD), u, none] _ _
    refine s_ifF (k := _) (ptu_not (ptu_val (pu_call L.toLo G4 (hr.mono (by decide)) (pau_cons (u_slTo (k := 0) (pu_var L.toLo 0) (pu_var L.toLo 1) (by decide)) (pau_cons (pu_var L.toLo 3) (pau_cons (pu_var L.toLo 2) pau_nil))) ⟨_, rfl, fun b h => h⟩))) rfl ?_
    refine s_ifF (k := _) (ptu_not (ptu_val (pu_call L.toLo G1 (hr.mono (by decide)) (pau_cons (pu_ixT (pu_var L.toLo 2) pu_int rfl) (pau_cons (pu_glob L.toLo T.MOST_PARTS) pau_nil)) ⟨_, _, rfl, fun b h => h⟩))) rfl ?_
    refine su_one (su_for L (S := [4]) (fun ρ d => ρ.set 4 (some (.dat d))) (fun _ ρ => ∃ u, ρ = [some (.dat (clsD c hs)), some (.dat (.int ((0 : Nat) : Int))), some (.dat (boxD (.tup []) (.tup [methD (codeD c) (hsD hs)]))), some (.dat namesD), u, none])
      (piu_range L.toLo (u_lenT L.toLo T (pu_ixT (pu_var L.toLo 2) pu_int rfl)) T.range (by omega) (by show (1 : Int) < 2 ^ 62; decide)) (fun i d ρ' _ _ => pgu_name L.toLo 4 (.inl (L.fn _)) (hS := by decide)) ⟨_, rfl⟩ (fun i d ρ' hd hP => ?_) (fun ρ' hP => ?_))
    · obtain ⟨u, rfl⟩ := hP
      have e : i = 0 ∧ d = .int 0 := one_at (x := .int 0) hd
      obtain ⟨rfl, rfl⟩ := e
      show SUs X g [some (.dat (clsD c hs)), some (.dat (.int ((0 : Nat) : Int))), some (.dat (boxD (.tup []) (.tup [methD (codeD c) (hsD hs)]))), some (.dat namesD), some (.dat (.int 0)), none] _ _
      exact s_ifF (k := _) (ptu_not (ptu_val (pu_call L.toLo G5 (hr.mono (by decide)) (pau_cons (u_slTo (k := 0) (pu_var L.toLo 0) (pu_var L.toLo 1) (by decide)) (pau_cons (pu_var L.toLo 3) (pau_cons (pu_var L.toLo 2) (pau_cons (pu_var L.toLo 4) pau_nil)))) ⟨_, _, rfl, fun b h => h⟩))) rfl (su_nil ⟨_, rfl⟩)
    · obtain ⟨u, rfl⟩ := hP
      exact ⟨_, _, _, rfl⟩
  obtain ⟨y1, y2, u, rfl⟩ := hP
  refine su_one (su_for L (S := [1, 2]) (fun ρ d => match d with | .tup [a, b] => (ρ.set 1 (some (.dat a))).set 2 (some (.dat b)) | _ => ρ) (fun _ ρ => ∃ y z u v, ρ = [some (.dat (clsD c hs)), y, z, some (.dat namesD), u, v])
    (piu_enumT L.toLo (pu_var L.toLo 0) T.enumerate) (fun i d ρ' hd _ => ?_) ⟨_, _, _, _, rfl⟩ (fun i d ρ' hd hP => ?_) (fun ρ' hP => hp _ rfl))
  · obtain ⟨y, _, rfl⟩ := pairsD_at hd
    exact pgu_pair L.calm (pgu_name L.toLo 1 (.inl (L.fn _)) (hS := by decide)) (pgu_name L.toLo 2 (.inl (L.fn _)) (hS := by decide))
  obtain ⟨y, hy, rfl⟩ := pairsD_at hd
  obtain ⟨y1, y2, u, v, rfl⟩ := hP
  obtain ⟨rfl, rfl⟩ := one_at hy
  show SUs X g [some (.dat (clsD c hs)), some (.dat (.int ((0 : Nat) : Int))), some (.dat (boxD (.tup []) (.tup [methD (codeD c) (hsD hs)]))), some (.dat namesD), u, v] _ _
  refine su_one (su_for L (S := [4, 5]) (fun ρ d => match d with | .tup [a, b] => (ρ.set 4 (some (.dat a))).set 5 (some (.dat b)) | _ => ρ) (fun _ ρ => ∃ u v, ρ = [some (.dat (clsD c hs)), some (.dat (.int ((0 : Nat) : Int))), some (.dat (boxD (.tup []) (.tup [methD (codeD c) (hsD hs)]))), some (.dat namesD), u, v])
    (piu_enumT L.toLo (pu_ixT (pu_var L.toLo 2) pu_int rfl) T.enumerate) (fun i d ρ' hd _ => ?_) ⟨_, _, rfl⟩ (fun i d ρ' hd hP => ?_) (fun ρ' hP => ?_))
  · obtain ⟨y, _, rfl⟩ := pairsD_at hd
    exact pgu_pair L.calm (pgu_name L.toLo 4 (.inl (L.fn _)) (hS := by decide)) (pgu_name L.toLo 5 (.inl (L.fn _)) (hS := by decide))
  · obtain ⟨y, hy, rfl⟩ := pairsD_at hd
    obtain ⟨u, v, rfl⟩ := hP
    obtain ⟨rfl, rfl⟩ := one_at hy
    show SUs X g [some (.dat (clsD c hs)), some (.dat (.int ((0 : Nat) : Int))), some (.dat (boxD (.tup []) (.tup [methD (codeD c) (hsD hs)]))), some (.dat namesD), some (.dat (.int ((0 : Nat) : Int))), some (.dat (methD (codeD c) (hsD hs)))] _ _
    exact su_one (su_expr (pu_call L.toLo G6 hr (pau_cons (pu_var L.toLo 0) (pau_cons (pu_var L.toLo 1) (pau_cons (pu_var L.toLo 4) (pau_cons (pu_var L.toLo 5) pau_nil)))) ⟨_, _, _, _, c, hs, rfl, ok, fun b h => h⟩) ⟨_, _, rfl⟩)
  · obtain ⟨u, v, rfl⟩ := hP
    exact ⟨_, _, _, _, rfl⟩
end
end C66
end TD08
section TD09
set_option Elab.async false
set_option linter.all false
set_option autoImplicit false
set_option maxRecDepth 100000
set_option maxHeartbeats 4000000
namespace C66
open PySem PySem.Spec L2
section
variable {P : Program} {w : World} {K : PySem.W.Frag} {mg : Str → Option Value} {base : Heap} {C : Addr} {Tb : List (Addr × Str)}
/-! House.__init__ -/
abbrev nInit : List Str := ["self", "classes"]
abbrev sInit : Stmt := inClass (topS 38) 0
theorem scInit : FnScope nInit ["self", "classes"] (defScope sInit) := ⟨rfl, rfl, rfl, by decide +kernel, rfl, by decide +kernel, by decide +kernel⟩
def spInit (K : PySem.W.Frag) (C : Addr) (T : List (Addr × Str)) : Sp := fun vs H Q _ => ∃ (x dx : Addr) (v : V) (c : List Stp) (hs : List Hnd), vs = [.ref x, v] ∧ CodeOk c hs ∧ H x = some (.ins C dx []) ∧ Rep K C H v (clsD c hs) ∧ LamX.Tabs T H ∧
  ∀ H', KeepR [x] H H' → LamX.Tabs T H' → H' x = some (.ins C dx [("told", v)]) → Rep K C H' v (clsD c hs) → Q .non H'
theorem tabs_upd {T : List (Addr × Str)} {H : Hp} {x : Addr} {o o' : HO} (t : LamX.Tabs T H) (h : H x = some o) (nt : ∀ ps, o ≠ .tbl ps) (nc : ∀ c q, o ≠ LamX.CodeO c q) : LamX.Tabs T (upd H x o') := fun pq hp => by
  obtain ⟨ps, h1, h2, h3⟩ := t pq hp
  have ne : pq.1 ≠ x := fun e => by rw [e, h] at h1; exact nt ps (Option.some.inj h1)
  refine ⟨ps, by rw [upd_ne ne]; exact h1, h2, fun ps2 cv hcv => ?_⟩
  obtain ⟨cc, e1, e2⟩ := h3 ps2 cv hcv
  exact ⟨cc, e1, by rw [upd_ne (fun e => by rw [e, h] at e2; exact nc _ _ (Option.some.inj e2))]; exact e2⟩
mutual
/-- only what is told of one address changes: data that stood apart from it stay -/
theorem Rep.but {H H' : Hp} {x : Addr} (hx : ∃ dx, H x = some (.ins C dx [])) (e : ∀ b, b ≠ x → H' b = H b) : ∀ {v : V} {d : D}, Rep K C H v d → Rep K C H' v d
  | _, _, .non => .non
  | _, _, .bl b => .bl b
  | _, _, .int i => .int i
  | _, _, .str x => .str x
  | _, _, .tup s r => .tup (by
      rcases s with (s | ⟨o, s⟩) | s
      · exact .inl (.inl (by rw [e _ (fun z => by subst z; obtain ⟨dx, hx⟩ := hx; rw [hx] at s; cases s)]; exact s))
      · exact .inl (.inr ⟨o, by rw [e _ (fun z => by subst z; obtain ⟨dx, hx⟩ := hx; rw [hx] at s; cases s)]; exact s⟩)
      · exact .inr s) (RepL.but hx e r)
  | _, _, .lst s r => .lst (by
      obtain ⟨o, s⟩ := s
      exact ⟨o, by rw [e _ (fun z => by subst z; obtain ⟨dx, hx⟩ := hx; rw [hx] at s; cases s)]; exact s⟩) (RepL.but hx e r)
  | _, _, .hou s r => .hou (by rw [e _ (fun z => by subst z; obtain ⟨dx, hx⟩ := hx; rw [hx] at s; cases s)]; exact s) (Rep.but hx e r)
  | _, _, .edc s => .edc (by rw [e _ (fun z => by subst z; obtain ⟨dx, hx⟩ := hx; rw [hx] at s; cases s)]; exact s)
  | _, _, .scr s => .scr (by
      rcases s with ⟨o, s⟩ | s
      · exact .inl ⟨o, by rw [e _ (fun z => by subst z; obtain ⟨dx, hx⟩ := hx; rw [hx] at s; cases s)]; exact s⟩
      · exact .inr s)
theorem RepL.but {H H' : Hp} {x : Addr} (hx : ∃ dx, H x = some (.ins C dx [])) (e : ∀ b, b ≠ x → H' b = H b) : ∀ {vs : List V} {ds : List D}, RepL K C H vs ds → RepL K C H' vs ds
  | _, _, .nil => .nil
  | _, _, .cons r t => .cons (Rep.but hx e r) (RepL.but hx e t)
end
theorem ok_init {f : Addr} {fd : FuncData} (F : Fun K "__init__" "House.__init__" sInit f fd) (HT : HTxt K C mg) (G : Dfn P w K mg base C Tb 4 "check_classes" preChkC) : FnOk P w K mg base CX0 5 f fd ["self", "classes"] (spInit K C Tb) := by
  refine F.ok scInit (fun vs H Q E h => ?_) (fun cdv A outer s H vs Q E hr h => ?_)
  · obtain ⟨x, dx, v, c, hs, rfl, _⟩ := h
    rfl
  · obtain ⟨x, dx, v, c, hs, rfl, ok, hx, r, ht, k⟩ := h
    have L : LoD (cxOf CX0 P w K mg base nInit "House.__init__" (defScope sInit) f cdv A outer s H E).nox nInit (defScope sInit) [0, 1] := ⟨⟨rfl, rfl, rfl, scInit.nd, by decide +kernel⟩, fun _ => rfl, PassesOwn.never, hr.units⟩
    generalize hX : (cxOf CX0 P w K mg base nInit "House.__init__" (defScope sInit) f cdv A outer s H E).nox = X at L
    have eP : X.prog = P := by rw [← hX]; rfl
    have eW : X.w = w := by rw [← hX]; rfl
    have eK : X.K = K := by rw [← hX]; rfl
    have eM : X.mg = mg := by rw [← hX]; rfl
    have eB : X.base = base := by rw [← hX]; rfl
    have eA : X.A = (cxOf CX0 P w K mg base nInit "House.__init__" (defScope sInit) f cdv A outer s H E).nox.A := by rw [← hX]
    have hr' : Room 4 X.A := by rw [eA]; exact hr
    subst eP eW eK eM eB
    have rd : PU X ⟨C, Tb, H, []⟩ [none, some (.dat (clsD c hs))] (match (defBody sInit).getD 0 (.Pass ⟨0, 0, 0, 0⟩) with | .Expr e _ => e | _ => .Constant .none 0 ⟨0, 0, 0, 0⟩) [none, some (.dat (clsD c hs))] .non :=
      pu_call L.toLo G hr' (pau_cons (pu_var L.toLo 1) pau_nil) ⟨c, hs, rfl, ok, fun b h => h⟩
    have h0 := L.at_ (i := 0) (x := "self") (by decide) rfl
    have h1 := L.at_ (i := 1) (x := "classes") (by decide) rfl
    refine ⟨_, pss_cons (ps_expr rd) (pss_one (ps_fld (pe_var (i := 0) (by rw [L.hN]; rfl) (by rw [L.hs]; exact h0.1) h0.2.1 h0.2.2) (pe_var (i := 1) (by rw [L.hN]; rfl) (by rw [L.hs]; exact h1.1) h1.2.1 h1.2.2) (by rfl))), ?_⟩
    refine ⟨⟨fun i b q => ?_, fun i b a q m => ?_, fun i j b b' a q m => ?_, fun b o q _ => .inl q, ht, rfl⟩, fun u H1 E1 x1 r1 => ?_⟩
    · match i, q with
      | 1, q =>
        cases q
        exact ⟨v, rfl, r⟩
      | 0, q => cases q
      | i + 2, q => simp at q
    · match i, q with
      | 1, q => cases q; cases m
      | 0, q => cases q
      | i + 2, q => simp at q
    · match i, q with
      | 1, q => cases q; cases m
      | 0, q => cases q
      | i + 2, q => simp at q
    · have hx1 : H1 x = some (.ins C dx []) := by
        rcases E1.keep x _ hx (by simp) with z | ⟨ps, _, z, _⟩
        · exact z
        · cases z
      refine ⟨v, rfl, .ref x, rfl, x, C, dx, [], rfl, hx1, HT.cls, HT.na, by decide, ?_⟩
      have r2 : Rep X.K C H1 v (clsD c hs) := r.ext x1
      refine k _ (fun b o hb nb => ?_) (tabs_upd E1.tabs hx1 (fun _ z => by cases z) fun _ _ z => by unfold LamX.CodeO at z; cases z) upd_same (Rep.but ⟨dx, hx1⟩ (fun b hb => upd_ne hb) r2)
      have ne : b ≠ x := by simpa using nb
      rw [upd_ne ne]
      exact E1.keep b o hb (by simp)
/-! _law_house -/
/-- House(e) -/
theorem pu_make {X : Cx} {g : Gm} {ρ ρ1 : Rho} {N : List Str} {sc : Scope} {vs : List Nat} {pos p : Pos} {e : Expr} {f : Addr} {fd : FuncData} {c : List Stp} {hs : List Hnd} (L : Lo X N sc vs) (HT : HTxt X.K g.C X.mg) (M : Mk X.K g.C f) (F : FnOk X.prog X.w X.K X.mg X.base CX0 5 f fd ["self", "classes"] (spInit X.K g.C g.T))
    (hb : Binds X.K fd ["self", "classes"] []) (hr : Room 6 X.A) (ok : CodeOk c hs) (ha : PU X g ρ e ρ1 (clsD c hs)) (hg : gloC sc "House" = true := by decide +kernel) (he : starEach [e] X.env = (false, eval e X.env) :: starEach [] X.env := by rfl)
    (hpl : (backTo pos (starEach [] X.env)).any (·.1) = false := by rfl) : PU X g ρ (.Call (.Name "House" p) [e] [] pos) ρ1 (.hou (clsD c hs)) := by
  refine pe_weak (pe_make M F hr (gl_of L hg) HT.gl hb .nil pass0 (pa_cons ha pa_nil he) (by decide) he hpl) fun σ H Q q => ⟨q.1, fun v H1 E1 x1 r1 => fun x dx nx ndx ne => ?_⟩
  have sm : Same H1 (upd (upd H1 dx (.own x)) x (.ins g.C dx [])) := fun b o hb => by
    rw [upd_ne (ne_of_none hb nx), upd_ne (ne_of_none hb ndx)]; exact hb
  refine ⟨x, dx, v, c, hs, rfl, ok, upd_same, r1.ext (.of_same sm), (E1.same sm).tabs, fun H2 kr ht hx2 r2 => ⟨rfl, ?_⟩⟩
  obtain ⟨E2, x2⟩ := E1.called (H' := H2) (fun b o hb _ => kr b o (sm b o hb) (by simpa using ne_of_none hb nx)) ht
  exact q.2 _ H2 E2 (x1.trans x2) (.hou hx2 r2)
abbrev nLHouse : List Str := ["_law_code", "_law_handlers"]
theorem scLHouse : FnScope nLHouse nLHouse (defScope (topS 67)) := ⟨rfl, rfl, rfl, by decide +kernel, rfl, by decide +kernel, by decide +kernel⟩
def preLHouse : List D → (Bd → Prop) → Prop := fun ds post => ∃ c hs, ds = [codeD c, hsD hs] ∧ CodeOk c hs ∧ ∀ b, b = .dat (.hou (clsD c hs)) → post b
theorem ok_law_house {f fI : Addr} {fd fdI : FuncData} (F : Fun K "_law_house" "_law_house" (topS 67) f fd) (HT : HTxt K C mg) (M : Mk K C fI) (FI : FnOk P w K mg base CX0 5 fI fdI ["self", "classes"] (spInit K C Tb)) (bI : Binds K fdI ["self", "classes"] []) :
    FnOk P w K mg base CX0 7 f fd nLHouse (spF C Tb P w K preLHouse) := by
  refine fn_data [0, 1] F scLHouse (by decide +kernel) (fun ds post ⟨_, _, e, _⟩ => by rw [e]; rfl) (by decide) ?_
  rintro X rfl rfl rfl rfl rfl L hr g rfl rfl hR ds post ⟨c, hs, rfl, ok, hp⟩
  show SUs X g [some (.dat (codeD c)), some (.dat (hsD hs))] _ _
  exact su_one (s_ret (pu_make L.toLo HT M FI bI hr ok (pu_tup (pau_cons (pu_tup (pau_cons pu_str (pau_cons pu_str (pau_cons (pu_tup pau_nil) (pau_cons (pu_tup (pau_cons (pu_tup (pau_cons pu_str (pau_cons (pu_tup pau_nil) (pau_cons pu_str (pau_cons (pu_var L.toLo 0) (pau_cons (pu_var L.toLo 1) pau_nil)))))) pau_nil)) pau_nil))))) pau_nil))) (hp _ rfl))

/-! need_house, need_name -/
abbrev nNeedH : List Str := ["house"]
theorem scNeedH : FnScope nNeedH nNeedH (defScope (topS 39)) := ⟨rfl, rfl, rfl, by decide +kernel, rfl, by decide +kernel, by decide +kernel⟩
def preNeedH : List D → (Bd → Prop) → Prop := fun ds post => ∃ d, ds = [.hou d] ∧ ∀ b, b = .dat .non → post b
theorem ok_need_house {f : Addr} {fd : FuncData} (F : Fun K "need_house" "need_house" (topS 39) f fd) (T : Txt K C mg) (HT : HTxt K C mg) : FnOk P w K mg base CX0 1 f fd nNeedH (spF C Tb P w K preNeedH) := by
  refine fn_data [0] F scNeedH (by decide +kernel) (fun ds post ⟨_, e, _⟩ => by rw [e]; rfl) (by decide) ?_
  rintro X rfl rfl rfl rfl rfl L hr g rfl rfl hR ds post ⟨d, rfl, hp⟩
  show SUs X g [some (.dat (.hou d))] _ _
  exact s_ifF (k := _) (ptu_not (ptu_val (pu_isHou L.toLo HT (pu_var L.toLo 0) T.isinstance))) rfl (su_nil (hp _ rfl))
abbrev nNeedN : List Str := ["house", "name"]
theorem scNeedN : FnScope nNeedN nNeedN (defScope (topS 41)) := ⟨rfl, rfl, rfl, by decide +kernel, rfl, by decide +kernel, by decide +kernel⟩
def preNeedN : List D → (Bd → Prop) → Prop := fun ds post => ∃ c hs, ds = [.hou (clsD c hs), .str "box"] ∧ ∀ b, b = .dat .non → post b
theorem ok_need_name {f : Addr} {fd : FuncData} (F : Fun K "need_name" "need_name" (topS 41) f fd) (T : Txt K C mg) (HT : HTxt K C mg) (G : Dfn P w K mg base C Tb 1 "names_of" preNamesOf) : FnOk P w K mg base CX0 2 f fd nNeedN (spF C Tb P w K preNeedN) := by
  refine fn_data [0, 1] F scNeedN (by decide +kernel) (fun ds post ⟨_, _, e, _⟩ => by rw [e]; rfl) (by decide) ?_
  rintro X rfl rfl rfl rfl rfl L hr g rfl rfl hR ds post ⟨c, hs, rfl, hp⟩
  show SUs X g [some (.dat (.hou (clsD c hs))), some (.dat (.str "box"))] _ _
  exact s_ifF (k := _) (ptu_of (pwu_or (ptu_not (ptu_val (i_str L.toLo T (pu_var L.toLo 1)))) fun _ => pwu_or1 (ptu_cmp (ou_niS (ss := ["top", "box"]) (.inr rfl)) (pu_var L.toLo 1) (pu_call L.toLo G hr (pau_cons (pu_told HT (pu_var L.toLo 0)) pau_nil) ⟨_, _, rfl, .one _ _, fun b h => h⟩)))) (by decide +kernel) (su_nil (hp _ rfl))

/-! nearest -/
def metD (c : List Stp) (hs : List Hnd) : D := methD (codeD c) (hsD hs)
abbrev nNear : List Str := ["house", "name", "word", "told", "method"]
theorem scNear : FnScope nNear ["house", "name", "word"] (defScope (topS 43)) := ⟨rfl, rfl, rfl, by decide +kernel, rfl, by decide +kernel, by decide +kernel⟩
def preNear : List D → (Bd → Prop) → Prop := fun ds post => ∃ c hs, ds = [.hou (clsD c hs), .str "box", .str "ma"] ∧ ∀ b, b = .dat (.tup [.str "box", metD c hs]) → post b
theorem ok_nearest {f : Addr} {fd : FuncData} (F : Fun K "nearest" "nearest" (topS 43) f fd) (T : Txt K C mg) (HT : HTxt K C mg) (G : Dfn P w K mg base C Tb 1 "row_of" preRowOf) : FnOk P w K mg base CX0 2 f fd ["house", "name", "word"] (spF C Tb P w K preNear) := by
  refine fn_data [0, 1, 2, 3, 4] F scNear (by decide +kernel) (fun ds post ⟨_, _, e, _⟩ => by rw [e]; rfl) (by decide) ?_
  rintro X rfl rfl rfl rfl rfl L hr g rfl rfl hR ds post ⟨c, hs, rfl, hp⟩
  show SUs X g [some (.dat (.hou (clsD c hs))), some (.dat (.str "box")), some (.dat (.str "ma")), none, none] _ _
  refine su_cons (su_for L (S := [3]) (ds := [boxD (.tup []) (.tup [metD c hs])]) (fun ρ d => ρ.set 3 (some (.dat d))) (fun i ρ => i = 0 ∧ ρ = [some (.dat (.hou (clsD c hs))), some (.dat (.str "box")), some (.dat (.str "ma")), none, none])
    (piu_lst (pu_call L.toLo G hr (pau_cons (pu_told HT (pu_var L.toLo 0)) (pau_cons (pu_var L.toLo 1) pau_nil)) ⟨_, _, "box", rfl, .one _ _, fun b h => h⟩)) (fun i d ρ' hd _ => pgu_name L.toLo 3 (.inl (L.fn _)) (hS := by decide)) ⟨rfl, rfl⟩ (fun i d ρ' hd hP => ?_) (fun ρ' hP => by cases hP.1))
  obtain ⟨rfl, rfl⟩ := hP
  obtain ⟨_, rfl⟩ := one_at hd
  show SUs X g [some (.dat (.hou (clsD c hs))), some (.dat (.str "box")), some (.dat (.str "ma")), some (.dat (boxD (.tup []) (.tup [metD c hs]))), none] _ _
  refine su_one (su_for L (S := [4]) (ds := [metD c hs]) (fun ρ d => ρ.set 4 (some (.dat d))) (fun i ρ => i = 0 ∧ ρ = [some (.dat (.hou (clsD c hs))), some (.dat (.str "box")), some (.dat (.str "ma")), some (.dat (boxD (.tup []) (.tup [metD c hs]))), none])
    (piu_tup (pu_ixT (pu_var L.toLo 3) pu_int rfl)) (fun i d ρ' hd _ => pgu_name L.toLo 4 (.inl (L.fn _)) (hS := by decide)) ⟨rfl, rfl⟩ (fun i d ρ' hd hP => ?_) (fun ρ' hP => by cases hP.1))
  obtain ⟨rfl, rfl⟩ := hP
  obtain ⟨_, rfl⟩ := one_at hd
  show SUs X g [some (.dat (.hou (clsD c hs))), some (.dat (.str "box")), some (.dat (.str "ma")), some (.dat (boxD (.tup []) (.tup [metD c hs]))), some (.dat (metD c hs))] _ _
  refine s_ifT (k := _) (ptu_cmp ou_eqS (pu_ixT (pu_var L.toLo 4) pu_int rfl) (pu_var L.toLo 2)) rfl ?_
  exact su_one (s_ret (pu_tup (pau_cons (pu_ixT (pu_var L.toLo 3) pu_int rfl) (pau_cons (pu_var L.toLo 4) pau_nil))) (hp _ rfl))

/-! need_method -/
abbrev nNeedM : List Str := ["house", "name", "word", "found"]
theorem scNeedM : FnScope nNeedM ["house", "name", "word"] (defScope (topS 47)) := ⟨rfl, rfl, rfl, by decide +kernel, rfl, by decide +kernel, by decide +kernel⟩
def preNeedM : List D → (Bd → Prop) → Prop := fun ds post => ∃ c hs, ds = [.hou (clsD c hs), .str "box", .str "ma"] ∧ ∀ b, b = .dat (metD c hs) → post b
theorem ok_need_method {f : Addr} {fd : FuncData} (F : Fun K "need_method" "need_method" (topS 47) f fd) (T : Txt K C mg) (G1 : Dfn P w K mg base C Tb 1 "need_house" preNeedH) (G2 : Dfn P w K mg base C Tb 2 "need_name" preNeedN) (G3 : Dfn P w K mg base C Tb 1 "is_word" preIsWord) (G4 : Dfn P w K mg base C Tb 2 "nearest" preNear) :
    FnOk P w K mg base CX0 3 f fd ["house", "name", "word"] (spF C Tb P w K preNeedM) := by
  refine fn_data [0, 1, 2, 3] F scNeedM (by decide +kernel) (fun ds post ⟨_, _, e, _⟩ => by rw [e]; rfl) (by decide) ?_
  rintro X rfl rfl rfl rfl rfl L hr g rfl rfl hR ds post ⟨c, hs, rfl, hp⟩
  show SUs X g [some (.dat (.hou (clsD c hs))), some (.dat (.str "box")), some (.dat (.str "ma")), none] _ _
  refine su_cons (su_expr (pu_call L.toLo G1 (hr.mono (by decide)) (pau_cons (pu_var L.toLo 0) pau_nil) ⟨_, rfl, fun b h => h⟩) ?_)
  refine su_cons (su_expr (pu_call L.toLo G2 hr (pau_cons (pu_var L.toLo 0) (pau_cons (pu_var L.toLo 1) pau_nil)) ⟨c, hs, rfl, fun b h => h⟩) ?_)
  refine s_ifF (k := _) (ptu_not (ptu_val (pu_call L.toLo G3 (hr.mono (by decide)) (pau_cons (pu_var L.toLo 2) pau_nil) (pre_word w_ma)))) rfl ?_
  refine s_set L 3 (pu_call L.toLo G4 hr (pau_cons (pu_var L.toLo 0) (pau_cons (pu_var L.toLo 1) (pau_cons (pu_var L.toLo 2) pau_nil))) ⟨c, hs, rfl, fun b h => h⟩) ?_
  show SUs X g [some (.dat (.hou (clsD c hs))), some (.dat (.str "box")), some (.dat (.str "ma")), some (.dat (.tup [.str "box", metD c hs]))] _ _
  refine s_ifF (k := _) (ptu_isN (pu_var L.toLo 3)) rfl ?_
  exact su_one (s_ret (pu_ixT (pu_var L.toLo 3) pu_int rfl) (hp _ rfl))
end
end C66
end TD09
section TP14
set_option Elab.async false
set_option linter.all false
set_option autoImplicit false
set_option maxRecDepth 100000
set_option maxHeartbeats 4000000
/-! P14: the swapped stores by scope. -/
namespace C66
open PySem PySem.Spec L2
def envS (sc : Scope) : PySem.Env := { scope := sc, locals := 0, globals := 0, cells := [] }
theorem swap_scope {ts : List Expr} {v : Expr} {E : PySem.Env} {sc : Scope} (h : E.scope = sc) : swappedStores ts v E = swappedStores ts v (envS sc) := by
  unfold swappedStores Env.blockKind Env.kindOf envS
  rw [h]
section
variable {X : Cx} {g : Gm} {ρ : Rho} {N : List Str} {sc : Scope} {vs : List Nat} {pos px py : Pos} {a b : Expr} {pp : Post}
theorem su_2 (L : LoD X N sc vs) (i j : Nat) {x y : Str} {b1 b2 : Bd} {k k2 : Nat} {pt pt2 : Pos} (ha : PAB X g ρ [a, b] [b1, b2]) (h : pp.nx ((ρ.set i (some b1)).set j (some b2))) (hij : i ≠ j := by decide)
    (hw : swappedStores [.Tuple [.Name x px, .Name y py] k pt] (.Tuple [a, b] k2 pt2) (envS sc) = pure (some [x, y]) := by rfl) (hi : N[i]? = some x := by rfl) (hj : N[j]? = some y := by rfl) (hx : sc.names.lookup x = some .local := by decide +kernel) (hy : sc.names.lookup y = some .local := by decide +kernel)
    (hs : swapsWithSole [.Tuple [.Name x px, .Name y py] k pt] (.Tuple [a, b] k2 pt2) pos.line X.env = pure false := by rfl) : SU X g ρ (.Assign [.Tuple [.Name x px, .Name y py] k pt] (.Tuple [a, b] k2 pt2) pos) pp :=
  su_two L i j ha hij h (by rw [swap_scope L.hs]; exact hw) hi hj hx hy hs
end
end C66
end TP14
section TD10
set_option Elab.async false
set_option linter.all false
set_option autoImplicit false
set_option maxRecDepth 100000
set_option maxHeartbeats 4000000
namespace C66
open PySem PySem.Spec L2
def goalH (h : Hnd) : Int := h.2.2.2
def goalsL (c : List Stp) (hs : List Hnd) : List Int := c.filterMap goalS ++ hs.map goalH
def goesOn (s : Stp) (i : Int) : List Int := if s.1 = "give" ∨ s.1 = "throw" then [] else if s.1 = "go" then [s.2.getD 0] else if s.1 = "if" then [i + 1, s.2.getD 0] else [i + 1]
def inH (h : Hnd) (i : Int) : Bool := decide (h.1 ≤ i) && decide (i < h.2.1)
def caughtL (hs : List Hnd) (i : Int) : List Int := (hs.filter (inH · i)).map goalH
def gS : D → Option D
  | .tup [.str x, .int k] => if x ∈ (["go", "if"] : List Str) then some (.int k) else none
  | _ => none
theorem gS_some {x : Str} {k : Int} {r : D} (h : gS (.tup [.str x, .int k]) = some r) : r = .int k := by
  have h' : (if x ∈ (["go", "if"] : List Str) then some (D.int k) else none) = some r := h
  split at h'
  · exact (Option.some.inj h').symm
  · cases h'
theorem gS_code {c : List Stp} {n : Nat} (h : ∀ s ∈ c, StpOk n s) : (c.map stD).filterMap gS = (c.filterMap goalS).map D.int := by
  induction c with
  | nil => rfl
  | cons s r ih =>
    have h1 := h s List.mem_cons_self
    have ih := ih fun s hs => h s (List.mem_cons_of_mem _ hs)
    rw [List.map_cons, List.filterMap_cons, List.filterMap_cons, ih]
    cases h1 <;> rfl
def hG : D → Option D
  | .tup [_, _, _, g] => some g
  | _ => none
theorem hG_hs (hs : List Hnd) : (hs.map hdD).filterMap hG = (hs.map goalH).map D.int := by
  induction hs with
  | nil => rfl
  | cons s r ih => rw [List.map_cons, List.filterMap_cons, ih]; rfl
def cG (i : Int) : D → Option D
  | .tup [.int b, .int e, _, g] => if (decide (b ≤ i) && decide (i < e)) = true then some g else none
  | _ => none
theorem cG_hs (i : Int) (hs : List Hnd) : (hs.map hdD).filterMap (cG i) = (caughtL hs i).map D.int := by
  induction hs with
  | nil => rfl
  | cons s r ih =>
    rw [List.map_cons, List.filterMap_cons, ih]
    unfold caughtL
    rw [List.filter_cons]
    have e0 : cG i (hdD s) = if inH s i = true then some (D.int (goalH s)) else none := rfl
    rw [e0]
    by_cases e : inH s i = true
    · rw [if_pos e, if_pos e]; rfl
    · rw [if_neg e, if_neg e]
theorem mem_code {c : List Stp} {n : Nat} (h : ∀ s ∈ c, StpOk n s) {d : D} (hd : d ∈ c.map stD) : (∃ x, d = .tup [.str x] ∧ x ∉ (["go", "if"] : List Str)) ∨ ∃ x k, d = .tup [.str x, .int k] := by
  obtain ⟨s, hs, rfl⟩ := List.mem_map.mp hd
  cases h s hs with
  | give => exact .inl ⟨_, rfl, by decide +kernel⟩
  | throw => exact .inl ⟨_, rfl, by decide +kernel⟩
  | enter => exact .inl ⟨_, rfl, by decide +kernel⟩
  | leave => exact .inl ⟨_, rfl, by decide +kernel⟩
  | drop => exact .inl ⟨_, rfl, by decide +kernel⟩
  | push h1 h2 => exact .inr ⟨_, _, rfl⟩
  | take h1 h2 => exact .inr ⟨_, _, rfl⟩
  | keep h1 h2 => exact .inr ⟨_, _, rfl⟩
  | go h1 h2 => exact .inr ⟨_, _, rfl⟩
  | ifs h1 h2 => exact .inr ⟨_, _, rfl⟩
theorem StpOk.goal {n : Nat} {s : Stp} (h : StpOk n s) (hw : s.1 = "go" ∨ s.1 = "if") : ∃ k : Int, s.2 = some k ∧ 0 ≤ k ∧ k < n := by
  cases h <;> first | exact ⟨_, rfl, by assumption, by assumption⟩ | (exact absurd hw (by dsimp only; decide +kernel))
theorem StpOk.keep_of {n : Nat} {s : Stp} (h : StpOk n s) (hw : s.1 = "keep") : ∃ k : Int, s.2 = some k ∧ 0 ≤ k ∧ k ≤ 3 := by
  cases h <;> first | exact ⟨_, rfl, by assumption, by assumption⟩ | (exact absurd hw (by dsimp only; decide +kernel))
theorem StpOk.take_of {n : Nat} {s : Stp} (h : StpOk n s) (hw : s.1 = "take") : ∃ k : Int, s.2 = some k ∧ 0 ≤ k ∧ k ≤ 3 := by
  cases h <;> first | exact ⟨_, rfl, by assumption, by assumption⟩ | (exact absurd hw (by dsimp only; decide +kernel))
section
variable {P : Program} {w : World} {K : PySem.W.Frag} {mg : Str → Option Value} {base : Heap} {C : Addr} {Tb : List (Addr × Str)}
/-! goals_of -/
abbrev nGoals : List Str := ["method", "step", "handler"]
theorem scGoals : FnScope nGoals ["method"] (defScope (topS 48)) := ⟨rfl, rfl, rfl, by decide +kernel, rfl, by decide +kernel, by decide +kernel⟩
def preGoals : List D → (Bd → Prop) → Prop := fun ds post => ∃ c hs, ds = [metD c hs] ∧ CodeOk c hs ∧ ∀ b, b = .dat (.lst ((goalsL c hs).map D.int)) → post b
theorem ok_goals_of {f : Addr} {fd : FuncData} (F : Fun K "goals_of" "goals_of" (topS 48) f fd) : FnOk P w K mg base CX0 1 f fd ["method"] (spF C Tb P w K preGoals) := by
  refine fn_data [0] F scGoals (by decide +kernel) (fun ds post ⟨_, _, e, _⟩ => by rw [e]; rfl) (by decide) ?_
  rintro X rfl rfl rfl rfl rfl L hr g rfl rfl hR ds post ⟨c, hs, rfl, ok, hp⟩
  show SUs X g [some (.dat (metD c hs)), none, none] _ _
  refine su_one (s_retE (d' := .lst ((goalsL c hs).map D.int)) (pu_of_pn (pn_cat (xs := (c.map stD).filterMap gS) (ys := (hs.map hdD).filterMap hG) ?_ (pu_of_pn (pn_lc L.toLo [("step", 1)] [1] (fun ρ d => ρ.set 1 (some (.dat d))) gS (piu_tup (pu_ixT (pu_var L.toLo 0) pu_int rfl)) (by intro i hi; simp at hi; subst hi; rfl) (fun d => rfl) (fun s H Cc cl fp H0 R L' d hd ρ' e' => ?_) ?_))
    (pu_of_pn (pn_lc L.toLo [("handler", 2)] [2] (fun ρ d => ρ.set 2 (some (.dat d))) hG (piu_tup (pu_ixT (pu_var L.toLo 0) pu_int rfl)) (by intro i hi; simp at hi; subst hi; rfl) (fun d => rfl) (fun s H Cc cl fp H0 R L' d hd ρ' e' => ?_) ?_)))) ?_ (hp _ rfl))
  · have h1 := List.length_filterMap_le gS (c.map stD)
    have h2 := List.length_filterMap_le hG (hs.map hdD)
    rw [List.length_map] at h1 h2
    have := ok.most; have := ok.few
    rw [sizeLine_eq]; omega
  · subst e'
    refine ⟨pgu_name L' 1 (.inr (by rfl)), ?_, fun r hr' => ?_⟩
    · rcases mem_code ok.step hd with ⟨x, rfl, hx⟩ | ⟨x, k, rfl⟩
      · have e : (gS (.tup [.str x])).isSome = decide (x ∈ (["go", "if"] : List Str)) := by rw [decide_eq_false hx]; rfl
        rw [e]
        exact ptsu_one (ptu_cmp (ou_inS (.inl rfl)) (pu_ixT (pu_var L' 1) pu_int rfl) (pu_tup (pau_cons pu_str (pau_cons pu_str pau_nil))))
      · have e : (gS (.tup [.str x, .int k])).isSome = decide (x ∈ (["go", "if"] : List Str)) := by
          show (if x ∈ (["go", "if"] : List Str) then some (D.int k) else none).isSome = _
          by_cases h : x ∈ (["go", "if"] : List Str)
          · rw [if_pos h, decide_eq_true h]; rfl
          · rw [if_neg h, decide_eq_false h]; rfl
        rw [e]
        exact ptsu_one (ptu_cmp (ou_inS (.inl rfl)) (pu_ixT (pu_var L' 1) pu_int rfl) (pu_tup (pau_cons pu_str (pau_cons pu_str pau_nil))))
    · rcases mem_code ok.step hd with ⟨x, rfl, hx⟩ | ⟨x, k, rfl⟩
      · cases hr'
      · have e : r = .int k := gS_some hr'
        subst e
        exact pu_ixT (pu_var L' 1) pu_int rfl
  · rw [List.length_map, sizeLine_eq]; have := ok.most; omega
  · subst e'
    obtain ⟨h, hh, rfl⟩ := List.mem_map.mp hd
    exact ⟨pgu_name L' 2 (.inr (by rfl)), ptsu_nil, fun r hr' => by
      cases hr'
      exact pu_ixT (pu_var L' 2) pu_int rfl⟩
  · rw [List.length_map, sizeLine_eq]; have := ok.few; omega
  · rw [gS_code ok.step, hG_hs, goalsL, List.map_append]

/-! are_plain -/
abbrev nPlain : List Str := ["method", "code", "goals", "at", "step"]
theorem scPlain : FnScope nPlain ["method"] (defScope (topS 49)) := ⟨rfl, rfl, rfl, by decide +kernel, rfl, by decide +kernel, by decide +kernel⟩
def prePlain : List D → (Bd → Prop) → Prop := fun ds post => ∃ c hs, ds = [metD c hs] ∧ CodeOk c hs ∧ ∀ b, b = .dat (.bl true) → post b
theorem stD_fst (s : Stp) : ∃ ds, stD s = .tup (.str s.1 :: ds) := by
  obtain ⟨x, o⟩ := s
  cases o with
  | none => exact ⟨_, rfl⟩
  | some k => exact ⟨_, rfl⟩
/-- step[0] -/
theorem pu_word {X : Cx} {g : Gm} {ρ ρ1 : Rho} {pos p : Pos} {e : Expr} {s : Stp} {j : Nat} (h : PU X g ρ e ρ1 (stD s)) : PU X g ρ (.Subscript e (.Constant (.int 0) j p) pos) ρ1 (.str s.1) := by
  obtain ⟨ds, e⟩ := stD_fst s
  rw [e] at h
  exact pu_ixT h pu_int rfl
theorem holdW {s : Stp} : decide (s.1 ∈ (["enter", "leave"] : List Str)) = isHoldStep s := by
  unfold isHoldStep
  rw [Bool.beq_eq_decide_eq, Bool.beq_eq_decide_eq, ← Bool.decide_or]
  exact decide_eq_decide.mpr (by simp)
theorem ok_are_plain {f : Addr} {fd : FuncData} (F : Fun K "are_plain" "are_plain" (topS 49) f fd) (T : Txt K C mg) (G : Dfn P w K mg base C Tb 1 "goals_of" preGoals) : FnOk P w K mg base CX0 2 f fd ["method"] (spF C Tb P w K prePlain) := by
  refine fn_data [0, 1, 2, 3, 4] F scPlain (by decide +kernel) (fun ds post ⟨_, _, e, _⟩ => by rw [e]; rfl) (by decide) ?_
  rintro X rfl rfl rfl rfl rfl L hr g rfl rfl hR ds post ⟨c, hs, rfl, ok, hp⟩
  show SUs X g [some (.dat (metD c hs)), none, none, none, none] _ _
  refine su_cons (su_2 L 1 2 (b1 := .dat (codeD c)) (b2 := .dat (.lst ((goalsL c hs).map D.int))) (pab_cons (pb_dat (pu_ixT (pu_var L.toLo 0) pu_int rfl)) (fun H0 R => pab_cons (pb_dat (pu_call (g := ⟨g.C, g.T, H0, R⟩) L.toLo G hr (pau_cons (pu_var L.toLo 0) pau_nil) ⟨c, hs, rfl, ok, fun b h => h⟩)) (fun H0 R => pab_nil) rfl) rfl) ?_)
  refine su_cons (su_for L (S := [3, 4]) (fun ρ d => match d with | .tup [a, b] => (ρ.set 3 (some (.dat a))).set 4 (some (.dat b)) | _ => ρ) (fun _ ρ => ∃ y z, ρ = [some (.dat (metD c hs)), some (.dat (codeD c)), some (.dat (.lst ((goalsL c hs).map D.int))), y, z])
    (piu_enumT L.toLo (ds := c.map stD) (pu_var L.toLo 1) T.enumerate) (fun i d ρ' hd _ => ?_) ⟨none, none, rfl⟩ (fun i d ρ' hd hP => ?_) (fun ρ' hP => ?_))
  · obtain ⟨y, _, rfl⟩ := pairsD_at hd
    exact pgu_pair L.calm (pgu_name L.toLo 3 (.inl (L.fn _)) (hS := by decide)) (pgu_name L.toLo 4 (.inl (L.fn _)) (hS := by decide))
  · obtain ⟨y, hy, rfl⟩ := pairsD_at hd
    obtain ⟨y1, y2, rfl⟩ := hP
    rw [List.getElem?_map] at hy
    cases hh : c[i]? with
    | none => rw [hh] at hy; cases hy
    | some s =>
      rw [hh] at hy
      cases hy
      show SUs X g [some (.dat (metD c hs)), some (.dat (codeD c)), some (.dat (.lst ((goalsL c hs).map D.int))), some (.dat (.int i)), some (.dat (stD s))] _ _
      refine s_ifF (k := decide (s.1 ∈ (["enter", "leave"] : List Str)) && false) (ptu_of (pwu_and (ptu_cmp (ou_inS (.inl rfl)) (pu_word (pu_var L.toLo 4)) (pu_tup (pau_cons pu_str (pau_cons pu_str pau_nil)))) fun h => ?_)) (by rw [Bool.and_false]) (su_nil ⟨_, _, rfl⟩)
      have hH : isHoldStep s = true := by rw [← holdW]; exact h
      obtain ⟨j, k, rfl, hj⟩ := ok.hold i s hh hH
      obtain ⟨ha, hb⟩ := ok.aim _ s hh hH
      have hn : ((j + 1 : Nat) : Int) ∉ goalsL c hs := fun z => by
        unfold goalsL at z
        rcases List.mem_append.mp z with z | z
        · exact ha z
        · obtain ⟨h', h1, h2⟩ := List.mem_map.mp z
          exact hb h' h1 h2
      have e0 : (false : Bool) = (decide (((j + 1 : Nat) : Int) = 0) || ((!decide (("take" : Str) = "take")) || decide (((j + 1 : Nat) : Int) ∈ goalsL c hs))) := by
        rw [decide_eq_false hn, decide_eq_false (by omega)]; rfl
      rw [e0]
      refine pwu_and1 (ptu_of (pwu_or (ptu_cmp ou_eqI (pu_var L.toLo 3) pu_int) fun _ => pwu_or (ptu_cmp ou_neS (pu_word (s := ("take", some k)) (pu_ixT (pu_var L.toLo 1) (pu_bin ou_sub (pu_var L.toLo 3) pu_int) ?_)) pu_str) fun _ => pwu_or1 (ptu_cmp (ou_inI (.inr rfl)) (pu_var L.toLo 3) (pu_var L.toLo 2))))
      have ej : ((j + 1 : Nat) : Int) - 1 = (j : Int) := by omega
      rw [ej, dAt_nat]
      exact codeD_get hj
  · obtain ⟨y, z, rfl⟩ := hP
    exact su_one (s_ret pu_bl (hp _ rfl))

/-! need_plain -/
abbrev nNeedP : List Str := ["house", "name", "word", "method"]
theorem scNeedP : FnScope nNeedP ["house", "name", "word"] (defScope (topS 50)) := ⟨rfl, rfl, rfl, by decide +kernel, rfl, by decide +kernel, by decide +kernel⟩
def preNeedP : List D → (Bd → Prop) → Prop := fun ds post => ∃ c hs, ds = [.hou (clsD c hs), .str "box", .str "ma"] ∧ CodeOk c hs ∧ ∀ b, b = .dat (metD c hs) → post b
theorem ok_need_plain {f : Addr} {fd : FuncData} (F : Fun K "need_plain" "need_plain" (topS 50) f fd) (G1 : Dfn P w K mg base C Tb 3 "need_method" preNeedM) (G2 : Dfn P w K mg base C Tb 2 "are_plain" prePlain) : FnOk P w K mg base CX0 4 f fd ["house", "name", "word"] (spF C Tb P w K preNeedP) := by
  refine fn_data [0, 1, 2, 3] F scNeedP (by decide +kernel) (fun ds post ⟨_, _, e, _⟩ => by rw [e]; rfl) (by decide) ?_
  rintro X rfl rfl rfl rfl rfl L hr g rfl rfl hR ds post ⟨c, hs, rfl, ok, hp⟩
  show SUs X g [some (.dat (.hou (clsD c hs))), some (.dat (.str "box")), some (.dat (.str "ma")), none] _ _
  refine s_set L 3 (pu_call L.toLo G1 hr (pau_cons (pu_var L.toLo 0) (pau_cons (pu_var L.toLo 1) (pau_cons (pu_var L.toLo 2) pau_nil))) ⟨c, hs, rfl, fun b h => h⟩) ?_
  show SUs X g [some (.dat (.hou (clsD c hs))), some (.dat (.str "box")), some (.dat (.str "ma")), some (.dat (metD c hs))] _ _
  refine s_ifF (k := _) (ptu_not (ptu_val (pu_call L.toLo G2 (hr.mono (by decide)) (pau_cons (pu_var L.toLo 3) pau_nil) ⟨c, hs, rfl, ok, fun b h => h⟩))) rfl ?_
  exact su_one (s_ret (pu_var L.toLo 3) (hp _ rfl))

/-! goes_on -/
abbrev nGoes : List Str := ["method", "at", "step"]
theorem scGoes : FnScope nGoes ["method", "at"] (defScope (topS 51)) := ⟨rfl, rfl, rfl, by decide +kernel, rfl, by decide +kernel, by decide +kernel⟩
def preAt (r : List Stp → List Hnd → Nat → Stp → Bd) : List D → (Bd → Prop) → Prop := fun ds post => ∃ (c : List Stp) (hs : List Hnd) (i : Nat) (s : Stp), ds = [metD c hs, .int i] ∧ CodeOk c hs ∧ c[i]? = some s ∧ ∀ b, b = r c hs i s → post b
def preGoes : List D → (Bd → Prop) → Prop := preAt fun c hs i s => .dat (.lst ((goesOn s i).map D.int))
theorem ok_goes_on {f : Addr} {fd : FuncData} (F : Fun K "goes_on" "goes_on" (topS 51) f fd) : FnOk P w K mg base CX0 1 f fd ["method", "at"] (spF C Tb P w K preGoes) := by
  refine fn_data [0, 1, 2] F scGoes (by decide +kernel) (fun ds post ⟨_, _, _, _, e, _⟩ => by rw [e]; rfl) (by decide) ?_
  rintro X rfl rfl rfl rfl rfl L hr g rfl rfl hR ds post ⟨c, hs, i, s, rfl, ok, hi, hp⟩
  show SUs X g [some (.dat (metD c hs)), some (.dat (.int i)), none] _ _
  refine s_set L 2 (pu_ixT (pu_ixT (pu_var L.toLo 0) pu_int rfl) (pu_var L.toLo 1) (by rw [dAt_nat]; exact codeD_get hi)) ?_
  show SUs X g [some (.dat (metD c hs)), some (.dat (.int i)), some (.dat (stD s))] _ _
  replace hp : post (.dat (.lst ((goesOn s i).map D.int))) := hp _ rfl
  refine s_ifR (k := decide (s.1 ∈ (["give", "throw"] : List Str))) (ptu_cmp (ou_inS (.inl rfl)) (pu_word (pu_var L.toLo 2)) (pu_tup (pau_cons pu_str (pau_cons pu_str pau_nil)))) (fun h => ?_) (fun h1 => ?_)
  · have e : goesOn s i = [] := if_pos (by simpa using h)
    rw [e] at hp
    exact su_one (s_ret (pu_of_pn (pn_lst pau_nil)) hp)
  have h1 : ¬ (s.1 = "give" ∨ s.1 = "throw") := by simpa using h1
  refine s_ifR (k := decide (s.1 = "go")) (ptu_cmp ou_eqS (pu_word (pu_var L.toLo 2)) pu_str) (fun h => ?_) (fun h2 => ?_)
  · have h := of_decide_eq_true h
    have e : goesOn s i = [s.2.getD 0] := by unfold goesOn; rw [if_neg h1, if_pos h]
    rw [e] at hp
    have hk : ∃ k : Int, s = (("go" : Str), some k) := by
      cases ok.step s (List.mem_of_getElem? hi) <;> first | exact ⟨_, rfl⟩ | (exact absurd h (by dsimp only; decide +kernel))
    obtain ⟨k, rfl⟩ := hk
    exact su_one (s_ret (pu_lst (pau_cons (pu_ixT (ds := [.str "go", .int k]) (pu_var L.toLo 2) pu_int rfl) pau_nil)) hp)
  have h2 : ¬ s.1 = "go" := by simpa using h2
  refine su_one (s_retE (d' := .lst ((goesOn s i).map D.int)) (pu_ifE (k := decide (s.1 = "if")) (d := .lst ((goesOn s i).map D.int)) (ptu_cmp ou_eqS (pu_word (pu_var L.toLo 2)) pu_str) (fun h => ?_) (fun h => ?_)) rfl hp)
  · have h := of_decide_eq_true h
    have e : goesOn s i = [(i : Int) + 1, s.2.getD 0] := by unfold goesOn; rw [if_neg h1, if_neg h2, if_pos h]
    rw [e]
    have hk : ∃ k : Int, s = (("if" : Str), some k) := by
      cases ok.step s (List.mem_of_getElem? hi) <;> first | exact ⟨_, rfl⟩ | (exact absurd h (by dsimp only; decide +kernel))
    obtain ⟨k, rfl⟩ := hk
    exact pu_lst (pau_cons (pu_bin ou_add (pu_var L.toLo 1) pu_int) (pau_cons (pu_ixT (ds := [.str "if", .int k]) (pu_var L.toLo 2) pu_int rfl) pau_nil))
  · have h := of_decide_eq_false h
    have e : goesOn s i = [(i : Int) + 1] := by unfold goesOn; rw [if_neg h1, if_neg h2, if_neg h]
    rw [e]
    exact pu_lst (pau_cons (pu_bin ou_add (pu_var L.toLo 1) pu_int) pau_nil)

/-! caught -/
abbrev nCaught : List Str := ["method", "at", "handler"]
theorem scCaught : FnScope nCaught ["method", "at"] (defScope (topS 52)) := ⟨rfl, rfl, rfl, by decide +kernel, rfl, by decide +kernel, by decide +kernel⟩
def preCaught : List D → (Bd → Prop) → Prop := preAt fun c hs i s => .dat (.lst ((caughtL hs i).map D.int))
theorem ok_caught {f : Addr} {fd : FuncData} (F : Fun K "caught" "caught" (topS 52) f fd) : FnOk P w K mg base CX0 1 f fd ["method", "at"] (spF C Tb P w K preCaught) := by
  refine fn_data [0, 1] F scCaught (by decide +kernel) (fun ds post ⟨_, _, _, _, e, _⟩ => by rw [e]; rfl) (by decide) ?_
  rintro X rfl rfl rfl rfl rfl L hr g rfl rfl hR ds post ⟨c, hs, i, s, rfl, ok, hi, hp⟩
  show SUs X g [some (.dat (metD c hs)), some (.dat (.int i)), none] _ _
  replace hp : post (.dat (.lst ((caughtL hs i).map D.int))) := hp _ rfl
  rw [← cG_hs] at hp
  refine su_one (s_ret (pu_of_pn (pn_lc L.toLo [("handler", 2)] [1, 2] (fun ρ d => ρ.set 2 (some (.dat d))) (cG i) (piu_tup (pu_ixT (pu_var L.toLo 0) pu_int rfl)) (by intro i hi; simp at hi; subst hi; rfl) (fun d => rfl) (fun s H Cc cl fp H0 R L' d hd ρ' e' => ?_) ?_)) hp)
  · subst e'
    obtain ⟨h, hh, rfl⟩ := List.mem_map.mp hd
    have e : (cG i (hdD h)).isSome = (decide (h.1 ≤ i) && decide ((i : Int) < h.2.1)) := by
      show (if (decide (h.1 ≤ i) && decide ((i : Int) < h.2.1)) = true then some (D.int h.2.2.2) else none).isSome = _
      generalize (decide (h.1 ≤ i) && decide ((i : Int) < h.2.1)) = z
      cases z <;> rfl
    refine ⟨pgu_name L' 2 (.inr (by rfl)), ?_, fun r hr' => ?_⟩
    · rw [e]
      exact ptsu_one (ptu_chain ou_le ou_lt (pu_ixT (pu_var L' 2) pu_int rfl) (pu_var L' 1) (pu_ixT (pu_var L' 2) pu_int rfl))
    · have e2 : r = .int h.2.2.2 := by
        have hr'' : (if (decide (h.1 ≤ i) && decide ((i : Int) < h.2.1)) = true then some (D.int h.2.2.2) else none) = some r := hr'
        split at hr''
        · exact (Option.some.inj hr'').symm
        · cases hr''
      subst e2
      exact pu_ixT (pu_var L' 2) pu_int rfl
  · rw [List.length_map, sizeLine_eq]; have := ok.few; omega
end
end C66
end TD10
section TP15
set_option Elab.async false
set_option linter.all false
set_option autoImplicit false
set_option maxRecDepth 100000
set_option maxHeartbeats 4000000
/-! P15: set(list of ints), sorted(it). -/
namespace C66
open PySem PySem.Spec L2
abbrev nSet (w : World) : Obj := { cls := .type "set", dict := none, data := .set #[] 0 (.fresh 0 0 (!w.params.followText "set-order")) }
section
variable {P : Program} {w : World} {A : Around} {E : Value → Shared → Prop} {s : Shared}
theorem call_setL {l : Addr} {its : Array Value} (ns : List Int) {Q : Value → Shared → Prop} (ha : A.handled = none) (hl : s.heap.IsList l its) (hi : PyProof.Rows.IntsAre its.toList ns) (hb : ns.length + 1 < scanBound)
    (fin : ∀ (h' : Heap) (tk c : Nat), SetR w h' s.heap.objs.size (fun j => decide (j ∈ ns)) c → c ≤ ns.length → (∀ b o, s.heap.get? b = some o → h'.get? b = some o) → Q (.ref s.heap.objs.size) { s with heap := h', toks := tk }) :
    wpAny (model P w) A (call (.type "set") [.ref l]) Q E s := by
  have hsz : its.size = ns.length := by rw [← Array.length_toList]; exact PyProof.Rows.IntsAre.length hi
  have ⟨c0, t0, m0⟩ := F.called_set.mro
  have m1 := F.called_set.made; have m2 := F.called_set.sub
  refine wpAny_call (codeAny_of_tree (show wpAny _ _ (callAny (.type "set") _) _ _ _ from wpAny_pure ⟨Code.quiet_builtin _ (by decide +kernel), codeAny_builtin F.entry_type_call ?_⟩))
  rw [Around.under_plain (weight_type_call_type "set" [.ref l] []) rfl]
  have m3 := F.called_set.notType; have m4 := F.called_set.canCreate
  have m5 := F.typeCall_set_1 (.ref l); repeat (any_goals (first | assumption | wp_step))
  refine codeAny_mono (code_set_led1 (.ref l) (E := E) (Q₁ := fun ob s1 => ob = .ref s.heap.objs.size ∧ s1 = { s with heap := s.heap.push (nSet w) }) ⟨rfl, rfl⟩) fun r s1 hr => ?_
  match r, hr with
  | .error e, hr => exact hr
  | .ok (.ret ob), hr =>
    obtain ⟨rfl, rfl⟩ := hr
    have hS : (s.heap.push (nSet w)).get? s.heap.objs.size = some (nSet w) := Heap.get?_push_size _ rfl
    have hT : Shared.TypeIs { s with heap := s.heap.push (nSet w) } (.ref s.heap.objs.size) "set" := ⟨_, hS, rfl⟩
    have m6 := F.called_set.init.lookup; have m7 := F.called_set.init.bind (.ref s.heap.objs.size); repeat (any_goals (first | assumption | wp_step))
    refine codeAny_mono (codeAny_call_builtin (R := wants (fun r s2 => r = .none ∧ ∃ h' tk c, s2 = { s with heap := h', toks := tk } ∧ SetR w h' s.heap.objs.size (fun j => decide (j ∈ ns)) c ∧ c ≤ ns.length ∧ (∀ b o, s.heap.get? b = some o → h'.get? b = some o)) E)
      F.called_set.init.plain F.entry_set_init (check_set_init_1 hT ?_)) fun r2 s2 hr2 => ?_
    · obtain ⟨ol, hol, hcl, nl, hdl⟩ := hl
      obtain ⟨oc, od, oda, osl⟩ := ol
      simp only at hcl hdl; subst hcl; subst hdl
      have ho2 : (s.heap.push (nSet w)).get? l = some { cls := .type "list", dict := od, data := .seq its nl, slots := osl } := Heap.get?_push_of_some _ hol
      have x1 := F.sub_list_set; have x2 := F.sub_list_frozenset
      have x3 : (Value.type "list" == Value.type "dict") = false := by decide
      have hl1 : (s.heap.push (nSet w)).IsList l its := ⟨_, ho2, rfl, nl, rfl⟩
      unfold Builtin.«set.__init__» noKeywords Builtin.Frozenset.updateFrom
      generalize hPI : pyIter = PI
      wp_walk
      subst hPI
      refine wpAny_pyIter_list hl1 (wpAny_bind (wpAny_runValue ?_))
      have lS : l < s.heap.objs.size := Heap.lt_size hol
      have hn3 : A.in1.in1.in1.handled = none := by simp [ha]
      have nI : l ≠ (s.heap.push (nSet w)).objs.size := by rw [Heap.size_push]; exact Nat.ne_of_lt (Nat.lt_succ_of_lt lS)
      have nS : s.heap.objs.size ∉ [(s.heap.push (nSet w)).objs.size, l] := by
        rw [Heap.size_push]; exact fun z => (List.mem_cons.mp z).elim (Nat.ne_of_lt (Nat.lt_succ_self _)) fun z => Nat.ne_of_gt lS (List.mem_singleton.mp z)
      have val : ∀ (i : Nat) (v : Value), its[i]? = some v → ∃ k t, ns[i]? = some k ∧ v = .int k t := fun i v hv => by
        have hlt : i < ns.length := hsz ▸ (Array.getElem?_eq_some_iff.mp hv).1
        have ⟨t, e⟩ := PyProof.Rows.IntsAre.int_at hi i v (by rw [Array.getElem?_toList]; exact hv)
        exact ⟨ns[i], t, List.getElem?_eq_getElem hlt, by rw [e, List.getD_eq_getElem?_getD, List.getElem?_eq_getElem hlt] <;> rfl⟩
      refine set_update_ints ((Walks.list hn3 _ l nI its).toS) s.heap.objs.size nS ns hsz hb val (its.size - 0) 0 _ (by omega) (Nat.zero_le _) ⟨⟨_, Heap.get?_push_size _ rfl, rfl, rfl⟩, hl1.push _⟩ ⟨0, Nat.le_refl 0, setR_new_at (Heap.get?_push_of_some _ hS)⟩ fun s' c' hm hc' hS' => ?_
      obtain ⟨h2, g2, d2, k2, o2⟩ := s'
      obtain rfl : g2 = s.gens := hm.gens
      obtain rfl : d2 = s.drawn := hm.drawn
      obtain rfl : o2 = s.os := hm.os
      refine (show wpAny _ _ _ _ _ _ from wpAny_pure (show wpAny _ _ (ret Value.none) _ _ _ from wpAny_pure ⟨rfl, h2, k2, c', rfl, hS', hsz ▸ hc', fun b o e => ?_⟩))
      have b0 : b < s.heap.objs.size := Heap.lt_size e
      exact hm.heap b o (by rw [Heap.size_push]; exact fun z => (List.mem_cons.mp z).elim (Nat.ne_of_lt b0) fun z => Nat.ne_of_lt (Nat.lt_succ_of_lt b0) (List.mem_singleton.mp z)) (Heap.get?_push_of_some _ (Heap.get?_push_of_some _ e))
    · cases r2 with
      | error e => exact hr2
      | ok f2 =>
        cases f2 with
        | ret r =>
          obtain ⟨rfl, h', tk, c', rfl, a1, a2, a3⟩ := hr2
          (repeat (any_goals (first | assumption | wp_step))); exact fin _ _ _ a1 a2 a3
        | _ => exact hr2.elim
  | .ok .next, hr => exact hr.elim
  | .ok .brk, hr => exact hr.elim
  | .ok .cont, hr => exact hr.elim
end
end C66
end TP15
section TP16
set_option Elab.async false
set_option linter.all false
set_option autoImplicit false
set_option maxRecDepth 100000
set_option maxHeartbeats 4000000
/-! P16: sorted(set(list of ints)) over data. -/
namespace C66
open PySem PySem.Spec L2
/-! ### the plain side -/
def insI (x : Int) : List Int → List Int
  | [] => [x]
  | y :: r => if x < y then x :: y :: r else if x = y then y :: r else y :: insI x r
def sd (ns : List Int) : List Int := ns.foldr insI []
theorem mem_insI {x k : Int} : ∀ {ns : List Int}, k ∈ insI x ns ↔ k = x ∨ k ∈ ns
  | [] => by simp [insI]
  | y :: r => by
    unfold insI
    by_cases h1 : x < y
    · rw [if_pos h1]; simp
    · rw [if_neg h1]
      by_cases h2 : x = y
      · rw [if_pos h2]; subst h2; simp
      · rw [if_neg h2, List.mem_cons, mem_insI (ns := r), List.mem_cons]
        constructor
        · rintro (h | h | h)
          · exact .inr (.inl h)
          · exact .inl h
          · exact .inr (.inr h)
        · rintro (h | h | h)
          · exact .inr (.inl h)
          · exact .inl h
          · exact .inr (.inr h)
theorem mem_sd {k : Int} : ∀ {ns : List Int}, k ∈ sd ns ↔ k ∈ ns
  | [] => by simp [sd]
  | x :: r => by
    show k ∈ insI x (sd r) ↔ _
    rw [mem_insI, mem_sd (ns := r), List.mem_cons]
theorem pw_insI {x : Int} : ∀ {ns : List Int}, ns.Pairwise (· < ·) → (insI x ns).Pairwise (· < ·)
  | [], _ => by simp [insI]
  | y :: r, h => by
    rw [List.pairwise_cons] at h
    unfold insI
    by_cases h1 : x < y
    · rw [if_pos h1, List.pairwise_cons]
      refine ⟨fun z hz => ?_, List.pairwise_cons.mpr h⟩
      rcases List.mem_cons.mp hz with e | e
      · rw [e]; exact h1
      · exact Int.lt_trans h1 (h.1 z e)
    · rw [if_neg h1]
      by_cases h2 : x = y
      · rw [if_pos h2, List.pairwise_cons]; exact h
      · rw [if_neg h2, List.pairwise_cons]
        refine ⟨fun z hz => ?_, pw_insI h.2⟩
        rcases mem_insI.mp hz with e | e
        · rw [e]; omega
        · exact h.1 z e
theorem pw_sd : ∀ ns : List Int, (sd ns).Pairwise (· < ·)
  | [] => List.Pairwise.nil
  | _ :: r => pw_insI (pw_sd r)
/-- a rising list is known by its members -/
theorem ris_ext : ∀ {xs ys : List Int}, xs.Pairwise (· < ·) → ys.Pairwise (· < ·) → (∀ k : Int, k ∈ xs ↔ k ∈ ys) → xs = ys
  | [], [], _, _, _ => rfl
  | [], y :: ys, _, _, h => absurd ((h y).mpr List.mem_cons_self) (by simp)
  | x :: xs, [], _, _, h => absurd ((h x).mp List.mem_cons_self) (by simp)
  | x :: xs, y :: ys, hx, hy, h => by
    rw [List.pairwise_cons] at hx hy
    have e : x = y := by
      rcases List.mem_cons.mp ((h x).mp List.mem_cons_self) with e | e
      · exact e
      · rcases List.mem_cons.mp ((h y).mpr List.mem_cons_self) with e' | e'
        · exact e'.symm
        · have a := hx.1 y e'
          have b := hy.1 x e
          omega
    subst e
    rw [ris_ext hx.2 hy.2 fun k => ⟨fun hk => ?_, fun hk => ?_⟩]
    · rcases List.mem_cons.mp ((h k).mp (List.mem_cons_of_mem _ hk)) with e | e
      · have := hx.1 k hk; omega
      · exact e
    · rcases List.mem_cons.mp ((h k).mpr (List.mem_cons_of_mem _ hk)) with e | e
      · have := hy.1 k hk; omega
      · exact e
theorem sd_congr {xs ys : List Int} (h : ∀ k : Int, k ∈ xs ↔ k ∈ ys) : sd xs = sd ys := ris_ext (pw_sd _) (pw_sd _) fun k => by rw [mem_sd, mem_sd]; exact h k
/-! ### the rule -/
/-- set(l) -/
theorem cr_setL {X : Cx} (hc : X.calm = true) : CallR X (.type "set") fun vs H Q => ∃ (a : Addr) (ns : List Int), vs = [V.ref a] ∧ FrL H a (ns.map V.int) ∧ ns.length < 64 ∧ ∀ (p : Addr) (n : Nat), H p = none → n ≤ ns.length → Q (.ref p) (upd H p (SetO X.w p (fun j => decide (j ∈ ns)) n)) := by
  intro pins s σ H vs us Q I r h
  obtain ⟨a, ns, rfl, ⟨o, hf⟩, hl, q⟩ := h
  rw [Vals.ref1 r]
  obtain ⟨z, its, n, rv, e⟩ := (show ObjOk X.prog X.w H s.heap a (.lst (ns.map V.int)) from (I.hok a _ hf).2)
  have hIs : s.heap.IsList a its.toArray := ⟨_, e, rfl, n, rfl⟩
  refine call_setL ns (I.ok.hd hc) hIs (by rw [List.toList_toArray]; exact ints_of_vals rv) (Nat.lt_of_lt_of_le (Nat.succ_lt_succ hl) (by decide +kernel : 65 ≤ scanBound)) fun h' tk c R hc' k => ?_
  have hn : H s.heap.objs.size = none := I.hok.fresh (Nat.le_refl _)
  have J : Inv X pins σ (upd H s.heap.objs.size (SetO X.w s.heap.objs.size (fun j => decide (j ∈ ns)) c)) { s with heap := h', gens := s.gens, drawn := s.drawn, toks := tk } :=
    I.call (ch := []) (Un.laid k (Nat.le_refl _) hn) (I.hok.laid k (Nat.le_refl _) (setO_new R)) I.bare (fun _ z => nomatch z)
  exact ⟨.ref _, _, J, rfl, q _ c hn hc'⟩
section
variable {X : Cx} {g : Gm} {ρ ρ1 : Rho} {N : List Str} {sc : Scope} {vs : List Nat} {pos p p2 p3 : Pos} {e : Expr}
/-- sorted(set(e)) -/
theorem pn_sset (L : Lo X N sc vs) {ns : List Int} (he : PU X g ρ e ρ1 (.lst (ns.map D.int))) (h64 : ns.length < 64) (hm1 : X.mg "sorted" = none) (hm2 : X.mg "set" = none) (hg1 : gloC sc "sorted" = true := by decide +kernel) (hg2 : gloC sc "set" = true := by decide +kernel)
    (h1 : starEach [e] X.env = (false, eval e X.env) :: starEach [] X.env := by rfl) (h2 : (backTo p2 (starEach [] X.env)).any (·.1) = false := by rfl)
    (h3 : starEach [.Call (.Name "set" p) [e] [] p2] X.env = (false, eval (.Call (.Name "set" p) [e] [] p2) X.env) :: starEach [] X.env := by rfl) (h4 : (backTo pos (starEach [] X.env)).any (·.1) = false := by rfl) :
    PN X g ρ (.Call (.Name "sorted" p3) [.Call (.Name "set" p) [e] [] p2] [] pos) ρ1 ((sd ns).map D.int) := by
  refine pe_weak (pe_callB (cr_sortedSet L.calm) (gl_of L hg1) hm1 (by decide +kernel) (pa_cons (pe_callTy (cr_setL L.calm) (gl_of L hg2) hm2 (by decide +kernel) (pa_cons he pa_nil h1) (by decide) (by decide) h1 h2) pa_nil h3) (by decide) (by decide) h3 h4) fun σ H Q q => ⟨q.1, fun v H1 E1 x1 r1 => ?_⟩
  cases r1 with
  | @lst a us _ s r =>
    rw [r.of_ints] at s
    refine ⟨a, ns, rfl, s, h64, fun b n nb hn => ⟨b, _, n, rfl, upd_same, by omega, fun ms l pw mem _ nl => ?_⟩⟩
    have sm : Same H1 (upd H1 b (SetO X.w b (fun j => decide (j ∈ ns)) n)) := fun c o hc => by rw [upd_ne (ne_of_none hc nb)]; exact hc
    have em : ms = sd ns := ris_ext pw (pw_sd _) fun k => by rw [mem, mem_sd]; simp
    rw [em]
    exact uN_new q (E1.same sm) (x1.trans (.of_same sm)) nl (RepL.ints _)
end
end C66
end TP16
section TD11
set_option Elab.async false
set_option linter.all false
set_option autoImplicit false
set_option maxRecDepth 100000
set_option maxHeartbeats 4000000
namespace C66
open PySem PySem.Spec L2
/-! ### the plain side -/
def nextL (hs : List Hnd) (i : Nat) (s : Stp) : List Int := sd (goesOn s i ++ caughtL hs i)
def sureH (i : Int) (h : Hnd) : Bool := (decide (h.1 ≤ i) && decide (i < h.2.1)) && decide (h.2.2.1 = "top")
def isEndB (hs : List Hnd) (i : Nat) (s : Stp) : Bool := decide (s.1 = "give") || (decide (s.1 = "throw") && (hs.filter (sureH i)).isEmpty)
def locK (c : List Stp) (i : Nat) : Int := match c[i - 1]? with
  | some s => s.2.getD 0
  | none => 0
def getI (h : List Int) (k : Int) : Int := (h[k.toNat]?).getD 0
def astrayB (c : List Stp) (hs : List Hnd) (i : Nat) (s : Stp) (h : List Int) : Bool :=
  if s.1 = "enter" then decide (getI h (locK c i) = 6) else if s.1 = "leave" then decide (getI h (locK c i) = 0) else if s.1 = "keep" then !decide (getI h (s.2.getD 0) = 0) else isEndB hs i s && !decide (h = [0, 0, 0, 0])
def behindL (c : List Stp) (i : Nat) (s : Stp) (h : List Int) (later : Int) : List Int :=
  if isHoldStep s = true ∧ later = (i : Int) + 1 then h.set (locK c i).toNat (getI h (locK c i) + if s.1 = "enter" then 1 else -1) else h
def iD (h : List Int) : D := .tup (h.map D.int)
theorem CodeOk.locOk {c : List Stp} {hs : List Hnd} (ok : CodeOk c hs) {i : Nat} {s : Stp} (hi : c[i]? = some s) (hh : isHoldStep s = true) : ∃ j, i = j + 1 ∧ c[j]? = some ((("take" : Str), some (locK c i)) : Stp) ∧ 0 ≤ locK c i ∧ locK c i ≤ 3 := by
  obtain ⟨j, k, rfl, hj⟩ := ok.hold i s hi hh
  have e : locK c (j + 1) = k := by
    unfold locK
    rw [Nat.add_sub_cancel, hj]
    rfl
  obtain ⟨k', e', h0, h3⟩ := (ok.step _ (List.mem_of_getElem? hj)).take_of rfl
  cases e'
  rw [e]
  exact ⟨j, rfl, hj, h0, h3⟩
theorem getI_at {h : List Int} {k : Int} (hl : h.length = 4) (h0 : 0 ≤ k) (h3 : k ≤ 3) : dAt (h.map D.int) k = some (.int (getI h k)) := by
  unfold dAt getI
  have hk : k.toNat < h.length := by omega
  rw [if_pos h0, List.getElem?_map, List.getElem?_eq_getElem hk]
  rfl
theorem low_iD {h : List Int} : (iD h).low 1 := low_tup fun d hd => by
  obtain ⟨x, _, rfl⟩ := List.mem_map.mp hd
  exact low_int
theorem eqv_iD {h h' : List Int} : PyData.eqv (iD h).py (iD h').py = decide (h = h') := by
  show PyData.eqv (.tuple (pys (h.map D.int))) (.tuple (pys (h'.map D.int))) = _
  rw [PyData.eqv, eqv_ints]
theorem eqv_nilL {ds : List D} : PyData.eqv (D.lst ds).py (D.lst []).py = ds.isEmpty := by
  cases ds with
  | nil => show PyData.eqv (.list []) (.list []) = _; rw [PyData.eqv, PyData.eqvAll]; rfl
  | cons d ds => show PyData.eqv (.list (d.py :: pys ds)) (.list []) = _; rw [PyData.eqv, PyData.eqvAll]; rfl
theorem HndOk.low {n : Nat} {h : Hnd} (o : HndOk n h) : (hdD h).low 1 := low_tup fun d hd => by
  simp only [List.mem_cons, List.not_mem_nil, or_false] at hd
  rcases hd with rfl | rfl | rfl | rfl
  · exact low_int
  · exact low_int
  · rcases o.2.2.2.2.1 with e | e <;> rw [e] <;> exact low_str (by decide +kernel)
  · exact low_int
def sG (i : Int) : D → Option D
  | .tup [.int b, .int e, .str n, g] => if ((decide (b ≤ i) && decide (i < e)) && decide (n = "top")) = true then some (.tup [.int b, .int e, .str n, g]) else none
  | _ => none
theorem sG_hs (i : Int) (hs : List Hnd) : (hs.map hdD).filterMap (sG i) = (hs.filter (sureH i)).map hdD := by
  induction hs with
  | nil => rfl
  | cons s r ih =>
    rw [List.map_cons, List.filterMap_cons, ih, List.filter_cons]
    have e0 : sG i (hdD s) = if sureH i s = true then some (hdD s) else none := rfl
    rw [e0]
    by_cases e : sureH i s = true
    · rw [if_pos e, if_pos e]; rfl
    · rw [if_neg e, if_neg e]
section
variable {P : Program} {w : World} {K : PySem.W.Frag} {mg : Str → Option Value} {base : Heap} {C : Addr} {Tb : List (Addr × Str)}
theorem pu_m1 {X : Cx} {g : Gm} {ρ : Rho} {j : Nat} {p3 p4 : Pos} : PU X g ρ (.UnaryOp .USub (.Constant (.int 1) j p3) p4) ρ (.int (-1)) := pe_weak (pe_un un_neg pe_int) fun σ H Q q => ⟨1, rfl, q.2 _ H q.1 (.refl H) (.int _)⟩
/-! next_steps -/
abbrev nAt : List Str := ["method", "at"]
theorem scNext : FnScope nAt nAt (defScope (topS 53)) := ⟨rfl, rfl, rfl, by decide +kernel, rfl, by decide +kernel, by decide +kernel⟩
def preNext : List D → (Bd → Prop) → Prop := preAt fun c hs i s => .dat (.lst ((nextL hs i s).map D.int))
theorem few_next {c : List Stp} {hs : List Hnd} (ok : CodeOk c hs) (i : Nat) (s : Stp) : (goesOn s i ++ caughtL hs i).length ≤ 4 := by
  have h1 : (goesOn s i).length ≤ 2 := by
    unfold goesOn
    split
    · simp
    · split
      · simp
      · split <;> simp
  have h2 : (caughtL hs i).length ≤ 2 := by
    unfold caughtL
    rw [List.length_map]
    exact Nat.le_trans (List.length_filter_le _ _) ok.few
  rw [List.length_append]; omega
theorem ok_next_steps {f : Addr} {fd : FuncData} (F : Fun K "next_steps" "next_steps" (topS 53) f fd) (T : Txt K C mg) (G1 : Dfn P w K mg base C Tb 1 "goes_on" preGoes) (G2 : Dfn P w K mg base C Tb 1 "caught" preCaught) : FnOk P w K mg base CX0 2 f fd nAt (spF C Tb P w K preNext) := by
  refine fn_data [0, 1] F scNext (by decide +kernel) (fun ds post ⟨_, _, _, _, e, _⟩ => by rw [e]; rfl) (by decide) ?_
  rintro X rfl rfl rfl rfl rfl L hr g rfl rfl hR ds post ⟨c, hs, i, s, rfl, ok, hi, hp⟩
  show SUs X g [some (.dat (metD c hs)), some (.dat (.int i))] _ _
  have h4 := few_next ok i s
  refine su_one (s_ret (pu_of_pn (pn_sset L.toLo (ns := goesOn s i ++ caughtL hs i) ?_ (by omega) T.sorted T.set)) (hp _ rfl))
  rw [List.map_append]
  exact pu_of_pn (pn_cat (by rw [List.length_map, List.length_map, ← List.length_append, sizeLine_eq]; omega) (pu_call L.toLo G1 hr (pau_cons (pu_var L.toLo 0) (pau_cons (pu_var L.toLo 1) pau_nil)) ⟨c, hs, i, s, rfl, ok, hi, fun b h => h⟩) (pu_call L.toLo G2 hr (pau_cons (pu_var L.toLo 0) (pau_cons (pu_var L.toLo 1) pau_nil)) ⟨c, hs, i, s, rfl, ok, hi, fun b h => h⟩))

/-! is_end -/
abbrev nEnd : List Str := ["method", "at", "sure", "handler"]
theorem scEnd : FnScope nEnd nAt (defScope (topS 54)) := ⟨rfl, rfl, rfl, by decide +kernel, rfl, by decide +kernel, by decide +kernel⟩
def preEnd : List D → (Bd → Prop) → Prop := preAt fun c hs i s => .dat (.bl (isEndB hs i s))
theorem ok_is_end {f : Addr} {fd : FuncData} (F : Fun K "is_end" "is_end" (topS 54) f fd) (T : Txt K C mg) : FnOk P w K mg base CX0 1 f fd nAt (spF C Tb P w K preEnd) := by
  refine fn_data [0, 1, 2] F scEnd (by decide +kernel) (fun ds post ⟨_, _, _, _, e, _⟩ => by rw [e]; rfl) (by decide) ?_
  rintro X rfl rfl rfl rfl rfl L hr g rfl rfl hR ds post ⟨c, hs, i, s, rfl, ok, hi, hp⟩
  show SUs X g [some (.dat (metD c hs)), some (.dat (.int i)), none, none] _ _
  replace hp : post (.dat (.bl (isEndB hs i s))) := hp _ rfl
  have hw : dAt (c.map stD) (i : Int) = some (stD s) := by rw [dAt_nat]; exact codeD_get hi
  refine s_ifR (k := decide (s.1 = "give")) (ptu_cmp ou_eqS (pu_word (pu_ixT (pu_ixT (pu_var L.toLo 0) pu_int rfl) (pu_var L.toLo 1) hw)) pu_str) (fun h => ?_) (fun h1 => ?_)
  · have e : isEndB hs i s = true := by unfold isEndB; rw [h]; rfl
    rw [e] at hp
    exact su_one (s_ret pu_bl hp)
  refine su_cons (su_setLc L 2 (lc_data L.toLo [("handler", 3)] [1, 3] (fun ρ d => ρ.set 3 (some (.dat d))) (sG i) (piu_tup (pu_ixT (pu_var L.toLo 0) pu_int rfl)) (by intro i hi; simp at hi; subst hi; rfl) (fun d => rfl) (fun s H Cc cl fp H0 R L' d hd ρ' e' => ?_) ?_) ?_)
  · subst e'
    obtain ⟨h, hh, rfl⟩ := List.mem_map.mp hd
    have e : (sG i (hdD h)).isSome = sureH i h := by
      have e0 : sG i (hdD h) = if sureH i h = true then some (hdD h) else none := rfl
      rw [e0]
      cases sureH i h <;> rfl
    refine ⟨pgu_name L' 3 (.inr (by rfl)), ?_, fun r hr' => ?_⟩
    · rw [e]
      exact ptsu_one (ptu_of (pwu_and (ptu_chain ou_le ou_lt (pu_ixT (pu_var L' 3) pu_int rfl) (pu_var L' 1) (pu_ixT (pu_var L' 3) pu_int rfl)) fun _ => pwu_and1 (ptu_cmp ou_eqS (pu_ixT (pu_var L' 3) pu_int rfl) (pu_glob L' T.TOP))))
    · have e2 : r = hdD h := by
        have e0 : sG i (hdD h) = if sureH i h = true then some (hdD h) else none := rfl
        rw [e0] at hr'
        split at hr'
        · exact (Option.some.inj hr').symm
        · cases hr'
      subst e2
      exact pu_var L' 3
  · rw [List.length_map, sizeLine_eq]; have := ok.few; omega
  · show SUs X g [some (.dat (metD c hs)), some (.dat (.int i)), some (.own ((hs.map hdD).filterMap (sG i))), none] _ _
    rw [sG_hs]
    refine su_freeze 2 ?_
    show SUs X g [some (.dat (metD c hs)), some (.dat (.int i)), some (.dat (.lst ((hs.filter (sureH i)).map hdD))), none] _ _
    have hlow : (D.lst ((hs.filter (sureH i)).map hdD)).low 2 := low_lst fun d hd => by
      obtain ⟨h, hh, rfl⟩ := List.mem_map.mp hd
      exact (ok.hnd h (List.mem_filter.mp hh).1).low
    refine su_one (s_retE (d' := .bl (isEndB hs i s)) (pu_and (k := decide (s.1 = "throw")) (pu_cmp ou_eqS (pu_word (pu_ixT (pu_ixT (pu_var L.toLo 0) pu_int rfl) (pu_var L.toLo 1) hw)) pu_str) fun _ => pu_one (pu_cmp (ou_eqD L.hu (low_shp hlow (by decide)) (by decide +kernel)) (pu_var L.toLo 2) (pu_lst pau_nil))) ?_ hp)
    rw [eqv_nilL]
    unfold isEndB
    rw [h1, Bool.false_or]
    congr 2
    cases hs.filter (sureH i) <;> rfl

/-! local_of -/
theorem scLocal : FnScope nAt nAt (defScope (topS 55)) := ⟨rfl, rfl, rfl, by decide +kernel, rfl, by decide +kernel, by decide +kernel⟩
def preLocal : List D → (Bd → Prop) → Prop := fun ds post => ∃ (c : List Stp) (hs : List Hnd) (j : Nat) (k : Int), ds = [metD c hs, .int ((j + 1 : Nat) : Int)] ∧ c[j]? = some ((("take" : Str), some k) : Stp) ∧ ∀ b, b = .dat (.int k) → post b
theorem ok_local_of {f : Addr} {fd : FuncData} (F : Fun K "local_of" "local_of" (topS 55) f fd) : FnOk P w K mg base CX0 1 f fd nAt (spF C Tb P w K preLocal) := by
  refine fn_data [0, 1] F scLocal (by decide +kernel) (fun ds post ⟨_, _, _, _, e, _⟩ => by rw [e]; rfl) (by decide) ?_
  rintro X rfl rfl rfl rfl rfl L hr g rfl rfl hR ds post ⟨c, hs, j, k, rfl, hj, hp⟩
  show SUs X g [some (.dat (metD c hs)), some (.dat (.int ((j + 1 : Nat) : Int)))] _ _
  refine su_one (s_ret (pu_ixT (ds := [.str "take", .int k]) (pu_ixT (pu_ixT (pu_var L.toLo 0) pu_int rfl) (pu_bin ou_sub (pu_var L.toLo 1) pu_int) ?_) pu_int rfl) (hp _ rfl))
  rw [show ((j + 1 : Nat) : Int) - 1 = (j : Int) by omega, dAt_nat]
  exact codeD_get hj

/-! is_astray -/
abbrev nAstr : List Str := ["method", "at", "holds", "step"]
theorem scAstr : FnScope nAstr ["method", "at", "holds"] (defScope (topS 56)) := ⟨rfl, rfl, rfl, by decide +kernel, rfl, by decide +kernel, by decide +kernel⟩
def preAstr : List D → (Bd → Prop) → Prop := fun ds post => ∃ (c : List Stp) (hs : List Hnd) (i : Nat) (s : Stp) (h : List Int), ds = [metD c hs, .int i, iD h] ∧ CodeOk c hs ∧ c[i]? = some s ∧ h.length = 4 ∧ ∀ b, b = .dat (.bl (astrayB c hs i s h)) → post b
theorem ok_is_astray {f : Addr} {fd : FuncData} (F : Fun K "is_astray" "is_astray" (topS 56) f fd) (T : Txt K C mg) (G1 : Dfn P w K mg base C Tb 1 "local_of" preLocal) (G2 : Dfn P w K mg base C Tb 1 "is_end" preEnd) : FnOk P w K mg base CX0 2 f fd ["method", "at", "holds"] (spF C Tb P w K preAstr) := by
  refine fn_data [0, 1, 2, 3] F scAstr (by decide +kernel) (fun ds post ⟨_, _, _, _, _, e, _⟩ => by rw [e]; rfl) (by decide) ?_
  rintro X rfl rfl rfl rfl rfl L hr g rfl rfl hR ds post ⟨c, hs, i, s, h, rfl, ok, hi, hl, hp⟩
  show SUs X g [some (.dat (metD c hs)), some (.dat (.int i)), some (.dat (iD h)), none] _ _
  replace hp : post (.dat (.bl (astrayB c hs i s h))) := hp _ rfl
  refine s_set L 3 (pu_ixT (pu_ixT (pu_var L.toLo 0) pu_int rfl) (pu_var L.toLo 1) (by rw [dAt_nat]; exact codeD_get hi)) ?_
  show SUs X g [some (.dat (metD c hs)), some (.dat (.int i)), some (.dat (iD h)), some (.dat (stD s))] _ _
  refine s_ifR (k := decide (s.1 = "enter")) (ptu_cmp ou_eqS (pu_word (pu_var L.toLo 3)) pu_str) (fun he => ?_) (fun h1 => ?_)
  · have he := of_decide_eq_true he
    obtain ⟨j, rfl, hj, h0, h3⟩ := ok.locOk hi (by unfold isHoldStep; rw [he]; rfl)
    have e : astrayB c hs (j + 1) s h = decide (getI h (locK c (j + 1)) = 6) := by unfold astrayB; rw [if_pos he]
    rw [e] at hp
    exact su_one (s_ret (pu_cmp ou_eqI (pu_ixT (pu_var L.toLo 2) (pu_call L.toLo G1 hr (pau_cons (pu_var L.toLo 0) (pau_cons (pu_var L.toLo 1) pau_nil)) ⟨c, hs, j, _, rfl, hj, fun b h => h⟩) (getI_at hl h0 h3)) (pu_glob L.toLo T.MOST_HOLDS)) hp)
  have h1 : ¬ s.1 = "enter" := of_decide_eq_false h1
  refine s_ifR (k := decide (s.1 = "leave")) (ptu_cmp ou_eqS (pu_word (pu_var L.toLo 3)) pu_str) (fun he => ?_) (fun h2 => ?_)
  · have he := of_decide_eq_true he
    obtain ⟨j, rfl, hj, h0, h3⟩ := ok.locOk hi (by unfold isHoldStep; rw [he]; rfl)
    have e : astrayB c hs (j + 1) s h = decide (getI h (locK c (j + 1)) = 0) := by unfold astrayB; rw [if_neg h1, if_pos he]
    rw [e] at hp
    exact su_one (s_ret (pu_cmp ou_eqI (pu_ixT (pu_var L.toLo 2) (pu_call L.toLo G1 hr (pau_cons (pu_var L.toLo 0) (pau_cons (pu_var L.toLo 1) pau_nil)) ⟨c, hs, j, _, rfl, hj, fun b h => h⟩) (getI_at hl h0 h3)) pu_int) hp)
  have h2 : ¬ s.1 = "leave" := of_decide_eq_false h2
  refine s_ifR (k := decide (s.1 = "keep")) (ptu_cmp ou_eqS (pu_word (pu_var L.toLo 3)) pu_str) (fun he => ?_) (fun h4 => ?_)
  · have he := of_decide_eq_true he
    obtain ⟨k, ek, h0, h3⟩ := (ok.step s (List.mem_of_getElem? hi)).keep_of he
    have e : astrayB c hs i s h = !decide (getI h k = 0) := by unfold astrayB; rw [if_neg h1, if_neg h2, if_pos he, ek]; rfl
    rw [e] at hp
    obtain ⟨x, o⟩ := s
    cases ek
    exact su_one (s_ret (pu_cmp ou_neI (pu_ixT (pu_var L.toLo 2) (pu_ixT (ds := [.str x, .int k]) (pu_var L.toLo 3) pu_int rfl) (getI_at hl h0 h3)) pu_int) hp)
  have h4 : ¬ s.1 = "keep" := of_decide_eq_false h4
  have e : astrayB c hs i s h = (isEndB hs i s && !decide (h = [0, 0, 0, 0])) := by unfold astrayB; rw [if_neg h1, if_neg h2, if_neg h4]
  rw [e, ← eqv_iD] at hp
  exact su_one (s_ret (pu_and (pu_call L.toLo G2 hr (pau_cons (pu_var L.toLo 0) (pau_cons (pu_var L.toLo 1) pau_nil)) ⟨c, hs, i, s, rfl, ok, hi, fun b h => h⟩) fun _ => pu_one (pu_cmp (ou_neD (d2 := iD [0, 0, 0, 0]) L.hu (low_shp low_iD (by decide)) (low_shp low_iD (by decide))) (pu_var L.toLo 2) (pu_glob L.toLo T.NOTHING))) hp)

/-! holds_behind -/
abbrev nBeh : List Str := ["method", "at", "holds", "later", "local", "change"]
theorem scBeh : FnScope nBeh ["method", "at", "holds", "later"] (defScope (topS 57)) := ⟨rfl, rfl, rfl, by decide +kernel, rfl, by decide +kernel, by decide +kernel⟩
def preBeh : List D → (Bd → Prop) → Prop := fun ds post => ∃ (c : List Stp) (hs : List Hnd) (i : Nat) (s : Stp) (h : List Int) (l : Int), ds = [metD c hs, .int i, iD h, .int l] ∧ CodeOk c hs ∧ c[i]? = some s ∧ h.length = 4 ∧ ∀ b, b = .dat (iD (behindL c i s h l)) → post b
theorem set_parts {h : List Int} {k : Nat} (x : Int) (hk : k < h.length) : h.set k x = h.take k ++ (x :: (h.drop (k + 1) ++ [])) := by
  rw [List.append_nil, List.set_eq_take_append_cons_drop, if_pos hk]
theorem ok_holds_behind {f : Addr} {fd : FuncData} (F : Fun K "holds_behind" "holds_behind" (topS 57) f fd) (G1 : Dfn P w K mg base C Tb 1 "local_of" preLocal) : FnOk P w K mg base CX0 2 f fd ["method", "at", "holds", "later"] (spF C Tb P w K preBeh) := by
  refine fn_data [0, 1, 2, 3, 4, 5] F scBeh (by decide +kernel) (fun ds post ⟨_, _, _, _, _, _, e, _⟩ => by rw [e]; rfl) (by decide) ?_
  rintro X rfl rfl rfl rfl rfl L hr g rfl rfl hR ds post ⟨c, hs, i, s, h, l, rfl, ok, hi, hl, hp⟩
  show SUs X g [some (.dat (metD c hs)), some (.dat (.int i)), some (.dat (iD h)), some (.dat (.int l)), none, none] _ _
  replace hp : post (.dat (iD (behindL c i s h l))) := hp _ rfl
  have hw : dAt (c.map stD) (i : Int) = some (stD s) := by rw [dAt_nat]; exact codeD_get hi
  refine s_ifR (k := !decide (s.1 ∈ (["enter", "leave"] : List Str)) || !decide (l = (i : Int) + 1)) (ptu_of (pwu_or (ptu_cmp (ou_niS (.inl rfl)) (pu_word (pu_ixT (pu_ixT (pu_var L.toLo 0) pu_int rfl) (pu_var L.toLo 1) hw)) (pu_tup (pau_cons pu_str (pau_cons pu_str pau_nil)))) fun _ => pwu_or1 (ptu_cmp ou_neI (pu_var L.toLo 3) (pu_bin ou_add (pu_var L.toLo 1) pu_int)))) (fun hc => ?_) (fun hc => ?_)
  · have e : behindL c i s h l = h := by
      unfold behindL
      refine if_neg fun z => ?_
      rw [holdW, z.1, decide_eq_true z.2] at hc
      cases hc
    rw [e] at hp
    exact su_one (s_ret (pu_var L.toLo 2) hp)
  rw [holdW] at hc
  have hH : isHoldStep s = true := by
    cases q : isHoldStep s with
    | true => rfl
    | false => rw [q] at hc; cases hc
  have hL : l = (i : Int) + 1 := by
    by_cases q : l = (i : Int) + 1
    · exact q
    · rw [hH, decide_eq_false q] at hc; cases hc
  obtain ⟨j, rfl, hj, h0, h3⟩ := ok.locOk hi hH
  have e : behindL c (j + 1) s h l = h.set (locK c (j + 1)).toNat (getI h (locK c (j + 1)) + if s.1 = "enter" then 1 else -1) := if_pos ⟨hH, hL⟩
  generalize hk : locK c (j + 1) = k at e hj h0 h3
  generalize hx : (if s.1 = "enter" then (1 : Int) else -1) = x at e
  rw [e, set_parts _ (by omega)] at hp
  refine su_cons (su_2 L 4 5 (b1 := .dat (.int k)) (b2 := .dat (.int x)) (pab_cons (pb_dat (pu_call L.toLo G1 hr (pau_cons (pu_var L.toLo 0) (pau_cons (pu_var L.toLo 1) pau_nil)) ⟨c, hs, j, k, rfl, hj, fun b h => h⟩))
    (fun H0 R => pab_cons (pb_dat (pu_ifE (k := decide (s.1 = "enter")) (ptu_cmp ou_eqS (pu_word (pu_ixT (g := ⟨g.C, g.T, H0, R⟩) (pu_ixT (pu_var L.toLo 0) pu_int rfl) (pu_var L.toLo 1) hw)) pu_str) (fun h => ?_) (fun h => ?_))) (fun H0 R => pab_nil) rfl) rfl) ?_)
  · rw [← hx, if_pos (of_decide_eq_true h)]; exact pu_int
  · rw [← hx, if_neg (of_decide_eq_false h)]; exact pu_m1
  · show SUs X g [some (.dat (metD c hs)), some (.dat (.int ((j + 1 : Nat) : Int))), some (.dat (iD h)), some (.dat (.int l)), some (.dat (.int k)), some (.dat (.int x))] _ _
    refine su_one (s_retE (d' := iD (h.take k.toNat ++ ((getI h k + x) :: (h.drop (k.toNat + 1) ++ [])))) (pu_tup (pau_star (u_slTo (pu_var L.toLo 2) (pu_var L.toLo 4) h0) (.inl rfl) (pau_cons (pu_bin ou_add (pu_ixT (pu_var L.toLo 2) (pu_var L.toLo 4) (getI_at hl h0 h3)) (pu_var L.toLo 5)) (pau_star (u_slFrom (k := k + 1) (pu_var L.toLo 2) (pu_bin ou_add (pu_var L.toLo 4) pu_int) (by omega)) (.inl rfl) pau_nil))) ?_) ?_ hp)
    · simp only [List.length_append, List.length_cons, List.length_take, List.length_drop, List.length_map, List.length_nil, sizeLine_eq]; omega
    · show D.tup _ = D.tup _
      rw [List.map_append, List.map_cons, List.map_append, List.map_take, List.map_drop, show (k + 1).toNat = k.toNat + 1 by omega]
      rfl
end
end C66
end TD11
section TP17
set_option Elab.async false
set_option linter.all false
set_option autoImplicit false
set_option maxRecDepth 100000
set_option maxHeartbeats 4000000
/-! P17: dicts with nested keys. -/
namespace C66
open PySem PySem.Spec L2

/-! ### lookups -/
def ndGet (kvs : List (NestedKey × D)) (k : NestedKey) : Option D := match kvs with
  | [] => none
  | (j, d) :: r => if j = k then some d else ndGet r k
def ndPut (kvs : List (NestedKey × D)) (k : NestedKey) (d : D) : List (NestedKey × D) := if (ndGet kvs k).isSome = true then kvs.map (fun p => if p.1 = k then (p.1, d) else p) else kvs ++ [(k, d)]
def putH (xs : List (NestedKey × Addr × V)) (k : NestedKey) (a : Addr) (v : V) (b : Bool) : List (NestedKey × Addr × V) := if b = true then xs.map (fun x => if x.1 = k then (x.1, x.2.1, v) else x) else xs ++ [(k, a, v)]
abbrev PYs : List (NestedKey × Addr × V) → List (NestedKey × Addr × Value) → Prop := Paired fun p q => p.1 = q.1 ∧ p.2.1 = q.2.1 ∧ RelV p.2.2 q.2.2
inductive GetR (K : PySem.W.Frag) (C : Addr) (H : Hp) (k : NestedKey) : Option (Addr × Value) → Option D → Prop
  | no : GetR K C H k none none
  | yes {a : Addr} {u : Value} {v : V} {d : D} : RelV v u → Rep K C H v d → GetR K C H k (some (a, u)) (some d)
theorem nd_get {K : PySem.W.Frag} {C : Addr} {H : Hp} (k : NestedKey) : ∀ {xs : List (NestedKey × Addr × V)} {ys : List (NestedKey × Addr × Value)} {kvs : List (NestedKey × D)}, PYs xs ys → NdEnt K C H xs kvs → GetR K C H k (atKey ys k) (ndGet kvs k)
  | _, _, _, .nil, e => by
    unfold NdEnt at e
    cases e
    exact .no
  | _, _, _, .cons (a := x) (b := y) h t, e => by
    unfold NdEnt at e
    cases e with
    | @cons _ q _ qs h2 t2 =>
      obtain ⟨h1, h3, h4⟩ := h
      obtain ⟨j, d⟩ := q
      obtain ⟨e1, e2, e3⟩ := h2
      unfold ndGet
      by_cases e : j = k
      · have hy : y.1 = k := h1.symm.trans (e1.trans e)
        rw [if_pos e]
        unfold atKey
        rw [List.find?_cons, decide_eq_true hy]
        exact .yes h4 e3
      · have hy : ¬ y.1 = k := fun z => e (e1.symm.trans (h1.trans z))
        rw [if_neg e]
        have ih := nd_get k t t2
        unfold atKey at ih ⊢
        rw [List.find?_cons, decide_eq_false hy]
        exact ih
theorem GetR.isSome {K : PySem.W.Frag} {C : Addr} {H : Hp} {k : NestedKey} {o : Option (Addr × Value)} {d : Option D} (g : GetR K C H k o d) : o.isSome = d.isSome := by cases g <;> rfl
theorem pys_put {xs : List (NestedKey × Addr × V)} {ys : List (NestedKey × Addr × Value)} (p : PYs xs ys) (k : NestedKey) (a : Addr) {v : V} {u : Value} (r : RelV v u) : PYs (putH xs k a v (atKey ys k).isSome) (storedH ys k a u) := by
  unfold putH storedH
  by_cases h : (atKey ys k).isSome = true
  · rw [if_pos h, if_pos h]
    have all : ∀ {xs : List (NestedKey × Addr × V)} {ys : List (NestedKey × Addr × Value)}, PYs xs ys → PYs (xs.map fun x => if x.1 = k then (x.1, x.2.1, v) else x) (ys.map (putAt k u)) := fun {xs ys} p => by
      induction p with
      | nil => exact .nil
      | @cons x y xs ys h t ih =>
        rw [List.map_cons, List.map_cons]
        refine .cons ?_ ih
        obtain ⟨h1, h2, h3⟩ := h
        unfold putAt
        by_cases e : x.1 = k
        · rw [if_pos e, if_pos (h1.symm.trans e)]
          exact ⟨h1, h2, r⟩
        · rw [if_neg e, if_neg (fun z => e (h1.trans z))]
          exact ⟨h1, h2, h3⟩
    exact all p
  · rw [if_neg h, if_neg h]
    exact paired_append p (.cons ⟨rfl, rfl, r⟩ .nil)
theorem nde_put {K : PySem.W.Frag} {C : Addr} {H : Hp} {xs : List (NestedKey × Addr × V)} {kvs : List (NestedKey × D)} (p : NdEnt K C H xs kvs) {k : NestedKey} {a : Addr} {v : V} {d : D} (rk : Rep K C H (.ref a) (keyD k)) (r : Rep K C H v d) : NdEnt K C H (putH xs k a v (ndGet kvs k).isSome) (ndPut kvs k d) := by
  unfold putH ndPut
  by_cases h : (ndGet kvs k).isSome = true
  · rw [if_pos h, if_pos h]
    have all : ∀ {xs : List (NestedKey × Addr × V)} {kvs : List (NestedKey × D)}, NdEnt K C H xs kvs → NdEnt K C H (xs.map fun x => if x.1 = k then (x.1, x.2.1, v) else x) (kvs.map fun p => if p.1 = k then (p.1, d) else p) := fun {xs kvs} p => by
      unfold NdEnt at p ⊢
      induction p with
      | nil => exact .nil
      | @cons x y xs ys h t ih =>
        rw [List.map_cons, List.map_cons]
        refine .cons ?_ ih
        obtain ⟨h1, h2, h3⟩ := h
        by_cases e : x.1 = k
        · rw [if_pos e, if_pos (h1.symm.trans e)]
          exact ⟨h1, h2, r⟩
        · rw [if_neg e, if_neg (fun z => e (h1.trans z))]
          exact ⟨h1, h2, h3⟩
    exact all p
  · rw [if_neg h, if_neg h]
    exact paired_append p (.cons ⟨rfl, rk, r⟩ .nil)
theorem pys_keys {xs : List (NestedKey × Addr × V)} {ys : List (NestedKey × Addr × Value)} (p : PYs xs ys) : xs.map (·.1) = ys.map (·.1) := by
  induction p with
  | nil => rfl
  | cons h _ ih => rw [List.map_cons, List.map_cons, ih, h.1]
theorem nde_keys {K : PySem.W.Frag} {C : Addr} {H : Hp} {xs : List (NestedKey × Addr × V)} {kvs : List (NestedKey × D)} (p : NdEnt K C H xs kvs) : xs.map (·.1) = kvs.map (·.1) := by
  unfold NdEnt at p
  induction p with
  | nil => rfl
  | cons h _ ih => rw [List.map_cons, List.map_cons, ih, h.1]
theorem putH_length (xs : List (NestedKey × Addr × V)) (k : NestedKey) (a : Addr) (v : V) (b : Bool) : (putH xs k a v b).length ≤ xs.length + 1 := by
  unfold putH
  split
  · rw [List.length_map]; omega
  · simp

/-! ### over the heap -/
/-- keys as they are met here -/
def DepOk (kvs : List (NestedKey × D)) : Prop := ∀ p ∈ kvs, p.1.depth ≤ 8
section
variable {X : Cx} {pins : List (Addr × Obj)} {σ : L2.St} {H : Hp} {s : Shared} {C : Addr}
mutual
theorem rep_key (I : Inv X pins σ H s) : ∀ (k : NestedKey) {v : V} {u : Value}, Rep X.K C H v (keyD k) → RelV v u → NestedIs s.heap k u
  | .none, v, u, r, e => by
    rw [keyD] at r
    cases r
    cases e
    exact .none
  | .num i, v, u, r, e => by
    rw [keyD] at r
    cases r
    obtain ⟨t, rfl⟩ := e
    exact .int i t
  | .text x, v, u, r, e => by
    rw [keyD] at r
    cases r
    obtain ⟨t, rfl⟩ := e
    exact .text x t
  | .tup ks, v, u, r, e => by
    rw [keyD] at r
    cases r with
    | @tup a us _ sq rr =>
      obtain ⟨its, rv, ⟨o, h1, h2, n, h3⟩, _⟩ := I.tuple sq
      cases e
      exact .tup h1 h2 h3 (by rw [List.toList_toArray]; exact rep_keys I ks rr rv)
theorem rep_keys (I : Inv X pins σ H s) : ∀ (ks : List NestedKey) {vs : List V} {us : List Value}, RepL X.K C H vs (keyDs ks) → Vals vs us → NestedAll s.heap ks us
  | [], vs, us, r, e => by
    rw [keyDs] at r
    cases r
    cases e
    exact .nil
  | k :: ks, vs, us, r, e => by
    rw [keyDs] at r
    cases r with
    | cons r t =>
      cases e with
      | cons e1 e2 => exact .cons (rep_key I k r e1) (rep_keys I ks t e2)
end
def NdAt (P : Program) (w : World) (H : Hp) (a : Addr) (xs : List (NestedKey × Addr × V)) : Prop := H a = some (NdO P w a xs) ∨ ∃ o, H a = some (.frz o (NdO P w a xs))
theorem nd_ndr (I : Inv X pins σ H s) {a : Addr} {xs : List (NestedKey × Addr × V)} (h : NdAt X.prog X.w H a xs) : NdR X.prog X.w a xs s.heap := by
  rcases h with h | ⟨o, h⟩
  · exact (I.hok a _ h).1
  · have e : ObjOk X.prog X.w H s.heap a (.frz o (NdO X.prog X.w a xs)) := I.hok a _ h
    exact e.2.1
theorem nd_ne_code (I : Inv X pins σ H s) {a : Addr} {xs : List (NestedKey × Addr × V)} {q : Str} (h : NdAt X.prog X.w H a xs) (hc : H a = some (LamX.CodeO a q)) : False := by
  obtain ⟨_, _, _, ys, _, o, es, ep, h5, _, h7, _⟩ := nd_ndr I h
  obtain ⟨oc, vs, t, c1, c2, _⟩ := (I.hok a _ hc).1
  rw [h5] at c1
  cases c1
  rw [h7] at c2
  cases c2
theorem nd_dict (I : Inv X pins σ H s) {a : Addr} {xs : List (NestedKey × Addr × V)} {kvs : List (NestedKey × D)} (h : NdAt X.prog X.w H a xs) (e : NdEnt X.K C H xs kvs) (dp : DepOk kvs) :
    (a == sysModules) = false ∧ xs.length ≤ sizeLine ∧ ∃ ys, PYs xs ys ∧ s.heap.DictOfH (nestedKind X.prog X.w) a ys := by
  obtain ⟨h1, h2, h3, ys, h4, o, es, ep, h5, h6, h7, h8⟩ := nd_ndr I h
  refine ⟨h1, h2, ys, h4, o, es, ep, h5, h6, h7, h8, fun y hy => ?_, by rw [← pys_keys h4]; exact h3⟩
  obtain ⟨i, hi⟩ := List.mem_iff_getElem?.mp hy
  have hx : i < xs.length := by rw [Paired.length h4]; exact (List.getElem?_eq_some_iff.mp hi).1
  obtain ⟨y', e1, e2⟩ := paired_get h4 (List.getElem?_eq_getElem hx)
  rw [hi] at e1
  cases e1
  unfold NdEnt at e
  obtain ⟨q, e3, e4⟩ := paired_get e (List.getElem?_eq_getElem hx)
  refine ⟨?_, ?_⟩
  · rw [← e2.1, ← e2.2.1]
    exact rep_key I _ e4.2.1 rfl
  · rw [← e2.1, e4.1]
    exact dp q (List.mem_of_getElem? e3)
theorem ndo_ok {P : Program} {w : World} {H' : Hp} {h : Heap} {a : Addr} {xs : List (NestedKey × Addr × V)} (r : NdR P w a xs h) : ObjOk P w H' h a (NdO P w a xs) := by
  obtain ⟨h1, h2, h3, ys, h4, o, es, ep, h5, h6, h7, h8⟩ := id r
  exact ⟨r, ⟨o, h5⟩, fun g1 g2 ⟨q1, q2, q3, ys, q4, o, es, ep, q5, q6⟩ k => ⟨q1, q2, q3, ys, q4, o, es, ep, k o q5, q6⟩⟩
end
section
variable {X : Cx} {g : Gm} {ρ ρ1 ρ2 ρ3 : Rho} {N : List Str} {sc : Scope} {vs : List Nat} {pos p p2 px py pz cpos apos : Pos} {a b c e f : Expr} {es : List Expr} {pp : Post} {d : D}
theorem room_nd (h : X.A.units + 64 < cLine) : (nestedKind X.prog X.w).room X.A.in1 := by
  show X.A.units + 1 + 8 < cLine
  omega
/-- the dict in slot j, one's own or frozen -/
def NdB (ρ : Rho) (j : Nat) (kvs : List (NestedKey × D)) : Prop := ρ[j]? = some (some (.ndc kvs)) ∨ ρ[j]? = some (some (.fdc kvs))
theorem Hold.nd {σ : L2.St} {H : Hp} (E : Hold X g ρ σ H) {j : Nat} {kvs : List (NestedKey × D)} (h : NdB ρ j kvs) : ∃ a xs, σ[j]? = some (some (.ref a)) ∧ NdAt X.prog X.w H a xs ∧ NdEnt X.K g.C H xs kvs := by
  rcases h with h | h
  · obtain ⟨v, hv, a, xs, rfl, ho, r⟩ := E.at_ j _ h
    exact ⟨a, xs, hv, .inl ho, r⟩
  · obtain ⟨v, hv, a, o, xs, rfl, ho, r⟩ := E.at_ j _ h
    exact ⟨a, xs, hv, .inr ⟨o, ho⟩, r⟩
/-- found[e] -/
theorem pu_ndget (L : LoD X N sc vs) (j : Nat) {x : Str} {k : NestedKey} {kvs : List (NestedKey × D)} (hb : PU X g ρ b ρ (keyD k)) (h : ndGet kvs k = some d) (dk : k.depth ≤ 8) (dp : DepOk kvs) (ht : ∃ ks, k = .tup ks) (hj : NdB ρ j kvs) (hN : N[j]? = some x := by rfl) (hi : j ∈ vs := by decide) (hs : NoSl b := by exact fun _ _ => rfl) :
    PU X g ρ (.Subscript (.Name x px) b pos) ρ d := by
  obtain ⟨h1, h2, h3⟩ := L.at_ hi hN
  have hv := pe_var (X := X) (i := j) (pos := px) (by rw [L.hN]; exact hN) (by rw [L.hs]; exact h1) h2 h3
  refine ⟨fun pins s σ H Q I ⟨E, q⟩ => ?_⟩
  obtain ⟨aa, xs0, hσ, _, _⟩ := E.nd hj
  refine subD_of PySem.F.slot_dict_getitem.lookup hs (thn (hv.run pins s σ H (fun v H1 => v = .ref aa ∧ H1 = H) I ⟨.ref aa, hσ, rfl, rfl⟩) fun u s1 ⟨y, H1, I1, ry, e1, e2⟩ => ?_)
  subst e1 e2
  obtain rfl : u = Value.ref aa := ry
  refine thn (hb.run pins s1 σ H1 (fun v H2 => Hold X g ρ σ H2 ∧ Ext H1 H2 ∧ Rep X.K g.C H2 v (keyD k)) I1 ⟨E, fun v H2 a1 a2 a3 => ⟨a1, a2, a3⟩⟩) fun iv s2 ⟨v, H2, I2, rv, E2, x2, r2⟩ => ?_
  obtain ⟨aa', xs, hσ', hat, ne⟩ := E2.nd hj
  rw [hσ] at hσ'
  cases hσ'
  obtain ⟨lo, hz, ys, py, dd⟩ := nd_dict I2 hat ne dp
  have hk := rep_key I2 k r2 rv
  obtain ⟨ks, rfl⟩ := ht
  have : ∃ b, iv = .ref b := by cases hk with | tup _ _ _ _ => exact ⟨_, rfl⟩
  obtain ⟨b', rfl⟩ := this
  have gr := nd_get (K := X.K) (C := g.C) (H := H2) (.tup ks) py ne
  rw [h] at gr
  refine ⟨dd.typeIs, ?_⟩
  cases hg : atKey ys (.tup ks) with
  | none => rw [hg] at gr; cases gr
  | some p =>
    rw [hg] at gr
    cases gr with
    | @yes a0 u0 v0 _ rr rd => exact wpAny_getItem_heap (room_nd L.hu) ⟨hk, dk⟩ dd hg ⟨v0, H2, I2.tok _, rr, q v0 H2 E2 x2 rd⟩
/-- e not in found -/
theorem ptu_ndni (L : LoD X N sc vs) (j : Nat) {x : Str} {k : NestedKey} {kvs : List (NestedKey × D)} (hb : PU X g ρ b ρ (keyD k)) (dk : k.depth ≤ 8) (dp : DepOk kvs) (ht : ∃ ks, k = .tup ks) (hj : NdB ρ j kvs) (hN : N[j]? = some x := by rfl) (hi : j ∈ vs := by decide) :
    PTU X g ρ (.Compare b [.NotIn] [.Name x px] pos) ρ (!(ndGet kvs k).isSome) := by
  obtain ⟨h1, h2, h3⟩ := L.at_ hi hN
  have hv := pe_var (X := X) (i := j) (pos := px) (by rw [L.hN]; exact hN) (by rw [L.hs]; exact h1) h2 h3
  refine pt_weak (pt_cmp (t := fun σ H Q => Hold X g ρ σ H ∧ ∀ H', Hold X g ρ σ H' → Ext H H' → Q (.bl (!(ndGet kvs k).isSome)) H') ⟨fun pins s σ H Q I ⟨E, q⟩ => ?_⟩ rfl) fun σ H Q q => ⟨q.1, fun H' E' x' => ⟨_, rfl, q.2 H' E' x'⟩⟩
  refine thn (hb.run pins s σ H (fun v H2 => Hold X g ρ σ H2 ∧ Ext H H2 ∧ Rep X.K g.C H2 v (keyD k)) I ⟨E, fun v H2 a1 a2 a3 => ⟨a1, a2, a3⟩⟩) fun iv s2 ⟨v, H2, I2, rv, E2, x2, r2⟩ => ?_
  obtain ⟨aa, xs, hσ, hat, ne⟩ := E2.nd hj
  refine thn (hv.run pins s2 σ H2 (fun v H1 => v = .ref aa ∧ H1 = H2) I2 ⟨.ref aa, hσ, rfl, rfl⟩) fun u s1 ⟨y, H1, I1, ry, e1, e2⟩ => ?_
  subst e1 e2
  obtain rfl : u = Value.ref aa := ry
  obtain ⟨lo, hz, ys, py, dd⟩ := nd_dict I1 hat ne dp
  have hk := rep_key I1 k r2 rv
  obtain ⟨ks, rfl⟩ := ht
  have : ∃ b, iv = .ref b := by cases hk with | tup _ _ _ _ => exact ⟨_, rfl⟩
  obtain ⟨b', rfl⟩ := this
  have gr := nd_get (K := X.K) (C := g.C) (H := H1) (.tup ks) py ne
  refine PyProof.Rows.wpAny_notIn_heap (room_nd L.hu) ⟨hk, dk⟩ lo dd ⟨.bl (!(atKey ys (NestedKey.tup ks)).isSome), H1, I1.tok _, rfl, ?_⟩
  rw [gr.isSome]
  exact q H1 E2 x2
/-- d[e] = f, d one's own -/
theorem su_ndput (L : LoD X N sc vs) (j : Nat) {x : Str} {k : NestedKey} {kvs : List (NestedKey × D)} (he : PU X g ρ e ρ d) (hb : PU X g ρ b ρ (keyD k)) (dk : k.depth ≤ 8) (dp : DepOk kvs) (ht : ∃ ks, k = .tup ks) (hz : kvs.length < sizeLine) (h : pp.nx (ρ.set j (some (.ndc (ndPut kvs k d))))) (hj : ρ[j]? = some (some (.ndc kvs)) := by rfl)
    (hN : N[j]? = some x := by rfl) (hi : j ∈ vs := by decide) (hs : swapsWith e (some (.Subscript (.Name x px) b py)) pos.line X.env = pure false := by rfl) : SU X g ρ (.Assign [.Subscript (.Name x px) b py] e pos) pp := by
  obtain ⟨h1, h2, h3⟩ := L.at_ hi hN
  have hv := pe_var (X := X) (i := j) (pos := px) (by rw [L.hN]; exact hN) (by rw [L.hs]; exact h1) h2 h3
  refine ⟨fun pins s σ H D I ⟨E, q⟩ => ?_⟩
  refine wpAny_Assign_Subscript (thn (he.run pins s σ H (fun v H2 => Hold X g ρ σ H2 ∧ Ext H H2 ∧ Rep X.K g.C H2 v d) I ⟨E, fun v H2 a1 a2 a3 => ⟨a1, a2, a3⟩⟩) fun r s1 ⟨v, H1, I1, rv, E1, x1, r1⟩ => ?_) hs
  obtain ⟨w', hw', aa, xs0, rfl, ho0, ne0⟩ := E1.at_ j _ hj
  refine thn (hv.run pins s1 σ H1 (fun v H2 => v = .ref aa ∧ H2 = H1) I1 ⟨.ref aa, hw', rfl, rfl⟩) fun u s2 ⟨y, H2, I2, ry, e1, e2⟩ => ?_
  subst e1 e2
  obtain rfl : u = Value.ref aa := ry
  refine thn (hb.run pins s2 σ H2 (fun v H3 => Hold X g ρ σ H3 ∧ Ext H2 H3 ∧ Rep X.K g.C H3 v (keyD k)) I2 ⟨E1, fun v H2 a1 a2 a3 => ⟨a1, a2, a3⟩⟩) fun iv s3 ⟨kv, H3, I3, rk, E3, x3, r3⟩ => ?_
  obtain ⟨w'', hw'', aa', xs, rfl, ho, ne⟩ := E3.at_ j _ hj
  rw [hw'] at hw''
  cases hw''
  obtain ⟨lo, hzx, ys, py, dd⟩ := nd_dict I3 (.inl ho) ne dp
  have hk := rep_key I3 k r3 rk
  obtain ⟨ks, rfl⟩ := ht
  have : ∃ b, iv = .ref b := by cases hk with | tup _ _ _ _ => exact ⟨_, rfl⟩
  obtain ⟨b', rfl⟩ := this
  have ek : kv = .ref b' := by
    rw [keyD] at r3
    cases r3 with
    | tup _ _ => cases rk; rfl
  subst ek
  have gr := nd_get (K := X.K) (C := g.C) (H := H3) (.tup ks) py ne
  have hly : ys.length ≤ sizeLine := by rw [← Paired.length py]; exact hzx
  refine wpAny_setItem_heap (hsz := hly) (room_nd L.hu) ⟨hk, dk⟩ dd fun h' dd' sb => ?_
  have npy := pys_put py (.tup ks) b' (v := v) (u := r) rv
  have nne := nde_put ne (k := .tup ks) (a := b') (v := v) (d := d) r3 (r1.ext x3)
  rw [gr.isSome] at npy
  have hxl : xs.length = kvs.length := Paired.length ne
  have hnew : NdR X.prog X.w aa (putH xs (.tup ks) b' v (ndGet kvs (.tup ks)).isSome) h' := by
    obtain ⟨o, es, ep, q1, q2, q3, q4, q5, q6⟩ := dd'
    refine ⟨lo, by have := putH_length xs (.tup ks) b' v (ndGet kvs (.tup ks)).isSome; omega, by rw [pys_keys npy]; exact q6, _, npy, o, es, ep, q1, q2, q3, q4⟩
  obtain ⟨E4, x4⟩ := E3.change (b1 := .ndc (ndPut kvs (.tup ks) d)) (o' := NdO X.prog X.w aa (putH xs (.tup ks) b' v (ndGet kvs (.tup ks)).isSome)) hj rfl rfl hw' ho (fun z => z) (fun _ z => by unfold NdO at z; cases z)
    (fun P q c _ hc e => by subst e; exact nd_ne_code I3 (.inl ho) hc) fun x => ⟨aa, _, rfl, upd_same, nne.ext x⟩
  have he' : ∃ q, h'.get? aa = some q := let ⟨q, _, _, hq, _⟩ := dd'; ⟨q, hq⟩
  have I4 := d_write (ob := NdO X.prog X.w aa (putH xs (.tup ks) b' v (ndGet kvs (.tup ks)).isSome)) (t' := s3.toks + (nestedKind X.prog X.w).draws (.tup ks)) I3 (by rw [ho]; exact True.intro) sb he' (ndo_ok hnew)
  exact ⟨σ, _, I4, q.1 _ _ _ h E4 ((x1.trans x3).trans x4)⟩
/-- d.get(e, f) by the dict's name -/
theorem pu_ndget2 (L : LoD X N sc vs) (j : Nat) {x : Str} {k : NestedKey} {dd : D} {kvs : List (NestedKey × D)} (hb : PU X g ρ b ρ (keyD k)) (hf : PU X g ρ f ρ dd) (dk : k.depth ≤ 8) (dp : DepOk kvs) (ht : ∃ ks, k = .tup ks) (hj : NdB ρ j kvs) (hN : N[j]? = some x := by rfl) (hi : j ∈ vs := by decide)
    (hbase : attributeBase (.Name x px) "get" X.env (eval (.Name x px) X.env) = eval (.Name x px) X.env := by rfl)
    (hfew : ((backTo cpos (starEach [b, f] X.env)).all (fun x => !x.1) && (backToKw cpos (keywordEach [] X.env)).all (fun x => x.1.isSome) && decide (([b, f] : List Expr).length + ([] : List Keyword).length + (if ([] : List Keyword).isEmpty then 0 else 1) < 30)) = true := by rfl)
    (hline : (apos.endLine == cpos.line) = true := by rfl) (htr : backTo cpos (starEach [b, f] X.env) = [(false, eval b X.env), (false, eval f X.env)] := by rfl) :
    PU X g ρ (.Call (.Attribute (.Name x px) "get" apos) [b, f] [] cpos) ρ ((ndGet kvs k).getD dd) := by
  obtain ⟨h1, h2, h3⟩ := L.at_ hi hN
  have hv := pe_var (X := X) (i := j) (pos := px) (by rw [L.hN]; exact hN) (by rw [L.hs]; exact h1) h2 h3
  refine ⟨fun pins s σ H Q I ⟨E, q⟩ => ?_⟩
  obtain ⟨aa, xs0, hσ, hat0, ne0⟩ := E.nd hj
  refine wpAny_Call_method hbase hfew hline PySem.F.plainAttrs_dict PySem.F.slot_dict_get PySem.F.type_dict_get (thn (hv.run pins s σ H (fun v H1 => v = .ref aa ∧ H1 = H) I ⟨.ref aa, hσ, rfl, rfl⟩) fun u s1 ⟨y, H1, I1, ry, e1, e2⟩ => ?_)
  subst e1 e2
  obtain rfl : u = Value.ref aa := ry
  obtain ⟨lo0, _, ys0, _, dd0⟩ := nd_dict I1 hat0 ne0 dp
  refine ⟨dd0.typeIs, PyProof.Rows.dictOfH_noDict dd0, ?_⟩
  rw [htr]
  refine Calls.callWith_builtin rfl (Calls.evalArgs_plain (Calls.spliced_cons (thn (hb.run pins s1 σ H1 (fun v H2 => Hold X g ρ σ H2 ∧ Ext H1 H2 ∧ Rep X.K g.C H2 v (keyD k)) I1 ⟨E, fun v H2 a1 a2 a3 => ⟨a1, a2, a3⟩⟩) fun iv s2 ⟨kv, H2, I2, rk, E2, x2, r2⟩ =>
    Calls.spliced_cons (thn (hf.run pins s2 σ H2 (fun v H3 => Hold X g ρ σ H3 ∧ Ext H2 H3 ∧ Rep X.K g.C H3 v dd) I2 ⟨E2, fun v H2 a1 a2 a3 => ⟨a1, a2, a3⟩⟩) fun fv s3 ⟨zv, H3, I3, rz, E3, x3, r3⟩ => Calls.spliced_nil ?_))))
  obtain ⟨aa', xs, hσ', hat, ne⟩ := E3.nd hj
  rw [hσ] at hσ'
  cases hσ'
  obtain ⟨lo, hz, ys, py, ddh⟩ := nd_dict I3 hat ne dp
  have hk := rep_key I3 k (r2.ext x3) rk
  obtain ⟨ks, rfl⟩ := ht
  have : ∃ b, iv = .ref b := by cases hk with | tup _ _ _ _ => exact ⟨_, rfl⟩
  obtain ⟨b', rfl⟩ := this
  have gr := nd_get (K := X.K) (C := g.C) (H := H3) (.tup ks) py ne
  refine call_meetsIn PySem.F.slot_dict_get ddh.typeIs PySem.F.entry_dict_get (PySem.F.args_dict_get_3 _ _ _) (meetsH_dict_get_default (nestedKind X.prog X.w) aa b' lo fv) ⟨room_nd L.hu, .tup ks, ys, ⟨hk, dk⟩, ddh, ?_⟩
  have fin : ∀ (o1 : Option (Addr × Value)) (o2 : Option D), GetR X.K g.C H3 (.tup ks) o1 o2 → ∃ w, RelV w ((o1.map (·.2)).getD fv) ∧ Rep X.K g.C H3 w (o2.getD dd) := fun o1 o2 r => by
    cases r with
    | no => exact ⟨zv, rz, r3⟩
    | yes a b => exact ⟨_, a, b⟩
  obtain ⟨w, rw1, rw2⟩ := fin _ _ gr
  exact ⟨w, H3, I3.tok _, rw1, q w H3 E3 (x2.trans x3) rw2⟩
/-- {} to be such a dict -/
theorem pb_ndnew : PB X g ρ (.Dict [] [] pos) ρ (.ndc []) := by
  refine ⟨fun pins s σ H Q I ⟨E, q⟩ => ?_⟩
  have hn := I.hok.fresh (Nat.le_refl s.heap.objs.size)
  have hm : (s.heap.objs.size == sysModules) = false := beq_eq_false_iff_ne.mpr (Nat.ne_of_gt I.big)
  have sm : Same H (upd H s.heap.objs.size (NdO X.prog X.w s.heap.objs.size [])) := fun b w hb => by rw [upd_ne (ne_of_none hb hn)]; exact hb
  refine wpAny_Dict_empty ⟨.ref s.heap.objs.size, _, I.laid (a := s.heap.objs.size) (o := NdO X.prog X.w s.heap.objs.size []) (t' := s.toks) (fun _ _ q => Heap.get?_push_of_some _ q) (Nat.le_refl _)
    (ndo_ok ⟨hm, Nat.zero_le _, List.nodup_nil, [], .nil, _, #[], 0, Heap.get?_push_size _ rfl, ⟨rfl, rfl, rfl⟩, rfl, rfl⟩), rfl, q _ _ (E.same sm) (.of_same sm) ⟨_, [], rfl, upd_same, .nil⟩ fun _ a e => by cases e; exact ⟨E.notOwn hn, E.fresh hn⟩⟩
end
end C66
end TP17
section TP18
set_option Elab.async false
set_option linter.all false
set_option autoImplicit false
set_option maxRecDepth 100000
set_option maxHeartbeats 4000000
/-! P18: dicts with nested keys: frozen, displayed, walked, listed. -/
namespace C66
open PySem PySem.Spec L2
section
variable {X : Cx} {g : Gm} {ρ ρ1 ρ2 ρ3 : Rho} {N : List Str} {sc : Scope} {vs : List Nat} {pos p p2 px py pz cpos apos : Pos} {a b c e f : Expr} {es : List Expr} {sts : List Stmt} {pp : Post} {d : D}
/-- one's own dict is frozen -/
theorem Hold.frozenN {σ : L2.St} {H : Hp} (E : Hold X g ρ σ H) {i : Nat} {a : Addr} {xs : List (NestedKey × Addr × V)} {kvs : List (NestedKey × D)} {o : Obj} (h : ρ[i]? = some (some (.ndc kvs))) (hv : σ[i]? = some (some (.ref a))) (ho : H a = some (NdO X.prog X.w a xs)) (r : NdEnt X.K g.C H xs kvs)
    (nc : ∀ q, H a ≠ some (LamX.CodeO a q)) : Hold X g (ρ.set i (some (.fdc kvs))) σ (upd H a (.frz o (NdO X.prog X.w a xs))) ∧ Ext H (upd H a (.frz o (NdO X.prog X.w a xs))) := by
  have x2 : Ext H (upd H a (.frz o (NdO X.prog X.w a xs))) := fun b w hb im => by
    by_cases e : b = a
    · subst e
      rw [ho] at hb; cases hb
      cases im
    · rw [upd_ne e]; exact hb
  have hi : i < ρ.length := (List.getElem?_eq_some_iff.mp h).1
  have sp : ∀ (j : Nat) (b : Bd), (ρ.set i (some (.fdc kvs)))[j]? = some (some b) → (j = i ∧ b = .fdc kvs) ∨ (j ≠ i ∧ ρ[j]? = some (some b)) := fun j b q => by
    by_cases hj : i = j
    · subst hj
      rw [List.getElem?_set_self hi] at q
      cases q
      exact .inl ⟨rfl, rfl⟩
    · rw [List.getElem?_set_ne hj] at q
      exact .inr ⟨Ne.symm hj, q⟩
  refine ⟨⟨fun j b q => ?_, fun j b a' q m' z => ?_, fun j k b c a' q mq q' mq' z z' => ?_, fun b w hb nr => ?_, fun pq hp => ?_, by simp [E.len]⟩, x2⟩
  · rcases sp j b q with ⟨rfl, rfl⟩ | ⟨hj, q⟩
    · exact ⟨_, hv, a, o, xs, rfl, upd_same, r.ext x2⟩
    · obtain ⟨v, h1, h2⟩ := E.at_ j b q
      refine ⟨v, h1, h2.ext x2 fun mb a' o2 e hb => ?_⟩
      subst e
      rw [upd_ne (fun e => hj (E.dist j i b _ a q mb h rfl (by rw [h1, e]) hv))]
      exact hb
  · rcases sp j b q with ⟨rfl, rfl⟩ | ⟨hj, q⟩
    · cases m'
    · exact E.own j b a' q m' z
  · rcases sp j b q with ⟨rfl, rfl⟩ | ⟨hj, q⟩
    · cases mq
    · rcases sp k c q' with ⟨rfl, rfl⟩ | ⟨hk, q'⟩
      · cases mq'
      · exact E.dist j k b c a' q mq q' mq' z z'
  · have ne : b ≠ a := fun e => by
      subst e
      rcases E.own i _ b h rfl hv with z | z
      · rw [z] at hb; cases hb
      · exact nr z
    rcases E.keep b w hb nr with z | ⟨ps, ps', e1, z⟩
    · exact .inl (by rw [upd_ne ne]; exact z)
    · exact .inr ⟨ps, ps', e1, by rw [upd_ne ne]; exact z⟩
  · obtain ⟨ps, h1, h2, h3⟩ := E.tabs pq hp
    have ne : pq.1 ≠ a := fun e => by
      rw [e, ho] at h1
      unfold NdO at h1
      cases h1
    refine ⟨ps, by rw [upd_ne ne]; exact h1, h2, fun ps2 cv hcv => ?_⟩
    obtain ⟨cc, e1, e2⟩ := h3 ps2 cv hcv
    exact ⟨cc, e1, by rw [upd_ne (fun e => by subst e; exact nc _ e2)]; exact e2⟩
theorem su_freezeN (i : Nat) {kvs : List (NestedKey × D)} (h : SUs X g (ρ.set i (some (.fdc kvs))) sts pp) (hi : ρ[i]? = some (some (.ndc kvs)) := by rfl) : SUs X g ρ sts pp := by
  refine ⟨fun pins s σ H D I q => ?_⟩
  obtain ⟨v, h1, a, xs, rfl, ho, r⟩ := q.1.at_ i _ hi
  obtain ⟨o, I2⟩ := inv_freeze I ho (.inr (.inr ⟨_, rfl⟩))
  obtain ⟨E2, x2⟩ := q.1.frozenN (o := o) hi h1 ho r fun qq hc => nd_ne_code I (.inl ho) hc
  exact h.run pins s σ _ D I2 ⟨E2, fun r s K1 a1 a2 a3 => q.2.1 r s K1 a1 a2 (x2.trans a3), fun r bb v s K1 a1 a2 a3 a4 => q.2.2.1 r bb v s K1 a1 a2 (x2.trans a3) a4,
      fun r s K1 a1 a2 a3 => q.2.2.2.1 r s K1 a1 a2 (x2.trans a3), fun r s K1 a1 a2 a3 => q.2.2.2.2 r s K1 a1 a2 (x2.trans a3)⟩
/-- {k: v} -/
theorem pb_nd1 {k : NestedKey} (L : LoD X N sc vs) (hk : ∀ H0 R, PU X ⟨g.C, g.T, H0, R⟩ ρ a ρ (keyD k)) (hv : ∀ H0 R, PU X ⟨g.C, g.T, H0, R⟩ ρ b ρ d) (dk : k.depth ≤ 8) (ht : ∃ ks, k = .tup ks) : PB X g ρ (.Dict [some a] [b] pos) ρ (.ndc [(k, d)]) := by
  refine ⟨fun pins s σ H Q I ⟨E, q⟩ => ?_⟩
  generalize hA : s.heap.objs.size = aa
  have hn : H aa = none := by rw [← hA]; exact I.hok.fresh (Nat.le_refl _)
  have hm : (aa == sysModules) = false := by rw [← hA]; exact beq_eq_false_iff_ne.mpr (Nat.ne_of_gt I.big)
  have sm : Same H (upd H aa (NdO X.prog X.w aa [])) := fun b w hb => by rw [upd_ne (ne_of_none hb hn)]; exact hb
  have E1 := E.same sm
  have hno : NotOwn ρ σ aa := E.notOwn hn
  have hgp := E.fresh hn
  have I1 : Inv X pins σ (upd H aa (NdO X.prog X.w aa [])) { s with heap := s.heap.push { cls := .type "dict", data := .dict #[] } } :=
    I.laid (a := aa) (o := NdO X.prog X.w aa []) (t' := s.toks) (fun _ _ q => Heap.get?_push_of_some _ q) (by rw [← hA]; exact Nat.le_refl _)
      (ndo_ok ⟨hm, Nat.zero_le _, List.nodup_nil, [], .nil, _, #[], 0, by rw [← hA]; exact Heap.get?_push_size _ rfl, ⟨rfl, rfl, rfl⟩, rfl, rfl⟩)
  have r0 : BRep X.prog X.w X.K g.C (upd H aa (NdO X.prog X.w aa [])) (.ndc []) (.ref aa) := ⟨aa, [], rfl, upd_same, .nil⟩
  refine PySem.wpAny_Dict_any (keys := [some a]) (values := [b]) (pos := pos) rfl rfl (by simp) (by show 1 ≤ 15; decide) ?_
  refine pairTrees_cons_walk ?_
  have Er := E1.rebase
  refine thn ((hk _ _).run pins _ σ _ (fun v H2 => Hold X ⟨g.C, g.T, upd H aa (NdO X.prog X.w aa []), owns ρ σ⟩ ρ σ H2 ∧ Ext (upd H aa (NdO X.prog X.w aa [])) H2 ∧ Rep X.K g.C H2 v (keyD k)) I1 ⟨Er, fun v H2 a1 a2 a3 => ⟨a1, a2, a3⟩⟩) fun iv s2 ⟨kv, H2, I2, rk, E2, x2, r2⟩ => ?_
  refine thn ((hv _ _).run pins s2 σ H2 (fun v H3 => Hold X ⟨g.C, g.T, upd H aa (NdO X.prog X.w aa []), owns ρ σ⟩ ρ σ H3 ∧ Ext H2 H3 ∧ Rep X.K g.C H3 v d) I2 ⟨E2, fun v H2 a1 a2 a3 => ⟨a1, a2, a3⟩⟩) fun fv s3 ⟨dv, H3, I3, rd, E3, x3, r3⟩ => ?_
  refine pairTrees_nil_walk ?_
  obtain ⟨a1, a2, a3⟩ := E1.flight r0 (fun _ a e => by cases e; exact ⟨hno, hgp⟩) E3 (x2.trans x3)
  obtain ⟨aa', xs0, e, ho, n0⟩ := a2
  cases e
  cases n0
  obtain ⟨lo, hz, ys, py, dd⟩ := nd_dict (C := g.C) (kvs := []) I3 (.inl ho) .nil (fun p hp => by cases hp)
  cases py
  have r2' := r2.ext x3
  have hkk := rep_key I3 k r2' rk
  obtain ⟨ks, rfl⟩ := ht
  have : ∃ b, iv = .ref b := by cases hkk with | tup _ _ _ _ => exact ⟨_, rfl⟩
  obtain ⟨b', rfl⟩ := this
  have ek : kv = .ref b' := by
    rw [keyD] at r2'
    cases r2' with
    | tup _ _ => cases rk; rfl
  subst ek
  unfold PySem.storeAll
  rw [hA]
  refine wpAny_storeAllH (knd := nestedKind X.prog X.w) (by show X.A.units + 8 < cLine; have := L.hu; omega) [(.ref b', fv)] [(.tup ks, b', fv)] [] s3 _ ⟨rfl, rfl, ⟨hkk, dk⟩, trivial⟩ dd (by show 0 + 1 ≤ sizeLine; decide) fun h' tk dd' sb => ?_
  have hnew : NdR X.prog X.w aa [(.tup ks, b', dv)] h' := by
    obtain ⟨o, es, ep, q1, q2, q3, q4, q5, q6⟩ := dd'
    exact ⟨lo, by show 1 ≤ sizeLine; decide, by simp, [(.tup ks, b', fv)], .cons ⟨rfl, rfl, rd⟩ .nil, o, es, ep, q1, q2, q3, q4⟩
  obtain ⟨E4, x4⟩ := a1.otherO (o := NdO X.prog X.w aa []) (H' := upd H3 aa (NdO X.prog X.w aa [(.tup ks, b', dv)])) ho (fun z => z) (fun _ z => by unfold NdO at z; cases z) (nc := fun c q hc e => by subst e; exact nd_ne_code I3 (.inl ho) hc) hno hgp fun b e => upd_ne e
  have he' : ∃ q, h'.get? aa = some q := let ⟨q, _, _, hq, _⟩ := dd'; ⟨q, hq⟩
  have I4 := d_write (ob := NdO X.prog X.w aa [(.tup ks, b', dv)]) (t' := tk) I3 (by rw [ho]; exact True.intro) sb he' (ndo_ok hnew)
  exact ⟨.ref aa, _, I4, rfl, q _ _ E4 ((((Ext.of_same sm).trans x2).trans x3).trans x4) ⟨aa, _, rfl, upd_same, .cons ⟨rfl, r2'.ext x4, r3.ext x4⟩ .nil⟩ fun _ a e => by cases e; exact ⟨hno, hgp⟩⟩
end
end C66
end TP18
section TP19
set_option Elab.async false
set_option linter.all false
set_option autoImplicit false
set_option maxRecDepth 100000
set_option maxHeartbeats 4000000
/-! P19: dicts with nested keys walked, listed. -/
namespace C66
open PySem PySem.Spec L2
section
variable {X : Cx} {pins : List (Addr × Obj)} {σ : L2.St} {H : Hp} {s : Shared} {dd : Addr} {o : Obj}
theorem frzN {xs : List (NestedKey × Addr × V)} (I : Inv X pins σ H s) (h : H dd = some (.frz o (NdO X.prog X.w dd xs))) : (dd == sysModules) = false ∧ s.heap.get? dd = some o ∧ o.ExactDict ∧ xs.length ≤ sizeLine ∧
    ∃ (es : Array DictEntry) (ep : Nat), o.data = .dict es ep ∧ es.size = xs.length ∧ ∀ (i : Nat) (p : NestedKey × Addr × V), xs[i]? = some p → ∃ en : DictEntry, es[i]? = some en ∧ en.key = .ref p.2.1 := by
  have h0 : ObjOk X.prog X.w H s.heap dd (.frz o (NdO X.prog X.w dd xs)) := I.hok dd _ h
  obtain ⟨g1, ⟨h1, h2, h3, ys, h4, o', es, ep, h5, h6, h7, h8⟩, _⟩ := h0
  rw [g1] at h5
  cases h5
  have l1 : es.size = ys.length := size_of_entries h8
  refine ⟨h1, g1, h6, h2, es, ep, h7, by rw [l1, Paired.length h4], fun i p hp => ?_⟩
  obtain ⟨y, e1, e2⟩ := paired_get h4 hp
  have q := entry_at h8 i
  rw [e1] at q
  exact ⟨_, q, by rw [e2.2.1]; rfl⟩
end
/-- the keys of the frozen dict at dd -/
def Itn (P : Program) (w : World) (dd : Addr) (o : Obj) (xs : List (NestedKey × Addr × V)) : It where
  go := fun i H => H dd = some (.frz o (NdO P w dd xs)) ∧ i < xs.length
  yld := fun i H x H' => H' = H ∧ ∃ p, xs[i]? = some p ∧ x = V.ref p.2.1
  stop := fun i H => H dd = some (.frz o (NdO P w dd xs)) ∧ xs.length ≤ i
theorem turn_nd {P : Program} {w : World} {K : PySem.W.Frag} {tg : Expr} {dd : Addr} {o : Obj} {es : Array DictEntry} {ep : Nat} {xs : List (NestedKey × Addr × V)} (it : Addr) (hod : o.data = .dict es ep) : Turn P w K tg (Itn P w dd o xs) [it] it (fun i h => h.IsKeyIter it dd i xs.length ep) where
  mem := List.mem_singleton.mpr rfl
  obj := fun i h st b hb => by
    obtain ⟨oi, e1, _, e2⟩ := st
    rw [List.mem_singleton.mp hb]
    exact ⟨oi, e1, fun v z => by rw [e2] at z; cases z⟩
  keep := fun i h h' st k => st.at fun oi q => k it List.mem_cons_self oi q
  item := by
    intro X hP hw hK hc i pins s σ H E I hf st ⟨hd, hi⟩
    subst hP hw hK
    obtain ⟨f0, f1, f2, f3, f4, f5⟩ := hf it List.mem_cons_self
    obtain ⟨_, hgd, _, _, es', ep', hdt, hsz, ent⟩ := frzN I hd
    obtain ⟨rfl, rfl⟩ := dict_ep hod hdt
    obtain ⟨en, hen, hkey⟩ := ent i _ (List.getElem?_eq_getElem hi)
    refine next_key_item st hgd hdt hsz hen fun h' st' sb => ?_
    obtain ⟨oi, e1, e2, e3⟩ := id st'
    refine ⟨en.key, rfl, go_of (s := { s with heap := h' }) e1 e2 e3 (by decide) ⟨V.ref xs[i].2.1, H, ?_, hkey, ⟨rfl, _, List.getElem?_eq_getElem hi, rfl⟩, st', fun b hb => (hf b hb).1⟩⟩
    exact I.turned (t' := s.toks) (fun b ob hb q => (sb.2 b hb).trans q) f0 f1 f3 f4 f5
  done := by
    intro X hP hw hK hc i pins s σ H E I hf st ⟨hd, hi⟩
    subst hP hw hK
    obtain ⟨f0, f1, f2, f3, f4, f5⟩ := hf it List.mem_cons_self
    obtain ⟨_, hgd, _, _, es', ep', hdt, hsz, _⟩ := frzN I hd
    obtain ⟨rfl, rfl⟩ := dict_ep hod hdt
    exact next_key_end (I.ok.hd hc) st hgd hdt hsz hi fun h' eb => ⟨rfl, I.turned (t' := s.toks) (fun b ob hb q => eb b ob hb q) f0 f1 f3 f4 f5⟩
  self := fun A i s Q E st h => by
    refine wpAny_pyIter_slot st.typeIs F.slot_dict_keyiterator_iter (wpAny_call_entry F.slot_dict_keyiterator_iter st.typeIs F.entry_dict_keyiterator_iter (show wpAny _ _ (ret (.ref it)) _ _ s from ?_) (F.args_dict_keyiterator_iter_1 _))
    exact wpAny_pure ⟨_, rfl, "dict_keyiterator", _, st.typeIs, F.slot_dict_keyiterator_next.lookup, h⟩
section
variable {X : Cx} {g : Gm} {ρ ρ1 ρ2 ρ3 : Rho} {N : List Str} {sc : Scope} {vs : List Nat} {pos p p2 px py pz cpos apos : Pos} {a b c e f : Expr} {es : List Expr} {sts : List Stmt} {pp : Post} {d : D}
/-- for .. in found, frozen -/
theorem piu_fdc (L : Lo X N sc vs) (j : Nat) {x : Str} {tg : Expr} {kvs : List (NestedKey × D)} (hj : ρ[j]? = some (some (.fdc kvs)) := by rfl) (hN : N[j]? = some x := by rfl) (hi : j ∈ vs := by decide) : PIU X g ρ tg (.Name x px) ρ (kvs.map fun p => keyD p.1) := by
  obtain ⟨h1, h2, h3⟩ := L.at_ hi hN
  have hv := pe_var (X := X) (i := j) (pos := px) (by rw [L.hN]; exact hN) (by rw [L.hs]; exact h1) h2 h3
  refine ⟨fun pins s σ H R I ⟨E, q⟩ => ?_⟩
  obtain ⟨v, hσ, dd, o, xs, rfl, ho, ne⟩ := E.at_ j _ hj
  refine thn (hv.run pins s σ H (fun v H1 => v = .ref dd ∧ H1 = H) I ⟨.ref dd, hσ, rfl, rfl⟩) fun u s1 ⟨y, H1, I1, ry, e1, e2⟩ => ?_
  subst e1 e2
  obtain rfl : u = Value.ref dd := ry
  obtain ⟨hs, hgd, hx, hz, es, ep, hdt, hsz, ent⟩ := frzN I1 ho
  refine iter_keys hs hgd hx hdt (pi_one (tk := s1.toks) I1 _ (turn_nd _ hdt) ⟨_, Heap.get?_push_size _ rfl, rfl, by rw [hsz] <;> rfl⟩ ?_)
  have hl : (kvs.map fun p => keyD p.1).length = xs.length := by rw [List.length_map]; exact (Paired.length ne).symm
  refine q (Itn X.prog X.w dd o xs) (fun H => H dd = some (.frz o (NdO X.prog X.w dd xs)) ∧ NdEnt X.K g.C H xs kvs) H1 E (.refl _) ⟨fun q x => ⟨x _ _ q.1 trivial, q.2.ext x⟩, fun {i H} q hi => ⟨q.1, by rw [← hl]; exact hi⟩, fun q => ⟨q.1, Nat.le_of_eq hl.symm⟩, fun {i H x H'} q hi y => ?_⟩ ⟨ho, ne⟩
  obtain ⟨rfl, p, hp, rfl⟩ := y
  obtain ⟨r, e1, e2, e3, e4⟩ := paired_get q.2 hp
  exact ⟨.refl _, keyD p.1, by rw [List.getElem?_map, e1, Option.map_some, ← e2], e3⟩
/-- list(found), frozen -/
theorem pn_listF (L : Lo X N sc vs) (j : Nat) {x : Str} {kvs : List (NestedKey × D)} (hm : X.mg "list" = none) (hj : ρ[j]? = some (some (.fdc kvs)) := by rfl) (hN : N[j]? = some x := by rfl) (hi : j ∈ vs := by decide) (hg : gloC sc "list" = true := by decide +kernel)
    (he : starEach [.Name x px] X.env = (false, eval (.Name x px) X.env) :: starEach [] X.env := by rfl) (hpl : (backTo pos (starEach [] X.env)).any (·.1) = false := by rfl) : PN X g ρ (.Call (.Name "list" p) [.Name x px] [] pos) ρ (kvs.map fun p => keyD p.1) := by
  obtain ⟨h1, h2, h3⟩ := L.at_ hi hN
  have hv := pe_var (X := X) (i := j) (pos := px) (by rw [L.hN]; exact hN) (by rw [L.hs]; exact h1) h2 h3
  have cr : CallR X (.type "list") fun vs H Q => ∃ dd o xs, vs = [V.ref dd] ∧ H dd = some (.frz o (NdO X.prog X.w dd xs)) ∧ ∀ p, H p = none → Q (.ref p) (upd H p (.lst (xs.map fun x => V.ref x.2.1))) := by
    intro pins s σ H vs us Q I r ⟨dd, o, xs, ev, ho, q⟩
    subst ev
    rw [Vals.ref1 r]
    obtain ⟨hs, hgd, hx, hz, es, ep, hdt, hsz, ent⟩ := frzN I ho
    refine PySem.W.kdl_call (PySem.KdlSrc.rawDict (d := dd) (es := es) (ep := ep) hs) (I.ok.hd L.calm) ⟨o, hgd, hx, hdt⟩ (by rw [hsz]; exact hz) fun h' tk acc c' hk hD hacc => ?_
    have hn := I.hok.fresh (Nat.le_refl s.heap.objs.size)
    have hlen : acc.size = xs.length := hacc.1.trans hsz
    have hvs : Vals (xs.map fun x => V.ref x.2.1) acc.toList := by
      refine vals_of_at (by rw [List.length_map, Array.length_toList]; exact hlen.symm) fun i v u hi hu => ?_
      rw [List.getElem?_map] at hi
      cases hp : xs[i]? with
      | none => rw [hp] at hi; cases hi
      | some p =>
        rw [hp] at hi
        cases hi
        obtain ⟨h9, e9⟩ := hacc.2 i u (by rw [← Array.getElem?_toList]; exact hu)
        obtain ⟨en, e1, e2⟩ := ent i p hp
        have e3 : es[i] = en := by
          rw [Array.getElem?_eq_getElem h9] at e1
          exact Option.some.inj e1
        rw [e9, e3, e2]
        exact rfl
    refine ⟨.ref s.heap.objs.size, _, I.laid (t' := tk) (o := .lst (xs.map fun x => V.ref x.2.1)) hk (Nat.le_refl _) ⟨by rw [List.length_map]; exact hz, acc.toList, c', hvs, by rw [Array.toArray_toList]; exact hD⟩, rfl, q _ hn⟩
  refine pe_weak (pe_callTy cr (gl_of L hg) hm (by decide +kernel) (pa_cons hv pa_nil he) (by decide) (by decide) he hpl) fun σ H Q q => ?_
  obtain ⟨v, hσ, dd, o, xs, rfl, ho, ne⟩ := q.1.at_ j _ hj
  refine ⟨_, hσ, dd, o, xs, rfl, ho, fun p n => uN_new q q.1 (.refl _) n ?_⟩
  have all : ∀ {xs : List (NestedKey × Addr × V)} {kvs : List (NestedKey × D)}, NdEnt X.K g.C H xs kvs → RepL X.K g.C H (xs.map fun x => V.ref x.2.1) (kvs.map fun p => keyD p.1) := fun {xs kvs} n => by
    unfold NdEnt at n
    induction n with
    | nil => exact .nil
    | cons h _ ih =>
      rw [List.map_cons, List.map_cons]
      refine .cons ?_ ih
      rw [← h.1]
      exact h.2.1
  exact all ne
end
end C66
end TP19
section TP20
set_option Elab.async false
set_option linter.all false
set_option autoImplicit false
set_option maxRecDepth 100000
set_option maxHeartbeats 4000000
/-! P20: sorted of tuples of ints. -/
namespace C66
open PySem PySem.Spec L2
section
variable {X : Cx} {pins : List (Addr × Obj)} {σ : L2.St} {H : Hp} {s : Shared} {C : Addr}
theorem reads_ints {h : Heap} : ∀ {ns : List Int} {us : List Value}, Vals (ns.map V.int) us → ReadsAll h us (pys (ns.map D.int)) []
  | [], us, r => by
    rw [List.map_nil] at r
    cases r
    rw [List.map_nil, pys]
    exact .nil
  | n :: ns, us, r => by
    rw [List.map_cons] at r
    cases r with
    | cons r1 r2 =>
      obtain ⟨t, rfl⟩ := r1
      rw [List.map_cons, pys, D.py]
      exact .cons (as := []) (bs := []) (.int n t) (reads_ints r2)
theorem reads_iD (I : Inv X pins σ H s) {v : V} {u : Value} {h : List Int} (r : Rep X.K C H v (iD h)) (e : RelV v u) : Reads s.heap u (iD h).py [] := by
  cases r with
  | @tup a us _ sq rr =>
    rw [rr.of_ints] at sq
    obtain ⟨its, rv, ⟨o, h1, h2, n, h3⟩, _⟩ := I.tuple sq
    cases e
    exact .tuple h1 h2 h3 (by rw [List.toList_toArray]; exact reads_ints rv)
end
theorem alike_ints : ∀ xs ys : List Int, PySem.W.alikeAll (pys (xs.map D.int)) (pys (ys.map D.int)) = true
  | [], ys => by rw [List.map_nil, pys]; cases (pys (ys.map D.int)) <;> simp [PySem.W.alikeAll]
  | x :: xs, [] => by rw [List.map_cons, List.map_nil, pys, pys]; simp [PySem.W.alikeAll]
  | x :: xs, y :: ys => by rw [List.map_cons, List.map_cons, pys, pys, PySem.W.alikeAll, alike_ints xs ys, D.py, D.py, PySem.W.alike]; rfl
theorem alike_iD (h h' : List Int) : PySem.W.alike (iD h).py (iD h').py = true := by
  show PySem.W.alike (.tuple (pys (h.map D.int))) (.tuple (pys (h'.map D.int))) = true
  rw [PySem.W.alike]
  exact alike_ints _ _
theorem py_iD_cons {h : List Int} (hn : h ≠ []) : ∃ x r, (iD h).py = .tuple (x :: r) := by
  cases h with
  | nil => exact absurd rfl hn
  | cons a r => exact ⟨_, _, rfl⟩
/-- the order of sorted(tuples) -/
def srtI (hs : List (List Int)) : List (List Int) := hs.mergeSort (PySem.W.dataLe false fun h => (iD h).py)
/-- each is a value that stands for it -/
theorem each_rep {X : Cx} {C : Addr} {H : Hp} {α : Type} {fn : α → D} : ∀ {us : List Value} {bs : List α}, PySem.W.EachIs (fun u b => ∃ v, RelV v u ∧ Rep X.K C H v (fn b)) us bs → ∃ ws, Vals ws us ∧ RepL X.K C H ws (bs.map fn)
  | _, _, .nil => ⟨[], .nil, .nil⟩
  | _, _, .cons ⟨v, h1, h2⟩ t => by
    obtain ⟨ws, a, b⟩ := each_rep t
    exact ⟨v :: ws, .cons h1 a, .cons h2 b⟩
theorem rep_each {X : Cx} {C : Addr} {H : Hp} {α : Type} {fn : α → D} : ∀ {vs : List V} {us : List Value} {bs : List α}, RepL X.K C H vs (bs.map fn) → Vals vs us → PySem.W.EachIs (fun u b => ∃ v, RelV v u ∧ Rep X.K C H v (fn b)) us bs
  | _, us, [], r, e => by
    rw [List.map_nil] at r
    cases r
    cases e
    exact .nil
  | _, us, b :: bs, r, e => by
    rw [List.map_cons] at r
    cases r with
    | cons r1 r2 =>
      cases e with
      | cons e1 e2 => exact .cons ⟨_, e1, r1⟩ (rep_each r2 e2)
section
variable {X : Cx} {g : Gm} {ρ ρ1 : Rho} {N : List Str} {sc : Scope} {vs : List Nat} {pos p p2 p3 : Pos} {e : Expr}
/-- sorted(list of tuples of ints) -/
theorem pn_sortH (L : Lo X N sc vs) (hu : X.A.units + 64 < cLine) {hs : List (List Int)} (he : PU X g ρ e ρ1 (.lst (hs.map iD))) (hn : ∀ h ∈ hs, h ≠ []) (hz : hs.length ≤ sizeLine) (hm1 : X.mg "sorted" = none) (hg1 : gloC sc "sorted" = true := by decide +kernel)
    (h1 : starEach [e] X.env = (false, eval e X.env) :: starEach [] X.env := by rfl) (h2 : (backTo pos (starEach [] X.env)).any (·.1) = false := by rfl) : PN X g ρ (.Call (.Name "sorted" p) [e] [] pos) ρ1 ((srtI hs).map iD) := by
  have cr : CallR X (.builtin "sorted") fun vs H Q => ∃ (a : Addr) (us : List V), vs = [V.ref a] ∧ FrL H a us ∧ RepL X.K g.C H us (hs.map iD) ∧ ∀ p ws, H p = none → RepL X.K g.C H ws ((srtI hs).map iD) → Q (.ref p) (upd H p (.lst ws)) := by
    intro pins s σ H vs us Q I r ⟨a, xs, ev, ⟨o, hf⟩, hr, q⟩
    subst ev
    rw [Vals.ref1 r]
    obtain ⟨z, its, n, rv, hl⟩ := (show ObjOk X.prog X.w H s.heap a (.lst xs) from (I.hok a _ hf).2)
    have e1 := rep_each hr rv
    refine PySem.W.sorted_data (enc := fun h => (iD h).py) ⟨_, hl, rfl, n, rfl⟩ e1 (e1.mono fun u b ⟨v, q1, q2⟩ => ⟨[], reads_iD I q2 q1⟩) (fun d hd d' hd' => ?_) (.inl fun d hd => ?_) hz (fun b hb => ?_) fun out ho eo => ?_
    · obtain ⟨x, _, rfl⟩ := List.mem_map.mp hd
      obtain ⟨y, _, rfl⟩ := List.mem_map.mp hd'
      exact alike_iD x y
    · obtain ⟨x, hx, rfl⟩ := List.mem_map.mp hd
      exact py_iD_cons (hn x hx)
    · have d1 := (low_iD (h := b)).2.2
      omega
    · obtain ⟨ws, w1, w2⟩ := each_rep eo
      obtain ⟨ep, he'⟩ := PyProof.Rows.sortedAll_at s.heap its (List.toArray out)
      have hlen : ws.length ≤ sizeLine := by rw [w1.length, ho]; exact hz
      exact ⟨.ref _, upd H (s.heap.objs.size + 1) (.lst ws), I.laid (t' := s.toks) (fun _ _ => PyProof.Rows.sortedAll_old) (Nat.le_succ _) ⟨hlen, out, ep, w1, he'⟩, rfl, q _ ws (I.hok.fresh (Nat.le_succ _)) w2⟩
  refine pe_weak (pe_callB cr (gl_of L hg1) hm1 (by decide +kernel) (pa_cons he pa_nil h1) (by decide) (by decide) h1 h2) fun σ H Q q => ⟨q.1, fun v H1 E1 x1 r1 => ?_⟩
  cases r1 with
  | @lst a us _ s r => exact ⟨a, us, rfl, s, r, fun p ws n rr => uN_new q E1 x1 n rr⟩
end
end C66
end TP20
section TP21
set_option Elab.async false
set_option linter.all false
set_option autoImplicit false
set_option maxRecDepth 100000
set_option maxHeartbeats 4000000
/-! P21: sorted(fresh, key=lambda there: found[there]). -/
namespace C66
open PySem PySem.Spec L2
/-- a def whose body knows its own code object -/
theorem fn_dataL {P : Program} {w : World} {K : PySem.W.Frag} {mg : Str → Option Value} {base : Heap} {x qual : Str} {st : Stmt} {f cc : Addr} {fd : FuncData} {N ps : List Str} {k : Nat} {C : Addr} {T : List (Addr × Str)} {pre : List D → (Bd → Prop) → Prop} (vis : List Nat) (F : Fun K x qual st f fd) (hcc : fd.code = .ref cc)
    (S : FnScope N ps (defScope st)) (hlook : lookC N (defScope st) vis = true) (len : ∀ ds post, pre ds post → ds.length = ps.length) (hle : ps.length ≤ N.length)
    (body : ∀ (X : Cx), X.prog = P → X.w = w → X.K = K → X.mg = mg → X.base = base → LoD X N (defScope st) vis → Room k X.A → X.env.code = .ref cc → X.env.qual = qual ++ ".<locals>." → ∀ g : Gm, g.C = C → g.T = T → g.R = [] → g.H0 = X.H_0 → ∀ ds post, pre ds post →
      SUs X g (ds.map (fun d => some (Bd.dat d)) ++ List.replicate (N.length - ds.length) none) (defBody st) { nx := fun _ => post (.dat .non), rt := fun _ b => post b }) : FnOk P w K mg base CX0 (k + 1) f fd ps (spF C T P w K pre) := by
  obtain ⟨oc, od, kV, doc, pm, an, cdv, ct, osl, rfl, lk, hcd⟩ := F.ex
  have ecd : cdv = .ref cc := hcc
  refine fn_of lk hcd S (fun vs H Q E h => ?_) fun A outer s H vs Q E hr h => ?_
  · obtain ⟨ds, post, h1, h2, h3, h4⟩ := h
    rw [h3.length]
    exact len ds post h1
  · obtain ⟨ds, post, h1, h2, h3, h4⟩ := h
    have L : LoD (cxOf CX0 P w K mg base N qual (defScope st) f cdv A outer s H E).nox N (defScope st) vis := ⟨⟨rfl, rfl, rfl, S.nd, hlook⟩, fun _ => rfl, PassesOwn.never, hr.units⟩
    have hb := body _ rfl rfl rfl rfl rfl L hr ecd rfl ⟨C, T, H, []⟩ rfl rfl rfl rfl ds post h1
    refine ⟨_, hb.nox, hold_start (X := (cxOf CX0 P w K mg base N qual (defScope st) f cdv A outer s H E).nox) (g := ⟨C, T, H, []⟩) h3 (by rw [len ds post h1]; exact hle) rfl h2, fun ρ' σ' H' hn E' _ => ?_, fun ρ' b v σ' H' hn E' _ r => ?_, fun _ _ _ z => z.elim, fun _ _ _ z => z.elim⟩
    · exact h4 (.dat .non) .non H' hn (fun b o hb nb => E'.keep b o hb nb) E'.tabs Rep.non
    · exact h4 b v H' hn (fun b o hb nb => E'.keep b o hb nb) E'.tabs r
section
variable {X : Cx} {g : Gm} {ρ ρ1 : Rho} {N : List Str} {sc : Scope} {vs : List Nat} {pos p p2 p3 p4 px kpos lpos : Pos} {e : Expr}
/-- behind the making of a lambda -/
theorem Hold.lam {pins : List (Addr × Obj)} {σ : L2.St} {H H1 : Hp} {s1 : Shared} (E : Hold X g ρ σ H) (I1 : Inv X pins σ H1 s1) (eN : LamX.ExtN H H1) (hT : LamX.Tabs g.T H1) (h0 : g.H0 = X.H_0) : Hold X g ρ σ H1 ∧ Ext H H1 := by
  have x : Ext H H1 := fun b o hb im => eN b o hb fun ps z => by rw [z] at im; exact im
  refine ⟨⟨fun i b q => ?_, E.own, E.dist, fun b o hb nr => ?_, hT, E.len⟩, x⟩
  · obtain ⟨v, h1, h2⟩ := E.at_ i b q
    refine ⟨v, h1, h2.ext x fun m a' o2 e hb => ?_⟩
    subst e
    obtain ⟨a2, o3, e3, h3, _, nt⟩ := h2.mine_at m
    cases e3
    rw [h3] at hb; cases hb
    exact eN _ _ h3 nt
  · by_cases ht : ∃ ps, o = .tbl ps
    · obtain ⟨ps, rfl⟩ := ht
      obtain ⟨m, z⟩ := I1.base.tbls b ps (by rw [← h0]; exact hb)
      exact .inr ⟨ps, _, rfl, z⟩
    · rcases E.keep b o hb nr with z | ⟨ps, _, e1, _⟩
      · exact .inl (eN _ _ z fun ps e => ht ⟨ps, e⟩)
      · exact absurd ⟨ps, e1⟩ ht
/-- the order of the sort by roads -/
def srtK (rd : NestedKey → List Int) (bs : List NestedKey) : List NestedKey := bs.mergeSort (PySem.W.dataLe false fun b => (iD (rd b)).py)
theorem pn_sortLam {params : Arguments} {scope : Scope} {cc P : Addr} {fx tx hx : Str} (L : LoD X N sc vs) (jF jD : Nat) {bs : List NestedKey} {kvs : List (NestedKey × D)} (rd : NestedKey → List Int) (hk : ∀ b ∈ bs, ndGet kvs b = some (iD (rd b)) ∧ rd b ≠ [] ∧ b.depth ≤ 8 ∧ ∃ ks, b = .tup ks) (dp : DepOk kvs) (hz : bs.length ≤ sizeLine)
    (TB : LamX.TabB X.base X.mg cc P) (hcode : X.env.code = .ref cc) (hm : (P, X.env.qual ++ "<lambda>") ∈ g.T) (hu : ∀ p ∈ g.T, p.1 = P → p.2 = X.env.qual ++ "<lambda>") (h0 : g.H0 = X.H_0) (hr : Room 2 X.A)
    (hms : X.mg "sorted" = none) (hF : ρ[jF]? = some (some (.own (bs.map keyD)))) (hD : NdB ρ jD kvs) (hNF : N[jF]? = some hx := by rfl) (hiF : jF ∈ vs := by decide) (hND : N[jD]? = some fx := by rfl) (hiD : jD ∈ vs := by decide) (hgs : gloC sc "sorted" = true := by decide +kernel)
    (hcell : sc.names.lookup fx = some .cell := by decide +kernel) (hks : scope.kind = .function := by rfl) (hco : scope.isCoroutine = false := by rfl) (hge : scope.isGenerator = false := by rfl) (hnc : ∀ y ∈ scope.names, y.2 ≠ .cell := by decide +kernel) (hfr : ∀ y ∈ scope.names, y.2 = .free → y.1 = fx := by decide +kernel)
    (htx : scope.names.lookup tx = some .local := by decide +kernel) (hfx : scope.names.lookup fx = some .free := by decide +kernel) (hclo : ∀ cells : List (Str × Addr), (cloFrom cells scope.names []).lookup fx = some ((cells.lookup fx).getD 0) := by intro _; rfl)
    (hdef : ∀ env, defaultsOf params env = ([], []) := by intro _; rfl) (hbind : ∀ (q : Str) (body : Expr) (cl : List (Str × Addr)) (pm cv ctv v : Value), bindArgs (PySem.W.kla_fn "<lambda>" q params body scope cl pm cv ctv) ⟨[v], []⟩ = pure [(tx, v)] := by intro _ _ _ _ _ _ _; rfl)
    (hdb1 : (fx == ("__debug__" : Str)) = false := by decide) (hdb2 : (tx == ("__debug__" : Str)) = false := by decide) (hcd : (fx == ("__classdict__" : Str)) = false := by decide) (hne : (tx == tx) = true := by decide)
    (he : backTo pos (starEach [.Name hx px] X.env) = [(false, eval (.Name hx px) X.env)] := by rfl) :
    PN X g ρ (.Call (.Name "sorted" p) [.Name hx px] [⟨some "key", .Lambda params (.Subscript (.Name fx p2) (.Name tx p3) p4) scope lpos, kpos⟩] pos) ρ ((srtK rd bs).map keyD) := by
  obtain ⟨f1, f2, f3⟩ := L.at_ hiF hNF
  obtain ⟨d1, d2, d3⟩ := L.at_ hiD hND
  have hvF := pe_var (X := X) (i := jF) (pos := px) (by rw [L.hN]; exact hNF) (by rw [L.hs]; exact f1) f2 f3
  refine ⟨fun pins s σ H Q I ⟨E, q⟩ => ?_⟩
  obtain ⟨vF, hσF, aa, xs, rfl, hoF, hrF⟩ := E.at_ jF _ hF
  refine wpAny_Call_Name_kw (ld_blt (u := .builtin "sorted") I (gl_of L.toLo hgs) hms (by decide +kernel) ?_ (by decide))
  refine PyProof.Rows.callWith_kw (thn ((pa_cons hvF pa_nil (by rfl)).run pos pins s σ H (fun vs H1 => vs = [.ref aa] ∧ H1 = H) I ⟨.ref aa, hσF, rfl, rfl⟩) fun us s1 ⟨vs1, H1, I1, r1, e1, e2⟩ => ?_) he (by rfl) (by rfl) (by rfl)
  subst e1 e2
  obtain rfl := Vals.ref1 r1
  have hsc : X.env.scope.names.lookup fx = some .cell := by rw [L.hs]; exact hcell
  obtain ⟨cf, hcf⟩ := I1.ok.has fx (.inl hsc)
  show wpAny _ _ (evalAll ((do let v ← eval (.Lambda params (.Subscript (.Name fx p2) (.Name tx p3) p4) scope lpos) X.env; standAt pos; pure v) :: [])) _ _ s1
  refine wpAny_evalAll_cons (wpAny_bind (LamX.lam_make2 I1 TB hcode hm hu E.tabs (hdef _) (fun y hy hf => by rw [hfr y hy hf]; exact ⟨cf, hcf⟩) fun f c' pm ctv H2 s2 I2 eN T2 hf hfn hfr' hco' => wpAny_bind (wpAny_standAt (wpAny_pure (wpAny_evalAll_nil ?_)))))
  obtain ⟨E2, x2⟩ := E.lam I2 eN T2 h0
  obtain ⟨vF', hσF', aa', xs2, rfl, hoF2, hrF2⟩ := E2.at_ jF _ hF
  rw [hσF] at hσF'
  cases hσF'
  obtain ⟨dd, ds0, hσD, hat, ne⟩ := E2.nd hD
  obtain ⟨lo, hzd, ys, py, ddh⟩ := nd_dict I2 hat ne dp
  obtain ⟨its, rv, hl, hzz⟩ := I2.list (.inl (.inl hoF2))
  have ei := rep_each (X := X) (fn := keyD) hrF2 rv
  -- what the key's call does
  obtain ⟨⟨oc, cvs, ct, hoc, hdc, hvc⟩, _, _⟩ := I2.hok c' _ hco'
  obtain ⟨m, hn, hloc⟩ := I2.loc
  obtain ⟨uD, ruD, lD⟩ := hloc jD fx _ (by rw [L.hN]; exact hND) hσD (by rw [L.hs]; exact d1)
  obtain rfl : uD = Value.ref dd := ruD
  have hcellD : ∃ c, X.env.cells.lookup fx = some c ∧ s2.heap.IsCell c (some (.ref dd)) := by
    rcases lD with ⟨hk', _⟩ | ⟨_, c, h1, h2⟩
    · have z : X.env.scope.names.lookup fx = some .local := hk'
      rw [hsc] at z; cases z
    · exact ⟨c, h1, h2⟩
  obtain ⟨cD, hcD, hcel⟩ := hcellD
  have keyd : s2.heap.DictKeyed (nestedKind X.prog X.w) dd (pairsH ys) := ⟨ys, ddh, rfl⟩
  have hun := I2.ok.hd L.calm
  have turn : ∀ (v : Value) (b : NestedKey), (∃ v', RelV v' v ∧ Rep X.K g.C H2 v' (keyD b)) → b ∈ bs → ∀ (h : Heap) (tk : Nat), (∀ a o, s2.heap.get? a = some o → h.get? a = some o) →
      wpAny (model X.prog X.w) X.A.in1.in1 (call (.ref f) [v]) (PySem.W.KeyPure (iD (rd b)).py { s2 with heap := h, toks := tk }) (fun _ _ => False) { s2 with heap := h, toks := tk } := by
    intro v b ⟨v', rv', rb⟩ hb h tk kp
    obtain ⟨hg1, hg2, hg3, ks, rfl⟩ := hk b hb
    have hkey := rep_key I2 _ rb rv'
    have hvr : ∃ bb, v = .ref bb := by cases hkey with | tup _ _ _ _ => exact ⟨_, rfl⟩
    obtain ⟨bb, rfl⟩ := hvr
    have gr := nd_get (K := X.K) (C := g.C) (H := H2) (.tup ks) py ne
    rw [hg1] at gr
    have hval : ∃ w u, valueAt (pairsH ys) (.tup ks) = some u ∧ RelV w u ∧ Rep X.K g.C H2 w (iD (rd (.tup ks))) := by
      rw [valueAt_pairsH]
      cases hg : atKey ys (.tup ks) with
      | none => rw [hg] at gr; cases gr
      | some p =>
        rw [hg] at gr
        cases gr with
        | @yes a0 u0 v0 _ rr rd' => exact ⟨v0, u0, rfl, rr, rd'⟩
    obtain ⟨wv, wu, hva, hrw, hrep⟩ := hval
    refine wpAny_call (codeAny_mono (R := fun r s' => ∃ u, r = .ok (.ret u) ∧ PySem.W.KeyPure (iD (rd (.tup ks))).py { s2 with heap := h, toks := tk } u s') ?_ fun r s' hq => ?_)
    · refine PySem.W.kla_callFunE (show X.A.in1.in1.depth < recursionLimit from hr.depth) (kp _ _ hf) rfl hco hge rfl ⟨c', oc, cvs, ct, rfl, kp _ _ hoc, hdc, hvc⟩ ?_
      rw [hbind]
      refine wpAny_pure (wpAny_newFunctionEnv hnc (fun y hy => by rw [List.mem_singleton.mp hy]; exact htx) (fun h₁ hns hsb => ⟨(I2.nolimit.keeps kp).fresh _ hsb, ?_⟩) hks)
      have kp1 : ∀ a o, h.get? a = some o → h₁.get? a = some o := fun a o q => hsb.extBut a o (Nat.ne_of_lt (Heap.lt_size q)) (Heap.get?_push_of_some _ q)
      have kp2 : ∀ a o, s2.heap.get? a = some o → h₁.get? a = some o := fun a o q => kp1 a o (kp a o q)
      refine PySem.W.kla_codeExpr (subD_of PySem.F.slot_dict_getitem.lookup (fun _ _ => rfl) (wpAny_Name (wpAny_loadName_free (c := cD) (v := .ref dd) hks hfx ?_ ?_ ?_ hcd) hdb1))
      · show (cloFrom X.env.cells scope.names []).lookup fx = some cD
        rw [hclo, hcD]; rfl
      · obtain ⟨o, q1, q2⟩ := hcel
        exact ⟨o, kp2 _ _ q1, q2⟩
      · refine wpAny_Name (wpAny_loadName_local hks htx hns (v := .ref bb) ?_ ?_) hdb2
        · show List.lookup tx [(tx, Value.ref bb)].reverse = some (.ref bb)
          show List.lookup tx [(tx, Value.ref bb)] = _
          rw [List.lookup_cons, hne]
        · have kd := keyd.keep nestedKind_stays kp2
          refine ⟨kd.typeIs, ?_⟩
          refine getItem_keyed (knd := nestedKind X.prog X.w) (k := .tup ks) (by show X.A.units + 1 + 1 + 3 + 1 + 8 < cLine; have := L.hu; omega) ⟨NestedIs.at (fun a o vs n q _ => kp2 a o q) _ _ hkey, hg3⟩ kd hva ⟨wu, rfl, h₁, _, rfl, kp1, ?_⟩
          exact PyProof.Rows.Reads.keeps kp2 (reads_iD I2 hrep hrw)
    · obtain ⟨u, rfl, hq⟩ := hq
      exact hq
  refine PySem.W.sorted_key_data (b := false) (fun b => (iD (rd b)).py) hl.isList ei (fun d hd d' hd' => ?_) (.inl fun d hd => ?_) hz (fun b hb => ?_) (PyProof.Rows.ksk_s1 _ _) (fun _ => PyProof.Rows.ksk_l1 _ _) (fun x => PyProof.Rows.ksk_t1 f x) turn fun out c h' tk kp hfr3 hD' hlen eo => ?_
  · obtain ⟨x, _, rfl⟩ := List.mem_map.mp hd
    obtain ⟨y, _, rfl⟩ := List.mem_map.mp hd'
    exact alike_iD _ _
  · obtain ⟨x, hx, rfl⟩ := List.mem_map.mp hd
    exact py_iD_cons (hk x hx).2.1
  · have d1 := (low_iD (h := rd b)).2.2
    have := L.hu
    omega
  · obtain ⟨ws, w1, w2⟩ := each_rep eo
    have hn' : H2 (s2.heap.objs.size + 1) = none := I2.hok.fresh (Nat.le_succ _)
    have hlen' : ws.length ≤ sizeLine := by rw [w1.length, hlen]; exact hz
    refine ⟨.ref _, upd H2 (s2.heap.objs.size + 1) (.lst ws), I2.laid (t' := tk) (fun a o q => kp a o q) (Nat.le_succ _) ⟨hlen', out, c, w1, hD'⟩, rfl, ?_⟩
    exact uN_new (H := H1) ⟨E, q⟩ E2 x2 hn' w2
end
end C66
end TP21
section TM02
set_option Elab.async false
set_option linter.all false
set_option autoImplicit false
set_option maxRecDepth 100000
set_option maxHeartbeats 4000000
/-! M02: what is met, by the plain side. -/
namespace C66
open PySem PySem.Spec L2
abbrev Kst := Int × List Int
def InR (n : Nat) (p : Kst) : Prop := 0 ≤ p.1 ∧ p.1 < n ∧ p.2.length = 4 ∧ ∀ x ∈ p.2, 0 ≤ x ∧ x ≤ 6
abbrev Ent := Kst × List Int
def kOf (p : Kst) : NestedKey := .tup [.num p.1, .tup (p.2.map .num)]
def kD (p : Kst) : D := .tup [.int p.1, iD p.2]
theorem keyDs_nums : ∀ h : List Int, keyDs (h.map .num) = h.map D.int
  | [] => by rw [List.map_nil, keyDs]; rfl
  | x :: h => by rw [List.map_cons, keyDs, keyD, keyDs_nums h]; rfl
theorem keyD_kOf (p : Kst) : keyD (kOf p) = kD p := by
  unfold kOf kD iD
  rw [keyD, keyDs, keyDs, keyDs, keyD, keyD, keyDs_nums]
theorem depth_nums : ∀ h : List Int, NestedKey.depthAll (h.map .num) = 0
  | [] => by rw [List.map_nil, NestedKey.depthAll]
  | x :: h => by rw [List.map_cons, NestedKey.depthAll, depth_nums h, NestedKey.depth]; rfl
theorem depth_kOf (p : Kst) : (kOf p).depth ≤ 8 := by
  unfold kOf
  rw [NestedKey.depth, NestedKey.depthAll, NestedKey.depthAll, NestedKey.depthAll, NestedKey.depth, NestedKey.depth, depth_nums]
  decide
theorem nums_inj : ∀ {h h' : List Int}, h.map NestedKey.num = h'.map NestedKey.num → h = h'
  | [], [], _ => rfl
  | [], _ :: _, e => by simp at e
  | _ :: _, [], e => by simp at e
  | x :: h, y :: h', e => by
    rw [List.map_cons, List.map_cons, List.cons.injEq] at e
    injection e.1 with e1
    rw [e1, nums_inj e.2]
theorem kOf_inj {p q : Kst} (e : kOf p = kOf q) : p = q := by
  unfold kOf at e
  injection e with e
  rw [List.cons.injEq, List.cons.injEq] at e
  obtain ⟨e1, e2, _⟩ := e
  injection e1 with e1
  injection e2 with e2
  exact Prod.ext e1 (nums_inj e2)
def fE (l : List Ent) : List (NestedKey × D) := l.map fun p => (kOf p.1, iD p.2)
def rdGet (l : List Ent) (k : Kst) : Option (List Int) := match l with
  | [] => none
  | (j, r) :: t => if j = k then some r else rdGet t k
theorem ndGet_fE (k : Kst) : ∀ l : List Ent, ndGet (fE l) (kOf k) = (rdGet l k).map iD
  | [] => rfl
  | (j, r) :: t => by
    show ndGet ((kOf j, iD r) :: fE t) (kOf k) = _
    unfold ndGet rdGet
    by_cases e : j = k
    · rw [if_pos e, if_pos (by rw [e])]; rfl
    · rw [if_neg e, if_neg (fun z => e (kOf_inj z))]
      exact ndGet_fE k t
theorem depOk_fE (l : List Ent) : DepOk (fE l) := fun p hp => by
  obtain ⟨q, _, rfl⟩ := List.mem_map.mp hp
  exact depth_kOf _
theorem tup_kOf (p : Kst) : ∃ ks, kOf p = .tup ks := ⟨_, rfl⟩
theorem rdGet_none {k : Kst} : ∀ {l : List Ent}, rdGet l k = none ↔ k ∉ l.map (·.1)
  | [] => by simp [rdGet]
  | (j, r) :: t => by
    unfold rdGet
    rw [List.map_cons, List.mem_cons, not_or]
    by_cases e : j = k
    · rw [if_pos e]
      exact ⟨fun z => (nomatch z), fun z => absurd e.symm z.1⟩
    · rw [if_neg e, rdGet_none (l := t)]
      exact ⟨fun z => ⟨fun q => e q.symm, z⟩, fun z => z.2⟩
theorem rdGet_mem {k : Kst} {r : List Int} : ∀ {l : List Ent}, rdGet l k = some r → (k, r) ∈ l
  | [], h => by simp [rdGet] at h
  | (j, r') :: t, h => by
    unfold rdGet at h
    by_cases e : j = k
    · rw [if_pos e] at h
      cases h; subst e
      exact List.mem_cons_self
    · rw [if_neg e] at h
      exact List.mem_cons_of_mem _ (rdGet_mem h)
theorem rdGet_some {k : Kst} {l : List Ent} (h : k ∈ l.map (·.1)) : ∃ r, rdGet l k = some r := by
  cases q : rdGet l k with
  | none => exact absurd h (rdGet_none.mp q)
  | some r => exact ⟨r, rfl⟩
/-! ### how many there may be -/
def cubes : Nat → List (List Int)
  | 0 => [[]]
  | n + 1 => (cubes n).flatMap fun h => [0, 1, 2, 3, 4, 5, 6].map fun x => x :: h
theorem mem_cubes : ∀ {h : List Int}, (∀ x ∈ h, 0 ≤ x ∧ x ≤ 6) → h ∈ cubes h.length
  | [], _ => by simp [cubes]
  | x :: h, hx => by
    show x :: h ∈ (cubes h.length).flatMap _
    refine List.mem_flatMap.mpr ⟨h, mem_cubes fun y hy => hx y (List.mem_cons_of_mem _ hy), List.mem_map.mpr ⟨x, ?_, rfl⟩⟩
    obtain ⟨h0, h6⟩ := hx x List.mem_cons_self
    simp only [List.mem_cons, List.not_mem_nil, or_false]
    omega
theorem cubes_length : ∀ n, (cubes n).length = 7 ^ n
  | 0 => rfl
  | n + 1 => by
    show ((cubes n).flatMap _).length = _
    rw [List.length_flatMap]
    have e : ∀ l : List (List Int), (l.map fun h : List Int => (([0, 1, 2, 3, 4, 5, 6] : List Int).map fun x => x :: h).length).sum = l.length * 7 := fun l => by
      induction l with
      | nil => rfl
      | cons a l ih => rw [List.map_cons, List.sum_cons, ih, List.length_cons]; simp; omega
    rw [e, cubes_length n, Nat.pow_succ]
def allK (n : Nat) : List Kst := (List.range n).flatMap fun (i : Nat) => (cubes 4).map fun h => ((i : Int), h)
theorem allK_length (n : Nat) : (allK n).length = n * 2401 := by
  unfold allK
  rw [List.length_flatMap]
  have e : ∀ l : List Nat, (l.map fun (i : Nat) => ((cubes 4).map fun h => ((i : Int), h)).length).sum = l.length * 2401 := fun l => by
    induction l with
    | nil => rfl
    | cons a l ih => rw [List.map_cons, List.sum_cons, ih, List.length_cons, List.length_map, cubes_length]; omega
  rw [e, List.length_range]
theorem mem_allK {n : Nat} {p : Kst} (h : InR n p) : p ∈ allK n := by
  obtain ⟨h0, h1, h2, h3⟩ := h
  refine List.mem_flatMap.mpr ⟨p.1.toNat, List.mem_range.mpr (by omega), List.mem_map.mpr ⟨p.2, by rw [← h2]; exact mem_cubes h3, ?_⟩⟩
  rw [Int.toNat_of_nonneg h0]
/-- what is told of what is met: roads are not longer than there are places -/
structure Met (n : Nat) (l : List Ent) : Prop where
  inr : ∀ p ∈ l, InR n p.1
  nd : (l.map (·.1)).Nodup
  road : ∀ p ∈ l, p.2 ≠ [] ∧ p.2.length ≤ l.length
theorem Met.most {n : Nat} {l : List Ent} (m : Met n l) (hn : n ≤ 20) : l.length ≤ 48020 := by
  have h := List.Nodup.length_le_of_subset m.nd (l₂ := allK n) fun k hk => by
    obtain ⟨p, hp, rfl⟩ := List.mem_map.mp hk
    exact mem_allK (m.inr p hp)
  rw [List.length_map, allK_length] at h
  have : n * 2401 ≤ 20 * 2401 := Nat.mul_le_mul_right _ hn
  omega
theorem Met.add {n : Nat} {l : List Ent} (m : Met n l) {k k0 : Kst} {r : List Int} {x : Int} (hk : InR n k) (hn : k ∉ l.map (·.1)) (h0 : (k0, r) ∈ l) : Met n (l ++ [(k, r ++ [x])]) := by
  refine ⟨fun p hp => ?_, ?_, fun p hp => ?_⟩
  · rcases List.mem_append.mp hp with h | h
    · exact m.inr p h
    · rw [List.mem_singleton.mp h]; exact hk
  · rw [List.map_append, List.nodup_append]
    refine ⟨m.nd, by simp, fun a ha b hb e => ?_⟩
    have eb : b = k := by simpa using hb
    rw [e, eb] at ha
    exact hn ha
  · rw [List.length_append, List.length_singleton]
    rcases List.mem_append.mp hp with h | h
    · have := m.road p h
      exact ⟨this.1, by omega⟩
    · rw [List.mem_singleton.mp h]
      have := (m.road _ h0).2
      dsimp only at this
      exact ⟨by simp, by rw [List.length_append, List.length_singleton]; omega⟩
/-! ### steps stay inside -/
theorem next_in {c : List Stp} {hs : List Hnd} (ok : CodeOk c hs) {i : Nat} {s : Stp} (hi : c[i]? = some s) {l : Int} (hl : l ∈ nextL hs i s) : 0 ≤ l ∧ l < c.length := by
  have hil : i < c.length := (List.getElem?_eq_some_iff.mp hi).1
  have hs' := ok.step s (List.mem_of_getElem? hi)
  rcases List.mem_append.mp (mem_sd.mp hl) with h | h
  · unfold goesOn at h
    split at h
    · cases h
    · rename_i h1
      split at h
      · rename_i h2
        obtain ⟨k, e, h3, h4⟩ := hs'.goal (.inl h2)
        rw [e] at h
        rw [List.mem_singleton.mp h]
        exact ⟨h3, h4⟩
      · rename_i h2
        have hlast : i + 1 < c.length := by
          refine Nat.lt_of_le_of_ne hil fun e => ?_
          have := ok.last s (by rw [show c.length - 1 = i by omega]; exact hi)
          rcases this with z | z | z
          · exact h1 (.inl z)
          · exact h2 z
          · exact h1 (.inr z)
        split at h
        · rename_i h5
          obtain ⟨k, e, h3, h4⟩ := hs'.goal (.inr h5)
          rw [e] at h
          rcases List.mem_cons.mp h with z | z
          · rw [z]; omega
          · rw [List.mem_singleton.mp z]
            exact ⟨h3, h4⟩
        · rw [List.mem_singleton.mp h]; omega
  · unfold caughtL at h
    obtain ⟨hd, h1, rfl⟩ := List.mem_map.mp h
    have := ok.hnd hd (List.mem_filter.mp h1).1
    exact ⟨this.2.2.2.2.2.1, this.2.2.2.2.2.2⟩
theorem mem_set_or {h : List Int} {k : Nat} {y x : Int} (hx : x ∈ h.set k y) : x = y ∨ x ∈ h := by
  rcases List.mem_or_eq_of_mem_set hx with z | z
  · exact .inr z
  · exact .inl z
theorem getI_in {h : List Int} {k : Int} (hl : h.length = 4) (h0 : 0 ≤ k) (h3 : k ≤ 3) (hb : ∀ x ∈ h, 0 ≤ x ∧ x ≤ 6) : 0 ≤ getI h k ∧ getI h k ≤ 6 := by
  have hk : k.toNat < h.length := by omega
  unfold getI
  rw [List.getElem?_eq_getElem hk]
  exact hb _ (List.getElem_mem hk)
theorem behind_in {c : List Stp} {hs : List Hnd} (ok : CodeOk c hs) {i : Nat} {s : Stp} (hi : c[i]? = some s) {h : List Int} (hl : h.length = 4) (hb : ∀ x ∈ h, 0 ≤ x ∧ x ≤ 6) (ha : astrayB c hs i s h = false) (l : Int) : (behindL c i s h l).length = 4 ∧ ∀ x ∈ behindL c i s h l, 0 ≤ x ∧ x ≤ 6 := by
  unfold behindL
  split
  · rename_i hc
    obtain ⟨j, rfl, hj, h0, h3⟩ := ok.locOk hi hc.1
    have hg := getI_in hl h0 h3 hb
    refine ⟨by rw [List.length_set]; exact hl, fun x hx => ?_⟩
    rcases mem_set_or hx with e | e
    · rw [e]
      by_cases hE : s.1 = "enter"
      · unfold astrayB at ha
        rw [if_pos hE] at ha
        have := of_decide_eq_false ha
        rw [if_pos hE]; omega
      · have hLv : s.1 = "leave" := by
          have := hc.1
          unfold isHoldStep at this
          rw [Bool.or_eq_true, beq_iff_eq, beq_iff_eq] at this
          exact this.resolve_left hE
        unfold astrayB at ha
        rw [if_neg hE, if_pos hLv] at ha
        have := of_decide_eq_false ha
        rw [if_neg hE]; omega
    · exact hb x e
  · exact ⟨hl, hb⟩
theorem step_in {c : List Stp} {hs : List Hnd} (ok : CodeOk c hs) {i : Nat} {s : Stp} (hi : c[i]? = some s) {h : List Int} (hp : InR c.length ((i : Int), h)) (ha : astrayB c hs i s h = false) {l : Int} (hl : l ∈ nextL hs i s) : InR c.length (l, behindL c i s h l) := by
  obtain ⟨h1, h2⟩ := next_in ok hi hl
  obtain ⟨h3, h4⟩ := behind_in ok hi hp.2.2.1 hp.2.2.2 ha l
  exact ⟨h1, h2, h3, h4⟩
end C66
end TM02
section TP22
set_option Elab.async false
set_option linter.all false
set_option autoImplicit false
set_option maxRecDepth 100000
set_option maxHeartbeats 4000000
/-! P22: truth of a list, bindings returned, a captured name among two targets. -/
namespace C66
open PySem PySem.Spec L2
section
variable {X : Cx} {g : Gm} {ρ ρ1 : Rho} {N : List Str} {sc : Scope} {vs : List Nat} {pos p px py pz : Pos} {a b c e : Expr} {pp : Post}
/-- xs as a test, xs one's own -/
theorem ptu_truthO (L : Lo X N sc vs) (j : Nat) {x : Str} {ds : List D} (hj : ρ[j]? = some (some (.own ds)) := by rfl) (hN : N[j]? = some x := by rfl) (hi : j ∈ vs := by decide) (he : ∀ whole, isTrue (.Name x px) X.env whole = (do let v ← whole; standAt px; holding [v] (truthy v)) := by intro _; rfl) :
    PTU X g ρ (.Name x px) ρ (!ds.isEmpty) := by
  obtain ⟨h1, h2, h3⟩ := L.at_ hi hN
  refine pt_weak (pt_truth (pe_var (i := j) (by rw [L.hN]; exact hN) (by rw [L.hs]; exact h1) h2 h3) he) fun σ H Q ⟨E, q⟩ => ?_
  obtain ⟨v, hv, aa, us, rfl, ho, r⟩ := E.at_ j _ hj
  refine ⟨_, hv, !us.isEmpty, .inl ⟨us, .inl (.inl ho), rfl⟩, ?_⟩
  have e : us.isEmpty = ds.isEmpty := by cases r <;> rfl
  rw [e]
  exact q H E (.refl H)
/-- a name that holds a frozen dict -/
theorem pb_fdc (L : Lo X N sc vs) (j : Nat) {x : Str} {kvs : List (NestedKey × D)} (hj : ρ[j]? = some (some (.fdc kvs)) := by rfl) (hN : N[j]? = some x := by rfl) (hi : j ∈ vs := by decide) : PB X g ρ (.Name x px) ρ (.fdc kvs) := by
  obtain ⟨h1, h2, h3⟩ := L.at_ hi hN
  refine pe_weak (pe_var (i := j) (by rw [L.hN]; exact hN) (by rw [L.hs]; exact h1) h2 h3) fun σ H Q ⟨E, q⟩ => ?_
  obtain ⟨v, hv, r⟩ := E.at_ j _ hj
  exact ⟨v, hv, q v H E (.refl H) r fun m => by cases m⟩
theorem su_retB {bd : Bd} (he : PB X g ρ e ρ1 bd) (h : pp.rt ρ1 bd) : SU X g ρ (.Return (some e) pos) pp :=
  ps_weak (ps_ret he) fun D σ H q => ⟨q.1, fun v H1 E1 x1 r1 _ => q.2.2.1 ρ1 bd v σ H1 h E1 x1 r1⟩
theorem su_2G (L : LoD X N sc vs) (i j : Nat) {x y : Str} {b1 b2 : Bd} {k k2 : Nat} {pt pt2 : Pos} (ha : PAB X g ρ [a, b] [b1, b2]) (h : pp.nx ((ρ.set i (some b1)).set j (some b2))) (hw : swappedStores [.Tuple [.Name x px, .Name y py] k pt] (.Tuple [a, b] k2 pt2) (envS sc) = pure none := by rfl) (hi : N[i]? = some x := by rfl) (hj : N[j]? = some y := by rfl)
    (hx : locC sc x = true := by decide +kernel) (hy : locC sc y = true := by decide +kernel) (hs : swapsWithSole [.Tuple [.Name x px, .Name y py] k pt] (.Tuple [a, b] k2 pt2) pos.line X.env = pure false := by rfl)
    (h1 : (assignEach [.Tuple [.Name x px, .Name y py] k pt] X.env).map (·.2) = [assign (.Tuple [.Name x px, .Name y py] k pt) X.env] := by rfl) (e1 : (assignEach [.Name x px, .Name y py] X.env).map (·.2) = assign (.Name x px) X.env :: (assignEach [.Name y py] X.env).map (·.2) := by rfl)
    (e2 : (assignEach [.Name y py] X.env).map (·.2) = assign (.Name y py) X.env :: (assignEach [] X.env).map (·.2) := by rfl) (hn : (assignEach [.Name x px, .Name y py] X.env).length = 2 := by rfl) (hst : (assignEach [.Name x px, .Name y py] X.env).findIdx? (·.1) = none := by rfl) :
    SU X g ρ (.Assign [.Tuple [.Name x px, .Name y py] k pt] (.Tuple [a, b] k2 pt2) pos) pp :=
  su_twoG L i j ha h hi hj hx hy (by rw [swap_scope L.hs]; exact hw) hs h1 e1 e2 hn hst
end
end C66
end TP22
section TD12
set_option Elab.async false
set_option linter.all false
set_option autoImplicit false
set_option maxRecDepth 100000
set_option maxHeartbeats 4000000
namespace C66
open PySem PySem.Spec L2
section
variable {P : Program} {w : World} {K : PySem.W.Frag} {mg : Str → Option Value} {base : Heap} {C : Addr} {Tb : List (Addr × Str)}
/-! all_met -/
abbrev nMet : List Str := ["method", "found", "layer", "fresh", "at", "holds", "later", "there"]
theorem scMet : FnScope nMet ["method"] (defScope (topS 58)) := ⟨rfl, rfl, rfl, by decide +kernel, rfl, by decide +kernel, by decide +kernel⟩
def preMet : List D → (Bd → Prop) → Prop := fun ds post => ∃ c hs, ds = [metD c hs] ∧ CodeOk c hs ∧ ∀ l, Met c.length l → post (.fdc (fE l))
def zer : List Int := [0, 0, 0, 0]
/-- behind some turns of the inner loops: what is found, what is fresh -/
structure Turn2 (n : Nat) (l : List Ent) (fr : List Kst) (lay : List Kst) (n0 : Nat) : Prop where
  met : Met n l
  hfr : ∀ p ∈ fr, p ∈ l.map (·.1)
  hly : ∀ p ∈ lay, p ∈ l.map (·.1)
  len : l.length = n0 + fr.length
theorem Turn2.add {n : Nat} {l : List Ent} {fr lay : List Kst} {n0 : Nat} (t : Turn2 n l fr lay n0) {k k0 : Kst} {r : List Int} {x : Int} (hk : InR n k) (hn : rdGet l k = none) (h0 : rdGet l k0 = some r) : Turn2 n (l ++ [(k, r ++ [x])]) (fr ++ [k]) lay n0 := by
  refine ⟨t.met.add hk (rdGet_none.mp hn) (rdGet_mem h0), fun p hp => ?_, fun p hp => ?_, ?_⟩
  · rw [List.map_append, List.mem_append]
    rcases List.mem_append.mp hp with h | h
    · exact .inl (t.hfr p h)
    · rw [List.mem_singleton.mp h]; exact .inr (by simp)
  · rw [List.map_append, List.mem_append]
    exact .inl (t.hly p hp)
  · rw [List.length_append, List.length_append, t.len]; simp; omega
theorem fE_snoc {l : List Ent} {k : Kst} {r : List Int} (hn : rdGet l k = none) : ndPut (fE l) (kOf k) (iD r) = fE (l ++ [(k, r)]) := by
  unfold ndPut
  rw [ndGet_fE, hn]
  show fE l ++ _ = _
  unfold fE
  rw [List.map_append]
  rfl
theorem ok_all_met {f cc PT : Addr} {fd : FuncData} (F : Fun K "all_met" "all_met" (topS 58) f fd) (hcc : fd.code = .ref cc) (TB : LamX.TabB base mg cc PT) (hT : Tb = [(PT, (("all_met" : Str) ++ ".<locals>.") ++ "<lambda>")]) (T : Txt K C mg)
    (G1 : Dfn P w K mg base C Tb 2 "is_astray" preAstr) (G2 : Dfn P w K mg base C Tb 2 "next_steps" preNext) (G3 : Dfn P w K mg base C Tb 2 "holds_behind" preBeh) : FnOk P w K mg base CX0 3 f fd ["method"] (spF C Tb P w K preMet) := by
  refine fn_dataL [0, 1, 2, 3, 4, 5, 6, 7] F hcc scMet (by decide +kernel) (fun ds post ⟨_, _, e, _⟩ => by rw [e]; rfl) (by decide) ?_
  rintro X rfl rfl rfl rfl rfl L hr ecd eq g rfl hTb hR hH0 ds post ⟨c, hs, rfl, ok, hp⟩
  subst hTb
  show SUs X g [some (.dat (metD c hs)), none, none, none, none, none, none, none] _ _
  have hn0 := ok.pos
  have hn20 := ok.most
  have inz : InR c.length (0, zer) := ⟨by decide, by show (0 : Int) < c.length; omega, rfl, by decide⟩
  refine su_cons (su_2G L 1 2 (b1 := .ndc (fE [((0, zer), [0])])) (b2 := .own [kD (0, zer)]) (pab_cons (pb_nd1 (k := kOf (0, zer)) L (fun H0 R => ?_) (fun H0 R => pu_tup (pau_cons pu_int pau_nil)) (depth_kOf _) (tup_kOf _)) (fun H0 R => pab_cons (pb_own (pn_lst (pau_cons (pu_tup (pau_cons pu_int (pau_cons (pu_glob (g := ⟨g.C, g.T, H0, R⟩) L.toLo T.NOTHING) pau_nil))) pau_nil))) (fun H0 R => pab_nil) rfl) rfl) ?_)
  · rw [keyD_kOf]
    exact pu_tup (pau_cons pu_int (pau_cons (pu_glob (g := ⟨g.C, g.T, H0, R⟩) L.toLo T.NOTHING) pau_nil))
  have fin : ∀ (l : List Ent) (x2 x3 x4 x5 x6 x7 : Option Bd), Met c.length l → SUs X g [some (.dat (metD c hs)), some (.ndc (fE l)), x2, x3, x4, x5, x6, x7] ((defBody (topS 58)).drop 2) { nx := fun _ => post (.dat .non), rt := fun _ b => post b } := fun l x2 x3 x4 x5 x6 x7 hm => by
    refine su_freezeN 1 ?_
    exact su_one (su_retB (pb_fdc L.toLo 1) (hp l hm))
  refine su_cons (su_while L (fun m ρ => ∃ (l : List Ent) (lay : List Kst) (x3 x4 x5 x6 x7 : Option Bd), ρ = [some (.dat (metD c hs)), some (.ndc (fE l)), some (.own (lay.map kD)), x3, x4, x5, x6, x7] ∧ Met c.length l ∧ (∀ p ∈ lay, p ∈ l.map (·.1)) ∧ m = 2 * (48020 - l.length) + (if lay.isEmpty then 0 else 1))
    _ ⟨[((0, zer), [0])], [(0, zer)], none, none, none, none, none, rfl, ⟨fun p hp => by rw [List.mem_singleton.mp hp]; exact inz, by simp, fun p hp => by rw [List.mem_singleton.mp hp]; exact ⟨by simp, by simp⟩⟩, by simp, rfl⟩ ?_)
  rintro m _ ⟨l, lay, x3, x4, x5, x6, x7, rfl, hm, hlay, rfl⟩
  refine ⟨_, ptu_truthO L.toLo 2, fun hk => ?_, fun hk => fin l _ _ _ _ _ _ hm⟩
  have hne : lay.isEmpty = false := by
    cases lay with
    | nil => cases hk
    | cons a t => rfl
  refine s_setN L 3 (pn_lst pau_nil) ?_
  refine su_freeze 2 (ds := lay.map kD) ?_
  show SUs X g [some (.dat (metD c hs)), some (.ndc (fE l)), some (.dat (.lst (lay.map kD))), some (.own []), x4, x5, x6, x7] _ _
  refine su_cons (su_for L (S := [4, 5]) (ds := lay.map kD) (fun ρ d => match d with | .tup [a, b] => (ρ.set 4 (some (.dat a))).set 5 (some (.dat b)) | _ => ρ)
    (fun _ ρ => ∃ (l2 : List Ent) (fr : List Kst) (x4 x5 x6 x7 : Option Bd), ρ = [some (.dat (metD c hs)), some (.ndc (fE l2)), some (.dat (.lst (lay.map kD))), some (.own (fr.map kD)), x4, x5, x6, x7] ∧ Turn2 c.length l2 fr lay l.length)
    (piu_lst (pu_var L.toLo 2)) (fun i d ρ' hd _ => ?_) ⟨l, [], _, _, _, _, rfl, hm, by simp, hlay, by simp⟩ (fun i d ρ' hd hP => ?_) (fun ρ' hP => ?_))
  · obtain ⟨pk, _, rfl⟩ := List.mem_map.mp (List.mem_of_getElem? hd)
    exact pgu_pair L.calm (pgu_name L.toLo 4 (.inl (L.fn _)) (hS := by decide)) (pgu_name L.toLo 5 (.inl (L.fn _)) (hS := by decide))
  · obtain ⟨l2, fr, y4, y5, y6, y7, rfl, t2⟩ := hP
    obtain ⟨pk, hpk, rfl⟩ := List.mem_map.mp (List.mem_of_getElem? hd)
    obtain ⟨at_, hl⟩ := pk
    have hkin := t2.hly _ hpk
    have hin : InR c.length (at_, hl) := by
      obtain ⟨q, hq, e⟩ := List.mem_map.mp hkin
      have := t2.met.inr q hq
      rwa [e] at this
    obtain ⟨ai, rfl⟩ : ∃ ai : Nat, at_ = (ai : Int) := ⟨at_.toNat, (Int.toNat_of_nonneg hin.1).symm⟩
    have hai : ai < c.length := by have := hin.2.1; dsimp only at this; omega
    have hi : c[ai]? = some c[ai] := List.getElem?_eq_getElem hai
    show SUs X g [some (.dat (metD c hs)), some (.ndc (fE l2)), some (.dat (.lst (lay.map kD))), some (.own (fr.map kD)), some (.dat (.int ai)), some (.dat (iD hl)), y6, y7] _ _
    refine su_one (s_if (k := !astrayB c hs ai c[ai] hl) (ptu_not (ptu_val (pu_call L.toLo G1 hr (pau_cons (pu_var L.toLo 0) (pau_cons (pu_var L.toLo 4) (pau_cons (pu_var L.toLo 5) pau_nil))) ⟨c, hs, ai, c[ai], hl, rfl, ok, hi, hin.2.2.1, fun b h => h⟩))) (fun ha => ?_) (fun _ => su_nil ⟨l2, fr, _, _, _, _, rfl, t2⟩))
    have ha : astrayB c hs ai c[ai] hl = false := by
      cases q : astrayB c hs ai c[ai] hl with
      | false => rfl
      | true => rw [q] at ha; cases ha
    refine su_one (su_for L (S := [6]) (ds := (nextL hs ai c[ai]).map D.int) (fun ρ d => ρ.set 6 (some (.dat d)))
      (fun _ ρ => ∃ (l2 : List Ent) (fr : List Kst) (x6 x7 : Option Bd), ρ = [some (.dat (metD c hs)), some (.ndc (fE l2)), some (.dat (.lst (lay.map kD))), some (.own (fr.map kD)), some (.dat (.int ai)), some (.dat (iD hl)), x6, x7] ∧ Turn2 c.length l2 fr lay l.length)
      (piu_lst (pu_call L.toLo G2 hr (pau_cons (pu_var L.toLo 0) (pau_cons (pu_var L.toLo 4) pau_nil)) ⟨c, hs, ai, c[ai], rfl, ok, hi, fun b h => h⟩)) (fun i d ρ' hd _ => pgu_name L.toLo 6 (.inl (L.fn _)) (hS := by decide)) ⟨l2, fr, _, _, rfl, t2⟩ (fun i d ρ' hd hP => ?_) (fun ρ' hP => ?_))
    · obtain ⟨l2, fr, y6, y7, rfl, t2⟩ := hP
      obtain ⟨lt, hlt, rfl⟩ := List.mem_map.mp (List.mem_of_getElem? hd)
      show SUs X g [some (.dat (metD c hs)), some (.ndc (fE l2)), some (.dat (.lst (lay.map kD))), some (.own (fr.map kD)), some (.dat (.int ai)), some (.dat (iD hl)), some (.dat (.int lt)), y7] _ _
      have hin2 := step_in ok hi hin ha hlt
      refine s_set L 7 (d := kD (lt, behindL c ai c[ai] hl lt)) (pu_tup (pau_cons (pu_var L.toLo 6) (pau_cons (pu_call L.toLo G3 hr (pau_cons (pu_var L.toLo 0) (pau_cons (pu_var L.toLo 4) (pau_cons (pu_var L.toLo 5) (pau_cons (pu_var L.toLo 6) pau_nil)))) ⟨c, hs, ai, c[ai], hl, lt, rfl, ok, hi, hin.2.2.1, fun b h => h⟩) pau_nil))) ?_
      show SUs X g [some (.dat (metD c hs)), some (.ndc (fE l2)), some (.dat (.lst (lay.map kD))), some (.own (fr.map kD)), some (.dat (.int ai)), some (.dat (iD hl)), some (.dat (.int lt)), some (.dat (kD (lt, behindL c ai c[ai] hl lt)))] _ _
      generalize behindL c ai c[ai] hl lt = bh at hin2
      refine su_one (s_if (k := !(ndGet (fE l2) (kOf (lt, bh))).isSome) (ptu_ndni L 1 (by rw [keyD_kOf]; exact pu_var L.toLo 7) (depth_kOf _) (depOk_fE _) (tup_kOf _) (.inl rfl)) (fun hk => ?_) (fun _ => su_nil ⟨l2, fr, _, _, rfl, t2⟩))
      have hnone : rdGet l2 (lt, bh) = none := by
        rw [ndGet_fE] at hk
        cases q : rdGet l2 (lt, bh) with
        | none => rfl
        | some r => rw [q] at hk; cases hk
      obtain ⟨r, hrd⟩ := rdGet_some (t2.hly _ hpk)
      have hroad := t2.met.road _ (rdGet_mem hrd)
      have hmost := t2.met.most hn20
      dsimp only at hroad
      refine su_cons (su_ndput L 1 (kvs := fE l2) (k := kOf (lt, bh)) (d := iD (r ++ [lt])) ?_ (by rw [keyD_kOf]; exact pu_var L.toLo 7) (depth_kOf _) (depOk_fE _) (tup_kOf _) (by unfold fE; rw [List.length_map, sizeLine_eq]; omega) ?_)
      · have e : iD (r ++ [lt]) = .tup (r.map D.int ++ [.int lt]) := by unfold iD; rw [List.map_append]; rfl
        rw [e]
        refine pu_tup (pau_star (d := iD r) (pu_ndget L 1 (k := kOf ((ai : Int), hl)) (by rw [keyD_kOf]; exact pu_tup (pau_cons (pu_var L.toLo 4) (pau_cons (pu_var L.toLo 5) pau_nil))) (by rw [ndGet_fE, hrd]; rfl) (depth_kOf _) (depOk_fE _) (tup_kOf _) (.inl rfl)) (.inl rfl) (pau_cons (pu_var L.toLo 6) pau_nil)) ?_
        rw [List.length_append, List.length_map, sizeLine_eq]; simp; omega
      · show SUs X g [some (.dat (metD c hs)), some (.ndc (ndPut (fE l2) (kOf (lt, bh)) (iD (r ++ [lt])))), some (.dat (.lst (lay.map kD))), some (.own (fr.map kD)), some (.dat (.int ai)), some (.dat (iD hl)), some (.dat (.int lt)), some (.dat (kD (lt, bh)))] _ _
        rw [fE_snoc hnone]
        have hfl : fr.length < sizeLine := by have := t2.len; rw [sizeLine_eq]; omega
        refine su_one (su_append L 3 (d := kD (lt, bh)) (ds := fr.map kD) (pu_var L.toLo 7) ⟨l2 ++ [((lt, bh), r ++ [lt])], fr ++ [(lt, bh)], some (.dat (.int lt)), some (.dat (kD (lt, bh))), ?_, t2.add hin2 hnone hrd⟩ (by rw [List.length_map]; exact hfl))
        rw [List.map_append]
        rfl
    · obtain ⟨l2, fr, y6, y7, rfl, t2⟩ := hP
      exact ⟨l2, fr, _, _, _, _, rfl, t2⟩
  · obtain ⟨l2, fr, y4, y5, y6, y7, rfl, t2⟩ := hP
    have hmost := t2.met.most hn20
    -- the roads of the fresh ones
    let rd : NestedKey → List Int := fun k => match ndGet (fE l2) k with
      | some (.tup ds) => ds.map fun d => match d with | .int i => i | _ => 0
      | _ => []
    have hrd : ∀ p ∈ fr, ∃ r, rdGet l2 p = some r ∧ rd (kOf p) = r := fun p hp => by
      obtain ⟨r, h⟩ := rdGet_some (t2.hfr p hp)
      refine ⟨r, h, ?_⟩
      show (match ndGet (fE l2) (kOf p) with | some (.tup ds) => ds.map (fun d => match d with | .int i => i | _ => 0) | _ => []) = r
      rw [ndGet_fE, h]
      show (r.map D.int).map _ = r
      rw [List.map_map]
      exact List.map_id r
    have ek : fr.map kD = (fr.map kOf).map keyD := by
      rw [List.map_map]
      exact List.map_congr_left fun p _ => (keyD_kOf p).symm
    have hlen : fr.length ≤ 48020 := by have := t2.len; omega
    rw [ek]
    refine su_one (su_setN L 2 (pn_sortLam L 3 1 (bs := fr.map kOf) (kvs := fE l2) rd (fun b hb => ?_) (depOk_fE _) (by rw [List.length_map, sizeLine_eq]; omega) TB ecd (by rw [hT, eq]; exact List.mem_singleton.mpr rfl) (fun p hp _ => by rw [hT] at hp; rw [List.mem_singleton.mp hp, eq]) hH0 hr T.sorted rfl (.inl rfl)) ?_)
    · obtain ⟨p, hp, rfl⟩ := List.mem_map.mp hb
      obtain ⟨r, h1, h2⟩ := hrd p hp
      refine ⟨by rw [ndGet_fE, h1, h2]; rfl, by rw [h2]; exact (t2.met.road _ (rdGet_mem h1)).1, depth_kOf _, tup_kOf _⟩
    · -- the next layer
      have hsub : ∀ b ∈ srtK rd (fr.map kOf), b ∈ fr.map kOf := fun b hb => List.mem_mergeSort.mp hb
      have hlenS : (srtK rd (fr.map kOf)).length = fr.length := by unfold srtK; rw [List.length_mergeSort, List.length_map]
      let un : NestedKey → Kst := fun k => match k with
        | .tup [.num a, .tup ks] => (a, ks.map fun k => match k with | .num i => i | _ => 0)
        | _ => (0, [])
      have hun : ∀ p, un (kOf p) = p := fun p => by
        show (p.1, (p.2.map NestedKey.num).map _) = p
        rw [List.map_map]
        exact Prod.ext rfl (List.map_id _)
      have hlay2 : (srtK rd (fr.map kOf)).map keyD = ((srtK rd (fr.map kOf)).map un).map kD := by
        rw [List.map_map]
        refine List.map_congr_left fun b hb => ?_
        obtain ⟨p, _, rfl⟩ := List.mem_map.mp (hsub b hb)
        rw [keyD_kOf, Function.comp_apply, hun]
      refine ⟨2 * (48020 - l2.length) + (if ((srtK rd (fr.map kOf)).map un).isEmpty then 0 else 1), ?_, l2, (srtK rd (fr.map kOf)).map un, _, _, _, _, _, by rw [← hlay2]; rfl, t2.met, fun p hp => ?_, rfl⟩
      · have hl2 := t2.len
        rw [hne]
        by_cases hf : fr = []
        · have e0 : (srtK rd (fr.map kOf)).map un = [] := by
            rw [← List.length_eq_zero_iff, List.length_map, hlenS, hf]; rfl
          rw [e0]
          show 2 * (48020 - l2.length) + 0 < 2 * (48020 - l.length) + 1
          omega
        · have : 0 < fr.length := List.length_pos_iff.mpr hf
          have : (if ((srtK rd (fr.map kOf)).map un).isEmpty = true then 0 else 1) ≤ 1 := by split <;> omega
          show _ < 2 * (48020 - l.length) + 1
          omega
      · obtain ⟨b, hb, rfl⟩ := List.mem_map.mp hp
        obtain ⟨q, hq, rfl⟩ := List.mem_map.mp (hsub b hb)
        rw [hun]
        exact t2.hfr q hq
end
end C66
end TD12
section TD13
set_option Elab.async false
set_option linter.all false
set_option autoImplicit false
set_option maxRecDepth 100000
set_option maxHeartbeats 4000000
namespace C66
open PySem PySem.Spec L2
/-! ### the plain side -/
/-- what a table may hold where the law tries it -/
inductive Cell where
  | non
  | hol (h : List Int)
  | lst (h : List Int)
  | tru
  | nons
  deriving DecidableEq
def cellD : Cell → D
  | .non => .non
  | .hol h => iD h
  | .lst h => .lst (h.map D.int)
  | .tru => .tup [.bl true, .int 0, .int 0, .int 0]
  | .nons => .tup [.non, .non, .non, .non]
def GoodH (h : List Int) : Prop := h.length = 4 ∧ ∀ x ∈ h, 0 ≤ x ∧ x ≤ 6
def GoodC : Cell → Prop
  | .non => True
  | .hol h => GoodH h
  | _ => False
def selL (l : List Ent) (i : Int) : List (List Int) := (l.filter fun p => decide (p.1.1 = i)).map fun p => p.1.2
def selF (i : Int) : D → Option D
  | .tup [.int a, h] => if a = i then some h else none
  | _ => none
theorem selF_l (i : Int) : ∀ l : List Ent, (l.map fun p => kD p.1).filterMap (selF i) = (selL l i).map iD
  | [] => rfl
  | p :: r => by
    have e0 : selF i (kD p.1) = if p.1.1 = i then some (iD p.1.2) else none := rfl
    rw [List.map_cons, List.filterMap_cons, selF_l i r, e0]
    unfold selL
    rw [List.filter_cons]
    by_cases e : p.1.1 = i
    · rw [if_pos e, if_pos (decide_eq_true e)]; rfl
    · rw [if_neg e, if_neg (by simpa using e)]
theorem selL_good {n : Nat} {l : List Ent} (m : Met n l) {i : Int} {h : List Int} (hh : h ∈ selL l i) : GoodH h := by
  obtain ⟨p, hp, rfl⟩ := List.mem_map.mp hh
  have := m.inr p (List.mem_filter.mp hp).1
  exact ⟨this.2.2.1, this.2.2.2⟩
theorem good_ne {h : List Int} (g : GoodH h) : h ≠ [] := fun e => by have := g.1; rw [e] at this; cases this
def rowM (l : List Ent) (i : Nat) : List (List Int) := srtI (selL l i)
theorem rowM_good {n : Nat} {l : List Ent} (m : Met n l) {i : Nat} {h : List Int} (hh : h ∈ rowM l i) : GoodH h := selL_good m (List.mem_mergeSort.mp hh)
def rowsD (l : List Ent) (n : Nat) : List D := (List.range n).map fun i => D.lst ((rowM l i).map iD)
def rngF (l : List Ent) : D → Option D
  | .int i => some (.lst ((rowM l i.toNat).map iD))
  | _ => none
theorem rngF_r (l : List Ent) (n : Nat) : ((List.range n).map fun (i : Nat) => D.int (i : Int)).filterMap (rngF l) = rowsD l n := by
  unfold rowsD
  induction List.range n with
  | nil => rfl
  | cons a r ih => rw [List.map_cons, List.filterMap_cons, ih]; rfl
theorem selL_length (l : List Ent) (i : Int) : (selL l i).length ≤ l.length := by
  unfold selL
  rw [List.length_map]
  exact List.length_filter_le _ _
section
variable {P : Program} {w : World} {K : PySem.W.Frag} {mg : Str → Option Value} {base : Heap} {C : Addr} {Tb : List (Addr × Str)}
/-! met_at -/
abbrev nMetA : List Str := ["method", "found", "at", "step", "holds"]
theorem scMetA : FnScope nMetA ["method"] (defScope (topS 59)) := ⟨rfl, rfl, rfl, by decide +kernel, rfl, by decide +kernel, by decide +kernel⟩
def preMetA : List D → (Bd → Prop) → Prop := fun ds post => ∃ c hs, ds = [metD c hs] ∧ CodeOk c hs ∧ ∀ l, Met c.length l → post (.dat (.lst (rowsD l c.length)))
theorem ok_met_at {f : Addr} {fd : FuncData} (F : Fun K "met_at" "met_at" (topS 59) f fd) (T : Txt K C mg) (G : Dfn P w K mg base C Tb 3 "all_met" preMet) : FnOk P w K mg base CX0 4 f fd ["method"] (spF C Tb P w K preMetA) := by
  refine fn_data [0, 1] F scMetA (by decide +kernel) (fun ds post ⟨_, _, e, _⟩ => by rw [e]; rfl) (by decide) ?_
  rintro X rfl rfl rfl rfl rfl L hr g rfl rfl hR ds post ⟨c, hs, rfl, ok, hp⟩
  show SUs X g [some (.dat (metD c hs)), none, none, none, none] _ _
  refine su_cons (su_call L 1 (post := fun b => ∃ l, Met c.length l ∧ b = .fdc (fE l)) G hr (pau_cons (pu_var L.toLo 0) pau_nil) ⟨c, hs, rfl, ok, fun l hm => ⟨l, hm, rfl⟩⟩ (fun b ⟨l, _, e⟩ => by rw [e]; rfl) ?_)
  rintro b ⟨l, hm, rfl⟩
  show SUs X g [some (.dat (metD c hs)), some (.fdc (fE l)), none, none, none] _ _
  have hmost := hm.most ok.most
  refine su_one (s_retE (d' := .lst (rowsD l c.length)) (pu_of_pn (pn_lc L.toLo [("at", 2)] [1, 2] (fun ρ d => ρ.set 2 (some (.dat d))) (rngF l) (piu_range L.toLo (u_lenM (fn := stD) L.toLo T (pu_ixT (pu_var L.toLo 0) pu_int rfl)) T.range (by omega) (by have := ok.most; omega)) (by intro i hi; simp at hi; subst hi; rfl) (fun d => rfl) (fun s H Cc cl fp H0 R L' d hd ρ' e' => ?_) ?_)) ?_ (hp l hm))
  · subst e'
    obtain ⟨i, _, rfl⟩ := List.mem_map.mp hd
    refine ⟨pgu_name L' 2 (.inl (by rfl)), ptsu_nil, fun r hr' => ?_⟩
    obtain rfl : D.lst ((rowM l i).map iD) = r := by
      have z : some (D.lst ((rowM l ((i : Int)).toNat).map iD)) = some r := hr'
      rw [Int.toNat_natCast] at z
      exact Option.some.inj z
    refine pu_of_pn (pn_sortH L' L.hu ?_ (fun h hh => good_ne (selL_good hm hh)) (by have := selL_length l i; rw [sizeLine_eq]; omega) T.sorted)
    rw [← selF_l]
    have e : (fE l).map (fun p => keyD p.1) = l.map fun p => kD p.1 := by
      unfold fE
      rw [List.map_map]
      exact List.map_congr_left fun p _ => keyD_kOf p.1
    rw [← e]
    refine pu_of_pn (pn_lc L' [("step", 3), ("holds", 4)] [2, 3, 4] (fun ρ d => match d with | .tup [a, b] => (ρ.set 3 (some (.dat a))).set 4 (some (.dat b)) | _ => ρ) (selF i) (piu_fdc L' 1 (kvs := fE l)) (by intro i hi; simp at hi; rcases hi with rfl | rfl <;> rfl) (by intro d; split <;> rfl) (fun s2 H2 Cc2 cl2 fp2 H02 R2 L2' d hd ρ' e' => ?_) ?_)
    · subst e'
      rw [e] at hd
      obtain ⟨p, _, rfl⟩ := List.mem_map.mp hd
      have e0 : selF i (kD p.1) = if p.1.1 = i then some (iD p.1.2) else none := rfl
      refine ⟨pgu_pair L2'.calm (pgu_name L2' 3 (.inr (by rfl))) (pgu_name L2' 4 (.inr (by rfl))), ?_, fun r hr' => ?_⟩
      · have e1 : (selF i (kD p.1)).isSome = decide (p.1.1 = i) := by
          rw [e0]
          by_cases z : p.1.1 = i
          · rw [if_pos z, decide_eq_true z]; rfl
          · rw [if_neg z, decide_eq_false z]; rfl
        rw [e1]
        exact ptsu_one (ptu_cmp ou_eqI (pu_var L2' 3) (pu_var L2' 2))
      · have e2 : iD p.1.2 = r := by
          rw [e0] at hr'
          split at hr'
          · exact Option.some.inj hr'
          · cases hr'
        subst e2
        exact pu_var L2' 4
    · rw [e, List.length_map, sizeLine_eq]; omega
  · rw [List.length_map, List.length_range, sizeLine_eq]; have := ok.most; omega
  · rw [← rngF_r]
    congr 2
end
end C66
end TD13
section TD14
set_option Elab.async false
set_option linter.all false
set_option autoImplicit false
set_option maxRecDepth 100000
set_option maxHeartbeats 4000000
namespace C66
open PySem PySem.Spec L2
/-! ### the plain side -/
def hgtF : D → Option D
  | .lst [] => some .non
  | .lst (d :: _) => some d
  | _ => none
def cellOf : List (List Int) → Cell
  | [] => .non
  | h :: _ => .hol h
theorem hgt_rows (l : List Ent) (n : Nat) : (rowsD l n).filterMap hgtF = ((List.range n).map fun i => cellOf (rowM l i)).map cellD := by
  unfold rowsD
  induction List.range n with
  | nil => rfl
  | cons a r ih =>
    rw [List.map_cons, List.filterMap_cons, ih, List.map_cons, List.map_cons]
    cases rowM l a <;> rfl
section
variable {P : Program} {w : World} {K : PySem.W.Frag} {mg : Str → Option Value} {base : Heap} {C : Addr} {Tb : List (Addr × Str)}
/-- a list as a test -/
theorem ptu_truthL {X : Cx} {g : Gm} {ρ ρ1 : Rho} {e : Expr} {ds : List D} (h : PU X g ρ e ρ1 (.lst ds)) (he : ∀ whole, isTrue e X.env whole = (do let v ← whole; standAt e.pos; holding [v] (truthy v)) := by intro _; rfl) : PTU X g ρ e ρ1 (!ds.isEmpty) :=
  pt_weak (pt_truth h he) fun σ H Q q => ⟨q.1, fun v H1 E1 x1 r1 => by
    cases r1 with
    | @lst a us _ s r =>
      refine ⟨!us.isEmpty, .inl ⟨us, s.sq, rfl⟩, ?_⟩
      have e : us.isEmpty = ds.isEmpty := by cases r <;> rfl
      rw [e]
      exact q.2 H1 E1 x1⟩
/-! hold_table -/
abbrev nHoldT : List Str := ["house", "name", "word", "method", "found", "at", "some"]
theorem scHoldT : FnScope nHoldT ["house", "name", "word"] (defScope (topS 60)) := ⟨rfl, rfl, rfl, by decide +kernel, rfl, by decide +kernel, by decide +kernel⟩
def preHoldT : List D → (Bd → Prop) → Prop := fun ds post => ∃ c hs, ds = [.hou (clsD c hs), .str "box", .str "ma"] ∧ CodeOk c hs ∧ post (.dat .non) ∧ ∀ cs : List Cell, cs.length = c.length → (∀ x ∈ cs, GoodC x) → post (.dat (.tup (cs.map cellD)))
theorem lowI_row {hs : List (List Int)} : (D.lst (hs.map iD)).low 2 := low_lst fun d hd => by
  obtain ⟨h, _, rfl⟩ := List.mem_map.mp hd
  exact low_iD
theorem ok_hold_table {f : Addr} {fd : FuncData} (F : Fun K "hold_table" "hold_table" (topS 60) f fd) (T : Txt K C mg) (G1 : Dfn P w K mg base C Tb 4 "need_plain" preNeedP) (G2 : Dfn P w K mg base C Tb 4 "met_at" preMetA) (G3 : Dfn P w K mg base C Tb 2 "is_astray" preAstr) :
    FnOk P w K mg base CX0 5 f fd ["house", "name", "word"] (spF C Tb P w K preHoldT) := by
  refine fn_data [0, 1, 2, 3, 4, 5, 6] F scHoldT (by decide +kernel) (fun ds post ⟨_, _, e, _⟩ => by rw [e]; rfl) (by decide) ?_
  rintro X rfl rfl rfl rfl rfl L hr g rfl rfl hR ds post ⟨c, hs, rfl, ok, hp1, hp2⟩
  show SUs X g [some (.dat (.hou (clsD c hs))), some (.dat (.str "box")), some (.dat (.str "ma")), none, none, none, none] _ _
  refine s_set L 3 (d := metD c hs) (pu_call L.toLo G1 hr (pau_cons (pu_var L.toLo 0) (pau_cons (pu_var L.toLo 1) (pau_cons (pu_var L.toLo 2) pau_nil))) ⟨c, hs, rfl, ok, fun b h => h⟩) ?_
  show SUs X g [some (.dat (.hou (clsD c hs))), some (.dat (.str "box")), some (.dat (.str "ma")), some (.dat (metD c hs)), none, none, none] _ _
  refine su_cons (su_call L 4 (post := fun b => ∃ l, Met c.length l ∧ b = .dat (.lst (rowsD l c.length))) G2 hr (pau_cons (pu_var L.toLo 3) pau_nil) ⟨c, hs, rfl, ok, fun l hm => ⟨l, hm, rfl⟩⟩ (fun b ⟨l, _, e⟩ => by rw [e]; rfl) ?_)
  rintro b ⟨l, hm, rfl⟩
  show SUs X g [some (.dat (.hou (clsD c hs))), some (.dat (.str "box")), some (.dat (.str "ma")), some (.dat (metD c hs)), some (.dat (.lst (rowsD l c.length))), none, none] _ _
  have hn20 := ok.most
  refine su_cons (su_for L (S := [5, 6]) (fun ρ d => match d with | .tup [a, b] => (ρ.set 5 (some (.dat a))).set 6 (some (.dat b)) | _ => ρ) (fun _ ρ => ∃ y z, ρ = [some (.dat (.hou (clsD c hs))), some (.dat (.str "box")), some (.dat (.str "ma")), some (.dat (metD c hs)), some (.dat (.lst (rowsD l c.length))), y, z])
    (piu_enumL L.toLo (ds := rowsD l c.length) (pu_var L.toLo 4) T.enumerate) (fun i d ρ' hd _ => ?_) ⟨none, none, rfl⟩ (fun i d ρ' hd hP => ?_) (fun ρ' hP => ?_))
  · obtain ⟨y, _, rfl⟩ := pairsD_at hd
    exact pgu_pair L.calm (pgu_name L.toLo 5 (.inl (L.fn _)) (hS := by decide)) (pgu_name L.toLo 6 (.inl (L.fn _)) (hS := by decide))
  · obtain ⟨y, hy, rfl⟩ := pairsD_at hd
    obtain ⟨y1, y2, rfl⟩ := hP
    have hil : i < c.length := by
      have := (List.getElem?_eq_some_iff.mp hy).1
      unfold rowsD at this
      rwa [List.length_map, List.length_range] at this
    have ey : y = .lst ((rowM l i).map iD) := by
      unfold rowsD at hy
      rw [List.getElem?_map, List.getElem?_range hil] at hy
      exact (Option.some.inj hy).symm
    subst ey
    have hi : c[i]? = some c[i] := List.getElem?_eq_getElem hil
    show SUs X g [some (.dat (.hou (clsD c hs))), some (.dat (.str "box")), some (.dat (.str "ma")), some (.dat (metD c hs)), some (.dat (.lst (rowsD l c.length))), some (.dat (.int i)), some (.dat (.lst ((rowM l i).map iD)))] _ _
    have hgd := fun h => rowM_good hm (i := i) (h := h)
    generalize rowM l i = row at hgd
    have hlow := lowI_row (hs := row)
    refine s_ifR (k := decide ((1 : Int) < ((row.map iD).length : Nat)) || (!PyData.eqv (D.lst (row.map iD)).py (D.lst []).py && (match row with | [] => false | h :: _ => astrayB c hs i c[i] h)))
      (ptu_of (pwu_or (ptu_cmp ou_gt (u_lenL L.toLo T (pu_var L.toLo 6)) pu_int) fun _ => pwu_or1 (ptu_of (pwu_and (ptu_cmp (ou_neD L.hu (low_shp hlow (by decide)) (by decide +kernel)) (pu_var L.toLo 6) (pu_lst pau_nil)) fun hh => ?_)))) (fun _ => su_one (s_ret pu_non hp1)) (fun _ => su_nil ⟨_, _, rfl⟩)
    cases row with
    | nil => rw [List.map_nil, eqv_nilL] at hh; cases hh
    | cons h t => exact pwu_and1 (ptu_val (pu_call L.toLo G3 (hr.mono (by decide)) (pau_cons (pu_var L.toLo 3) (pau_cons (pu_var L.toLo 5) (pau_cons (pu_ixL (ds := iD h :: t.map iD) (pu_var L.toLo 6) pu_int rfl) pau_nil))) ⟨c, hs, i, c[i], h, rfl, ok, hi, (hgd h List.mem_cons_self).1, fun b h => h⟩))
  · obtain ⟨y1, y2, rfl⟩ := hP
    refine su_forget 6 ?_
    show SUs X g [some (.dat (.hou (clsD c hs))), some (.dat (.str "box")), some (.dat (.str "ma")), some (.dat (metD c hs)), some (.dat (.lst (rowsD l c.length))), y1, none] _ _
    refine su_one (s_retE (pu_callTy L.toLo cu_tup T.tuple (by decide +kernel) (pau_cons (pu_of_pn (pn_lc L.toLo [("some", 6)] [6] (fun ρ d => ρ.set 6 (some (.dat d))) hgtF (piu_lst (pu_var L.toLo 4)) (by intro i hi; simp at hi; subst hi; rfl) (fun d => rfl) (fun s H Cc cl fp H0 R L' d hd ρ' e' => ?_) ?_)) pau_nil)) (congrArg D.tup (hgt_rows l c.length)) (hp2 _ (by rw [List.length_map, List.length_range]) fun x hx => ?_))
    · subst e'
      obtain ⟨i, hi, rfl⟩ := List.mem_map.mp hd
      refine ⟨pgu_name L' 6 (.inr (by rfl)), ?_, fun r hr' => ?_⟩
      · cases rowM l i <;> exact ptsu_nil
      · have hlow := lowI_row (hs := rowM l i)
        refine pu_ifE (k := !PyData.eqv (D.lst ((rowM l i).map iD)).py (D.lst []).py) (ptu_cmp (ou_neD L.hu (low_shp hlow (by decide)) (by decide +kernel)) (pu_var L' 6) (pu_lst pau_nil)) (fun hh => ?_) (fun hh => ?_)
        · revert hh hr'
          generalize rowM l i = row
          intro hr' hh
          cases row with
          | nil => rw [List.map_nil, eqv_nilL] at hh; cases hh
          | cons h t =>
            cases hr'
            exact pu_ixL (ds := iD h :: t.map iD) (pu_var L' 6) pu_int rfl
        · revert hh hr'
          generalize rowM l i = row
          intro hr' hh
          cases row with
          | nil => cases hr'; exact pu_non
          | cons h t => rw [List.map_cons, eqv_nilL] at hh; cases hh
    · unfold rowsD
      rw [List.length_map, List.length_range, sizeLine_eq]; omega
    · obtain ⟨i, hi, rfl⟩ := List.mem_map.mp hx
      have hgd := fun h => rowM_good hm (i := i) (h := h)
      revert hgd
      cases rowM l i with
      | nil => intro _; trivial
      | cons h t => intro hgd; exact hgd h List.mem_cons_self
end
end C66
end TD14
section TD15
set_option Elab.async false
set_option linter.all false
set_option autoImplicit false
set_option maxRecDepth 100000
set_option maxHeartbeats 4000000
namespace C66
open PySem PySem.Spec L2
/-! ### the plain side -/
def areB : Cell → Bool
  | .hol h => decide (h.length = 4) && h.all fun i => decide (0 ≤ i) && decide (i ≤ 6)
  | _ => false
def okCell (x : Cell) : Bool := decide (x = .non) || areB x
def okAt (c : List Stp) (hs : List Hnd) (cs : List Cell) (i : Nat) : Bool := match cs[i]?, c[i]? with
  | some (.hol h), some s => !astrayB c hs i s h && (nextL hs i s).all fun l => decide (cs[l.toNat]? = some (.hol (behindL c i s h l)))
  | _, _ => true
def tableB (c : List Stp) (hs : List Hnd) (cs : List Cell) : Bool := decide (cs.length = c.length) && (decide (cs[0]? = some (.hol zer)) && (cs.all okCell && (List.range c.length).all (okAt c hs cs)))
/-- what the law judges -/
inductive Val where
  | tab (cs : List Cell)
  | lst (cs : List Cell)
  | three
  | text
  | edic
def valD : Val → D
  | .tab cs => .tup (cs.map cellD)
  | .lst cs => .lst (cs.map cellD)
  | .three => .int 3
  | .text => .str "table"
  | .edic => .edc
def judge (c : List Stp) (hs : List Hnd) : Val → Bool
  | .tab cs => tableB c hs cs
  | _ => false
def areD : D → Bool
  | .tup ds => decide (ds.length = 4) && ds.all fun d => isInD d 0 6
  | _ => false
theorem areD_cell (x : Cell) : areD (cellD x) = areB x := by
  cases x with
  | non => rfl
  | hol h =>
    show (decide ((h.map D.int).length = 4) && (h.map D.int).all _) = _
    rw [List.length_map, List.all_map]
    rfl
  | lst h => rfl
  | tru => rfl
  | nons => rfl
theorem isNon_cell (x : Cell) : isNon (cellD x) = decide (x = .non) := by
  cases x <;> first | rfl | (exact (decide_eq_false (fun z => nomatch z)).symm)
theorem low_cell (x : Cell) : (cellD x).low 1 := by
  cases x with
  | non => exact low_mono low_non (by decide)
  | hol h => exact low_iD
  | lst h =>
    refine low_lst fun d hd => ?_
    obtain ⟨x, _, rfl⟩ := List.mem_map.mp hd
    exact low_int
  | tru =>
    refine low_tup fun d hd => ?_
    simp only [List.mem_cons, List.not_mem_nil, or_false] at hd
    rcases hd with rfl | rfl | rfl | rfl
    · exact low_bl
    all_goals exact low_int
  | nons =>
    refine low_tup fun d hd => ?_
    simp only [List.mem_cons, List.not_mem_nil, or_false] at hd
    rcases hd with rfl | rfl | rfl | rfl <;> exact low_non
theorem eqv_non {h : List Int} : PyData.eqv D.non.py (iD h).py = false := by
  show PyData.eqv .none (.tuple _) = false
  rw [PyData.eqv]
theorem eqv_zer (x : Cell) : PyData.eqv (cellD x).py (iD zer).py = decide (x = .hol zer) := by
  cases x with
  | non => exact eqv_non.trans (decide_eq_false (fun z => nomatch z)).symm
  | hol h =>
    show PyData.eqv (iD h).py (iD zer).py = _
    rw [eqv_iD]
    exact decide_eq_decide.mpr ⟨fun e => by rw [e], fun e => by injection e⟩
  | lst h =>
    show PyData.eqv (.list _) (.tuple _) = _
    rw [PyData.eqv]
    exact (decide_eq_false (fun z => nomatch z)).symm
  | tru =>
    show PyData.eqv (.tuple [.bool true, .int 0, .int 0, .int 0]) (.tuple [.int 0, .int 0, .int 0, .int 0]) = _
    rw [PyData.eqv, PyData.eqvAll, PyData.eqv]
    exact (decide_eq_false (fun z => nomatch z)).symm
  | nons =>
    show PyData.eqv (.tuple [.none, .none, .none, .none]) (.tuple [.int 0, .int 0, .int 0, .int 0]) = _
    rw [PyData.eqv, PyData.eqvAll, PyData.eqv]
    exact (decide_eq_false (fun z => nomatch z)).symm
theorem eqv_good {x : Cell} (hx : okCell x = true) (h : List Int) : PyData.eqv (cellD x).py (iD h).py = decide (x = .hol h) := by
  cases x with
  | non => exact eqv_non.trans (decide_eq_false (fun z => nomatch z)).symm
  | hol h' =>
    show PyData.eqv (iD h').py (iD h).py = _
    rw [eqv_iD]
    exact decide_eq_decide.mpr ⟨fun e => by rw [e], fun e => by injection e⟩
  | lst h => cases hx
  | tru => cases hx
  | nons => cases hx
theorem okCell_hol {h : List Int} (hx : okCell (.hol h) = true) : GoodH h := by
  have e : okCell (.hol h) = areB (.hol h) := by
    show (decide (Cell.hol h = Cell.non) || _) = _
    rw [decide_eq_false (fun z => nomatch z)]; rfl
  rw [e] at hx
  have hx : (decide (h.length = 4) && h.all fun i => decide (0 ≤ i) && decide (i ≤ 6)) = true := hx
  rw [Bool.and_eq_true, List.all_eq_true] at hx
  refine ⟨of_decide_eq_true hx.1, fun x hm => ?_⟩
  have := hx.2 x hm
  rw [Bool.and_eq_true] at this
  exact ⟨of_decide_eq_true this.1, of_decide_eq_true this.2⟩
theorem nohou_cell (x : Cell) : nohou (cellD x) = true := by cases x <;> rfl
section
variable {P : Program} {w : World} {K : PySem.W.Frag} {mg : Str → Option Value} {base : Heap} {C : Addr} {Tb : List (Addr × Str)}
/-! are_holds -/
abbrev nAreH : List Str := ["value", "many"]
theorem scAreH : FnScope nAreH ["value"] (defScope (topS 61)) := ⟨rfl, rfl, rfl, by decide +kernel, rfl, by decide +kernel, by decide +kernel⟩
def preAreH : List D → (Bd → Prop) → Prop := fun ds post => ∃ x : Cell, ds = [cellD x] ∧ ∀ b, b = .dat (.bl (areB x)) → post b
def inF : D → Option D := fun d => some (.bl (isInD d 0 6))
theorem inF_map (ds : List D) : ds.filterMap inF = (ds.map fun d => isInD d 0 6).map D.bl := by
  induction ds with
  | nil => rfl
  | cons d r ih => rw [List.filterMap_cons, List.map_cons, List.map_cons, ih]; rfl
theorem ok_are_holds {f : Addr} {fd : FuncData} (F : Fun K "are_holds" "are_holds" (topS 61) f fd) (T : Txt K C mg) (G1 : Dfn P w K mg base C Tb 1 "is_in" preIsIn) : FnOk P w K mg base CX0 2 f fd ["value"] (spF C Tb P w K preAreH) := by
  refine fn_data [0] F scAreH (by decide +kernel) (fun ds post ⟨_, e, _⟩ => by rw [e]; rfl) (by decide) ?_
  rintro X rfl rfl rfl rfl rfl L hr g rfl rfl hR ds post ⟨x, rfl, hp⟩
  show SUs X g [some (.dat (cellD x)), none] _ _
  replace hp : post (.dat (.bl (areB x))) := hp _ rfl
  rw [← areD_cell] at hp
  have hnh := nohou_cell x
  have hnt : ∀ ds', cellD x = .tup ds' → ∀ d ∈ ds', nohou d = true := fun ds' e d hd => by
    cases x with
    | non => cases e
    | hol h =>
      have e : h.map D.int = ds' := by injection e
      rw [← e] at hd
      obtain ⟨i, _, rfl⟩ := List.mem_map.mp hd
      rfl
    | lst h => cases e
    | tru =>
      injection e with e
      rw [← e] at hd
      simp only [List.mem_cons, List.not_mem_nil, or_false] at hd
      rcases hd with rfl | rfl | rfl | rfl <;> rfl
    | nons =>
      injection e with e
      rw [← e] at hd
      simp only [List.mem_cons, List.not_mem_nil, or_false] at hd
      rcases hd with rfl | rfl | rfl | rfl <;> rfl
  have hnl : isD "tuple" (cellD x) = true → ∃ ds', cellD x = .tup ds' := fun h => by
    cases x with
    | non => cases h
    | hol h' => exact ⟨_, rfl⟩
    | lst h' => cases h
    | tru => exact ⟨_, rfl⟩
    | nons => exact ⟨_, rfl⟩
  generalize cellD x = v at *
  refine s_ifR (k := !isD "tuple" v || (match v with | .tup ds => !decide ((ds.length : Int) = 4) | _ => false)) (ptu_of (pwu_or (ptu_not (ptu_val (i_tuple L.toLo T (pu_var L.toLo 0) hnh))) fun h => ?_)) (fun h => ?_) (fun h => ?_)
  · obtain ⟨ds', rfl⟩ := hnl (by simpa using h)
    exact pwu_or1 (ptu_cmp ou_neI (u_lenT L.toLo T (pu_var L.toLo 0)) (pu_glob L.toLo T.LOCALS))
  · refine su_one (s_ret pu_bl ?_)
    have e : areD v = false := by
      cases v with
      | tup ds =>
        have h : (false || !decide ((ds.length : Int) = 4)) = true := h
        show (decide (ds.length = 4) && _) = false
        rw [decide_eq_false (fun z => by rw [z] at h; cases h)]
        rfl
      | _ => rfl
    rw [e] at hp
    exact hp
  · obtain ⟨ds', rfl⟩ := hnl (by
      cases q : isD "tuple" v with
      | true => rfl
      | false => rw [q] at h; cases h)
    have h4 : ds'.length = 4 := by
      have h : (false || !decide ((ds'.length : Int) = 4)) = false := h
      by_cases z : (ds'.length : Int) = 4
      · omega
      · rw [decide_eq_false z] at h; cases h
    have e : areD (.tup ds') = (ds'.map fun d => isInD d 0 6).all id := by
      show (decide (ds'.length = 4) && ds'.all fun d => isInD d 0 6) = _
      rw [decide_eq_true h4, List.all_map]
      rfl
    rw [e] at hp
    refine su_one (s_ret (pu_callB L.toLo (cu_all L.calm) T.all (by decide +kernel) (pau_cons ?_ pau_nil)) hp)
    rw [← inF_map]
    refine pu_of_pn (pn_lc L.toLo [("many", 1)] [1] (fun ρ d => ρ.set 1 (some (.dat d))) inF (piu_tup (pu_var L.toLo 0)) (by intro i hi; simp at hi; subst hi; rfl) (fun d => rfl) (fun s H Cc cl fp H0 R L' d hd ρ' e' => ?_) (by rw [h4]; decide))
    subst e'
    exact ⟨pgu_name L' 1 (.inr (by rfl)), ptsu_nil, fun r hr' => by
      cases hr'
      exact pu_call L' G1 hr (pau_cons (pu_var L' 1) (pau_cons pu_int (pau_cons (pu_glob L' T.MOST_HOLDS) pau_nil))) ⟨d, 0, 6, rfl, hnt ds' rfl d hd, fun b h => h⟩⟩
end
end C66
end TD15
section TD16
set_option Elab.async false
set_option linter.all false
set_option autoImplicit false
set_option maxRecDepth 100000
set_option maxHeartbeats 4000000
namespace C66
open PySem PySem.Spec L2
theorem cellD_get {cs : List Cell} {i : Nat} {x : Cell} (h : cs[i]? = some x) : (cs.map cellD)[i]? = some (cellD x) := by rw [List.getElem?_map, h]; rfl
def okF : D → Option D := fun d => some (.bl (isNon d || areD d))
theorem okF_map (cs : List Cell) : (cs.map cellD).filterMap okF = (cs.map okCell).map D.bl := by
  induction cs with
  | nil => rfl
  | cons x r ih =>
    rw [List.map_cons, List.filterMap_cons, List.map_cons, List.map_cons, ih]
    show D.bl (isNon (cellD x) || areD (cellD x)) :: _ = _
    rw [isNon_cell, areD_cell]
    rfl
/-- the next places that the table tells otherwise -/
def badF (c : List Stp) (cs : List Cell) (i : Nat) (s : Stp) (h : List Int) : D → Option D
  | .int l => if cs[l.toNat]? = some (.hol (behindL c i s h l)) then none else some (.int l)
  | _ => none
theorem badF_nil (c : List Stp) (cs : List Cell) (i : Nat) (s : Stp) (h : List Int) : ∀ ls : List Int, ((ls.map D.int).filterMap (badF c cs i s h)).isEmpty = ls.all fun l => decide (cs[l.toNat]? = some (.hol (behindL c i s h l)))
  | [] => rfl
  | l :: r => by
    have e0 : badF c cs i s h (.int l) = if cs[l.toNat]? = some (.hol (behindL c i s h l)) then none else some (.int l) := rfl
    rw [List.map_cons, List.filterMap_cons, List.all_cons, e0, ← badF_nil c cs i s h r]
    by_cases e : cs[l.toNat]? = some (.hol (behindL c i s h l))
    · rw [if_pos e, decide_eq_true e]; rfl
    · rw [if_neg e, decide_eq_false e]; rfl
section
variable {P : Program} {w : World} {K : PySem.W.Frag} {mg : Str → Option Value} {base : Heap} {C : Addr} {Tb : List (Addr × Str)}
/-! shows_table -/
abbrev nShow : List Str := ["house", "name", "word", "value", "method", "at", "holds", "one"]
theorem scShow : FnScope nShow ["house", "name", "word", "value"] (defScope (topS 62)) := ⟨rfl, rfl, rfl, by decide +kernel, rfl, by decide +kernel, by decide +kernel⟩
def preShow : List D → (Bd → Prop) → Prop := fun ds post => ∃ c hs v, ds = [.hou (clsD c hs), .str "box", .str "ma", valD v] ∧ CodeOk c hs ∧ ∀ b, b = .dat (.bl (judge c hs v)) → post b
theorem ok_shows_table {f : Addr} {fd : FuncData} (F : Fun K "shows_table" "shows_table" (topS 62) f fd) (T : Txt K C mg) (G1 : Dfn P w K mg base C Tb 4 "need_plain" preNeedP) (G2 : Dfn P w K mg base C Tb 2 "are_holds" preAreH) (G3 : Dfn P w K mg base C Tb 2 "is_astray" preAstr)
    (G4 : Dfn P w K mg base C Tb 2 "next_steps" preNext) (G5 : Dfn P w K mg base C Tb 2 "holds_behind" preBeh) : FnOk P w K mg base CX0 5 f fd ["house", "name", "word", "value"] (spF C Tb P w K preShow) := by
  refine fn_data [0, 1, 2, 3, 4, 5, 6] F scShow (by decide +kernel) (fun ds post ⟨_, _, _, e, _⟩ => by rw [e]; rfl) (by decide) ?_
  rintro X rfl rfl rfl rfl rfl L hr g rfl rfl hR ds post ⟨c, hs, v, rfl, ok, hp⟩
  show SUs X g [some (.dat (.hou (clsD c hs))), some (.dat (.str "box")), some (.dat (.str "ma")), some (.dat (valD v)), none, none, none, none] _ _
  replace hp : post (.dat (.bl (judge c hs v))) := hp _ rfl
  refine s_set L 4 (d := metD c hs) (pu_call L.toLo G1 hr (pau_cons (pu_var L.toLo 0) (pau_cons (pu_var L.toLo 1) (pau_cons (pu_var L.toLo 2) pau_nil))) ⟨c, hs, rfl, ok, fun b h => h⟩) ?_
  show SUs X g [some (.dat (.hou (clsD c hs))), some (.dat (.str "box")), some (.dat (.str "ma")), some (.dat (valD v)), some (.dat (metD c hs)), none, none, none] _ _
  have hn1 := ok.pos
  have hn20 := ok.most
  have hnt : ∀ v', (∀ cs, v' ≠ .tab cs) → isD "tuple" (valD v') = false ∧ nohou (valD v') = true ∧ judge c hs v' = false := fun v' h => by
    cases v' with
    | tab cs => exact absurd rfl (h cs)
    | _ => exact ⟨rfl, rfl, rfl⟩
  by_cases hv : ∃ cs, v = .tab cs
  case neg =>
    obtain ⟨h1, h2, h3⟩ := hnt v fun cs e => hv ⟨cs, e⟩
    rw [h3] at hp
    refine s_ifT (k := !isD "tuple" (valD v) || false) (ptu_of (pwu_or (ptu_not (ptu_val (i_tuple L.toLo T (pu_var L.toLo 3) h2))) fun h => by rw [h1] at h; cases h)) (by rw [h1]; rfl) ?_
    exact su_one (s_ret pu_bl hp)
  obtain ⟨cs, rfl⟩ := hv
  show SUs X g [some (.dat (.hou (clsD c hs))), some (.dat (.str "box")), some (.dat (.str "ma")), some (.dat (.tup (cs.map cellD))), some (.dat (metD c hs)), none, none, none] _ _
  replace hp : post (.dat (.bl (tableB c hs cs))) := hp
  refine s_ifR (k := !decide (cs.length = c.length) || !decide (cs[0]? = some (.hol zer))) ?_ (fun h => ?_) (fun h => ?_)
  · have e : (!decide (cs.length = c.length) || !decide (cs[0]? = some (.hol zer))) = (!isD "tuple" (.tup (cs.map cellD)) || (!decide ((cs.length : Int) = (c.length : Int)) || !decide (cs[0]? = some (.hol zer)))) := by
      show _ = (false || _)
      rw [Bool.false_or, show decide ((cs.length : Int) = (c.length : Int)) = decide (cs.length = c.length) from decide_eq_decide.mpr Int.ofNat_inj]
    rw [e]
    refine ptu_of (pwu_or (ptu_not (ptu_val (i_tuple L.toLo T (pu_var L.toLo 3)))) fun _ => pwu_or (ptu_cmp ou_neI (u_lenM (fn := cellD) L.toLo T (pu_var L.toLo 3)) (u_lenM (fn := stD) L.toLo T (pu_ixT (pu_var L.toLo 4) pu_int rfl))) fun hl => pwu_or1 ?_)
    have hlen : cs.length = c.length := by
      by_cases z : (cs.length : Int) = (c.length : Int)
      · omega
      · rw [decide_eq_false z] at hl; cases hl
    obtain ⟨x, r, rfl⟩ : ∃ x r, cs = x :: r := by
      cases cs with
      | nil => have : (0 : Nat) = c.length := hlen; omega
      | cons x r => exact ⟨x, r, rfl⟩
    have e2 : decide ((x :: r)[0]? = some (.hol zer)) = PyData.eqv (cellD x).py (iD zer).py := by
      rw [eqv_zer]
      exact decide_eq_decide.mpr ⟨fun z => by injection z, fun z => by rw [z]; rfl⟩
    rw [e2]
    exact ptu_cmp (ou_neD (d2 := iD zer) L.hu (low_shp (low_cell x) (by decide)) (low_shp low_iD (by decide))) (pu_ixT (ds := cellD x :: r.map cellD) (pu_var L.toLo 3) pu_int rfl) (pu_glob L.toLo T.NOTHING)
  · have e : tableB c hs cs = false := by
      unfold tableB
      by_cases z : cs.length = c.length
      · rw [decide_eq_true z] at h ⊢
        have z2 : decide (cs[0]? = some (Cell.hol zer)) = false := by
          cases q : decide (cs[0]? = some (Cell.hol zer)) with
          | false => rfl
          | true => rw [q] at h; cases h
        rw [z2]; rfl
      · rw [decide_eq_false z]; rfl
    rw [e] at hp
    exact su_one (s_ret pu_bl hp)
  rw [Bool.or_eq_false_iff] at h
  have hlen : cs.length = c.length := by
    have := h.1
    by_cases z : cs.length = c.length
    · exact z
    · rw [decide_eq_false z] at this; cases this
  have hz0 : decide (cs[0]? = some (.hol zer)) = true := by
    have := h.2
    cases q : decide (cs[0]? = some (Cell.hol zer)) with
    | true => rfl
    | false => rw [q] at this; cases this
  have etb : tableB c hs cs = (cs.all okCell && (List.range c.length).all (okAt c hs cs)) := by
    unfold tableB
    rw [decide_eq_true hlen, hz0]; rfl
  refine s_ifR (k := !(cs.map okCell).all id) (ptu_not (ptu_val (pu_callB L.toLo (cu_all L.calm) T.all (by decide +kernel) (pau_cons ?_ pau_nil)))) (fun h => ?_) (fun h => ?_)
  · rw [← okF_map]
    refine pu_of_pn (pn_lc L.toLo [("holds", 6)] [6] (fun ρ d => ρ.set 6 (some (.dat d))) okF (piu_tup (pu_var L.toLo 3)) (by intro i hi; simp at hi; subst hi; rfl) (fun d => rfl) (fun s H Cc cl fp H0 R L' d hd ρ' e' => ?_) (by rw [List.length_map, sizeLine_eq]; omega))
    subst e'
    obtain ⟨x, hx, rfl⟩ := List.mem_map.mp hd
    refine ⟨pgu_name L' 6 (.inr (by rfl)), ptsu_nil, fun r hr' => ?_⟩
    cases hr'
    exact pu_or (pu_isN (pu_var L' 6)) fun _ => pu_one (pu_call L' G2 (hr.mono (by decide)) (pau_cons (pu_var L' 6) pau_nil) ⟨x, rfl, fun b h => by rw [areD_cell]; exact h⟩)
  · have e : tableB c hs cs = false := by
      rw [etb]
      have : cs.all okCell = false := by
        rw [List.all_map] at h
        cases q : cs.all okCell with
        | false => rfl
        | true =>
          have q' : cs.all (id ∘ okCell) = true := q
          rw [q'] at h; cases h
      rw [this]; rfl
    rw [e] at hp
    exact su_one (s_ret pu_bl hp)
  have hall : cs.all okCell = true := by
    rw [List.all_map] at h
    cases q : cs.all okCell with
    | true => rfl
    | false =>
      have q' : cs.all (id ∘ okCell) = false := q
      rw [q'] at h; cases h
  have hgood : ∀ x ∈ cs, okCell x = true := List.all_eq_true.mp hall
  rw [etb, hall, Bool.true_and] at hp
  refine su_cons (su_for L (S := [5, 6]) (fun ρ d => match d with | .tup [a, b] => (ρ.set 5 (some (.dat a))).set 6 (some (.dat b)) | _ => ρ) (fun i ρ => (∃ y z, ρ = [some (.dat (.hou (clsD c hs))), some (.dat (.str "box")), some (.dat (.str "ma")), some (.dat (.tup (cs.map cellD))), some (.dat (metD c hs)), y, z, none]) ∧ ∀ j < i, okAt c hs cs j = true)
    (piu_enumT L.toLo (ds := cs.map cellD) (pu_var L.toLo 3) T.enumerate) (fun i d ρ' hd _ => ?_) ⟨⟨none, none, rfl⟩, fun j hj => absurd hj (Nat.not_lt_zero _)⟩ (fun i d ρ' hd hP => ?_) (fun ρ' hP => ?_))
  · obtain ⟨y, _, rfl⟩ := pairsD_at hd
    exact pgu_pair L.calm (pgu_name L.toLo 5 (.inl (L.fn _)) (hS := by decide)) (pgu_name L.toLo 6 (.inl (L.fn _)) (hS := by decide))
  · obtain ⟨y, hy, rfl⟩ := pairsD_at hd
    obtain ⟨⟨y1, y2, rfl⟩, hprev⟩ := hP
    rw [List.getElem?_map] at hy
    cases hx : cs[i]? with
    | none => rw [hx] at hy; cases hy
    | some x =>
      rw [hx] at hy
      cases hy
      have hil : i < c.length := by rw [← hlen]; exact (List.getElem?_eq_some_iff.mp hx).1
      have hi : c[i]? = some c[i] := List.getElem?_eq_getElem hil
      have hxg := hgood x (List.mem_of_getElem? hx)
      have nxt : okAt c hs cs i = true → ∀ j < i + 1, okAt c hs cs j = true := fun h j hj => by
        rcases Nat.lt_succ_iff_lt_or_eq.mp hj with z | z
        · exact hprev j z
        · rw [z]; exact h
      have bad : okAt c hs cs i = false → post (.dat (.bl false)) := fun h => by
        have e : (List.range c.length).all (okAt c hs cs) = false := by
          rw [List.all_eq_false]
          exact ⟨i, List.mem_range.mpr hil, by rw [h]; exact Bool.false_ne_true⟩
        rw [e] at hp
        exact hp
      show SUs X g [some (.dat (.hou (clsD c hs))), some (.dat (.str "box")), some (.dat (.str "ma")), some (.dat (.tup (cs.map cellD))), some (.dat (metD c hs)), some (.dat (.int i)), some (.dat (cellD x)), none] _ _
      refine su_one (s_if (k := !isNon (cellD x)) (ptu_notN (pu_var L.toLo 6)) (fun hk => ?_) (fun hk => ?_))
      · obtain ⟨h, rfl⟩ : ∃ h, x = .hol h := by
          cases x with
          | hol h => exact ⟨h, rfl⟩
          | non => cases hk
          | lst h => cases hxg
          | tru => cases hxg
          | nons => cases hxg
        have hg := okCell_hol hxg
        have eok : okAt c hs cs i = (!astrayB c hs i c[i] h && (nextL hs i c[i]).all fun l => decide (cs[l.toNat]? = some (.hol (behindL c i c[i] h l)))) := by
          unfold okAt
          rw [hx, hi]
        show SUs X g [some (.dat (.hou (clsD c hs))), some (.dat (.str "box")), some (.dat (.str "ma")), some (.dat (.tup (cs.map cellD))), some (.dat (metD c hs)), some (.dat (.int i)), some (.dat (iD h)), none] _ _
        refine s_ifR (k := astrayB c hs i c[i] h) (ptu_val (pu_call L.toLo G3 (hr.mono (by decide)) (pau_cons (pu_var L.toLo 4) (pau_cons (pu_var L.toLo 5) (pau_cons (pu_var L.toLo 6) pau_nil))) ⟨c, hs, i, c[i], h, rfl, ok, hi, hg.1, fun b h => h⟩)) (fun ha => su_one (s_ret pu_bl (bad (by rw [eok, ha]; rfl)))) (fun ha => ?_)
        refine su_one (s_if (k := !(((nextL hs i c[i]).map D.int).filterMap (badF c cs i c[i] h)).isEmpty) (ptu_truthL (pu_of_pn (pn_lc L.toLo [("one", 7)] [3, 4, 5, 6, 7] (fun ρ d => ρ.set 7 (some (.dat d))) (badF c cs i c[i] h)
          (piu_lst (pu_call L.toLo G4 (hr.mono (by decide)) (pau_cons (pu_var L.toLo 4) (pau_cons (pu_var L.toLo 5) pau_nil)) ⟨c, hs, i, c[i], rfl, ok, hi, fun b h => h⟩)) (by intro i hi; simp at hi; subst hi; rfl) (fun d => rfl) (fun s H Cc cl fp H0 R L' d hd ρ' e' => ?_) ?_))) (fun hb => ?_) (fun hb => su_nil ⟨⟨_, _, rfl⟩, nxt ?_⟩))
        · subst e'
          obtain ⟨l, hl, rfl⟩ := List.mem_map.mp hd
          have hin := next_in ok hi hl
          have hlc : l.toNat < cs.length := by omega
          have hcl : cs[l.toNat]? = some cs[l.toNat] := List.getElem?_eq_getElem hlc
          have hgl := hgood cs[l.toNat] (List.getElem_mem hlc)
          have hdl : dAt (cs.map cellD) l = some (cellD cs[l.toNat]) := by
            unfold dAt
            rw [if_pos hin.1]
            exact cellD_get hcl
          have e0 : badF c cs i c[i] h (.int l) = if cs[l.toNat]? = some (.hol (behindL c i c[i] h l)) then none else some (.int l) := rfl
          have e1 : (badF c cs i c[i] h (.int l)).isSome = !PyData.eqv (cellD cs[l.toNat]).py (iD (behindL c i c[i] h l)).py := by
            rw [e0, eqv_good hgl, hcl]
            by_cases z : cs[l.toNat] = .hol (behindL c i c[i] h l)
            · rw [if_pos (by rw [z]), decide_eq_true z]; rfl
            · rw [if_neg (fun q => z (Option.some.inj q)), decide_eq_false z]; rfl
          refine ⟨pgu_name L' 7 (.inr (by rfl)), ?_, fun r hr' => ?_⟩
          · rw [e1]
            exact ptsu_one (ptu_cmp (ou_neD L.hu (low_shp (low_cell _) (by decide)) (low_shp low_iD (by decide))) (pu_ixT (pu_var L' 3) (pu_var L' 7) hdl) (pu_call L' G5 (hr.mono (by decide)) (pau_cons (pu_var L' 4) (pau_cons (pu_var L' 5) (pau_cons (pu_var L' 6) (pau_cons (pu_var L' 7) pau_nil)))) ⟨c, hs, i, c[i], h, l, rfl, ok, hi, hg.1, fun b h => h⟩))
          · have e2 : D.int l = r := by
              rw [e0] at hr'
              split at hr'
              · cases hr'
              · exact Option.some.inj hr'
            subst e2
            exact pu_var L' 7
        · have hf := few_next ok i c[i]
          have hle : (nextL hs i c[i]).length ≤ c.length := by
            have h1 := List.Nodup.length_le_of_subset (l₁ := nextL hs i c[i]) (l₂ := (List.range c.length).map fun (j : Nat) => (j : Int)) ((pw_sd _).imp fun h e => by omega) fun l hl => by
              have := next_in ok hi hl
              exact List.mem_map.mpr ⟨l.toNat, List.mem_range.mpr (by omega), Int.toNat_of_nonneg this.1⟩
            rwa [List.length_map, List.length_range] at h1
          rw [List.length_map, sizeLine_eq]; omega
        · rw [badF_nil] at hb
          refine su_one (s_ret pu_bl (bad ?_))
          rw [eok, ha]
          simpa using hb
        · rw [badF_nil] at hb
          rw [eok, ha]
          simpa using hb
      · refine su_nil ⟨⟨_, _, rfl⟩, nxt ?_⟩
        have : x = .non := by
          cases x with
          | non => rfl
          | _ => cases hk
        subst this
        unfold okAt
        rw [hx]
  · obtain ⟨⟨y1, y2, rfl⟩, hprev⟩ := hP
    have e : (List.range c.length).all (okAt c hs cs) = true := List.all_eq_true.mpr fun j hj => hprev j (by rw [pairsD_length, List.length_map, hlen]; exact List.mem_range.mp hj)
    rw [e] at hp
    exact su_one (s_ret pu_bl hp)
end
end C66
end TD16
section TP23
set_option Elab.async false
set_option linter.all false
set_option autoImplicit false
set_option maxRecDepth 100000
set_option maxHeartbeats 4000000
/-! P23: sum of a tuple, min of two tuples. -/
namespace C66
open PySem PySem.Spec L2
theorem pre_sum (ns : List Int) : ∀ n, n ≤ ns.length → preSum (fun i => ns.getD i 0) n = (ns.take n).sum
  | 0, _ => by rw [List.take_zero]; rfl
  | n + 1, h => by
    have hn : n < ns.length := h
    rw [preSum, pre_sum ns n (Nat.le_of_lt hn), List.take_add_one, List.getElem?_eq_getElem hn, List.sum_append]
    simp [List.getD_eq_getElem?_getD, List.getElem?_eq_getElem hn]
section
variable {P : Program} {w : World} {A : Around} {E : Value → Shared → Prop} {s : Shared}
theorem call_sumT {l : Addr} {its : List Value} {ns : List Int} {Q : Value → Shared → Prop} (hh : A.handled = none) (hl : s.heap.IsTuple l its.toArray) (hi : PyProof.Rows.IntsAre its ns)
    (fin : ∀ (h' : Heap) (tk : Nat) (t : Tok), (∀ b o, s.heap.get? b = some o → h'.get? b = some o) → Q (.int ns.sum t) { s with heap := h', toks := tk }) : wpAny (model P w) A (call (.builtin "sum") [.ref l]) Q E s := by
  have hsz : its.toArray.size = ns.length := by rw [List.size_toArray]; exact PyProof.Rows.IntsAre.length hi
  obtain ⟨o, ho, _⟩ := id hl
  have hlt : l < s.heap.objs.size := Heap.lt_size ho
  refine call_sum_walkAnyS (wpAny_pyIter_tuple hl ⟨s.heap.objs.size, _, _, _, _, _, _, fun i => ns.getD i 0, rfl, (Walks.tuple (A := A.in1) hh _ l (Nat.ne_of_lt hlt) its.toArray).toS, ⟨⟨_, Heap.get?_push_size _ rfl, rfl, rfl⟩, hl.push _⟩, fun b hb => ?_, fun i v hv => ?_, fun s' t hm => ?_⟩)
  · show b < (s.heap.push _).objs.size
    rw [Heap.size_push]
    rcases List.mem_cons.mp hb with e | e
    · rw [e]; exact Nat.lt_succ_self _
    · rw [List.mem_singleton.mp e]; exact Nat.lt_succ_of_lt hlt
  · exact PyProof.Rows.IntsAre.int_at hi i v (by simpa using hv)
  · obtain ⟨h2, g2, d2, k2, o2⟩ := s'
    obtain rfl : g2 = s.gens := hm.gens
    obtain rfl : d2 = s.drawn := hm.drawn
    obtain rfl : o2 = s.os := hm.os
    have e : preSum (fun i => ns.getD i 0) its.toArray.size = ns.sum := by rw [hsz, pre_sum ns _ (Nat.le_refl _), List.take_length]
    rw [e]
    exact fin h2 k2 t fun b o q => hm.heap b o (fun z => Nat.ne_of_lt (Heap.lt_size q) (List.mem_singleton.mp z)) (Heap.get?_push_of_some _ q)
theorem call_min2 {u1 u2 : Value} {d1 d2 : PyData} {Q : Value → Shared → Prop} (hh : A.handled = none) (r1 : Reads s.heap u1 d1 []) (r2 : Reads s.heap u2 d2 []) (a11 : PySem.W.alike d1 d1 = true) (a12 : PySem.W.alike d1 d2 = true) (a21 : PySem.W.alike d2 d1 = true) (a22 : PySem.W.alike d2 d2 = true) (n1 : d1 ≠ .none) (n2 : d2 ≠ .none)
    (hu : A.units + 1 + (d1.depth + d2.depth) < cLine) (fin : ∀ (h' : Heap) (tk : Nat), (∀ b o, s.heap.get? b = some o → h'.get? b = some o) → Q (if PySem.W.dataLt d2 d1 = true then u2 else u1) { s with heap := h', toks := tk }) : wpAny (model P w) A (call (.builtin "min") [u1, u2]) Q E s := by
  generalize hot : ({ cls := .type "tuple", data := .seq #[u1, u2] } : Obj) = ot
  have hname : (toString "min" ++ toString ".loop" : String) = "min.loop" := by decide
  have hT : (s.heap.push ot).IsTuple s.heap.objs.size #[u1, u2] := by rw [← hot]; exact ⟨_, Heap.get?_push_size _ rfl, rfl, 0, rfl⟩
  have hsz : (s.heap.push ot).objs.size = s.heap.objs.size + 1 := Heap.size_push ..
  refine call_function_tree F.kind_min F.plain_min F.entry_min (F.args_min2 _ _) ?_
  show wpAny _ A.in1 (Builtin.Builtins.bindParams "min" ["key", "default"] 0 ⟨[], []⟩ >>= fun _ => _) _ _ s
  refine wpAny_bind (wpAny_of_eq (show Builtin.Builtins.bindParams "min" ["key", "default"] 0 ⟨[], []⟩ = pure [none, none] from rfl) ?_)
  refine (show wpAny _ A.in1 (newTuple [u1, u2] >>= _) _ _ s from wpAny_bind (wpAny_newObj_type ?_))
  rw [show ({ cls := .type "tuple", data := .seq [u1, u2].toArray } : Obj) = ot from hot]
  refine wpAny_bind (wpAny_pyIter_tuple hT (wpAny_bind (wpAny_newObj_type ?_)))
  rw [hname]
  have hI : (s.heap.push ot).objs.size ≠ s.heap.objs.size := by rw [hsz]; exact Nat.succ_ne_self _
  have k2 : ∀ (o1 o2 : Obj) b o, s.heap.get? b = some o → (((s.heap.push ot).push o1).push o2).get? b = some o := fun _ _ b o q => Heap.get?_push_of_some _ (Heap.get?_push_of_some _ (Heap.get?_push_of_some _ q))
  have rs : ∀ (i : Nat) (v : Value), (#[u1, u2] : Array Value)[i]? = some v → (i = 0 ∧ v = u1) ∨ (i = 1 ∧ v = u2) := fun i v h => by
    match i, h with
    | 0, h => exact .inl ⟨rfl, by simpa using h.symm⟩
    | 1, h => exact .inr ⟨rfl, by simpa using h.symm⟩
    | i + 2, h => simp at h
  refine wpAny_pure ⟨plainId_quiet F.plain_min_loop _, codeAny_min_loop_firstH (Walks.tuple (A := A.in1) hh (s.heap.push ot).objs.size s.heap.objs.size hI.symm #[u1, u2]).toS s.heap (fun b o q z => ?_) (fun i j => PySem.W.dataLt (if i = 0 then d1 else d2) (if j = 0 then d1 else d2)) (fun i j vi vj s2 Q2 E2 kp hi hj hq => ?_) _ (fun z => ?_) ?_ [] (by show 0 < 2; decide) (fun b o q => k2 _ _ b o q) ⟨⟨_, Heap.get?_push_of_some _ (Heap.get?_push_size _ rfl), rfl, rfl⟩, (hT.push _).push _⟩ (Heap.get?_push_size _ rfl) fun v s' hP hm => ?_⟩
  · have := Heap.lt_size q
    rw [List.mem_singleton.mp z, hsz] at this
    exact Nat.lt_irrefl _ (Nat.lt_of_succ_lt this)
  · rcases rs i vi hi with ⟨rfl, rfl⟩ | ⟨rfl, rfl⟩ <;> rcases rs j vj hj with ⟨rfl, rfl⟩ | ⟨rfl, rfl⟩
    · exact PySem.W.rcLt_alike d1 d1 A.in1 s2 _ _ [] [] (PyProof.Rows.Reads.keeps kp r1) (PyProof.Rows.Reads.keeps kp r1) a11 n1 (by show A.units + 1 + _ < _; omega) P w E2 Q2 hq
    · exact PySem.W.rcLt_alike d1 d2 A.in1 s2 _ _ [] [] (PyProof.Rows.Reads.keeps kp r1) (PyProof.Rows.Reads.keeps kp r2) a12 n1 (by show A.units + 1 + _ < _; omega) P w E2 Q2 hq
    · exact PySem.W.rcLt_alike d2 d1 A.in1 s2 _ _ [] [] (PyProof.Rows.Reads.keeps kp r2) (PyProof.Rows.Reads.keeps kp r1) a21 n2 (by show A.units + 1 + _ < _; omega) P w E2 Q2 hq
    · exact PySem.W.rcLt_alike d2 d2 A.in1 s2 _ _ [] [] (PyProof.Rows.Reads.keeps kp r2) (PyProof.Rows.Reads.keeps kp r2) a22 n2 (by show A.units + 1 + _ < _; omega) P w E2 Q2 hq
  · rcases List.mem_cons.mp z with e | e
    · rw [Heap.size_push] at e; exact Nat.succ_ne_self _ e
    · rw [Heap.size_push, hsz] at e
      exact Nat.ne_of_gt (Nat.lt_succ_of_lt (Nat.lt_succ_self _)) (List.mem_singleton.mp e)
  · rw [Heap.size_push, hsz]
    exact Heap.get?_none_of_le (by omega)
  · obtain ⟨h2, g2, d2', k2', o2⟩ := s'
    obtain rfl : g2 = s.gens := hm.gens
    obtain rfl : d2' = s.drawn := hm.drawn
    obtain rfl : o2 = s.os := hm.os
    have hv : v = if PySem.W.dataLt d2 d1 = true then u2 else u1 := by
      have hP : (#[u1, u2] : Array Value)[argBest (fun i j => PySem.W.dataLt (if i = 0 then d1 else d2) (if j = 0 then d1 else d2)) 1]? = some v := hP
      have eb : argBest (fun i j => PySem.W.dataLt (if i = 0 then d1 else d2) (if j = 0 then d1 else d2)) 1 = if PySem.W.dataLt d2 d1 = true then 1 else 0 := rfl
      rw [eb] at hP
      by_cases z : PySem.W.dataLt d2 d1 = true
      · rw [if_pos z] at hP ⊢
        simpa using hP.symm
      · rw [if_neg z] at hP ⊢
        simpa using hP.symm
    rw [hv]
    refine fin h2 k2' fun b o q => hm.heap b o (fun z => ?_) (k2 _ _ b o q)
    have hb := Heap.lt_size q
    rcases List.mem_cons.mp z with e | e
    · rw [e, Heap.size_push, hsz] at hb; exact Nat.lt_irrefl _ (Nat.lt_of_succ_lt (Nat.lt_of_succ_lt hb))
    · rw [List.mem_singleton.mp e, hsz] at hb; exact Nat.lt_irrefl _ (Nat.lt_of_succ_lt hb)
end
/-- the less of two roads -/
def minR (r1 r2 : List Int) : List Int := if PySem.W.dataLt (iD r2).py (iD r1).py = true then r2 else r1
section
variable {X : Cx} {g : Gm} {ρ ρ1 ρ2 : Rho} {N : List Str} {sc : Scope} {vs : List Nat} {pos p : Pos} {a b e : Expr}
/-- sum(t) of a tuple of ints -/
theorem pu_sumT (L : Lo X N sc vs) {ns : List Int} (ha : PU X g ρ e ρ1 (iD ns)) (hm : X.mg "sum" = none) (hg : gloC sc "sum" = true := by decide +kernel) (he : starEach [e] X.env = (false, eval e X.env) :: starEach [] X.env := by rfl) (hpl : (backTo pos (starEach [] X.env)).any (·.1) = false := by rfl) :
    PU X g ρ (.Call (.Name "sum" p) [e] [] pos) ρ1 (.int ns.sum) := by
  have cr : CallR X (.builtin "sum") fun vs H Q => ∃ (a : Addr), vs = [V.ref a] ∧ SqT X.K H a (ns.map V.int) ∧ Q (.int ns.sum) H := by
    intro pins s σ H vs us Q I r ⟨a, ev, hs, q⟩
    subst ev
    rw [Vals.ref1 r]
    obtain ⟨its, rv, ⟨o, h1, h2, n, h3⟩, _⟩ := I.tuple hs
    exact call_sumT (I.ok.hd L.calm) ⟨o, h1, h2, n, h3⟩ (ints_of_vals rv) fun h' tk t hk => ⟨.int ns.sum, H, I.kept hk, ⟨t, rfl⟩, q⟩
  refine pe_weak (pe_callB cr (gl_of L hg) hm (by decide +kernel) (pa_cons ha pa_nil he) (by decide) (by decide) he hpl) fun σ H Q q => ⟨q.1, fun v H1 E1 x1 r1 => ?_⟩
  cases r1 with
  | @tup aa us _ sq rr =>
    rw [rr.of_ints] at sq
    exact ⟨aa, rfl, sq, q.2 _ H1 E1 x1 (.int _)⟩
/-- min(t, u) of two tuples of ints -/
theorem pu_min2 (L : Lo X N sc vs) (hu : X.A.units + 64 < cLine) {r1 r2 : List Int} (ha : PU X g ρ a ρ1 (iD r1)) (hb : PU X g ρ1 b ρ2 (iD r2)) (hm : X.mg "min" = none) (hg : gloC sc "min" = true := by decide +kernel) (he : starEach [a, b] X.env = (false, eval a X.env) :: starEach [b] X.env := by rfl)
    (he2 : starEach [b] X.env = (false, eval b X.env) :: starEach [] X.env := by rfl) (hpl : (backTo pos (starEach [b] X.env)).any (·.1) = false := by rfl) : PU X g ρ (.Call (.Name "min" p) [a, b] [] pos) ρ2 (iD (minR r1 r2)) := by
  have cr : CallR X (.builtin "min") fun vs H Q => ∃ v1 v2, vs = [v1, v2] ∧ Rep X.K g.C H v1 (iD r1) ∧ Rep X.K g.C H v2 (iD r2) ∧ ∀ v, Rep X.K g.C H v (iD (minR r1 r2)) → Q v H := by
    intro pins s σ H vs us Q I r ⟨v1, v2, ev, h1, h2, q⟩
    subst ev
    obtain ⟨u1, u2, rfl, e1, e2⟩ := r.two
    have nn : ∀ h : List Int, (iD h).py ≠ .none := fun h z => by
      have z : PyData.tuple (pys (h.map D.int)) = .none := z
      cases z
    have dd : ∀ h : List Int, (iD h).py.depth ≤ 1 := fun h => (low_iD (h := h)).2.2
    refine call_min2 (I.ok.hd L.calm) (reads_iD I h1 e1) (reads_iD I h2 e2) (alike_iD _ _) (alike_iD _ _) (alike_iD _ _) (alike_iD _ _) (nn _) (nn _) (by have := dd r1; have := dd r2; omega) fun h' tk hk => ?_
    unfold minR at q
    by_cases z : PySem.W.dataLt (iD r2).py (iD r1).py = true
    · rw [if_pos z] at q ⊢
      exact ⟨v2, H, I.kept hk, e2, q v2 h2⟩
    · rw [if_neg z] at q ⊢
      exact ⟨v1, H, I.kept hk, e1, q v1 h1⟩
  exact pe_weak (pe_callB cr (gl_of L hg) hm (by decide +kernel) (pa_cons ha (pa_cons hb pa_nil he2) he) (by decide) (by decide) he hpl) fun σ H Q q => ⟨q.1, fun v H1 E1 x1 rr1 => ⟨E1, fun u H2 E2 x2 rr2 => ⟨v, u, rfl, rr1.ext x2, rr2, fun w rw_ => q.2 w H2 E2 (x1.trans x2) rw_⟩⟩⟩
end
end C66
end TP23
section TD17
set_option Elab.async false
set_option linter.all false
set_option autoImplicit false
set_option maxRecDepth 100000
set_option maxHeartbeats 4000000
namespace C66
open PySem PySem.Spec L2
/-! ### the plain side -/
theorem sum_zero {h : List Int} (g : GoodH h) : decide (0 < h.sum) = !decide (h = [0, 0, 0, 0]) := by
  obtain ⟨hl, hb⟩ := g
  match h, hl with
  | [a, b, c, d], _ =>
    have h1 := hb a (by simp); have h2 := hb b (by simp); have h3 := hb c (by simp); have h4 := hb d (by simp)
    have e : ([a, b, c, d] : List Int).sum = a + (b + (c + d)) := by simp
    rw [e, ← decide_not]
    refine decide_eq_decide.mpr ⟨fun z q => ?_, fun z => ?_⟩
    · simp only [List.cons.injEq] at q
      obtain ⟨q1, q2, q3, q4, _⟩ := q
      omega
    · by_cases w : 0 < a + (b + (c + d))
      · exact w
      · refine absurd ?_ z
        rw [show a = 0 by omega, show b = 0 by omega, show c = 0 by omega, show d = 0 by omega]
section
variable {P : Program} {w : World} {K : PySem.W.Frag} {mg : Str → Option Value} {base : Heap} {C : Addr} {Tb : List (Addr × Str)}
/-! _law_next -/
abbrev nLNext : List Str := ["_law_code", "_law_handlers", "_law_at", "_law_word", "_law_found", "_law_handler"]
theorem scLNext : FnScope nLNext ["_law_code", "_law_handlers", "_law_at"] (defScope (topS 69)) := ⟨rfl, rfl, rfl, by decide +kernel, rfl, by decide +kernel, by decide +kernel⟩
def preLAt (r : List Stp → List Hnd → Nat → Stp → Bd) : List D → (Bd → Prop) → Prop := fun ds post => ∃ (c : List Stp) (hs : List Hnd) (i : Nat) (s : Stp), ds = [codeD c, hsD hs, .int i] ∧ CodeOk c hs ∧ c[i]? = some s ∧ ∀ b, b = r c hs i s → post b
def preLNext : List D → (Bd → Prop) → Prop := preLAt fun c hs i s => .dat (.lst ((nextL hs i s).map D.int))
theorem cG_lc {X : Cx} {g : Gm} {N : List Str} {sc : Scope} {j k : Nat} {ρ : Rho} {x y : Str} {hs : List Hnd} {i : Nat} (L : Lo X N sc [j, k]) (h1 : ρ[j]? = some (some (.dat (.int i)))) {h : Hnd} (h2 : ρ[k]? = some (some (.dat (hdD h)))) (hx : N[j]? = some x) (hy : N[k]? = some y) {p1 p2 p3 p4 p5 p6 p7 p8 : Pos} {q1 q2 : Nat} :
    PTsU X g ρ [.Compare (.Subscript (.Name y p1) (.Constant (.int 0) q1 p2) p3) [.LtE, .Lt] [.Name x p4, .Subscript (.Name y p5) (.Constant (.int 1) q2 p6) p7] p8] ρ (cG i (hdD h)).isSome := by
  have e : (cG i (hdD h)).isSome = (decide (h.1 ≤ i) && decide ((i : Int) < h.2.1)) := by
    show (if (decide (h.1 ≤ i) && decide ((i : Int) < h.2.1)) = true then some (D.int h.2.2.2) else none).isSome = _
    generalize (decide (h.1 ≤ i) && decide ((i : Int) < h.2.1)) = z
    cases z <;> rfl
  rw [e]
  exact ptsu_one (ptu_chain ou_le ou_lt (pu_ixT (ds := [.int h.1, .int h.2.1, .str h.2.2.1, .int h.2.2.2]) (pu_var L k h2 hy (by simp)) pu_int rfl) (pu_var L j h1 hx (by simp)) (pu_ixT (ds := [.int h.1, .int h.2.1, .str h.2.2.1, .int h.2.2.2]) (pu_var L k h2 hy (by simp)) pu_int rfl))
theorem ok_law_next {f : Addr} {fd : FuncData} (F : Fun K "_law_next" "_law_next" (topS 69) f fd) (T : Txt K C mg) : FnOk P w K mg base CX0 1 f fd ["_law_code", "_law_handlers", "_law_at"] (spF C Tb P w K preLNext) := by
  refine fn_data [0, 1, 2, 3, 4] F scLNext (by decide +kernel) (fun ds post ⟨_, _, _, _, e, _⟩ => by rw [e]; rfl) (by decide) ?_
  rintro X rfl rfl rfl rfl rfl L hr g rfl rfl hR ds post ⟨c, hs, i, s, rfl, ok, hi, hp⟩
  show SUs X g [some (.dat (codeD c)), some (.dat (hsD hs)), some (.dat (.int i)), none, none, none] _ _
  replace hp : post (.dat (.lst ((nextL hs i s).map D.int))) := hp _ rfl
  have hw : dAt (c.map stD) (i : Int) = some (stD s) := by rw [dAt_nat]; exact codeD_get hi
  have hs' := ok.step s (List.mem_of_getElem? hi)
  have hcl : (caughtL hs i).length ≤ 2 := by
    unfold caughtL
    rw [List.length_map]
    exact Nat.le_trans (List.length_filter_le _ _) ok.few
  refine su_cons (su_2 L 3 4 (b1 := .dat (.str s.1)) (b2 := .own ((hs.map hdD).filterMap (cG i))) (pab_cons (pb_dat (pu_word (pu_ixT (pu_var L.toLo 0) (pu_var L.toLo 2) hw))) (fun H0 R => pab_cons (pb_own (pn_lc (g := ⟨g.C, g.T, H0, R⟩) L.toLo [("_law_handler", 5)] [2, 5] (fun ρ d => ρ.set 5 (some (.dat d))) (cG i) (piu_tup (pu_var L.toLo 1)) (by intro i hi; simp at hi; subst hi; rfl) (fun d => rfl) (fun s H Cc cl fp H0 R L' d hd ρ' e' => ?_) ?_)) (fun H0 R => pab_nil) rfl) rfl) ?_)
  · subst e'
    obtain ⟨h, hh, rfl⟩ := List.mem_map.mp hd
    refine ⟨pgu_name L' 5 (.inr (by rfl)), cG_lc (hs := hs) L' rfl rfl rfl rfl, fun r hr' => ?_⟩
    have e2 : r = .int h.2.2.2 := by
      have hr'' : (if (decide (h.1 ≤ i) && decide ((i : Int) < h.2.1)) = true then some (D.int h.2.2.2) else none) = some r := hr'
      split at hr''
      · exact (Option.some.inj hr'').symm
      · cases hr''
    subst e2
    exact pu_ixT (pu_var L' 5) pu_int rfl
  · rw [List.length_map, sizeLine_eq]; have := ok.few; omega
  rw [cG_hs]
  show SUs X g [some (.dat (codeD c)), some (.dat (hsD hs)), some (.dat (.int i)), some (.dat (.str s.1)), some (.own ((caughtL hs i).map D.int)), none] _ _
  -- the goal of go and if
  refine su_cons (su_if (k := decide (s.1 ∈ (["go", "if"] : List Str))) (ptu_cmp (ou_inS (.inr rfl)) (pu_var L.toLo 3) (pu_lst (pau_cons pu_str (pau_cons pu_str pau_nil)))) (fun h => ?_) (fun h => su_nil ?_))
  · have hg : s.1 = "go" ∨ s.1 = "if" := by simpa using h
    obtain ⟨k, ek, _, _⟩ := hs'.goal hg
    have es : stD s = .tup [.str s.1, .int k] := by unfold stD; rw [ek]
    refine su_one (su_append L 4 (d := .int k) (ds := (caughtL hs i).map D.int) (pu_ixT (ds := [.str s.1, .int k]) (by rw [← es]; exact pu_ixT (pu_var L.toLo 0) (pu_var L.toLo 2) hw) pu_int rfl) ?_ (by rw [List.length_map, sizeLine_eq]; omega))
    have em : (caughtL hs i).map D.int ++ [D.int k] = (caughtL hs i ++ [k]).map D.int := by rw [List.map_append]; rfl
    show SUs X g [some (.dat (codeD c)), some (.dat (hsD hs)), some (.dat (.int i)), some (.dat (.str s.1)), some (.own ((caughtL hs i).map D.int ++ [D.int k])), none] _ _
    rw [em]
    refine su_cons (su_if (k := !decide (s.1 ∈ (["go", "give", "throw"] : List Str))) (ptu_cmp (ou_niS (.inr rfl)) (pu_var L.toLo 3) (pu_lst (pau_cons pu_str (pau_cons pu_str (pau_cons pu_str pau_nil))))) (fun h2 => ?_) (fun h2 => su_nil ?_))
    · have h2' : ¬ (s.1 = "go" ∨ s.1 = "give" ∨ s.1 = "throw") := by simpa using h2
      refine su_one (su_append L 4 (d := .int ((i : Int) + 1)) (ds := (caughtL hs i ++ [k]).map D.int) (pu_bin ou_add (pu_var L.toLo 2) pu_int) ?_ (by rw [List.length_map, List.length_append, sizeLine_eq]; simp; omega))
      have em2 : (caughtL hs i ++ [k]).map D.int ++ [D.int ((i : Int) + 1)] = (caughtL hs i ++ [k] ++ [(i : Int) + 1]).map D.int := by rw [List.map_append (l₂ := [(i : Int) + 1])]; rfl
      show SUs X g [some (.dat (codeD c)), some (.dat (hsD hs)), some (.dat (.int i)), some (.dat (.str s.1)), some (.own ((caughtL hs i ++ [k]).map D.int ++ [D.int ((i : Int) + 1)])), none] _ _
      rw [em2]
      have eq : nextL hs i s = sd (caughtL hs i ++ [k] ++ [(i : Int) + 1]) := sd_congr fun x => by
        have hif : s.1 = "if" := hg.resolve_left fun z => h2' (.inl z)
        have eg : goesOn s i = [(i : Int) + 1, k] := by
          unfold goesOn
          rw [if_neg (fun z => h2' (.inr z)), if_neg (fun z => h2' (.inl z)), if_pos hif, ek]; rfl
        rw [eg]
        simp only [List.mem_append, List.mem_cons, List.not_mem_nil, or_false]
        constructor
        · rintro ((h | h) | h)
          · exact .inr h
          · exact .inl (.inr h)
          · exact .inl (.inl h)
        · rintro ((h | h) | h)
          · exact .inr h
          · exact .inl (.inr h)
          · exact .inl (.inl h)
      rw [eq] at hp
      refine su_freeze 4 ?_
      exact su_one (s_ret (pu_of_pn (pn_sset L.toLo (pu_var L.toLo 4) (by rw [List.length_append, List.length_append]; simp; omega) T.sorted T.set)) hp)
    · have h2' : s.1 = "go" := by
        rcases hg with z | z
        · exact z
        · rw [z] at h2; exact absurd h2 (by decide +kernel)
      have eq : nextL hs i s = sd (caughtL hs i ++ [k]) := sd_congr fun x => by
        have eg : goesOn s i = [k] := by
          unfold goesOn
          rw [if_neg (by rw [h2']; decide), if_pos h2', ek]; rfl
        rw [eg]
        simp only [List.mem_append]
        exact ⟨fun h => h.symm, fun h => h.symm⟩
      rw [eq] at hp
      refine su_freeze 4 ?_
      exact su_one (s_ret (pu_of_pn (pn_sset L.toLo (pu_var L.toLo 4) (by rw [List.length_append]; simp; omega) T.sorted T.set)) hp)
  · have hg : ¬ (s.1 = "go" ∨ s.1 = "if") := by simpa using h
    refine su_cons (su_if (k := !decide (s.1 ∈ (["go", "give", "throw"] : List Str))) (ptu_cmp (ou_niS (.inr rfl)) (pu_var L.toLo 3) (pu_lst (pau_cons pu_str (pau_cons pu_str (pau_cons pu_str pau_nil))))) (fun h2 => ?_) (fun h2 => su_nil ?_))
    · have h2' : ¬ (s.1 = "go" ∨ s.1 = "give" ∨ s.1 = "throw") := by simpa using h2
      refine su_one (su_append L 4 (d := .int ((i : Int) + 1)) (ds := (caughtL hs i).map D.int) (pu_bin ou_add (pu_var L.toLo 2) pu_int) ?_ (by rw [List.length_map, sizeLine_eq]; omega))
      have em2 : (caughtL hs i).map D.int ++ [D.int ((i : Int) + 1)] = (caughtL hs i ++ [(i : Int) + 1]).map D.int := by rw [List.map_append]; rfl
      show SUs X g [some (.dat (codeD c)), some (.dat (hsD hs)), some (.dat (.int i)), some (.dat (.str s.1)), some (.own ((caughtL hs i).map D.int ++ [D.int ((i : Int) + 1)])), none] _ _
      rw [em2]
      have eq : nextL hs i s = sd (caughtL hs i ++ [(i : Int) + 1]) := sd_congr fun x => by
        have eg : goesOn s i = [(i : Int) + 1] := by
          unfold goesOn
          rw [if_neg (fun z => h2' (.inr z)), if_neg (fun z => h2' (.inl z)), if_neg (fun z => hg (.inr z))]
        rw [eg]
        simp only [List.mem_append]
        exact ⟨fun h => h.symm, fun h => h.symm⟩
      rw [eq] at hp
      refine su_freeze 4 ?_
      exact su_one (s_ret (pu_of_pn (pn_sset L.toLo (pu_var L.toLo 4) (by rw [List.length_append]; simp; omega) T.sorted T.set)) hp)
    · have h2' : s.1 = "give" ∨ s.1 = "throw" := by
        have : s.1 = "go" ∨ s.1 = "give" ∨ s.1 = "throw" := by
          by_cases z : s.1 ∈ (["go", "give", "throw"] : List Str)
          · simpa using z
          · rw [decide_eq_false z] at h2; cases h2
        exact this.resolve_left fun z => hg (.inl z)
      have eq : nextL hs i s = sd (caughtL hs i) := by
        unfold nextL
        have eg : goesOn s i = [] := if_pos h2'
        rw [eg]; rfl
      rw [eq] at hp
      refine su_freeze 4 ?_
      exact su_one (s_ret (pu_of_pn (pn_sset L.toLo (pu_var L.toLo 4) (by omega) T.sorted T.set)) hp)

/-! _law_is_end -/
abbrev nLEnd : List Str := ["_law_code", "_law_handlers", "_law_at", "_law_sure", "_law_one"]
theorem scLEnd : FnScope nLEnd ["_law_code", "_law_handlers", "_law_at"] (defScope (topS 70)) := ⟨rfl, rfl, rfl, by decide +kernel, rfl, by decide +kernel, by decide +kernel⟩
def preLEnd : List D → (Bd → Prop) → Prop := preLAt fun c hs i s => .dat (.bl (isEndB hs i s))
theorem ok_law_is_end {f : Addr} {fd : FuncData} (F : Fun K "_law_is_end" "_law_is_end" (topS 70) f fd) (T : Txt K C mg) : FnOk P w K mg base CX0 1 f fd ["_law_code", "_law_handlers", "_law_at"] (spF C Tb P w K preLEnd) := by
  refine fn_data [0, 1, 2, 3] F scLEnd (by decide +kernel) (fun ds post ⟨_, _, _, _, e, _⟩ => by rw [e]; rfl) (by decide) ?_
  rintro X rfl rfl rfl rfl rfl L hr g rfl rfl hR ds post ⟨c, hs, i, s, rfl, ok, hi, hp⟩
  show SUs X g [some (.dat (codeD c)), some (.dat (hsD hs)), some (.dat (.int i)), none, none] _ _
  replace hp : post (.dat (.bl (isEndB hs i s))) := hp _ rfl
  have hw : dAt (c.map stD) (i : Int) = some (stD s) := by rw [dAt_nat]; exact codeD_get hi
  refine su_cons (su_setLc L 3 (lc_data L.toLo [("_law_one", 4)] [2, 4] (fun ρ d => ρ.set 4 (some (.dat d))) (sG i) (piu_tup (pu_var L.toLo 1)) (by intro i hi; simp at hi; subst hi; rfl) (fun d => rfl) (fun s H Cc cl fp H0 R L' d hd ρ' e' => ?_) ?_) ?_)
  · subst e'
    obtain ⟨h, hh, rfl⟩ := List.mem_map.mp hd
    have e0 : sG i (hdD h) = if sureH i h = true then some (hdD h) else none := rfl
    have e : (sG i (hdD h)).isSome = sureH i h := by
      rw [e0]
      cases sureH i h <;> rfl
    refine ⟨pgu_name L' 4 (.inr (by rfl)), ?_, fun r hr' => ?_⟩
    · rw [e]
      exact ptsu_one (ptu_of (pwu_and (ptu_chain ou_le ou_lt (pu_ixT (pu_var L' 4) pu_int rfl) (pu_var L' 2) (pu_ixT (pu_var L' 4) pu_int rfl)) fun _ => pwu_and1 (ptu_cmp ou_eqS (pu_ixT (pu_var L' 4) pu_int rfl) pu_str)))
    · have e2 : r = hdD h := by
        rw [e0] at hr'
        split at hr'
        · exact (Option.some.inj hr').symm
        · cases hr'
      subst e2
      exact pu_var L' 4
  · rw [List.length_map, sizeLine_eq]; have := ok.few; omega
  · show SUs X g [some (.dat (codeD c)), some (.dat (hsD hs)), some (.dat (.int i)), some (.own ((hs.map hdD).filterMap (sG i))), none] _ _
    rw [sG_hs]
    refine su_freeze 3 ?_
    show SUs X g [some (.dat (codeD c)), some (.dat (hsD hs)), some (.dat (.int i)), some (.dat (.lst ((hs.filter (sureH i)).map hdD))), none] _ _
    have hlow : (D.lst ((hs.filter (sureH i)).map hdD)).low 2 := low_lst fun d hd => by
      obtain ⟨h, hh, rfl⟩ := List.mem_map.mp hd
      exact (ok.hnd h (List.mem_filter.mp hh).1).low
    refine su_one (s_retE (d' := .bl (isEndB hs i s)) (pu_or (k := decide (s.1 = "give")) (pu_cmp ou_eqS (pu_word (pu_ixT (pu_var L.toLo 0) (pu_var L.toLo 2) hw)) pu_str) fun _ => pu_one (pu_and (k := decide (s.1 = "throw")) (pu_cmp ou_eqS (pu_word (pu_ixT (pu_var L.toLo 0) (pu_var L.toLo 2) hw)) pu_str) fun _ => pu_one (pu_cmp (ou_eqD L.hu (low_shp hlow (by decide)) (by decide +kernel)) (pu_var L.toLo 3) (pu_lst pau_nil)))) ?_ hp)
    rw [eqv_nilL]
    unfold isEndB
    congr 3
    cases hs.filter (sureH i) <;> rfl

/-! _law_astray -/
abbrev nLAstr : List Str := ["_law_code", "_law_handlers", "_law_at", "_law_holds", "_law_word"]
theorem scLAstr : FnScope nLAstr ["_law_code", "_law_handlers", "_law_at", "_law_holds"] (defScope (topS 71)) := ⟨rfl, rfl, rfl, by decide +kernel, rfl, by decide +kernel, by decide +kernel⟩
def preLAstr : List D → (Bd → Prop) → Prop := fun ds post => ∃ (c : List Stp) (hs : List Hnd) (i : Nat) (s : Stp) (h : List Int), ds = [codeD c, hsD hs, .int i, iD h] ∧ CodeOk c hs ∧ c[i]? = some s ∧ GoodH h ∧ ∀ b, b = .dat (.bl (astrayB c hs i s h)) → post b
theorem ok_law_astray {f : Addr} {fd : FuncData} (F : Fun K "_law_astray" "_law_astray" (topS 71) f fd) (T : Txt K C mg) (G2 : Dfn P w K mg base C Tb 1 "_law_is_end" preLEnd) : FnOk P w K mg base CX0 2 f fd ["_law_code", "_law_handlers", "_law_at", "_law_holds"] (spF C Tb P w K preLAstr) := by
  refine fn_data [0, 1, 2, 3, 4] F scLAstr (by decide +kernel) (fun ds post ⟨_, _, _, _, _, e, _⟩ => by rw [e]; rfl) (by decide) ?_
  rintro X rfl rfl rfl rfl rfl L hr g rfl rfl hR ds post ⟨c, hs, i, s, h, rfl, ok, hi, hg, hp⟩
  show SUs X g [some (.dat (codeD c)), some (.dat (hsD hs)), some (.dat (.int i)), some (.dat (iD h)), none] _ _
  replace hp : post (.dat (.bl (astrayB c hs i s h))) := hp _ rfl
  have hl := hg.1
  have hw : dAt (c.map stD) (i : Int) = some (stD s) := by rw [dAt_nat]; exact codeD_get hi
  refine s_set L 4 (pu_word (pu_ixT (pu_var L.toLo 0) (pu_var L.toLo 2) hw)) ?_
  show SUs X g [some (.dat (codeD c)), some (.dat (hsD hs)), some (.dat (.int i)), some (.dat (iD h)), some (.dat (.str s.1))] _ _
  have hloc : isHoldStep s = true → ∃ j, i = j + 1 ∧ dAt (c.map stD) ((i : Int) - 1) = some (.tup [.str "take", .int (locK c i)]) ∧ 0 ≤ locK c i ∧ locK c i ≤ 3 := fun hh => by
    obtain ⟨j, rfl, hj, h0, h3⟩ := ok.locOk hi hh
    exact ⟨j, rfl, by rw [show ((j + 1 : Nat) : Int) - 1 = (j : Int) by omega, dAt_nat]; exact codeD_get hj, h0, h3⟩
  refine s_ifR (k := decide (s.1 = "enter")) (ptu_cmp ou_eqS (pu_var L.toLo 4) pu_str) (fun he => ?_) (fun h1 => ?_)
  · have he := of_decide_eq_true he
    obtain ⟨j, _, hd, h0, h3⟩ := hloc (by unfold isHoldStep; rw [he]; rfl)
    have hgi := getI_in hl h0 h3 hg.2
    have e : astrayB c hs i s h = decide ((5 : Int) < getI h (locK c i)) := by
      unfold astrayB; rw [if_pos he]
      exact decide_eq_decide.mpr (by omega)
    rw [e] at hp
    exact su_one (s_ret (pu_cmp ou_gt (pu_ixT (pu_var L.toLo 3) (pu_ixT (pu_ixT (pu_var L.toLo 0) (pu_bin ou_sub (pu_var L.toLo 2) pu_int) hd) pu_int rfl) (getI_at hl h0 h3)) pu_int) hp)
  have h1 : ¬ s.1 = "enter" := of_decide_eq_false h1
  refine s_ifR (k := decide (s.1 = "leave")) (ptu_cmp ou_eqS (pu_var L.toLo 4) pu_str) (fun he => ?_) (fun h2 => ?_)
  · have he := of_decide_eq_true he
    obtain ⟨j, _, hd, h0, h3⟩ := hloc (by unfold isHoldStep; rw [he]; rfl)
    have hgi := getI_in hl h0 h3 hg.2
    have e : astrayB c hs i s h = decide (getI h (locK c i) < 1) := by
      unfold astrayB; rw [if_neg h1, if_pos he]
      exact decide_eq_decide.mpr (by omega)
    rw [e] at hp
    exact su_one (s_ret (pu_cmp ou_lt (pu_ixT (pu_var L.toLo 3) (pu_ixT (pu_ixT (pu_var L.toLo 0) (pu_bin ou_sub (pu_var L.toLo 2) pu_int) hd) pu_int rfl) (getI_at hl h0 h3)) pu_int) hp)
  have h2 : ¬ s.1 = "leave" := of_decide_eq_false h2
  refine s_ifR (k := decide (s.1 = "keep")) (ptu_cmp ou_eqS (pu_var L.toLo 4) pu_str) (fun he => ?_) (fun h4 => ?_)
  · have he := of_decide_eq_true he
    obtain ⟨k, ek, h0, h3⟩ := (ok.step s (List.mem_of_getElem? hi)).keep_of he
    have hgi := getI_in hl h0 h3 hg.2
    have e : astrayB c hs i s h = decide ((0 : Int) < getI h k) := by
      unfold astrayB; rw [if_neg h1, if_neg h2, if_pos he, ek, ← decide_not]
      exact decide_eq_decide.mpr (by show ¬ getI h k = 0 ↔ _; omega)
    rw [e] at hp
    have es : stD s = .tup [.str s.1, .int k] := by unfold stD; rw [ek]
    rw [es] at hw
    exact su_one (s_ret (pu_cmp ou_gt (pu_ixT (pu_var L.toLo 3) (pu_ixT (pu_ixT (pu_var L.toLo 0) (pu_var L.toLo 2) hw) pu_int rfl) (getI_at hl h0 h3)) pu_int) hp)
  have h4 : ¬ s.1 = "keep" := of_decide_eq_false h4
  have e : astrayB c hs i s h = (isEndB hs i s && decide (0 < h.sum)) := by unfold astrayB; rw [if_neg h1, if_neg h2, if_neg h4, sum_zero hg]
  rw [e] at hp
  exact su_one (s_ret (pu_and (pu_call L.toLo G2 hr (pau_cons (pu_var L.toLo 0) (pau_cons (pu_var L.toLo 1) (pau_cons (pu_var L.toLo 2) pau_nil))) ⟨c, hs, i, s, rfl, ok, hi, fun b h => h⟩) fun _ => pu_one (pu_cmp ou_gt (pu_sumT L.toLo (pu_var L.toLo 3) T.sum) pu_int)) hp)

/-! _law_behind -/
abbrev nLBeh : List Str := ["_law_code", "_law_at", "_law_holds", "_law_later", "_law_found", "_law_local"]
theorem scLBeh : FnScope nLBeh ["_law_code", "_law_at", "_law_holds", "_law_later"] (defScope (topS 72)) := ⟨rfl, rfl, rfl, by decide +kernel, rfl, by decide +kernel, by decide +kernel⟩
def preLBeh : List D → (Bd → Prop) → Prop := fun ds post => ∃ (c : List Stp) (hs : List Hnd) (i : Nat) (s : Stp) (h : List Int) (l : Int), ds = [codeD c, .int i, iD h, .int l] ∧ CodeOk c hs ∧ c[i]? = some s ∧ h.length = 4 ∧ ∀ b, b = .dat (iD (behindL c i s h l)) → post b
theorem ok_law_behind {f : Addr} {fd : FuncData} (F : Fun K "_law_behind" "_law_behind" (topS 72) f fd) (T : Txt K C mg) : FnOk P w K mg base CX0 1 f fd ["_law_code", "_law_at", "_law_holds", "_law_later"] (spF C Tb P w K preLBeh) := by
  refine fn_data [0, 1, 2, 3, 4, 5] F scLBeh (by decide +kernel) (fun ds post ⟨_, _, _, _, _, _, e, _⟩ => by rw [e]; rfl) (by decide) ?_
  rintro X rfl rfl rfl rfl rfl L hr g rfl rfl hR ds post ⟨c, hs, i, s, h, l, rfl, ok, hi, hl, hp⟩
  show SUs X g [some (.dat (codeD c)), some (.dat (.int i)), some (.dat (iD h)), some (.dat (.int l)), none, none] _ _
  replace hp : post (.dat (iD (behindL c i s h l))) := hp _ rfl
  have hw : dAt (c.map stD) (i : Int) = some (stD s) := by rw [dAt_nat]; exact codeD_get hi
  refine s_setN L 4 (pn_listT L.toLo (pu_var L.toLo 2) T.list) ?_
  show SUs X g [some (.dat (codeD c)), some (.dat (.int i)), some (.dat (iD h)), some (.dat (.int l)), some (.own (h.map D.int)), none] _ _
  refine su_cons (su_if (k := decide (s.1 ∈ (["enter", "leave"] : List Str)) && decide (l = (i : Int) + 1)) (ptu_of (pwu_and (ptu_cmp (ou_inS (.inr rfl)) (pu_word (pu_ixT (pu_var L.toLo 0) (pu_var L.toLo 1) hw)) (pu_lst (pau_cons pu_str (pau_cons pu_str pau_nil)))) fun _ => pwu_and1 (ptu_cmp ou_eqI (pu_var L.toLo 3) (pu_bin ou_add (pu_var L.toLo 1) pu_int)))) (fun hc => ?_) (fun hc => su_nil ?_))
  · rw [holdW, Bool.and_eq_true] at hc
    have hH := hc.1
    have hL := of_decide_eq_true hc.2
    obtain ⟨j, hj1, hj, h0, h3⟩ := ok.locOk hi hH
    have hd : dAt (c.map stD) ((i : Int) - 1) = some (.tup [.str "take", .int (locK c i)]) := by
      rw [hj1, show ((j + 1 : Nat) : Int) - 1 = (j : Int) by omega, dAt_nat, ← hj1]; exact codeD_get hj
    have e : behindL c i s h l = h.set (locK c i).toNat (getI h (locK c i) + if s.1 = "enter" then 1 else -1) := if_pos ⟨hH, hL⟩
    rw [e] at hp
    generalize hk : locK c i = k at hp hd h0 h3
    generalize hx : (if s.1 = "enter" then (1 : Int) else -1) = x at hp
    refine s_set L 5 (pu_ixT (pu_ixT (pu_var L.toLo 0) (pu_bin ou_sub (pu_var L.toLo 1) pu_int) hd) pu_int rfl) ?_
    show SUs X g [some (.dat (codeD c)), some (.dat (.int i)), some (.dat (iD h)), some (.dat (.int l)), some (.own (h.map D.int)), some (.dat (.int k))] _ _
    refine su_one (su_put L 4 (ds := h.map D.int) (i := k) (d := .int (getI h k + x)) (pu_bin ou_add (pu_ixO L.toLo 4 (pu_var L.toLo 5) (getI_at hl h0 h3)) (pu_ifE (k := decide (s.1 = "enter")) (ptu_cmp ou_eqS (pu_word (pu_ixT (pu_var L.toLo 0) (pu_var L.toLo 1) hw)) pu_str) (fun z => ?_) (fun z => ?_))) (pu_var L.toLo 5) h0 (by rw [List.length_map, hl]; omega) ?_)
    · rw [← hx, if_pos (of_decide_eq_true z)]; exact pu_int
    · rw [← hx, if_neg (of_decide_eq_false z)]; exact pu_m1
    · show SUs X g [some (.dat (codeD c)), some (.dat (.int i)), some (.dat (iD h)), some (.dat (.int l)), some (.own ((h.map D.int).set k.toNat (.int (getI h k + x)))), some (.dat (.int k))] _ _
      refine su_freeze 4 ?_
      have em : (h.map D.int).set k.toNat (.int (getI h k + x)) = (h.set k.toNat (getI h k + x)).map D.int := by rw [List.map_set]
      rw [em]
      exact su_one (s_ret (pu_callTy L.toLo cu_tup T.tuple (by decide +kernel) (pau_cons (pu_var L.toLo 4) pau_nil)) hp)
  · have e : behindL c i s h l = h := by
      unfold behindL
      refine if_neg fun z => ?_
      rw [holdW, z.1, decide_eq_true z.2] at hc
      cases hc
    rw [e] at hp
    refine su_freeze 4 ?_
    exact su_one (s_ret (pu_callTy L.toLo cu_tup T.tuple (by decide +kernel) (pau_cons (pu_var L.toLo 4) pau_nil)) hp)
end
end C66
end TD17
section TD18
set_option Elab.async false
set_option linter.all false
set_option autoImplicit false
set_option maxRecDepth 100000
set_option maxHeartbeats 4000000
namespace C66
open PySem PySem.Spec L2
/-! ### the plain side -/
def enPut (l : List Ent) (k : Kst) (r : List Int) : List Ent := if (rdGet l k).isSome = true then l.map (fun p => if p.1 = k then (p.1, r) else p) else l ++ [(k, r)]
theorem fE_put (l : List Ent) (k : Kst) (r : List Int) : ndPut (fE l) (kOf k) (iD r) = fE (enPut l k r) := by
  unfold ndPut enPut
  rw [ndGet_fE, Option.isSome_map]
  by_cases h : (rdGet l k).isSome = true
  · rw [if_pos h, if_pos h]
    unfold fE
    rw [List.map_map, List.map_map]
    refine List.map_congr_left fun p _ => ?_
    show (if kOf p.1 = kOf k then (kOf p.1, iD r) else (kOf p.1, iD p.2)) = (kOf (if p.1 = k then (p.1, r) else p).1, iD (if p.1 = k then (p.1, r) else p).2)
    by_cases e : p.1 = k
    · rw [if_pos (by rw [e]), if_pos e]
    · rw [if_neg (fun z => e (kOf_inj z)), if_neg e]
  · rw [if_neg h, if_neg h]
    unfold fE
    rw [List.map_append]
    rfl
theorem enPut_keys (l : List Ent) (k : Kst) (r : List Int) : (enPut l k r).map (·.1) = if (rdGet l k).isSome = true then l.map (·.1) else l.map (·.1) ++ [k] := by
  unfold enPut
  by_cases h : (rdGet l k).isSome = true
  · rw [if_pos h, if_pos h, List.map_map]
    refine List.map_congr_left fun p _ => ?_
    show (if p.1 = k then (p.1, r) else p).1 = p.1
    split <;> rfl
  · rw [if_neg h, if_neg h, List.map_append]; rfl
theorem rdGet_nd : ∀ {l : List Ent} {i : Nat} {p : Ent}, (l.map (·.1)).Nodup → l[i]? = some p → rdGet l p.1 = some p.2
  | [], _, _, _, h => by simp at h
  | q :: t, 0, p, _, h => by
    simp at h; subst h
    unfold rdGet
    rw [if_pos rfl]
  | q :: t, i + 1, p, nd, h => by
    have h : t[i]? = some p := by simpa using h
    rw [List.map_cons, List.nodup_cons] at nd
    unfold rdGet
    rw [if_neg (fun e => nd.1 (by rw [e]; exact List.mem_map.mpr ⟨p, List.mem_of_getElem? h, rfl⟩))]
    exact rdGet_nd nd.2 h
/-- the fresh ones beside what is met -/
structure Fresh (n : Nat) (l fr : List Ent) : Prop where
  inr : ∀ p ∈ fr, InR n p.1
  nd : (fr.map (·.1)).Nodup
  new : ∀ p ∈ fr, p.1 ∉ l.map (·.1)
  road : ∀ p ∈ fr, p.2 ≠ [] ∧ p.2.length ≤ l.length + 1
theorem Fresh.put {n : Nat} {l fr : List Ent} (f : Fresh n l fr) {k : Kst} {r : List Int} (hk : InR n k) (hn : k ∉ l.map (·.1)) (h1 : r ≠ []) (h2 : r.length ≤ l.length + 1) : Fresh n l (enPut fr k r) := by
  have mem : ∀ p ∈ enPut fr k r, (p.1 = k ∧ p.2 = r) ∨ p ∈ fr := fun p hp => by
    unfold enPut at hp
    split at hp
    · obtain ⟨q, hq, rfl⟩ := List.mem_map.mp hp
      by_cases e : q.1 = k
      · rw [if_pos e]; exact .inl ⟨e, rfl⟩
      · rw [if_neg e]; exact .inr hq
    · rcases List.mem_append.mp hp with z | z
      · exact .inr z
      · rw [List.mem_singleton.mp z]; exact .inl ⟨rfl, rfl⟩
  refine ⟨fun p hp => ?_, ?_, fun p hp => ?_, fun p hp => ?_⟩
  · rcases mem p hp with ⟨e, _⟩ | h
    · rw [e]; exact hk
    · exact f.inr p h
  · rw [enPut_keys]
    split
    · exact f.nd
    · rename_i h
      rw [List.nodup_append]
      refine ⟨f.nd, by simp, fun a ha b hb e => ?_⟩
      have eb : b = k := by simpa using hb
      rw [e, eb] at ha
      exact h (by obtain ⟨r', h'⟩ := rdGet_some ha; rw [h']; rfl)
  · rcases mem p hp with ⟨e, _⟩ | h
    · rw [e]; exact hn
    · exact f.new p h
  · rcases mem p hp with ⟨_, e⟩ | h
    · rw [e]; exact ⟨h1, h2⟩
    · exact f.road p h
theorem Met.join {n : Nat} {l fr : List Ent} (m : Met n l) (f : Fresh n l fr) : Met n (l ++ fr) := by
  refine ⟨fun p hp => ?_, ?_, fun p hp => ?_⟩
  · rcases List.mem_append.mp hp with h | h
    · exact m.inr p h
    · exact f.inr p h
  · rw [List.map_append, List.nodup_append]
    refine ⟨m.nd, f.nd, fun a ha b hb e => ?_⟩
    obtain ⟨q, hq, e2⟩ := List.mem_map.mp hb
    have := f.new q hq
    rw [e2, ← e] at this
    exact this ha
  · rw [List.length_append]
    rcases List.mem_append.mp hp with h | h
    · have := m.road p h
      exact ⟨this.1, by omega⟩
    · have := f.road p h
      have h0 : 0 < fr.length := List.length_pos_of_mem h
      exact ⟨this.1, by omega⟩
theorem minR_or (r1 r2 : List Int) : minR r1 r2 = r1 ∨ minR r1 r2 = r2 := by
  unfold minR
  split
  · exact .inr rfl
  · exact .inl rfl
section
variable {P : Program} {w : World} {K : PySem.W.Frag} {mg : Str → Option Value} {base : Heap} {C : Addr} {Tb : List (Addr × Str)}
/-! _law_met -/
abbrev nLMet : List Str := ["_law_code", "_law_handlers", "_law_found", "_law_layer", "_law_fresh", "_law_at", "_law_holds", "_law_later", "_law_there", "_law_road"]
theorem scLMet : FnScope nLMet ["_law_code", "_law_handlers"] (defScope (topS 73)) := ⟨rfl, rfl, rfl, by decide +kernel, rfl, by decide +kernel, by decide +kernel⟩
def preLMet : List D → (Bd → Prop) → Prop := fun ds post => ∃ c hs, ds = [codeD c, hsD hs] ∧ CodeOk c hs ∧ ∀ l, Met c.length l → post (.fdc (fE l))
theorem lowK {lay : List Kst} : (D.lst (lay.map kD)).low 3 := low_lst fun d hd => by
  obtain ⟨p, _, rfl⟩ := List.mem_map.mp hd
  refine low_tup fun d hd => ?_
  simp only [List.mem_cons, List.not_mem_nil, or_false] at hd
  rcases hd with rfl | rfl
  · exact low_mono low_int (by decide)
  · exact low_iD
theorem ok_law_met {f : Addr} {fd : FuncData} (F : Fun K "_law_met" "_law_met" (topS 73) f fd) (T : Txt K C mg) (G1 : Dfn P w K mg base C Tb 2 "_law_astray" preLAstr) (G2 : Dfn P w K mg base C Tb 1 "_law_next" preLNext) (G3 : Dfn P w K mg base C Tb 1 "_law_behind" preLBeh) :
    FnOk P w K mg base CX0 3 f fd ["_law_code", "_law_handlers"] (spF C Tb P w K preLMet) := by
  refine fn_data [0, 1, 2, 3, 4, 5, 6, 7, 8, 9] F scLMet (by decide +kernel) (fun ds post ⟨_, _, e, _⟩ => by rw [e]; rfl) (by decide) ?_
  rintro X rfl rfl rfl rfl rfl L hr g rfl rfl hR ds post ⟨c, hs, rfl, ok, hp⟩
  show SUs X g [some (.dat (codeD c)), some (.dat (hsD hs)), none, none, none, none, none, none, none, none] _ _
  have hn0 := ok.pos
  have hn20 := ok.most
  have inz : InR c.length (0, zer) := ⟨by decide, by show (0 : Int) < c.length; omega, rfl, by decide⟩
  have hzero : ∀ (H0 : Hp) (R : List Addr) (ρ : Rho) (p1 p2 p3 p4 p5 p6 p7 : Pos) (k1 k2 k3 k4 k5 k6 k7 : Nat), PU X ⟨g.C, g.T, H0, R⟩ ρ (.Tuple [.Constant (.int 0) k1 p1, .Tuple [.Constant (.int 0) k2 p2, .Constant (.int 0) k3 p3, .Constant (.int 0) k4 p4, .Constant (.int 0) k5 p5] k6 p6] k7 p7) ρ (kD (0, zer)) := fun H0 R ρ p1 p2 p3 p4 p5 p6 p7 k1 k2 k3 k4 k5 k6 k7 =>
    pu_tup (pau_cons pu_int (pau_cons (pu_tup (pau_cons pu_int (pau_cons pu_int (pau_cons pu_int (pau_cons pu_int pau_nil))))) pau_nil))
  refine su_cons (su_2 L 2 3 (b1 := .ndc (fE [((0, zer), [0])])) (b2 := .own [kD (0, zer)]) (pab_cons (pb_nd1 (k := kOf (0, zer)) L (fun H0 R => ?_) (fun H0 R => pu_tup (pau_cons pu_int pau_nil)) (depth_kOf _) (tup_kOf _)) (fun H0 R => pab_cons (pb_own (pn_lst (pau_cons (hzero H0 R _ _ _ _ _ _ _ _ _ _ _ _ _ _ _) pau_nil))) (fun H0 R => pab_nil) rfl) rfl) ?_)
  · rw [keyD_kOf]; exact hzero H0 R _ _ _ _ _ _ _ _ _ _ _ _ _ _ _
  refine su_freeze 3 (ds := [kD (0, zer)]) ?_
  have fin : ∀ (l : List Ent) (x3 x4 x5 x6 x7 x8 x9 : Option Bd), Met c.length l → SUs X g [some (.dat (codeD c)), some (.dat (hsD hs)), some (.ndc (fE l)), x3, x4, x5, x6, x7, x8, x9] ((defBody (topS 73)).drop 2) { nx := fun _ => post (.dat .non), rt := fun _ b => post b } := fun l x3 x4 x5 x6 x7 x8 x9 hm => by
    refine su_freezeN 2 ?_
    exact su_one (su_retB (pb_fdc L.toLo 2) (hp l hm))
  refine su_cons (su_while L (fun m ρ => ∃ (l : List Ent) (lay : List Kst) (x4 x5 x6 x7 x8 x9 : Option Bd), ρ = [some (.dat (codeD c)), some (.dat (hsD hs)), some (.ndc (fE l)), some (.dat (.lst (lay.map kD))), x4, x5, x6, x7, x8, x9] ∧ Met c.length l ∧ (∀ p ∈ lay, p ∈ l.map (·.1)) ∧ m = 2 * (48020 - l.length) + (if lay.isEmpty then 0 else 1))
    _ ⟨[((0, zer), [0])], [(0, zer)], none, none, none, none, none, none, rfl, ⟨fun p hp => by rw [List.mem_singleton.mp hp]; exact inz, by simp, fun p hp => by rw [List.mem_singleton.mp hp]; exact ⟨by simp, by simp⟩⟩, by simp, rfl⟩ ?_)
  rintro m _ ⟨l, lay, x4, x5, x6, x7, x8, x9, rfl, hm, hlay, rfl⟩
  refine ⟨_, ptu_cmp (ou_neD L.hu (low_shp lowK (by decide)) (by decide +kernel)) (pu_var L.toLo 3) (pu_lst pau_nil), fun hk => ?_, fun hk => fin l _ _ _ _ _ _ _ hm⟩
  have hne : lay.isEmpty = false := by
    rw [eqv_nilL] at hk
    cases lay with
    | nil => cases hk
    | cons a t => rfl
  have hml := hm.most hn20
  refine su_cons (su_setB L 4 pb_ndnew ?_)
  show SUs X g [some (.dat (codeD c)), some (.dat (hsD hs)), some (.ndc (fE l)), some (.dat (.lst (lay.map kD))), some (.ndc (fE [])), x5, x6, x7, x8, x9] _ _
  refine su_cons (su_for L (S := [5, 6]) (ds := lay.map kD) (fun ρ d => match d with | .tup [a, b] => (ρ.set 5 (some (.dat a))).set 6 (some (.dat b)) | _ => ρ)
    (fun _ ρ => ∃ (fr : List Ent) (x5 x6 x7 x8 x9 : Option Bd), ρ = [some (.dat (codeD c)), some (.dat (hsD hs)), some (.ndc (fE l)), some (.dat (.lst (lay.map kD))), some (.ndc (fE fr)), x5, x6, x7, x8, x9] ∧ Fresh c.length l fr)
    (piu_lst (pu_var L.toLo 3)) (fun i d ρ' hd _ => ?_) ⟨[], _, _, _, _, _, rfl, ⟨by simp, by simp, by simp, by simp⟩⟩ (fun i d ρ' hd hP => ?_) (fun ρ' hP => ?_))
  · obtain ⟨pk, _, rfl⟩ := List.mem_map.mp (List.mem_of_getElem? hd)
    exact pgu_pair L.calm (pgu_name L.toLo 5 (.inl (L.fn _)) (hS := by decide)) (pgu_name L.toLo 6 (.inl (L.fn _)) (hS := by decide))
  · obtain ⟨fr, y5, y6, y7, y8, y9, rfl, hf⟩ := hP
    obtain ⟨pk, hpk, rfl⟩ := List.mem_map.mp (List.mem_of_getElem? hd)
    obtain ⟨at_, hl⟩ := pk
    have hkin := hlay _ hpk
    have hin : InR c.length (at_, hl) := by
      obtain ⟨q, hq, e⟩ := List.mem_map.mp hkin
      have := hm.inr q hq
      rwa [e] at this
    obtain ⟨r, hrd⟩ := rdGet_some hkin
    have hroad := hm.road _ (rdGet_mem hrd)
    dsimp only at hroad
    obtain ⟨ai, rfl⟩ : ∃ ai : Nat, at_ = (ai : Int) := ⟨at_.toNat, (Int.toNat_of_nonneg hin.1).symm⟩
    have hai : ai < c.length := by have := hin.2.1; dsimp only at this; omega
    have hi : c[ai]? = some c[ai] := List.getElem?_eq_getElem hai
    have hg : GoodH hl := ⟨hin.2.2.1, hin.2.2.2⟩
    show SUs X g [some (.dat (codeD c)), some (.dat (hsD hs)), some (.ndc (fE l)), some (.dat (.lst (lay.map kD))), some (.ndc (fE fr)), some (.dat (.int ai)), some (.dat (iD hl)), y7, y8, y9] _ _
    refine su_one (s_if (k := !astrayB c hs ai c[ai] hl) (ptu_not (ptu_val (pu_call L.toLo G1 hr (pau_cons (pu_var L.toLo 0) (pau_cons (pu_var L.toLo 1) (pau_cons (pu_var L.toLo 5) (pau_cons (pu_var L.toLo 6) pau_nil)))) ⟨c, hs, ai, c[ai], hl, rfl, ok, hi, hg, fun b h => h⟩))) (fun ha => ?_) (fun _ => su_nil ⟨fr, _, _, _, _, _, rfl, hf⟩))
    have ha : astrayB c hs ai c[ai] hl = false := by
      cases q : astrayB c hs ai c[ai] hl with
      | false => rfl
      | true => rw [q] at ha; cases ha
    refine su_one (su_for L (S := [7]) (ds := (nextL hs ai c[ai]).map D.int) (fun ρ d => ρ.set 7 (some (.dat d)))
      (fun _ ρ => ∃ (fr : List Ent) (x7 x8 x9 : Option Bd), ρ = [some (.dat (codeD c)), some (.dat (hsD hs)), some (.ndc (fE l)), some (.dat (.lst (lay.map kD))), some (.ndc (fE fr)), some (.dat (.int ai)), some (.dat (iD hl)), x7, x8, x9] ∧ Fresh c.length l fr)
      (piu_lst (pu_call L.toLo G2 (hr.mono (by decide)) (pau_cons (pu_var L.toLo 0) (pau_cons (pu_var L.toLo 1) (pau_cons (pu_var L.toLo 5) pau_nil))) ⟨c, hs, ai, c[ai], rfl, ok, hi, fun b h => h⟩)) (fun i d ρ' hd _ => pgu_name L.toLo 7 (.inl (L.fn _)) (hS := by decide)) ⟨fr, _, _, _, rfl, hf⟩ (fun i d ρ' hd hP => ?_) (fun ρ' hP => ?_))
    · obtain ⟨fr, y7, y8, y9, rfl, hf⟩ := hP
      obtain ⟨lt, hlt, rfl⟩ := List.mem_map.mp (List.mem_of_getElem? hd)
      show SUs X g [some (.dat (codeD c)), some (.dat (hsD hs)), some (.ndc (fE l)), some (.dat (.lst (lay.map kD))), some (.ndc (fE fr)), some (.dat (.int ai)), some (.dat (iD hl)), some (.dat (.int lt)), y8, y9] _ _
      have hin2 := step_in ok hi hin ha hlt
      refine su_cons (su_2 L 8 9 (b1 := .dat (kD (lt, behindL c ai c[ai] hl lt))) (b2 := .dat (iD (r ++ [lt]))) (pab_cons (pb_dat (pu_tup (pau_cons (pu_var L.toLo 7) (pau_cons (pu_call L.toLo G3 (hr.mono (by decide)) (pau_cons (pu_var L.toLo 0) (pau_cons (pu_var L.toLo 5) (pau_cons (pu_var L.toLo 6) (pau_cons (pu_var L.toLo 7) pau_nil)))) ⟨c, hs, ai, c[ai], hl, lt, rfl, ok, hi, hg.1, fun b h => h⟩) pau_nil)))) (fun H0 R => pab_cons (pb_dat ?_) (fun H0 R => pab_nil) rfl) rfl) ?_)
      · have e : iD (r ++ [lt]) = .tup (r.map D.int ++ [.int lt]) := by unfold iD; rw [List.map_append]; rfl
        rw [e]
        refine pu_bin (ou_catT (xs := r.map D.int) (ys := [.int lt]) (by rw [List.length_map, sizeLine_eq]; simp; omega)) (pu_ndget (g := ⟨g.C, g.T, H0, R⟩) L 2 (k := kOf ((ai : Int), hl)) (by rw [keyD_kOf]; exact pu_tup (pau_cons (pu_var L.toLo 5) (pau_cons (pu_var L.toLo 6) pau_nil))) (by rw [ndGet_fE, hrd]; rfl) (depth_kOf _) (depOk_fE _) (tup_kOf _) (.inl rfl)) (pu_tup (pau_cons (pu_var L.toLo 7) pau_nil))
      · show SUs X g [some (.dat (codeD c)), some (.dat (hsD hs)), some (.ndc (fE l)), some (.dat (.lst (lay.map kD))), some (.ndc (fE fr)), some (.dat (.int ai)), some (.dat (iD hl)), some (.dat (.int lt)), some (.dat (kD (lt, behindL c ai c[ai] hl lt))), some (.dat (iD (r ++ [lt])))] _ _
        generalize behindL c ai c[ai] hl lt = bh at hin2
        refine su_one (s_if (k := !(ndGet (fE l) (kOf (lt, bh))).isSome) (ptu_ndni L 2 (by rw [keyD_kOf]; exact pu_var L.toLo 8) (depth_kOf _) (depOk_fE _) (tup_kOf _) (.inl rfl)) (fun hk => ?_) (fun _ => su_nil ⟨fr, _, _, _, rfl, hf⟩))
        have hnone : rdGet l (lt, bh) = none := by
          rw [ndGet_fE] at hk
          cases q : rdGet l (lt, bh) with
          | none => rfl
          | some r => rw [q] at hk; cases hk
        have hfl : fr.length ≤ 48020 := by
          have h1 := (hm.join hf).most hn20
          rw [List.length_append] at h1
          omega
        refine su_one (su_ndput L 4 (kvs := fE fr) (k := kOf (lt, bh)) (d := iD (minR (r ++ [lt]) ((rdGet fr (lt, bh)).getD (r ++ [lt])))) (pu_min2 L.toLo L.hu (pu_var L.toLo 9) ?_ T.min) (by rw [keyD_kOf]; exact pu_var L.toLo 8) (depth_kOf _) (depOk_fE _) (tup_kOf _) (by unfold fE; rw [List.length_map, sizeLine_eq]; omega) ?_)
        · have e : iD ((rdGet fr (lt, bh)).getD (r ++ [lt])) = (ndGet (fE fr) (kOf (lt, bh))).getD (iD (r ++ [lt])) := by
            rw [ndGet_fE]
            cases rdGet fr (lt, bh) <;> rfl
          rw [e]
          exact pu_ndget2 L 4 (by rw [keyD_kOf]; exact pu_var L.toLo 8) (pu_var L.toLo 9) (depth_kOf _) (depOk_fE _) (tup_kOf _) (.inl rfl)
        · rw [fE_put]
          refine ⟨enPut fr (lt, bh) (minR (r ++ [lt]) ((rdGet fr (lt, bh)).getD (r ++ [lt]))), _, _, _, rfl, hf.put hin2 (rdGet_none.mp hnone) ?_ ?_⟩
          · rcases minR_or (r ++ [lt]) ((rdGet fr (lt, bh)).getD (r ++ [lt])) with e | e <;> rw [e]
            · simp
            · cases q : rdGet fr (lt, bh) with
              | none => simp
              | some r' => exact (hf.road _ (rdGet_mem q)).1
          · have hb : (r ++ [lt]).length ≤ l.length + 1 := by rw [List.length_append]; simp; omega
            rcases minR_or (r ++ [lt]) ((rdGet fr (lt, bh)).getD (r ++ [lt])) with e | e <;> rw [e]
            · exact hb
            · cases q : rdGet fr (lt, bh) with
              | none => exact hb
              | some r' => exact (hf.road _ (rdGet_mem q)).2
    · obtain ⟨fr, y7, y8, y9, rfl, hf⟩ := hP
      exact ⟨fr, _, _, _, _, _, rfl, hf⟩
  · obtain ⟨fr, y5, y6, y7, y8, y9, rfl, hf⟩ := hP
    have hj := hm.join hf
    have hjm := hj.most hn20
    rw [List.length_append] at hjm
    refine su_freezeN 4 ?_
    show SUs X g [some (.dat (codeD c)), some (.dat (hsD hs)), some (.ndc (fE l)), some (.dat (.lst (lay.map kD))), some (.fdc (fE fr)), y5, y6, y7, y8, y9] _ _
    have ekeys : (fE fr).map (fun p => keyD p.1) = fr.map fun p => kD p.1 := by
      unfold fE
      rw [List.map_map]
      exact List.map_congr_left fun p _ => keyD_kOf p.1
    refine su_cons (su_for L (S := [8]) (ds := (fE fr).map fun p => keyD p.1) (fun ρ d => ρ.set 8 (some (.dat d)))
      (fun i ρ => ∃ (x8 : Option Bd), ρ = [some (.dat (codeD c)), some (.dat (hsD hs)), some (.ndc (fE (l ++ fr.take i))), some (.dat (.lst (lay.map kD))), some (.fdc (fE fr)), y5, y6, y7, x8, y9])
      (piu_fdc L.toLo 4) (fun i d ρ' hd _ => pgu_name L.toLo 8 (.inl (L.fn _)) (hS := by decide)) ⟨_, by rw [List.take_zero, List.append_nil]⟩ (fun i d ρ' hd hP => ?_) (fun ρ' hP => ?_))
    · obtain ⟨x8, rfl⟩ := hP
      rw [ekeys, List.getElem?_map] at hd
      cases hp : fr[i]? with
      | none => rw [hp] at hd; cases hd
      | some p =>
        rw [hp] at hd
        cases hd
        show SUs X g [some (.dat (codeD c)), some (.dat (hsD hs)), some (.ndc (fE (l ++ fr.take i))), some (.dat (.lst (lay.map kD))), some (.fdc (fE fr)), y5, y6, y7, some (.dat (kD p.1)), y9] _ _
        have hil := (List.getElem?_eq_some_iff.mp hp).1
        have hnew : rdGet (l ++ fr.take i) p.1 = none := by
          rw [rdGet_none, List.map_append, List.mem_append]
          rintro (h | h)
          · exact hf.new p (List.mem_of_getElem? hp) h
          · obtain ⟨q, hq, e⟩ := List.mem_map.mp h
            obtain ⟨j, hj1, hj2⟩ := List.mem_iff_getElem.mp hq
            rw [List.length_take] at hj1
            rw [List.getElem_take] at hj2
            have hnd := (List.getElem?_inj (l := fr.map (·.1)) (i := j) (j := i) (by rw [List.length_map]; omega) hf.nd).mp (by
              rw [List.getElem?_map, List.getElem?_map, hp, List.getElem?_eq_getElem (by omega), Option.map_some, Option.map_some, hj2, e])
            omega
        refine su_one (su_ndput L 2 (kvs := fE (l ++ fr.take i)) (k := kOf p.1) (d := iD p.2) (pu_ndget L 4 (k := kOf p.1) (by rw [keyD_kOf]; exact pu_var L.toLo 8) (by rw [ndGet_fE, rdGet_nd hf.nd hp]; rfl) (depth_kOf _) (depOk_fE _) (tup_kOf _) (.inr rfl)) (by rw [keyD_kOf]; exact pu_var L.toLo 8) (depth_kOf _) (depOk_fE _) (tup_kOf _) (by unfold fE; rw [List.length_map, List.length_append, List.length_take, sizeLine_eq]; omega) ?_)
        rw [fE_snoc hnew]
        refine ⟨some (.dat (kD p.1)), ?_⟩
        have e : l ++ fr.take (i + 1) = l ++ fr.take i ++ [(p.1, p.2)] := by
          rw [List.take_add_one, hp, List.append_assoc]; rfl
        rw [e]
        rfl
    · obtain ⟨x8, rfl⟩ := hP
      rw [show ((fE fr).map fun p => keyD p.1).length = fr.length by rw [List.length_map]; unfold fE; rw [List.length_map], List.take_length]
      refine su_cons (su_setN L 3 (pn_listF L.toLo 4 T.list) ?_)
      rw [ekeys]
      show SUs X g [some (.dat (codeD c)), some (.dat (hsD hs)), some (.ndc (fE (l ++ fr))), some (.own (fr.map fun p => kD p.1)), some (.fdc (fE fr)), y5, y6, y7, x8, y9] _ _
      refine su_freeze 3 (ds := fr.map fun p => kD p.1) (su_nil ?_)
      refine ⟨2 * (48020 - (l ++ fr).length) + (if (fr.map (·.1)).isEmpty then 0 else 1), ?_, l ++ fr, fr.map (·.1), _, _, _, _, _, _, by rw [List.map_map]; rfl, hj, fun p hp => by rw [List.map_append]; exact List.mem_append_right _ hp, rfl⟩
      rw [hne, List.length_append]
      by_cases hf0 : fr = []
      · rw [hf0]
        show 2 * (48020 - (l.length + 0)) + 0 < 2 * (48020 - l.length) + 1
        omega
      · have : 0 < fr.length := List.length_pos_iff.mpr hf0
        have : (if (fr.map (·.1)).isEmpty = true then 0 else 1) ≤ 1 := by split <;> omega
        show _ < 2 * (48020 - l.length) + 1
        omega
end
end C66
end TD18
section TD19
set_option Elab.async false
set_option linter.all false
set_option autoImplicit false
set_option maxRecDepth 100000
set_option maxHeartbeats 4000000
namespace C66
open PySem PySem.Spec L2
section
variable {X : Cx} {g : Gm} {ρ ρ1 : Rho} {N : List Str} {sc : Scope} {vs : List Nat} {pos p p1 p2 p3 : Pos} {e : Expr}
/-- isinstance(e, (tuple, list)) of a truth value -/
theorem pu_isiTL (L : Lo X N sc vs) (T : Txt X.K g.C X.mg) {b : Bool} {k : Nat} (ha : PU X g ρ e ρ1 (.bl b)) (hg : gloC sc "isinstance" = true := by decide +kernel) (hg1 : gloC sc "tuple" = true := by decide +kernel) (hg2 : gloC sc "list" = true := by decide +kernel)
    (he : starEach [e, .Tuple [.Name "tuple" p1, .Name "list" p2] k p3] X.env = (false, eval e X.env) :: starEach [.Tuple [.Name "tuple" p1, .Name "list" p2] k p3] X.env := by rfl) (he2 : starEach [.Tuple [.Name "tuple" p1, .Name "list" p2] k p3] X.env = (false, eval (.Tuple [.Name "tuple" p1, .Name "list" p2] k p3) X.env) :: starEach [] X.env := by rfl)
    (h1 : starEach [.Name "tuple" p1, .Name "list" p2] X.env = (false, eval (.Name "tuple" p1) X.env) :: starEach [.Name "list" p2] X.env := by rfl) (h2 : starEach [.Name "list" p2] X.env = (false, eval (.Name "list" p2) X.env) :: starEach [] X.env := by rfl)
    (hpl : (backTo pos (starEach [.Tuple [.Name "tuple" p1, .Name "list" p2] k p3] X.env)).any (·.1) = false := by rfl) : PU X g ρ (.Call (.Name "isinstance" p) [e, .Tuple [.Name "tuple" p1, .Name "list" p2] k p3] [] pos) ρ1 (.bl false) :=
  pe_weak (pe_callB call_isiT (gl_of L hg) T.isinstance (by decide +kernel) (pa_cons ha (pa_cons (pe_tup (pa_cons (pe_bltn (v := .ty "tuple") (u := .type "tuple") (gl_of L hg1) T.tuple (by decide +kernel) rfl (by decide) (by decide)) (pa_cons (pe_bltn (v := .ty "list") (u := .type "list") (gl_of L hg2) T.list (by decide +kernel) rfl (by decide) (by decide)) pa_nil h2) h1)) pa_nil he2) he) (by decide) (by decide) he hpl) fun σ H Q q =>
    ⟨q.1, fun v H1 E1 x1 r1 => by
      cases r1
      refine ⟨by show 2 ≤ sizeLine; decide, fun tp n => ⟨.bl b, tp, [.ty "tuple", .ty "list"], .type "bool", [.type "tuple", .type "list"], false, rfl, upd_same, .cons (.ty _) (.cons (.ty _) .nil), .base (.bl b), kitAny_cons (b := false) (kit_ty (by decide +kernel)) (fun _ => kitAny_cons (b := false) (kit_ty (by decide +kernel)) (fun _ => kitAny_nil) (fun z => by cases z)) (fun z => by cases z), ?_⟩⟩
      have sm : Same H1 (upd H1 tp (.tup [.ty "tuple", .ty "list"])) := fun c o hc => by rw [upd_ne (ne_of_none hc n)]; exact hc
      exact q.2 _ _ (E1.same sm) (x1.trans (.of_same sm)) (.bl _)⟩
end
theorem eqv_bl (a b : Bool) : PyData.eqv (D.bl a).py (D.bl b).py = (a == b) := by
  show PyData.eqv (.bool a) (.bool b) = _
  rw [PyData.eqv]
section
variable {P : Program} {w : World} {K : PySem.W.Frag} {mg : Str → Option Value} {base : Heap} {C : Addr} {Tb : List (Addr × Str)}
/-! _law_alike, of truth values -/
abbrev nAlike : List Str := ["_law_found", "_law_due", "_law_k"]
theorem scAlike : FnScope nAlike ["_law_found", "_law_due"] (defScope (topS 68)) := ⟨rfl, rfl, rfl, by decide +kernel, rfl, by decide +kernel, by decide +kernel⟩
def preAlike : List D → (Bd → Prop) → Prop := fun ds post => ∃ b : Bool, ds = [.bl b, .bl b] ∧ ∀ x, x = .dat (.bl true) → post x
theorem ok_law_alike {f : Addr} {fd : FuncData} (F : Fun K "_law_alike" "_law_alike" (topS 68) f fd) (T : Txt K C mg) : FnOk P w K mg base CX0 1 f fd ["_law_found", "_law_due"] (spF C Tb P w K preAlike) := by
  refine fn_data [0, 1] F scAlike (by decide +kernel) (fun ds post ⟨_, e, _⟩ => by rw [e]; rfl) (by decide) ?_
  rintro X rfl rfl rfl rfl rfl L hr g rfl rfl hR ds post ⟨b, rfl, hp⟩
  show SUs X g [some (.dat (.bl b)), some (.dat (.bl b)), none] _ _
  refine s_ifF (k := false) (ptu_val (pu_isiTL L.toLo T (pu_var L.toLo 1))) rfl ?_
  refine s_ifF (k := isNon (.bl b) || isD "str" (.bl b)) (ptu_of (pwu_or (ptu_isN (pu_var L.toLo 1)) fun _ => pwu_or1 (ptu_val (i_str L.toLo T (pu_var L.toLo 1))))) rfl ?_
  refine su_one (s_retE (d' := .bl true) (pu_and (i_int L.toLo T (pu_var L.toLo 0)) fun _ => pu_and (pu_cmp (ou_eqD L.hu (low_shp low_bl (by decide)) (low_shp low_bl (by decide))) (i_bool L.toLo T (pu_var L.toLo 0)) (i_bool L.toLo T (pu_var L.toLo 1))) fun _ => pu_one (pu_cmp (ou_eqD L.hu (low_shp low_bl (by decide)) (low_shp low_bl (by decide))) (pu_var L.toLo 0) (pu_var L.toLo 1))) ?_ (hp _ rfl))
  rw [eqv_bl, eqv_bl]
  cases b <;> rfl

/-! _law_is_table -/
abbrev nLTab : List Str := ["_law_code", "_law_handlers", "_law_value", "_law_holds", "_law_at", "_law_later", "_law_k"]
theorem scLTab : FnScope nLTab ["_law_code", "_law_handlers", "_law_value"] (defScope (topS 74)) := ⟨rfl, rfl, rfl, by decide +kernel, rfl, by decide +kernel, by decide +kernel⟩
def preLTab : List D → (Bd → Prop) → Prop := fun ds post => ∃ c hs v, ds = [codeD c, hsD hs, valD v] ∧ CodeOk c hs ∧ ∀ b, b = .dat (.bl (judge c hs v)) → post b
/-- the items that are no holds -/
def oddF : D → Option D := fun d => if isInD d 0 6 = true then none else some d
theorem oddF_nil (ds : List D) : (ds.filterMap oddF).isEmpty = ds.all fun d => isInD d 0 6 := by
  induction ds with
  | nil => rfl
  | cons d r ih =>
    have e0 : oddF d = if isInD d 0 6 = true then none else some d := rfl
    rw [List.filterMap_cons, List.all_cons, ← ih, e0]
    by_cases h : isInD d 0 6 = true
    · rw [if_pos h, h]; rfl
    · rw [if_neg h]
      cases q : isInD d 0 6 with
      | true => exact absurd q h
      | false => rfl
def plainD (d : D) : Prop := d = .non ∨ (∃ i, d = .int i) ∨ ∃ b, d = .bl b
theorem cell_tup (x : Cell) (h : isD "tuple" (cellD x) = true) : ∃ ds, cellD x = .tup ds ∧ ∀ d ∈ ds, plainD d := by
  cases x with
  | non => cases h
  | hol h' =>
    refine ⟨h'.map D.int, rfl, fun d hd => ?_⟩
    obtain ⟨i, _, rfl⟩ := List.mem_map.mp hd
    exact .inr (.inl ⟨i, rfl⟩)
  | lst h' => cases h
  | tru =>
    refine ⟨_, rfl, fun d hd => ?_⟩
    simp only [List.mem_cons, List.not_mem_nil, or_false] at hd
    rcases hd with rfl | rfl | rfl | rfl
    · exact .inr (.inr ⟨_, rfl⟩)
    all_goals exact .inr (.inl ⟨_, rfl⟩)
  | nons =>
    refine ⟨_, rfl, fun d hd => ?_⟩
    simp only [List.mem_cons, List.not_mem_nil, or_false] at hd
    rcases hd with rfl | rfl | rfl | rfl <;> exact .inl rfl
theorem plain_low {d : D} (h : plainD d) : d.low 0 := by
  rcases h with rfl | ⟨i, rfl⟩ | ⟨b, rfl⟩
  · exact low_non
  · exact low_int
  · exact low_bl
theorem ok_law_is_table {f : Addr} {fd : FuncData} (F : Fun K "_law_is_table" "_law_is_table" (topS 74) f fd) (T : Txt K C mg) (G1 : Dfn P w K mg base C Tb 2 "_law_astray" preLAstr) (G2 : Dfn P w K mg base C Tb 1 "_law_next" preLNext) (G3 : Dfn P w K mg base C Tb 1 "_law_behind" preLBeh) :
    FnOk P w K mg base CX0 3 f fd ["_law_code", "_law_handlers", "_law_value"] (spF C Tb P w K preLTab) := by
  refine fn_data [0, 1, 2, 3, 4, 5] F scLTab (by decide +kernel) (fun ds post ⟨_, _, _, e, _⟩ => by rw [e]; rfl) (by decide) ?_
  rintro X rfl rfl rfl rfl rfl L hr g rfl rfl hR ds post ⟨c, hs, v, rfl, ok, hp⟩
  show SUs X g [some (.dat (codeD c)), some (.dat (hsD hs)), some (.dat (valD v)), none, none, none, none] _ _
  replace hp : post (.dat (.bl (judge c hs v))) := hp _ rfl
  have hn1 := ok.pos
  have hn20 := ok.most
  have hnt : ∀ v', (∀ cs, v' ≠ .tab cs) → isD "tuple" (valD v') = false ∧ nohou (valD v') = true ∧ judge c hs v' = false := fun v' h => by
    cases v' with
    | tab cs => exact absurd rfl (h cs)
    | _ => exact ⟨rfl, rfl, rfl⟩
  by_cases hv : ∃ cs, v = .tab cs
  case neg =>
    obtain ⟨h1, h2, h3⟩ := hnt v fun cs e => hv ⟨cs, e⟩
    rw [h3] at hp
    refine s_ifT (k := !isD "tuple" (valD v) || false) (ptu_of (pwu_or (ptu_not (ptu_val (i_tuple L.toLo T (pu_var L.toLo 2) h2))) fun h => by rw [h1] at h; cases h)) (by rw [h1]; rfl) ?_
    exact su_one (s_ret pu_bl hp)
  obtain ⟨cs, rfl⟩ := hv
  show SUs X g [some (.dat (codeD c)), some (.dat (hsD hs)), some (.dat (.tup (cs.map cellD))), none, none, none, none] _ _
  replace hp : post (.dat (.bl (tableB c hs cs))) := hp
  refine s_ifR (k := !isD "tuple" (.tup (cs.map cellD)) || !decide ((cs.length : Int) = (c.length : Int))) (ptu_of (pwu_or (ptu_not (ptu_val (i_tuple L.toLo T (pu_var L.toLo 2)))) fun _ => pwu_or1 (ptu_cmp ou_neI (u_lenM (fn := cellD) L.toLo T (pu_var L.toLo 2)) (u_lenM (fn := stD) L.toLo T (pu_var L.toLo 0))))) (fun h => ?_) (fun h => ?_)
  · have e : tableB c hs cs = false := by
      have h : (false || !decide ((cs.length : Int) = (c.length : Int))) = true := h
      unfold tableB
      rw [decide_eq_false (fun z : cs.length = c.length => by rw [z] at h; simp at h)]
      rfl
    rw [e] at hp
    exact su_one (s_ret pu_bl hp)
  have hlen : cs.length = c.length := by
    have h : (false || !decide ((cs.length : Int) = (c.length : Int))) = false := h
    by_cases z : (cs.length : Int) = (c.length : Int)
    · omega
    · rw [decide_eq_false z] at h; cases h
  have etb : tableB c hs cs = (decide (cs[0]? = some (.hol zer)) && (cs.all okCell && (List.range c.length).all (okAt c hs cs))) := by
    unfold tableB
    rw [decide_eq_true hlen]; rfl
  rw [etb] at hp
  have bad1 : ∀ x ∈ cs, okCell x = false → post (.dat (.bl false)) := fun x hx h => by
    have e : cs.all okCell = false := by
      rw [List.all_eq_false]
      exact ⟨x, hx, by rw [h]; exact Bool.false_ne_true⟩
    rw [e, Bool.false_and, Bool.and_false] at hp
    exact hp
  refine su_cons (su_for L (S := [3]) (ds := cs.map cellD) (fun ρ d => ρ.set 3 (some (.dat d))) (fun i ρ => (∃ y, ρ = [some (.dat (codeD c)), some (.dat (hsD hs)), some (.dat (.tup (cs.map cellD))), y, none, none, none]) ∧ ∀ x ∈ cs.take i, okCell x = true)
    (piu_tup (pu_var L.toLo 2)) (fun i d ρ' hd _ => pgu_name L.toLo 3 (.inl (L.fn _)) (hS := by decide)) ⟨⟨none, rfl⟩, by simp⟩ (fun i d ρ' hd hP => ?_) (fun ρ' hP => ?_))
  · obtain ⟨⟨y, rfl⟩, hprev⟩ := hP
    rw [List.getElem?_map] at hd
    cases hx : cs[i]? with
    | none => rw [hx] at hd; cases hd
    | some x =>
      rw [hx] at hd
      cases hd
      have hxm := List.mem_of_getElem? hx
      have nxt : okCell x = true → ∀ x' ∈ cs.take (i + 1), okCell x' = true := fun h x' hx' => by
        rw [List.take_add_one, hx] at hx'
        rcases List.mem_append.mp hx' with z | z
        · exact hprev x' z
        · have z : x' ∈ [x] := z
          rw [List.mem_singleton.mp z]; exact h
      show SUs X g [some (.dat (codeD c)), some (.dat (hsD hs)), some (.dat (.tup (cs.map cellD))), some (.dat (cellD x)), none, none, none] _ _
      refine su_one (s_if (k := !isNon (cellD x)) (ptu_notN (pu_var L.toLo 3)) (fun hk => ?_) (fun hk => su_nil ⟨⟨_, rfl⟩, nxt ?_⟩))
      · have hne : x ≠ .non := fun e => by rw [e] at hk; cases hk
        have eok : okCell x = areD (cellD x) := by
          unfold okCell
          rw [decide_eq_false hne, Bool.false_or, areD_cell]
        have hb := bad1 x hxm
        have hnh := nohou_cell x
        have hct := cell_tup x
        rw [eok] at hb nxt
        clear eok hne hk hx hxm
        generalize cellD x = v at *
        refine s_ifR (k := !isD "tuple" v || (match v with | .tup ds => !decide ((ds.length : Int) = 4) | _ => false)) (ptu_of (pwu_or (ptu_not (ptu_val (i_tuple L.toLo T (pu_var L.toLo 3) hnh))) fun h => ?_)) (fun h => ?_) (fun h => ?_)
        · obtain ⟨ds', rfl, _⟩ := hct (by simpa using h)
          exact pwu_or1 (ptu_cmp ou_neI (u_lenT L.toLo T (pu_var L.toLo 3)) pu_int)
        · refine su_one (s_ret pu_bl (hb ?_))
          cases v with
          | tup ds =>
            have h : (false || !decide ((ds.length : Int) = 4)) = true := h
            show (decide (ds.length = 4) && _) = false
            rw [decide_eq_false (fun z => by rw [z] at h; cases h)]
            rfl
          | _ => rfl
        · obtain ⟨ds', rfl, hpl⟩ := hct (by
            cases q : isD "tuple" v with
            | true => rfl
            | false => rw [q] at h; cases h)
          have h4 : ds'.length = 4 := by
            have h : (false || !decide ((ds'.length : Int) = 4)) = false := h
            by_cases z : (ds'.length : Int) = 4
            · omega
            · rw [decide_eq_false z] at h; cases h
          have ear : areD (.tup ds') = ds'.all fun d => isInD d 0 6 := by
            show (decide (ds'.length = 4) && ds'.all fun d => isInD d 0 6) = _
            rw [decide_eq_true h4]; rfl
          rw [ear] at hb nxt
          have hlow : (D.lst (ds'.filterMap oddF)).low 1 := low_lst fun d hd => by
            obtain ⟨d0, h0, e⟩ := List.mem_filterMap.mp hd
            have e0 : oddF d0 = if isInD d0 0 6 = true then none else some d0 := rfl
            rw [e0] at e
            split at e
            · cases e
            · cases e; exact plain_low (hpl d h0)
          refine su_one (s_if (k := !PyData.eqv (D.lst (ds'.filterMap oddF)).py (D.lst []).py) (ptu_cmp (ou_neD L.hu (low_shp hlow (by decide)) (by decide +kernel)) (pu_of_pn (pn_lc L.toLo [("_law_k", 6)] [6] (fun ρ d => ρ.set 6 (some (.dat d))) oddF (piu_tup (pu_var L.toLo 3)) (by intro i hi; simp at hi; subst hi; rfl) (fun d => rfl) (fun s H Cc cl fp H0 R L' d hd ρ' e' => ?_) (by rw [h4]; decide))) (pu_lst pau_nil)) (fun hb2 => ?_) (fun hb2 => su_nil ⟨⟨_, rfl⟩, nxt ?_⟩))
          · subst e'
            refine ⟨pgu_name L' 6 (.inr (by rfl)), ?_, fun r hr' => ?_⟩
            · rcases hpl d hd with rfl | ⟨i, rfl⟩ | ⟨b, rfl⟩
              · exact ptsu_one (ptu_of (k := !isD "int" .non || false) (pwu_or (ptu_not (ptu_val (i_int L' T (pu_var L' 6)))) fun z => by cases z))
              · have e : (oddF (.int i)).isSome = (!isD "int" (.int i) || (isD "bool" (.int i) || !(decide ((0 : Int) ≤ i) && decide (i < 7)))) := by
                  show (if (decide ((0 : Int) ≤ i) && decide (i ≤ 6)) = true then none else some (D.int i)).isSome = (false || (false || !(decide ((0 : Int) ≤ i) && decide (i < 7))))
                  have e7 : decide (i < 7) = decide (i ≤ 6) := decide_eq_decide.mpr (by omega)
                  rw [e7]
                  generalize (decide ((0 : Int) ≤ i) && decide (i ≤ 6)) = z
                  cases z <;> rfl
                rw [e]
                exact ptsu_one (ptu_of (pwu_or (ptu_not (ptu_val (i_int L' T (pu_var L' 6)))) fun _ => pwu_or (ptu_val (i_bool L' T (pu_var L' 6))) fun _ => pwu_or1 (ptu_not (ptu_chain ou_le ou_lt pu_int (pu_var L' 6) pu_int))))
              · exact ptsu_one (ptu_of (k := !isD "int" (.bl b) || (isD "bool" (.bl b) || false)) (pwu_or (ptu_not (ptu_val (i_int L' T (pu_var L' 6)))) fun _ => pwu_or (ptu_val (i_bool L' T (pu_var L' 6))) fun z => by cases z))
            · have e0 : oddF d = if isInD d 0 6 = true then none else some d := rfl
              have e2 : d = r := by
                rw [e0] at hr'
                split at hr'
                · cases hr'
                · exact Option.some.inj hr'
              subst e2
              exact pu_var L' 6
          · rw [eqv_nilL, oddF_nil] at hb2
            exact su_one (s_ret pu_bl (hb (by
              cases q : ds'.all fun d => isInD d 0 6 with
              | false => rfl
              | true => rw [q] at hb2; cases hb2)))
          · rw [eqv_nilL, oddF_nil] at hb2
            cases q : ds'.all fun d => isInD d 0 6 with
            | true => rfl
            | false => rw [q] at hb2; cases hb2
      · have : x = .non := by
          cases x with
          | non => rfl
          | _ => cases hk
        subst this
        rfl
  obtain ⟨⟨y, rfl⟩, hprev⟩ := hP
  have hgood : ∀ x ∈ cs, okCell x = true := fun x hx => hprev x (by rw [List.length_map, List.take_length]; exact hx)
  have hall : cs.all okCell = true := List.all_eq_true.mpr hgood
  rw [hall, Bool.true_and] at hp
  refine su_cons (su_for L (S := [4]) (fun ρ d => ρ.set 4 (some (.dat d))) (fun i ρ => (∃ z u, ρ = [some (.dat (codeD c)), some (.dat (hsD hs)), some (.dat (.tup (cs.map cellD))), y, z, u, none]) ∧ ∀ j < i, okAt c hs cs j = true)
    (piu_range L.toLo (u_lenM (fn := stD) L.toLo T (pu_var L.toLo 0)) T.range (by omega) (by omega)) (fun i d ρ' _ _ => pgu_name L.toLo 4 (.inl (L.fn _)) (hS := by decide)) ⟨⟨none, none, rfl⟩, fun j hj => absurd hj (Nat.not_lt_zero _)⟩ (fun i d ρ' hd hP => ?_) (fun ρ' hP => ?_))
  · obtain ⟨⟨z, u, rfl⟩, hprev2⟩ := hP
    have hil : i < c.length := by
      have := (List.getElem?_eq_some_iff.mp hd).1
      simpa using this
    have ed : d = .int (i : Int) := by
      rw [List.getElem?_map, List.getElem?_range (by simpa using hil)] at hd
      simpa using hd.symm
    subst ed
    show SUs X g [some (.dat (codeD c)), some (.dat (hsD hs)), some (.dat (.tup (cs.map cellD))), y, some (.dat (.int i)), u, none] _ _
    have hi : c[i]? = some c[i] := List.getElem?_eq_getElem hil
    have hx : cs[i]? = some cs[i] := List.getElem?_eq_getElem (by omega)
    have hxg := hgood _ (List.mem_of_getElem? hx)
    generalize cs[i] = x at hx hxg
    have hdx : dAt (cs.map cellD) (i : Int) = some (cellD x) := by rw [dAt_nat]; exact cellD_get hx
    have nxt : okAt c hs cs i = true → ∀ j < i + 1, okAt c hs cs j = true := fun h j hj => by
      rcases Nat.lt_succ_iff_lt_or_eq.mp hj with z | z
      · exact hprev2 j z
      · rw [z]; exact h
    have bad : okAt c hs cs i = false → post (.dat (.bl false)) := fun h => by
      have e : (List.range c.length).all (okAt c hs cs) = false := by
        rw [List.all_eq_false]
        exact ⟨i, List.mem_range.mpr hil, by rw [h]; exact Bool.false_ne_true⟩
      rw [e, Bool.and_false] at hp
      exact hp
    refine su_one (s_if (k := !isNon (cellD x)) (ptu_notN (pu_ixT (pu_var L.toLo 2) (pu_var L.toLo 4) hdx)) (fun hk => ?_) (fun hk => ?_))
    · obtain ⟨h, rfl⟩ : ∃ h, x = .hol h := by
        cases x with
        | hol h => exact ⟨h, rfl⟩
        | non => cases hk
        | lst h => cases hxg
        | tru => cases hxg
        | nons => cases hxg
      have hg := okCell_hol hxg
      have hdh : dAt (cs.map cellD) (i : Int) = some (iD h) := hdx
      have eok : okAt c hs cs i = (!astrayB c hs i c[i] h && (nextL hs i c[i]).all fun l => decide (cs[l.toNat]? = some (.hol (behindL c i c[i] h l)))) := by
        unfold okAt
        rw [hx, hi]
      refine s_ifR (k := astrayB c hs i c[i] h) (ptu_val (pu_call L.toLo G1 hr (pau_cons (pu_var L.toLo 0) (pau_cons (pu_var L.toLo 1) (pau_cons (pu_var L.toLo 4) (pau_cons (pu_ixT (pu_var L.toLo 2) (pu_var L.toLo 4) hdh) pau_nil)))) ⟨c, hs, i, c[i], h, rfl, ok, hi, hg, fun b h => h⟩)) (fun ha => su_one (s_ret pu_bl (bad (by rw [eok, ha]; rfl)))) (fun ha => ?_)
      rw [ha, Bool.not_false, Bool.true_and] at eok
      refine su_one (su_for L (S := [5]) (ds := (nextL hs i c[i]).map D.int) (fun ρ d => ρ.set 5 (some (.dat d))) (fun j ρ => (∃ u, ρ = [some (.dat (codeD c)), some (.dat (hsD hs)), some (.dat (.tup (cs.map cellD))), y, some (.dat (.int i)), u, none]) ∧ ∀ l ∈ (nextL hs i c[i]).take j, cs[l.toNat]? = some (.hol (behindL c i c[i] h l)))
        (piu_lst (pu_call L.toLo G2 (hr.mono (by decide)) (pau_cons (pu_var L.toLo 0) (pau_cons (pu_var L.toLo 1) (pau_cons (pu_var L.toLo 4) pau_nil))) ⟨c, hs, i, c[i], rfl, ok, hi, fun b h => h⟩)) (fun j d ρ' hd _ => pgu_name L.toLo 5 (.inl (L.fn _)) (hS := by decide)) ⟨⟨u, rfl⟩, by simp⟩ (fun j d ρ' hd hP => ?_) (fun ρ' hP => ?_))
      · obtain ⟨⟨u, rfl⟩, hpr⟩ := hP
        rw [List.getElem?_map] at hd
        cases hlj : (nextL hs i c[i])[j]? with
        | none => rw [hlj] at hd; cases hd
        | some l =>
          rw [hlj] at hd
          cases hd
          have hl := List.mem_of_getElem? hlj
          have hin := next_in ok hi hl
          have hlc : l.toNat < cs.length := by omega
          have hcl : cs[l.toNat]? = some cs[l.toNat] := List.getElem?_eq_getElem hlc
          have hgl := hgood cs[l.toNat] (List.getElem_mem hlc)
          have hdl : dAt (cs.map cellD) l = some (cellD cs[l.toNat]) := by
            unfold dAt
            rw [if_pos hin.1]
            exact cellD_get hcl
          show SUs X g [some (.dat (codeD c)), some (.dat (hsD hs)), some (.dat (.tup (cs.map cellD))), y, some (.dat (.int i)), some (.dat (.int l)), none] _ _
          refine su_one (s_if (k := !PyData.eqv (cellD cs[l.toNat]).py (iD (behindL c i c[i] h l)).py) (ptu_cmp (ou_neD L.hu (low_shp (low_cell _) (by decide)) (low_shp low_iD (by decide))) (pu_ixT (pu_var L.toLo 2) (pu_var L.toLo 5) hdl) (pu_call L.toLo G3 (hr.mono (by decide)) (pau_cons (pu_var L.toLo 0) (pau_cons (pu_var L.toLo 4) (pau_cons (pu_ixT (pu_var L.toLo 2) (pu_var L.toLo 4) hdh) (pau_cons (pu_var L.toLo 5) pau_nil)))) ⟨c, hs, i, c[i], h, l, rfl, ok, hi, hg.1, fun b h => h⟩)) (fun hb => ?_) (fun hb => su_nil ⟨⟨_, rfl⟩, fun l' hl' => ?_⟩))
          · rw [eqv_good hgl] at hb
            refine su_one (s_ret pu_bl (bad ?_))
            rw [eok, List.all_eq_false]
            refine ⟨l, hl, ?_⟩
            rw [hcl]
            intro z
            have := of_decide_eq_true z
            rw [decide_eq_true (Option.some.inj this)] at hb
            cases hb
          · rw [eqv_good hgl] at hb
            have z : cs[l.toNat] = .hol (behindL c i c[i] h l) := by
              by_cases q : cs[l.toNat] = .hol (behindL c i c[i] h l)
              · exact q
              · rw [decide_eq_false q] at hb; cases hb
            rw [List.take_add_one, hlj] at hl'
            rcases List.mem_append.mp hl' with q | q
            · exact hpr l' q
            · have q : l' ∈ [l] := q
              rw [List.mem_singleton.mp q, hcl, z]
      · obtain ⟨⟨u, rfl⟩, hpr⟩ := hP
        refine ⟨⟨_, _, rfl⟩, nxt ?_⟩
        rw [eok]
        exact List.all_eq_true.mpr fun l hl => decide_eq_true (hpr l (by rw [List.length_map, List.take_length]; exact hl))
    · refine su_nil ⟨⟨_, _, rfl⟩, nxt ?_⟩
      have : x = .non := by
        cases x with
        | non => rfl
        | _ => cases hk
      subst this
      unfold okAt
      rw [hx]
  · obtain ⟨⟨z, u, rfl⟩, hprev2⟩ := hP
    have e : (List.range c.length).all (okAt c hs cs) = true := List.all_eq_true.mpr fun j hj => hprev2 j (by rw [List.length_map, List.length_range]; have := List.mem_range.mp hj; omega)
    rw [e, Bool.and_true] at hp
    obtain ⟨x, r, rfl⟩ : ∃ x r, cs = x :: r := by
      cases cs with
      | nil => have : (0 : Nat) = c.length := hlen; omega
      | cons x r => exact ⟨x, r, rfl⟩
    have e2 : decide ((x :: r)[0]? = some (.hol zer)) = PyData.eqv (cellD x).py (iD zer).py := by
      rw [eqv_zer]
      exact decide_eq_decide.mpr ⟨fun z => by injection z, fun z => by rw [z]; rfl⟩
    rw [e2] at hp
    exact su_one (s_ret (pu_cmp (ou_eqD (d2 := iD zer) L.hu (low_shp (low_cell x) (by decide)) (low_shp low_iD (by decide))) (pu_ixT (ds := cellD x :: r.map cellD) (pu_var L.toLo 2) pu_int rfl) (pu_tup (pau_cons pu_int (pau_cons pu_int (pau_cons pu_int (pau_cons pu_int pau_nil)))))) hp)
end
end C66
end TD19
section TP24
set_option Elab.async false
set_option linter.all false
set_option autoImplicit false
set_option maxRecDepth 100000
set_option maxHeartbeats 4000000
/-! P24: a list that stands at its place, read, stored, handed on. -/
namespace C66
open PySem PySem.Spec L2
section
variable {X : Cx} {g : Gm} {ρ ρ1 ρ2 ρ3 : Rho} {N : List Str} {sc : Scope} {vs : List Nat} {pos p p2 px py pz : Pos} {a b c e : Expr} {es : List Expr} {sts : List Stmt} {pp : Post} {aa : Addr} {d : D} {ds : List D} {x : Str} {k : Nat}
/-- row[e] -/
theorem pu_ixE (L : Lo X N sc vs) (j : Nat) {x : Str} {ds : List D} {i : Int} {d : D} (hb : PU X g ρ b ρ (.int i)) (h : dAt ds i = some d) (hj : ρ[j]? = some (some (.cel aa ds)) := by rfl) (hN : N[j]? = some x := by rfl) (hi : j ∈ vs := by decide) (hs : PlainIx b := by exact fun _ _ => rfl) : PU X g ρ (.Subscript (.Name x px) b pos) ρ d := by
  obtain ⟨h1, h2, h3⟩ := L.at_ hi hN
  refine pe_weak (pe_ix ix_list (pe_var (i := j) (by rw [L.hN]; exact hN) (by rw [L.hs]; exact h1) h2 h3) hb hs) fun σ H Q ⟨E, q⟩ => ?_
  obtain ⟨v, hv, us, rfl, ho, r⟩ := E.at_ j _ hj
  refine ⟨_, hv, E, fun u H2 E2 x2 r2 => ?_⟩
  obtain ⟨v', hv', us', rfl, ho', r'⟩ := E2.at_ j _ hj
  cases r2
  obtain ⟨w, h1, h2⟩ := dAt_rep r' h
  exact ⟨aa, us', i, w, rfl, rfl, .of ho', h1, q w H2 E2 x2 h2⟩
/-- script[e] -/
theorem pu_ixC {ns : List Int} {i n : Int} (ha : PU X g ρ a ρ1 (.scr ns)) (hb : PU X g ρ1 b ρ2 (.int i)) (h : dAt ns i = some n) (hs : PlainIx b := by exact fun _ _ => rfl) : PU X g ρ (.Subscript a b pos) ρ2 (.int n) :=
  pe_weak (pe_ix ix_list ha hb hs) fun σ H Q q => ⟨q.1, fun v H1 E1 x1 r1 => ⟨E1, fun u H2 E2 x2 r2 => by
    cases r2
    cases r1 with
    | @scr p _ s =>
      unfold dAt at h
      split at h
      · rename_i h0
        have hat : atI (ns.map V.int) i = some (.int n) := by
          have e := atI_nat (xs := ns.map V.int) (j := i.toNat) (v := .int n) (by rw [List.getElem?_map, h]; rfl)
          rwa [Int.toNat_of_nonneg h0] at e
        exact ⟨p, _, i, _, rfl, rfl, (s.ext x2).sq, hat, q.2 _ H2 E2 (x1.trans x2) (.int n)⟩
      · cases h⟩⟩
/-- row[e] = v -/
theorem su_putE (L : LoD X N sc vs) (j : Nat) {x : Str} {d : D} {ds : List D} {i : Int} (he : PU X g ρ e ρ d) (hb : PU X g ρ b ρ (.int i)) (h0 : 0 ≤ i) (h1 : i < ds.length) (h : pp.nx (ρ.set j (some (.cel aa (ds.set i.toNat d))))) (hj : ρ[j]? = some (some (.cel aa ds)) := by rfl) (hN : N[j]? = some x := by rfl) (hi : j ∈ vs := by decide)
    (ha : ∀ v, assign (.Subscript (.Name x px) b py) X.env v = (do
      let ov ← holding [v] (eval (.Name x px) X.env)
      let iv ← holding [v, ov] (eval b X.env)
      standAt py; holding [v, ov, iv] (setItem ov iv v); release [v, ov, iv] []) := by intro _; rfl) (hs : swapsWithSole [.Subscript (.Name x px) b py] e pos.line X.env = pure false := by rfl) (hw : swappedStores [.Subscript (.Name x px) b py] e X.env = pure none := by rfl)
    (h2 : (assignEach [.Subscript (.Name x px) b py] X.env).map (·.2) = [assign (.Subscript (.Name x px) b py) X.env] := by rfl) : SU X g ρ (.Assign [.Subscript (.Name x px) b py] e pos) pp := by
  obtain ⟨v1, v2, v3⟩ := L.at_ hi hN
  refine ps_weak (ps_asg he (pg_sub (pe_var (i := j) (by rw [L.hN]; exact hN) (by rw [L.hs]; exact v1) v2 v3) hb set_list ha) hs hw h2) fun D σ H q => ⟨q.1, fun v H1 E1 x1 r1 => ?_⟩
  obtain ⟨w, hw', us, rfl, ho, r⟩ := E1.at_ j _ hj
  refine ⟨_, hw', E1, fun u H2 E2 x2 r2 => ?_⟩
  cases r2
  obtain ⟨w, hw2, us, rfl, ho, r⟩ := E2.at_ j _ hj
  obtain ⟨E3, x3⟩ := E2.change (b1 := .cel aa (ds.set i.toNat d)) (o' := .lst (us.set i.toNat v)) hj rfl rfl hw' ho (fun z => z) (fun _ z => by cases z) (fun P q c _ hc => code_ne_lst ho hc) fun x => ⟨_, rfl, upd_same, (RepL.set (r1.ext x2) i.toNat r).ext x⟩
  exact ⟨aa, us, i, i.toNat, rfl, rfl, ho, op_ix h0 (by rw [r.length]; exact h1), q.2.1 _ _ _ h E3 ((x1.trans x2).trans x3)⟩
/-- one's own list is told by its place from now on -/
theorem su_pin (i : Nat) {ds : List D} (h : ∀ aa, SUs X g (ρ.set i (some (.cel aa ds))) sts pp) (hi : ρ[i]? = some (some (.own ds)) := by rfl) : SUs X g ρ sts pp := by
  refine ⟨fun pins s σ H D I q => ?_⟩
  obtain ⟨v, h1, a, us, rfl, ho, r⟩ := q.1.at_ i _ hi
  obtain ⟨E2, x2⟩ := q.1.change (b1 := .cel a ds) (o' := .lst us) hi rfl rfl h1 ho (fun z => z) (fun _ z => by cases z) (fun P q c _ hc => code_ne_lst ho hc) fun x => ⟨us, rfl, upd_same, r.ext x⟩
  have e : upd H a (.lst us) = H := by
    funext b
    by_cases z : b = a
    · rw [z, upd_same, ho]
    · rw [upd_ne z]
  rw [e] at E2
  exact (h a).run pins s σ H D I ⟨E2, q.2⟩
theorem Hold.calledE {σ : L2.St} {H H' : Hp} {i : Nat} {us us' : List V} {row row' : List D} (E : Hold X g ρ σ H) (h : ρ[i]? = some (some (.cel aa row))) (hv : σ[i]? = some (some (.ref aa))) (ho : H aa = some (.lst us)) (kr : KeepR [aa] H H') (ho' : H' aa = some (.lst us'))
    (r' : RepL X.K g.C H' us' row') (ht : LamX.Tabs g.T H') : Hold X g (ρ.set i (some (.cel aa row'))) σ H' ∧ Ext H H' := by
  have x := kr.ext (fun b hb o q im => by
    have e : b = aa := by simpa using hb
    subst e
    rw [ho] at q; cases q
    exact im)
  have hi : i < ρ.length := (List.getElem?_eq_some_iff.mp h).1
  have sp : ∀ (j : Nat) (b : Bd), (ρ.set i (some (.cel aa row')))[j]? = some (some b) → (j = i ∧ b = .cel aa row') ∨ (j ≠ i ∧ ρ[j]? = some (some b)) := fun j b q => by
    by_cases hj : i = j
    · subst hj
      rw [List.getElem?_set_self hi] at q
      cases q
      exact .inl ⟨rfl, rfl⟩
    · rw [List.getElem?_set_ne hj] at q
      exact .inr ⟨Ne.symm hj, q⟩
  have un : ∀ (j : Nat) (b : Bd), (ρ.set i (some (.cel aa row')))[j]? = some (some b) → b.mine = true → ∃ b', ρ[j]? = some (some b') ∧ b'.mine = true := fun j b q mb => by
    rcases sp j b q with ⟨rfl, rfl⟩ | ⟨hj, q⟩
    · exact ⟨_, h, rfl⟩
    · exact ⟨b, q, mb⟩
  refine ⟨⟨fun j b q => ?_, fun j b a' q m z => ?_, fun j k b c a' q mq q' mq' z z' => ?_, fun b o hb nr => ?_, ht, by simp [E.len]⟩, x⟩
  · rcases sp j b q with ⟨rfl, rfl⟩ | ⟨hj, q⟩
    · exact ⟨_, hv, us', rfl, ho', r'⟩
    · obtain ⟨v, h1, h2⟩ := E.at_ j b q
      refine ⟨v, h1, h2.ext x fun m a' o2 e hb => ?_⟩
      subst e
      obtain ⟨a2, o3, e3, h3, _, nt⟩ := h2.mine_at m
      cases e3
      rw [h3] at hb; cases hb
      have ne : a' ≠ aa := fun e => hj (E.dist j i b _ aa q m h rfl (by rw [h1, e]) hv)
      rcases kr _ _ h3 (by simpa using ne) with z | ⟨ps, _, e, _⟩
      · exact z
      · exact absurd e (nt ps)
  · obtain ⟨b', q1, m1⟩ := un j b q m
    exact E.own j b' a' q1 m1 z
  · obtain ⟨b', q1, m1⟩ := un j b q mq
    obtain ⟨c', q2, m2⟩ := un k c q' mq'
    exact E.dist j k b' c' a' q1 m1 q2 m2 z z'
  · have ne : b ≠ aa := fun e => by
      subst e
      rcases E.own i _ b h rfl hv with z | z
      · rw [z] at hb; cases hb
      · exact nr z
    rcases E.keep b o hb nr with z | ⟨ps, ps', e1, z⟩
    · rcases kr _ _ z (by simpa using ne) with z' | ⟨qs, qs', e2, z'⟩
      · exact .inl z'
      · exact .inr ⟨qs, qs', e2, z'⟩
    · rcases kr _ _ z (by simpa using ne) with z' | ⟨qs, qs', e2, z'⟩
      · exact .inr ⟨ps, ps', e1, z'⟩
      · exact .inr ⟨ps, qs', e1, z'⟩
/-- f(row, e, ..): row, then row' -/
theorem pu_callE {preR : List D → List D → (List D → Bd → Prop) → Prop} (L : Lo X N sc vs) (i : Nat) {y : Str} {row0 row row' : List D} (G : Dfr X.prog X.w X.K X.mg X.base g.C g.T k x preR) (hr : Room k X.A) (ha : PAU X g ρ es ρ1 ds)
    (hp : preR row ds fun r b => r = row' ∧ b = .dat d) (h0 : ρ[i]? = some (some (.cel aa row0)) := by rfl) (h1 : ρ1[i]? = some (some (.cel aa row)) := by rfl) (hN : N[i]? = some y := by rfl) (hi : i ∈ vs := by decide) (hg : gloC sc x = true := by decide +kernel) (hdb : (x == ("__debug__" : Str)) = false := by decide)
    (he : starEach (.Name y py :: es) X.env = (false, eval (.Name y py) X.env) :: starEach es X.env := by rfl) (hpl : (backTo pos (starEach es X.env)).any (·.1) = false := by rfl) : PU X g ρ (.Call (.Name x p) (.Name y py :: es) [] pos) (ρ1.set i (some (.cel aa row'))) d := by
  obtain ⟨f, fd, ps, F, hm, hk, hb⟩ := G
  obtain ⟨v1, v2, v3⟩ := L.at_ hi hN
  refine pe_weak (pe_call F hr (gl_of L hg) hm hk hb .nil pass0 (pa_cons (pe_var (i := i) (by rw [L.hN]; exact hN) (by rw [L.hs]; exact v1) v2 v3) ha he) hdb he hpl) fun σ H Q q => ?_
  obtain ⟨v, hv, us0, rfl, ho0, _⟩ := q.1.at_ i _ h0
  refine ⟨.ref aa, hv, q.1, fun us H1 E1 x1 r1 => ?_⟩
  show spR g.C g.T X.prog X.w X.K preR ((.ref aa :: us) ++ []) H1 Q E0
  rw [List.append_nil]
  obtain ⟨v', hv', us1, rfl, ho1, rr⟩ := E1.at_ i _ h1
  refine ⟨aa, us1, row, us, ds, _, hp, rfl, ho1, rr, E1.tabs, r1, fun rw_ b v us' H2 hb' kr ho' rr' ht r2 => ?_⟩
  obtain ⟨rfl, rfl⟩ := hb'
  obtain ⟨E2, x2⟩ := E1.calledE h1 hv ho1 kr ho' rr' ht
  exact q.2 v H2 E2 (x1.trans x2) r2
/-- x, y = f(row, e, ..), a pair of data, whatever of post comes -/
theorem su_unpackE {preR : List D → List D → (List D → Bd → Prop) → Prop} {post : List D → Bd → Prop} (L : LoD X N sc vs) (r i j : Nat) {y x1 x2 : Str} {row0 row : List D} {kk : Nat} {pt p1 p2 p3 : Pos} (G : Dfr X.prog X.w X.K X.mg X.base g.C g.T k x preR) (hr : Room k X.A) (ha : PAU X g ρ es ρ1 ds) (hp : preR row ds post)
    (h : ∀ row' b, post row' b → ∃ d1 d2, b = .dat (.tup [d1, d2]) ∧ pp.nx (((ρ1.set r (some (.cel aa row'))).set i (some (.dat d1))).set j (some (.dat d2)))) (h0 : ρ[r]? = some (some (.cel aa row0)) := by rfl) (h1 : ρ1[r]? = some (some (.cel aa row)) := by rfl) (hN : N[r]? = some y := by rfl) (hi : r ∈ vs := by decide)
    (hN1 : N[i]? = some x1 := by rfl) (hN2 : N[j]? = some x2 := by rfl) (hl1 : locC sc x1 = true := by decide +kernel) (hl2 : locC sc x2 = true := by decide +kernel) (hg : gloC sc x = true := by decide +kernel) (hdb : (x == ("__debug__" : Str)) = false := by decide)
    (he : starEach (.Name y py :: es) X.env = (false, eval (.Name y py) X.env) :: starEach es X.env := by rfl) (hpl : (backTo p3 (starEach es X.env)).any (·.1) = false := by rfl)
    (hw : swappedStores [.Tuple [.Name x1 p1, .Name x2 p2] kk pt] (.Call (.Name x p) (.Name y py :: es) [] p3) X.env = pure none := by rfl) (hs : swapsWithSole [.Tuple [.Name x1 p1, .Name x2 p2] kk pt] (.Call (.Name x p) (.Name y py :: es) [] p3) pos.line X.env = pure false := by rfl)
    (g1 : (assignEach [.Tuple [.Name x1 p1, .Name x2 p2] kk pt] X.env).map (·.2) = [assign (.Tuple [.Name x1 p1, .Name x2 p2] kk pt) X.env] := by rfl) (e1 : (assignEach [.Name x1 p1, .Name x2 p2] X.env).map (·.2) = assign (.Name x1 p1) X.env :: (assignEach [.Name x2 p2] X.env).map (·.2) := by rfl)
    (e2 : (assignEach [.Name x2 p2] X.env).map (·.2) = assign (.Name x2 p2) X.env :: (assignEach [] X.env).map (·.2) := by rfl) (hn : (assignEach [.Name x1 p1, .Name x2 p2] X.env).length = 2 := by rfl) (hst : (assignEach [.Name x1 p1, .Name x2 p2] X.env).findIdx? (·.1) = none := by rfl) :
    SU X g ρ (.Assign [.Tuple [.Name x1 p1, .Name x2 p2] kk pt] (.Call (.Name x p) (.Name y py :: es) [] p3) pos) pp := by
  obtain ⟨f, fd, ps, F, hm, hk, hb⟩ := G
  obtain ⟨v1, v2, v3⟩ := L.at_ hi hN
  refine ps_weak (ps_asg (g := fun v σ H Q => ∃ ρ' d1 d2, uG X g [i, j] ρ' ((ρ'.set i (some (.dat d1))).set j (some (.dat d2))) (.tup [d1, d2]) v σ H Q) (pe_call F hr (gl_of L.toLo hg) hm hk hb .nil pass0 (pa_cons (pe_var (i := r) (by rw [L.hN]; exact hN) (by rw [L.hs]; exact v1) v2 v3) ha he) hdb he hpl)
    (pg_any fun v σ H Q ⟨ρ', d1, d2, q⟩ => ⟨_, pgu_pair (S := [i, j]) (d1 := d1) (d2 := d2) (ρ := ρ') (ρ1 := ρ'.set i (some (.dat d1))) L.calm (pgu_name L.toLo i (.inl (L.fn x1)) hN1 hl1 (by simp)) (pgu_name L.toLo j (.inl (L.fn x2)) hN2 hl2 (by simp)) hn hst e1 e2, q⟩) hs hw g1) fun D σ H q => ?_
  obtain ⟨v, hv, us0, rfl, ho0, _⟩ := q.1.at_ r _ h0
  refine ⟨.ref aa, hv, q.1, fun us H1 E1 x1 r1 => ?_⟩
  show spR g.C g.T X.prog X.w X.K preR ((.ref aa :: us) ++ []) H1 _ E0
  rw [List.append_nil]
  obtain ⟨v', hv', us1, rfl, ho1, rr⟩ := E1.at_ r _ h1
  refine ⟨aa, us1, row, us, ds, _, hp, rfl, ho1, rr, E1.tabs, r1, fun rw_ b v us' H2 hb' kr ho' rr' ht r2 => ?_⟩
  obtain ⟨d1, d2, rfl, hnx⟩ := h rw_ b hb'
  obtain ⟨E2, x2⟩ := E1.calledE h1 hv ho1 kr ho' rr' ht
  exact ⟨_, d1, d2, E2, r2, fun σ' H' E' x' _ _ => q.2.1 _ _ _ hnx E' ((x1.trans x2).trans x')⟩
end
/-- THE RULE for a def whose first argument is a list that it changes -/
theorem fn_row {P : Program} {w : World} {K : PySem.W.Frag} {mg : Str → Option Value} {base : Heap} {x qual : Str} {st : Stmt} {f : Addr} {fd : FuncData} {N ps : List Str} {k : Nat} {C : Addr} {T : List (Addr × Str)} {pre : List D → List D → (List D → Bd → Prop) → Prop} (vis : List Nat) (F : Fun K x qual st f fd) (S : FnScope N ps (defScope st)) (hlook : lookC N (defScope st) vis = true)
    (len : ∀ row ds post, pre row ds post → ds.length + 1 = ps.length) (hle : ps.length ≤ N.length)
    (body : ∀ (X : Cx), X.prog = P → X.w = w → X.K = K → X.mg = mg → X.base = base → LoD X N (defScope st) vis → Room k X.A → ∀ g : Gm, g.C = C → g.T = T → ∀ (a : Addr) row ds post, pre row ds post →
      SUs X g (some (.cel a row) :: (ds.map (fun d => some (Bd.dat d)) ++ List.replicate (N.length - (ds.length + 1)) none)) (defBody st) { nx := fun ρ => ∃ row', ρ[0]? = some (some (.cel a row')) ∧ post row' (.dat .non), rt := fun ρ b => ∃ row', ρ[0]? = some (some (.cel a row')) ∧ post row' b }) : FnOk P w K mg base CX0 (k + 1) f fd ps (spR C T P w K pre) := by
  refine F.ok S (fun vs H Q E h => ?_) (fun cdv A outer s H vs Q E hr h => ?_)
  · obtain ⟨a, us, row, vs', ds, post, h1, rfl, _, _, _, h3, _⟩ := h
    rw [List.length_cons, h3.length]
    exact len row ds post h1
  · obtain ⟨a, us, row, vs', ds, post, h1, rfl, ho, hrow, ht, h3, h4⟩ := h
    have L : LoD (cxOf CX0 P w K mg base N qual (defScope st) f cdv A outer s H E).nox N (defScope st) vis := ⟨⟨rfl, rfl, rfl, S.nd, hlook⟩, fun _ => rfl, PassesOwn.never, hr.units⟩
    refine ⟨_, body _ rfl rfl rfl rfl rfl L hr ⟨C, T, H, [a]⟩ rfl rfl a row ds post h1, ?_⟩
    have hl := len row ds post h1
    have get : ∀ (i : Nat) (b : Bd), (some (Bd.cel a row) :: (ds.map (fun d => some (Bd.dat d)) ++ List.replicate (N.length - (ds.length + 1)) none))[i]? = some (some b) → (i = 0 ∧ b = .cel a row) ∨ ∃ j d, i = j + 1 ∧ ds[j]? = some d ∧ b = .dat d := fun i b q => by
      cases i with
      | zero => simp at q; exact .inl ⟨rfl, q.symm⟩
      | succ j =>
        right
        rw [List.getElem?_cons_succ, List.getElem?_append] at q
        split at q
        · rw [List.getElem?_map] at q
          cases z : ds[j]? with
          | none => rw [z] at q; cases q
          | some d =>
            rw [z] at q
            simp at q
            exact ⟨j, d, rfl, z, q.symm⟩
        · rw [List.getElem?_replicate] at q
          split at q <;> simp at q
    refine ⟨⟨fun i b q => ?_, fun i b a' q m z => ?_, fun i j b c a' q m q' m' z z' => ?_, fun b o q _ => .inl q, ht, ?_⟩, fun ρ' σ' H' hn E' _ => ?_, fun ρ' b v σ' H' hn E' _ r => ?_, fun _ _ _ z => z.elim, fun _ _ _ z => z.elim⟩
    · rcases get i b q with ⟨rfl, rfl⟩ | ⟨j, d, rfl, hd, rfl⟩
      · exact ⟨.ref a, rfl, us, rfl, ho, hrow⟩
      · obtain ⟨v, e1, e2⟩ := h3.get hd
        refine ⟨v, ?_, e2⟩
        unfold L2.start
        rw [List.map_cons, List.cons_append, List.getElem?_cons_succ, List.getElem?_append_left (by rw [List.length_map]; exact (List.getElem?_eq_some_iff.mp e1).1), List.getElem?_map, e1]
        rfl
    · rcases get i b q with ⟨rfl, rfl⟩ | ⟨j, d, rfl, hd, rfl⟩
      · right
        have z : some (some (V.ref a)) = some (some (V.ref a')) := z
        cases z
        exact List.mem_singleton.mpr rfl
      · cases m
    · rcases get i b q with ⟨rfl, rfl⟩ | ⟨_, d, rfl, hd, rfl⟩
      · rcases get j c q' with ⟨rfl, rfl⟩ | ⟨_, d, rfl, hd, rfl⟩
        · rfl
        · cases m'
      · cases m
    · unfold L2.start
      have := h3.length
      simp
      omega
    · obtain ⟨row', e1, e2⟩ := hn
      obtain ⟨v, e3, us', rfl, e4, e5⟩ := E'.at_ 0 _ e1
      exact h4 row' (.dat .non) .non us' H' e2 (fun b o hb nb => E'.keep b o hb nb) e4 e5 E'.tabs Rep.non
    · obtain ⟨row', e1, e2⟩ := hn
      obtain ⟨v', e3, us', rfl, e4, e5⟩ := E'.at_ 0 _ e1
      exact h4 row' b v us' H' e2 (fun b o hb nb => E'.keep b o hb nb) e4 e5 E'.tabs r
end C66
end TP24
section TD20
set_option Elab.async false
set_option linter.all false
set_option autoImplicit false
set_option maxRecDepth 100000
set_option maxHeartbeats 4000000
namespace C66
open PySem PySem.Spec L2
/-! ### the plain side: draws -/
abbrev Rw := Int × Int × Int
def rowR (ns : List Int) (q : Rw) : List D := [.scr ns, .int q.1, .int q.2.1, .int q.2.2]
def RowOk (q : Rw) : Prop := 0 ≤ q.1 ∧ 0 ≤ q.2.1 ∧ q.2.1 < 2147483647 ∧ 0 ≤ q.2.2
def sgl (s : Int) : Int := (s * 48271 + 11) % 2147483647
def cellI (ns : List Int) (p : Int) : Int := (ns[(p - 1).toNat]?).getD 0
def sgc (s c : Int) : Int := (s * 48271 + c + 11) % 2147483647
def takenF (ns : List Int) (q : Rw) (m : Int) : Int × Rw :=
  if 0 < q.2.2 then (q.2.2 % m, (q.1, q.2.1, q.2.2.fdiv m))
  else if (ns.length : Int) < q.1 + 1 then ((sgl q.2.1).fdiv 7 % m, (q.1 + 1, sgl q.2.1, q.2.2))
  else (cellI ns (q.1 + 1) % m, (q.1 + 1, sgc q.2.1 (cellI ns (q.1 + 1)), if (10 : Int) ^ (18 : Int).toNat ≤ cellI ns (q.1 + 1) then (cellI ns (q.1 + 1)).fdiv m else q.2.2))
theorem fdiv_nn {a b : Int} (h : 0 ≤ a) (hb : 0 < b) : 0 ≤ a.fdiv b := by
  rw [Int.fdiv_eq_ediv_of_nonneg _ (Int.le_of_lt hb)]
  exact Int.ediv_nonneg h (Int.le_of_lt hb)
theorem takenF_ok {ns : List Int} {q : Rw} {m : Int} (h : RowOk q) (hm : 0 < m) : 0 ≤ (takenF ns q m).1 ∧ (takenF ns q m).1 < m ∧ RowOk (takenF ns q m).2 := by
  have md : ∀ a : Int, 0 ≤ a % m ∧ a % m < m := fun a => ⟨Int.emod_nonneg _ (by omega), Int.emod_lt_of_pos _ hm⟩
  have md2 : ∀ a : Int, 0 ≤ a % 2147483647 ∧ a % 2147483647 < 2147483647 := fun a => ⟨Int.emod_nonneg _ (by decide), Int.emod_lt_of_pos _ (by decide)⟩
  obtain ⟨h1, h2, h3, h4⟩ := h
  unfold takenF
  by_cases c1 : 0 < q.2.2
  · rw [if_pos c1]
    exact ⟨(md _).1, (md _).2, h1, h2, h3, fdiv_nn h4 hm⟩
  · rw [if_neg c1]
    by_cases c2 : (ns.length : Int) < q.1 + 1
    · rw [if_pos c2]
      exact ⟨(md _).1, (md _).2, by show 0 ≤ q.1 + 1; omega, (md2 _).1, (md2 _).2, h4⟩
    · rw [if_neg c2]
      refine ⟨(md _).1, (md _).2, by show 0 ≤ q.1 + 1; omega, (md2 _).1, (md2 _).2, ?_⟩
      show 0 ≤ if (10 : Int) ^ (18 : Int).toNat ≤ cellI ns (q.1 + 1) then (cellI ns (q.1 + 1)).fdiv m else q.2.2
      split
      · rename_i h
        exact fdiv_nn (Int.le_trans (by decide) h) hm
      · exact h4
section
variable {P : Program} {w : World} {K : PySem.W.Frag} {mg : Str → Option Value} {base : Heap} {C : Addr} {Tb : List (Addr × Str)}
theorem u_int {X : Cx} {g : Gm} {ρ ρ1 : Rho} {N : List Str} {sc : Scope} {vs : List Nat} {pos p : Pos} {e : Expr} {i : Int} (L : Lo X N sc vs) (T : Txt X.K g.C X.mg) (ha : PU X g ρ e ρ1 (.int i)) (hg : gloC sc "int" = true := by decide +kernel) (he : starEach [e] X.env = (false, eval e X.env) :: starEach [] X.env := by rfl) (hpl : (backTo pos (starEach [] X.env)).any (·.1) = false := by rfl) :
    PU X g ρ (.Call (.Name "int" p) [e] [] pos) ρ1 (.int i) := pu_callTy L cu_int T.int (by decide +kernel) (pau_cons ha pau_nil he) hg (by decide) (by decide) he hpl
/-! _law_taken -/
abbrev nTk : List Str := ["_law_row", "_law_many", "_law_found", "_law_cell"]
theorem scTk : FnScope nTk ["_law_row", "_law_many"] (defScope (topS 64)) := ⟨rfl, rfl, rfl, by decide +kernel, rfl, by decide +kernel, by decide +kernel⟩
def preTk : List D → List D → (List D → Bd → Prop) → Prop := fun row ds post => ∃ ns q m, row = rowR ns q ∧ ds = [.int m] ∧ RowOk q ∧ 0 < m ∧ m < 100000 ∧ ∀ r b, r = rowR ns (takenF ns q m).2 → b = .dat (.int (takenF ns q m).1) → post r b
theorem ok_law_taken {f : Addr} {fd : FuncData} (F : Fun K "_law_taken" "_law_taken" (topS 64) f fd) (T : Txt K C mg) : FnOk P w K mg base CX0 1 f fd ["_law_row", "_law_many"] (spR C Tb P w K preTk) := by
  refine fn_row [0, 1, 2, 3] F scTk (by decide +kernel) (fun row ds post ⟨_, _, _, _, e, _⟩ => by rw [e]; rfl) (by decide) ?_
  rintro X rfl rfl rfl rfl rfl L hr g rfl rfl a row ds post ⟨ns, ⟨p, s, r⟩, m, rfl, rfl, hq, hm, hm2, hp⟩
  show SUs X g [some (.cel a [.scr ns, .int p, .int s, .int r]), some (.dat (.int m)), none, none] _ _
  obtain ⟨h1, h2, h3, h4⟩ := hq
  dsimp only at h1 h2 h3 h4
  replace hp := hp _ _ rfl rfl
  have hdv : ∀ i : Int, CDivN i m := fun i => ⟨by omega, by omega⟩
  refine s_ifR (k := decide (0 < r)) (ptu_cmp ou_gt (pu_ixE L.toLo 0 pu_int rfl) pu_int) (fun hc => ?_) (fun hc => ?_)
  · have hc := of_decide_eq_true hc
    have e : takenF ns (p, s, r) m = (r % m, (p, s, r.fdiv m)) := if_pos hc
    rw [e] at hp
    refine s_set L 2 (pu_bin (ou_mod hm) (u_int L.toLo T (pu_ixE L.toLo 0 pu_int rfl)) (pu_var L.toLo 1)) ?_
    show SUs X g [some (.cel a [.scr ns, .int p, .int s, .int r]), some (.dat (.int m)), some (.dat (.int (r % m))), none] _ _
    refine su_cons (su_putE L 0 (ds := [_, _, _, _]) (pu_bin (ou_fdiv (hdv r)) (pu_ixE L.toLo 0 pu_int rfl) (pu_var L.toLo 1)) pu_int (by decide) (by show (3 : Int) < 4; decide) ?_)
    show SUs X g [some (.cel a [.scr ns, .int p, .int s, .int (r.fdiv m)]), some (.dat (.int m)), some (.dat (.int (r % m))), none] _ _
    exact su_one (s_ret (pu_var L.toLo 2) ⟨_, rfl, hp⟩)
  have hc := of_decide_eq_false hc
  refine su_cons (su_putE L 0 (ds := [_, _, _, _]) (pu_bin ou_add (pu_ixE L.toLo 0 pu_int rfl) pu_int) pu_int (by decide) (by show (1 : Int) < 4; decide) ?_)
  show SUs X g [some (.cel a [.scr ns, .int (p + 1), .int s, .int r]), some (.dat (.int m)), none, none] _ _
  refine s_ifR (k := decide ((ns.length : Int) < p + 1)) (ptu_cmp ou_gt (pu_ixE L.toLo 0 pu_int rfl) (pu_callB L.toLo cu_lenC T.len PySem.boot_len (pau_cons (pu_ixE L.toLo 0 pu_int rfl) pau_nil))) (fun hc2 => ?_) (fun hc2 => ?_)
  · have hc2 := of_decide_eq_true hc2
    have e : takenF ns (p, s, r) m = ((sgl s).fdiv 7 % m, (p + 1, sgl s, r)) := by unfold takenF; rw [if_neg hc, if_pos hc2]
    rw [e] at hp
    refine su_cons (su_putE L 0 (ds := [_, _, _, _]) (pu_bin (ou_mod (by decide)) (u_int L.toLo T (pu_bin ou_add (pu_bin (ou_mul (.inr ⟨by decide, by decide⟩)) (pu_ixE L.toLo 0 pu_int rfl) pu_int) pu_int)) pu_int) pu_int (by decide) (by show (2 : Int) < 4; decide) ?_)
    show SUs X g [some (.cel a [.scr ns, .int (p + 1), .int (sgl s), .int r]), some (.dat (.int m)), none, none] _ _
    exact su_one (s_ret (pu_bin (ou_mod hm) (u_int L.toLo T (pu_bin (ou_fdiv ⟨by decide, by decide⟩) (pu_ixE L.toLo 0 pu_int rfl) pu_int)) (pu_var L.toLo 1)) ⟨_, rfl, hp⟩)
  have hc2 := of_decide_eq_false hc2
  have hcell : dAt ns (p + 1 - 1) = some (cellI ns (p + 1)) := by
    have hlt : (p + 1 - 1).toNat < ns.length := by omega
    unfold dAt cellI
    rw [if_pos (by omega), List.getElem?_eq_getElem hlt]
    rfl
  have e : takenF ns (p, s, r) m = (cellI ns (p + 1) % m, (p + 1, sgc s (cellI ns (p + 1)), if (10 : Int) ^ (18 : Int).toNat ≤ cellI ns (p + 1) then (cellI ns (p + 1)).fdiv m else r)) := by unfold takenF; rw [if_neg hc, if_neg hc2]
  rw [e] at hp
  generalize cellI ns (p + 1) = cl at hcell hp
  refine s_set L 3 (pu_ixC (pu_ixE L.toLo 0 pu_int rfl) (pu_bin ou_sub (pu_ixE L.toLo 0 pu_int rfl) pu_int) hcell) ?_
  show SUs X g [some (.cel a [.scr ns, .int (p + 1), .int s, .int r]), some (.dat (.int m)), none, some (.dat (.int cl))] _ _
  refine su_cons (su_putE L 0 (ds := [_, _, _, _]) (pu_bin (ou_mod (by decide)) (u_int L.toLo T (pu_bin ou_add (pu_bin ou_add (pu_bin (ou_mul (.inr ⟨by decide, by decide⟩)) (pu_ixE L.toLo 0 pu_int rfl) pu_int) (pu_var L.toLo 3)) pu_int)) pu_int) pu_int (by decide) (by show (2 : Int) < 4; decide) ?_)
  show SUs X g [some (.cel a [.scr ns, .int (p + 1), .int (sgc s cl), .int r]), some (.dat (.int m)), none, some (.dat (.int cl))] _ _
  refine su_cons (su_if (k := decide ((10 : Int) ^ (18 : Int).toNat ≤ cl)) (ptu_cmp ou_ge (pu_var L.toLo 3) (pu_bin (ou_pow ⟨by decide, by decide, by decide⟩) pu_int pu_int)) (fun hb => ?_) (fun hb => su_nil ?_))
  · rw [if_pos (of_decide_eq_true hb)] at hp
    refine su_one (su_putE L 0 (ds := [_, _, _, _]) (pu_bin (ou_fdiv (hdv cl)) (pu_var L.toLo 3) (pu_var L.toLo 1)) pu_int (by decide) (by show (3 : Int) < 4; decide) ?_)
    show SUs X g [some (.cel a [.scr ns, .int (p + 1), .int (sgc s cl), .int (cl.fdiv m)]), some (.dat (.int m)), none, some (.dat (.int cl))] _ _
    exact su_one (s_ret (pu_bin (ou_mod hm) (u_int L.toLo T (pu_var L.toLo 3)) (pu_var L.toLo 1)) ⟨_, rfl, hp⟩)
  · rw [if_neg (of_decide_eq_false hb)] at hp
    exact su_one (s_ret (pu_bin (ou_mod hm) (u_int L.toLo T (pu_var L.toLo 3)) (pu_var L.toLo 1)) ⟨_, rfl, hp⟩)
/-! _law_pick -/
abbrev nPk : List Str := ["_law_row", "_law_things"]
theorem scPk : FnScope nPk nPk (defScope (topS 65)) := ⟨rfl, rfl, rfl, by decide +kernel, rfl, by decide +kernel, by decide +kernel⟩
def prePk : List D → List D → (List D → Bd → Prop) → Prop := fun row ds post => ∃ ns q th, row = rowR ns q ∧ ds = [.lst th] ∧ RowOk q ∧ th ≠ [] ∧ th.length < 100000 ∧ ∀ d r b, dAt th (takenF ns q th.length).1 = some d → r = rowR ns (takenF ns q th.length).2 → b = .dat d → post r b
theorem ok_law_pick {f : Addr} {fd : FuncData} (F : Fun K "_law_pick" "_law_pick" (topS 65) f fd) (T : Txt K C mg) (G : Dfr P w K mg base C Tb 1 "_law_taken" preTk) : FnOk P w K mg base CX0 2 f fd nPk (spR C Tb P w K prePk) := by
  refine fn_row [0, 1] F scPk (by decide +kernel) (fun row ds post ⟨_, _, _, _, e, _⟩ => by rw [e]; rfl) (by decide) ?_
  rintro X rfl rfl rfl rfl rfl L hr g rfl rfl a row ds post ⟨ns, q, th, rfl, rfl, hq, hne, hlt, hp⟩
  show SUs X g [some (.cel a (rowR ns q)), some (.dat (.lst th))] _ _
  have h0 : 0 < th.length := List.length_pos_iff.mpr hne
  obtain ⟨t1, t2, t3⟩ := takenF_ok (ns := ns) (m := th.length) hq (by omega)
  have hd : dAt th (takenF ns q th.length).1 = some (th[(takenF ns q th.length).1.toNat]'(by omega)) := by
    unfold dAt
    rw [if_pos t1, List.getElem?_eq_getElem (by omega)]
  exact su_one (su_ret (pu_ixL (pu_var L.toLo 1) (pu_callE L.toLo 0 (row0 := rowR ns q) (row := rowR ns q) G hr (pau_cons (u_lenL L.toLo T (pu_var L.toLo 1)) pau_nil) ⟨ns, q, th.length, rfl, rfl, hq, by omega, by omega, fun r b h1 h2 => ⟨h1, h2⟩⟩) hd) ⟨_, rfl, hp _ _ _ hd rfl rfl⟩)
end
end C66
end TD20
section TP25
set_option Elab.async false
set_option linter.all false
set_option autoImplicit false
set_option maxRecDepth 100000
set_option maxHeartbeats 4000000
/-! P25: draws in short; three names at once; an own list's length; append of what changes the row. -/
namespace C66
open PySem PySem.Spec L2
def pickF (ns : List Int) (q : Rw) (th : List D) : D := (dAt th (takenF ns q th.length).1).getD .non
theorem pickF_at {ns : List Int} {q : Rw} {th : List D} (hq : RowOk q) (hne : th ≠ []) : dAt th (takenF ns q th.length).1 = some (pickF ns q th) ∧ pickF ns q th ∈ th := by
  have h0 : 0 < th.length := List.length_pos_iff.mpr hne
  obtain ⟨t1, t2, _⟩ := takenF_ok (ns := ns) (m := th.length) hq (by omega)
  have hlt : (takenF ns q th.length).1.toNat < th.length := by omega
  have hd : dAt th (takenF ns q th.length).1 = some th[(takenF ns q th.length).1.toNat] := by
    unfold dAt
    rw [if_pos t1, List.getElem?_eq_getElem hlt]
  unfold pickF
  rw [hd]
  exact ⟨rfl, List.getElem_mem hlt⟩
theorem pickF_row {ns : List Int} {q : Rw} {th : List D} (hq : RowOk q) (hne : th ≠ []) : RowOk (takenF ns q th.length).2 := (takenF_ok hq (by have := List.length_pos_iff.mpr hne; omega)).2.2
section
variable {X : Cx} {g : Gm} {ρ ρ1 ρ2 : Rho} {N : List Str} {sc : Scope} {vs : List Nat} {pos p px py pz p1 p2 p3 pt pt2 apos cpos : Pos} {a b c e : Expr} {es : List Expr} {pp : Post} {aa : Addr} {d : D} {ds : List D} {x y : Str}
/-- _law_taken(row, e) -/
theorem pu_taken (L : Lo X N sc vs) (i : Nat) {ns : List Int} {q : Rw} {m : Int} (G : Dfr X.prog X.w X.K X.mg X.base g.C g.T 1 "_law_taken" preTk) (hr : Room 1 X.A) (he : PU X g ρ e ρ (.int m)) (hq : RowOk q) (hm : 0 < m) (hm2 : m < 100000) (h0 : ρ[i]? = some (some (.cel aa (rowR ns q))) := by rfl) (hN : N[i]? = some y := by rfl) (hi : i ∈ vs := by decide)
    (hg : gloC sc "_law_taken" = true := by decide +kernel) (hs1 : starEach [.Name y py, e] X.env = (false, eval (.Name y py) X.env) :: starEach [e] X.env := by rfl) (hs2 : starEach [e] X.env = (false, eval e X.env) :: starEach [] X.env := by rfl) (hpl : (backTo pos (starEach [e] X.env)).any (·.1) = false := by rfl) :
    PU X g ρ (.Call (.Name "_law_taken" p) [.Name y py, e] [] pos) (ρ.set i (some (.cel aa (rowR ns (takenF ns q m).2)))) (.int (takenF ns q m).1) :=
  pu_callE L i (row0 := rowR ns q) (row := rowR ns q) G hr (pau_cons he pau_nil hs2) ⟨ns, q, m, rfl, rfl, hq, hm, hm2, fun r b h1 h2 => ⟨h1, h2⟩⟩ h0 h0 hN hi hg (by decide) hs1 hpl
/-- _law_pick(row, e) -/
theorem pu_pick (L : Lo X N sc vs) (i : Nat) {ns : List Int} {q : Rw} {th : List D} (G : Dfr X.prog X.w X.K X.mg X.base g.C g.T 2 "_law_pick" prePk) (hr : Room 2 X.A) (he : PU X g ρ e ρ (.lst th)) (hq : RowOk q) (hne : th ≠ []) (hlt : th.length < 100000) (h0 : ρ[i]? = some (some (.cel aa (rowR ns q))) := by rfl) (hN : N[i]? = some y := by rfl) (hi : i ∈ vs := by decide)
    (hg : gloC sc "_law_pick" = true := by decide +kernel) (hs1 : starEach [.Name y py, e] X.env = (false, eval (.Name y py) X.env) :: starEach [e] X.env := by rfl) (hs2 : starEach [e] X.env = (false, eval e X.env) :: starEach [] X.env := by rfl) (hpl : (backTo pos (starEach [e] X.env)).any (·.1) = false := by rfl) :
    PU X g ρ (.Call (.Name "_law_pick" p) [.Name y py, e] [] pos) (ρ.set i (some (.cel aa (rowR ns (takenF ns q th.length).2)))) (pickF ns q th) :=
  pu_callE L i (row0 := rowR ns q) (row := rowR ns q) G hr (pau_cons he pau_nil hs2) ⟨ns, q, th, rfl, rfl, hq, hne, hlt, fun d r b h1 h2 h3 => ⟨h2, by
    rw [(pickF_at hq hne).1] at h1
    rw [h3, Option.some.inj h1]⟩⟩ h0 h0 hN hi hg (by decide) hs1 hpl
/-- len(x) of a list of one's own -/
theorem pu_lenO (L : Lo X N sc vs) (T : Txt X.K g.C X.mg) (j : Nat) (hj : ρ[j]? = some (some (.own ds)) := by rfl) (hN : N[j]? = some x := by rfl) (hi : j ∈ vs := by decide) (hg : gloC sc "len" = true := by decide +kernel) (he : starEach [.Name x px] X.env = (false, eval (.Name x px) X.env) :: starEach [] X.env := by rfl) (hpl : (backTo pos (starEach [] X.env)).any (·.1) = false := by rfl) :
    PU X g ρ (.Call (.Name "len" p) [.Name x px] [] pos) ρ (.int ds.length) := by
  obtain ⟨h1, h2, h3⟩ := L.at_ hi hN
  refine pe_weak (pe_callB call_len_seq (gl_of L hg) T.len PySem.boot_len (pa_cons (pe_var (i := j) (by rw [L.hN]; exact hN) (by rw [L.hs]; exact h1) h2 h3) pa_nil he) (by decide) (by decide) he hpl) fun σ H Q q => ?_
  obtain ⟨v, hv, a, us, rfl, ho, r⟩ := q.1.at_ j _ hj
  exact ⟨_, hv, a, us, rfl, .inl (.of ho), by rw [r.length]; exact q.2 _ H q.1 (.refl H) (.int _)⟩
/-- x.append(e), e changes other slots -/
theorem su_appendE (L : LoD X N sc vs) (i : Nat) (he : PU X g ρ e ρ1 d) (h : pp.nx (ρ1.set i (some (.own (ds ++ [d]))))) (hz : ds.length < sizeLine) (hi : ρ[i]? = some (some (.own ds)) := by rfl) (hi1 : ρ1[i]? = some (some (.own ds)) := by rfl) (hN : N[i]? = some x := by rfl) (hm : i ∈ vs := by decide)
    (hst : starEach [e] X.env = (false, eval e X.env) :: starEach [] X.env := by rfl) (hbase : attributeBase (.Name x px) "append" X.env (eval (.Name x px) X.env) = eval (.Name x px) X.env := by rfl)
    (hfew : ((backTo cpos (starEach [e] X.env)).all (fun x => !x.1) && (backToKw cpos (keywordEach [] X.env)).all (fun x => x.1.isSome) && decide (([e] : List Expr).length + ([] : List Keyword).length + (if ([] : List Keyword).isEmpty then 0 else 1) < 30)) = true := by rfl)
    (hline : (apos.endLine == cpos.line) = true := by rfl) (hplain : (backTo cpos (starEach [] X.env)).any (·.1) = false := by rfl) (hsw : swapsWith (.Call (.Attribute (.Name x px) "append" apos) [e] [] cpos) none pos.line X.env = pure false := by rfl) :
    SU X g ρ (.Expr (.Call (.Attribute (.Name x px) "append" apos) [e] [] cpos) pos) pp := by
  obtain ⟨h1, h2, h3⟩ := L.at_ hm hN
  refine ps_weak (ps_expr (pe_bm PySem.F.plainAttrs_list PySem.F.slot_list_append PySem.F.type_list_append mt_append (pe_var (i := i) (by rw [L.hN]; exact hN) (by rw [L.hs]; exact h1) h2 h3) (pa_cons he pa_nil hst) hbase hfew hline hst hplain) hsw) fun D σ H q => ?_
  obtain ⟨v, hv, a, us, rfl, ho, r⟩ := q.1.at_ i _ hi
  refine ⟨.ref a, hv, .inl ⟨rfl, _, .inl (.inl ho)⟩, q.1, fun w H1 E1 x1 r1 => ?_⟩
  obtain ⟨v', hv', a', us', rfl, ho', r'⟩ := E1.at_ i _ hi1
  rw [hv] at hv'
  cases hv'
  obtain ⟨E2, x2⟩ := E1.change (b1 := .own (ds ++ [d])) (o' := .lst (us' ++ [w])) hi1 rfl rfl hv ho' (fun z => z) (fun _ z => by cases z) (fun P q c _ hc => code_ne_lst ho' hc) fun x => ⟨a, _, rfl, upd_same, (r'.append (.cons r1 .nil)).ext x⟩
  exact ⟨a, us', w, rfl, rfl, ho', by rw [r'.length]; exact hz, q.2.1 _ _ _ h E2 (x1.trans x2)⟩
/-- x, y, z = e1, e2, e3 by a tuple that is laid (a captured name among them) -/
theorem su_3G (L : LoD X N sc vs) (i j l : Nat) {z : Str} {b1 b2 b3 : Bd} {k k2 : Nat} (ha : PAB X g ρ [a, b, c] [b1, b2, b3]) (h : pp.nx (((ρ.set i (some b1)).set j (some b2)).set l (some b3))) (hw : swappedStores [.Tuple [.Name x px, .Name y py, .Name z pz] k pt] (.Tuple [a, b, c] k2 pt2) (envS sc) = pure none := by rfl)
    (hi : N[i]? = some x := by rfl) (hj : N[j]? = some y := by rfl) (hl : N[l]? = some z := by rfl) (hx : locC sc x = true := by decide +kernel) (hy : locC sc y = true := by decide +kernel) (hz : locC sc z = true := by decide +kernel) (hs : swapsWithSole [.Tuple [.Name x px, .Name y py, .Name z pz] k pt] (.Tuple [a, b, c] k2 pt2) pos.line X.env = pure false := by rfl)
    (h1 : (assignEach [.Tuple [.Name x px, .Name y py, .Name z pz] k pt] X.env).map (·.2) = [assign (.Tuple [.Name x px, .Name y py, .Name z pz] k pt) X.env] := by rfl) (e1 : (assignEach [.Name x px, .Name y py, .Name z pz] X.env).map (·.2) = assign (.Name x px) X.env :: (assignEach [.Name y py, .Name z pz] X.env).map (·.2) := by rfl)
    (e2 : (assignEach [.Name y py, .Name z pz] X.env).map (·.2) = assign (.Name y py) X.env :: (assignEach [.Name z pz] X.env).map (·.2) := by rfl) (e3 : (assignEach [.Name z pz] X.env).map (·.2) = assign (.Name z pz) X.env :: (assignEach [] X.env).map (·.2) := by rfl)
    (hn : (assignEach [.Name x px, .Name y py, .Name z pz] X.env).length = 3 := by rfl) (hst : (assignEach [.Name x px, .Name y py, .Name z pz] X.env).findIdx? (·.1) = none := by rfl) : SU X g ρ (.Assign [.Tuple [.Name x px, .Name y py, .Name z pz] k pt] (.Tuple [a, b, c] k2 pt2) pos) pp := by
  have nd : X.N.Nodup := by rw [L.hN]; exact L.nd
  refine ps_weak (ps_asg (pe_tup ha) (pg_tup L.calm (pgs_cons (pg_name (i := i) nd (by rw [L.hN]; exact hi) (by rw [L.hs]; exact loc_of hx) (.inl (L.fn x))) (pgs_cons (pg_name (i := j) nd (by rw [L.hN]; exact hj) (by rw [L.hs]; exact loc_of hy) (.inl (L.fn y))) (pgs_cons (pg_name (i := l) nd (by rw [L.hN]; exact hl) (by rw [L.hs]; exact loc_of hz) (.inl (L.fn z))) pgs_nil e3) e2) e1) hn hst) hs (by rw [swap_scope L.hs]; exact hw) h1) fun D σ H q => ⟨q.1, fun us H1 E1 x1 r1 f1 => ?_⟩
  cases r1 with
  | cons r1 t =>
    cases t with
    | cons r2 t =>
      cases t with
      | cons r3 t =>
        cases t
        cases f1 with
        | cons f1 ne1 f2 =>
          cases f2 with
          | cons f2 ne2 f3 =>
            cases f3 with
            | cons f3 _ _ =>
              refine ⟨by show 3 ≤ sizeLine; decide, fun w n => ⟨w, _, rfl, .of upd_same, rfl, _, _, rfl, _, _, rfl, _, _, rfl, rfl, ?_⟩⟩
              have A1 := E1.setB (i := i) r1 f1
              have f2' := f2.set (i := i) (fun m2 m1 aa e => ne1 m1 0 _ aa rfl m2 (by simpa using e)) E1.len
              have A2 := A1.setB (i := j) r2 f2'
              have f3' := (f3.set (i := i) (fun m3 m1 aa e => ne1 m1 1 _ aa rfl m3 (by simpa using e)) E1.len).set (i := j) (fun m3 m2 aa e => ne2 m2 0 _ aa rfl m3 (by simpa using e)) A1.len
              have A3 := A2.setB (i := l) r3 f3'
              refine q.2.1 _ _ _ h (A3.same fun bb o hb => ?_) (x1.trans (.of_same fun bb o hb => ?_)) <;> (rw [upd_ne (ne_of_none hb n)]; exact hb)
end
end C66
end TP25
section TM03
set_option Elab.async false
set_option linter.all false
set_option autoImplicit false
set_option maxRecDepth 100000
set_option maxHeartbeats 4000000
/-! M03: how the law makes a code, by the plain side. -/
namespace C66
open PySem PySem.Spec L2
abbrev Un := Str × Int
def uD (u : Un) : D := .tup [.str u.1, .int u.2]
def wordsU : List Str := ["enter", "leave", "keep", "push", "if", "go", "drop", "throw"]
def UnOk (u : Un) : Prop := u.1 ∈ wordsU ∧ 0 ≤ u.2 ∧ u.2 ≤ 3
def holdU (u : Un) : Bool := decide (u.1 ∈ (["enter", "leave"] : List Str))
def tkU (l : Int) : Un := ("take", l)
theorem hold_tk (l : Int) : holdU (tkU l) = false := by
  show decide (("take" : Str) ∈ (["enter", "leave"] : List Str)) = false
  decide +kernel
structure FInv (found : List Un) (goals : List Int) : Prop where
  wd : ∀ u ∈ found, (u.1 ∈ wordsU ∨ u.1 = "take") ∧ 0 ≤ u.2 ∧ u.2 ≤ 3
  hold : ∀ (i : Nat) u, found[i]? = some u → holdU u = true → ∃ j l, i = j + 1 ∧ found[j]? = some (tkU l)
  aim : ∀ g ∈ goals, 0 ≤ g ∧ g < found.length ∧ ∀ u, found[g.toNat]? = some u → holdU u = false
  first : found ≠ [] → (0 : Int) ∈ goals
def addU (found : List Un) (u : Un) : List Un := found ++ (if holdU u = true then [tkU u.2] else []) ++ [u]
theorem FInv.add {found : List Un} {goals : List Int} (f : FInv found goals) {u : Un} (hu : UnOk u) : FInv (addU found u) (goals ++ [(found.length : Int)]) := by
  have low : ∀ {i : Nat} {v : Un}, i < found.length → (addU found u)[i]? = some v → found[i]? = some v := fun {i v} hi h => by
    unfold addU at h
    rwa [List.append_assoc, List.getElem?_append_left hi] at h
  have up : ∀ {i : Nat} {v : Un}, found[i]? = some v → (addU found u)[i]? = some v := fun {i v} h => by
    unfold addU
    rw [List.append_assoc, List.getElem?_append_left (List.getElem?_eq_some_iff.mp h).1]
    exact h
  have hlen : found.length < (addU found u).length := by
    unfold addU
    rw [List.length_append, List.length_append, List.length_singleton]; omega
  have tail : ∀ {i : Nat} {v : Un}, ¬ i < found.length → (addU found u)[i]? = some v → (holdU u = true ∧ i = found.length ∧ v = tkU u.2) ∨ (holdU u = true ∧ i = found.length + 1 ∧ v = u) ∨ (holdU u = false ∧ i = found.length ∧ v = u) := fun {i v} hi h => by
    unfold addU at h
    rw [List.append_assoc, List.getElem?_append_right (by omega)] at h
    by_cases c : holdU u = true
    · rw [if_pos c] at h
      match hk : i - found.length, h with
      | 0, h => exact .inl ⟨c, by omega, by simpa using h.symm⟩
      | 1, h => exact .inr (.inl ⟨c, by omega, by simpa using h.symm⟩)
      | k + 2, h => simp at h
    · rw [if_neg c] at h
      match hk : i - found.length, h with
      | 0, h => exact .inr (.inr ⟨by simpa using c, by omega, by simpa using h.symm⟩)
      | k + 1, h => simp at h
  refine ⟨fun v hv => ?_, fun i v h hh => ?_, fun g hg => ?_, fun _ => ?_⟩
  · unfold addU at hv
    rcases List.mem_append.mp hv with h | h
    · rcases List.mem_append.mp h with h | h
      · exact f.wd v h
      · split at h
        · rw [List.mem_singleton.mp h]
          exact ⟨.inr rfl, hu.2.1, hu.2.2⟩
        · cases h
    · rw [List.mem_singleton.mp h]
      exact ⟨.inl hu.1, hu.2.1, hu.2.2⟩
  · by_cases hi : i < found.length
    · obtain ⟨j, l, e, hj⟩ := f.hold i v (low hi h) hh
      exact ⟨j, l, e, up hj⟩
    · rcases tail hi h with ⟨_, _, e⟩ | ⟨c, e, _⟩ | ⟨c, _, e⟩
      · rw [e, hold_tk] at hh; cases hh
      · refine ⟨found.length, u.2, e, ?_⟩
        unfold addU
        rw [if_pos c, List.append_assoc, List.getElem?_append_right (Nat.le_refl _), Nat.sub_self]
        rfl
      · rw [e, c] at hh; cases hh
  · rcases List.mem_append.mp hg with h | h
    · obtain ⟨a1, a2, a3⟩ := f.aim g h
      refine ⟨a1, by omega, fun v hv => ?_⟩
      exact a3 v (low (by omega) hv)
    · rw [List.mem_singleton.mp h]
      refine ⟨by omega, by omega, fun v hv => ?_⟩
      rw [Int.toNat_natCast] at hv
      rcases tail (Nat.lt_irrefl _) hv with ⟨_, _, e⟩ | ⟨_, e, _⟩ | ⟨c, _, e⟩
      · rw [e]; exact hold_tk _
      · omega
      · rw [e]; exact c
  · by_cases hf : found = []
    · rw [hf]; exact List.mem_append_right _ (by simp)
    · exact List.mem_append_left _ (f.first hf)
/-- behind the cut -/
structure GInv (F : List Un) (gs : List Int) : Prop where
  wd : ∀ u ∈ F, (u.1 ∈ wordsU ∨ u.1 = "take") ∧ 0 ≤ u.2 ∧ u.2 ≤ 3
  hold : ∀ (i : Nat) u, F[i]? = some u → holdU u = true → ∃ j l, i = j + 1 ∧ F[j]? = some (tkU l)
  most : F.length ≤ 19
  ne : gs ≠ []
  few : gs.length < 1000
  aim : ∀ g ∈ gs, 0 ≤ g ∧ g ≤ F.length ∧ (F.length = 0 → g = 0) ∧ ∀ u, F[g.toNat]? = some u → holdU u = false
def cutG (F : List Un) (goals : List Int) : List Int := if F.isEmpty = true then [0] else goals.filter fun g => decide (g < F.length)
theorem FInv.cut {found : List Un} {goals : List Int} (f : FInv found goals) (hg : goals.length < 1000) : GInv (found.take 19) (cutG (found.take 19) goals) := by
  have low : ∀ {i : Nat} {v : Un}, (found.take 19)[i]? = some v → found[i]? = some v ∧ i < 19 := fun {i v} h => by
    rw [List.getElem?_take] at h
    split at h
    · exact ⟨h, by assumption⟩
    · cases h
  refine ⟨fun u hu => f.wd u (List.mem_of_mem_take hu), fun i u h hh => ?_, by rw [List.length_take]; omega, ?_, ?_, fun g hgm => ?_⟩
  · obtain ⟨h1, h2⟩ := low h
    obtain ⟨j, l, e, hj⟩ := f.hold i u h1 hh
    exact ⟨j, l, e, by rw [List.getElem?_take, if_pos (by omega)]; exact hj⟩
  · unfold cutG
    by_cases c : (found.take 19).isEmpty = true
    · rw [if_pos c]; simp
    · rw [if_neg c]
      have hne : found ≠ [] := fun z => by rw [z] at c; exact c rfl
      have hpos : 0 < (found.take 19).length := by
        rw [List.length_take]
        have := List.length_pos_iff.mpr hne
        omega
      exact fun z => by
        have : (0 : Int) ∈ goals.filter fun (g : Int) => decide (g < ((found.take 19).length : Nat)) := List.mem_filter.mpr ⟨f.first hne, decide_eq_true (by omega)⟩
        rw [z] at this
        cases this
  · unfold cutG
    split
    · decide
    · exact Nat.lt_of_le_of_lt (List.length_filter_le _ _) hg
  · unfold cutG at hgm
    by_cases c : (found.take 19).isEmpty = true
    · rw [if_pos c] at hgm
      rw [List.mem_singleton.mp hgm]
      refine ⟨by decide, by omega, fun _ => rfl, fun u hu => ?_⟩
      rw [List.isEmpty_iff.mp c] at hu
      simp at hu
    · rw [if_neg c] at hgm
      obtain ⟨h1, h2⟩ := List.mem_filter.mp hgm
      have h2 := of_decide_eq_true h2
      obtain ⟨a1, a2, a3⟩ := f.aim g h1
      exact ⟨a1, by omega, fun z => by omega, fun u hu => a3 u (low hu).1⟩
def stepF (u : Un) (g : Int) : Stp := if u.1 = "push" ∨ u.1 = "keep" ∨ u.1 = "take" then (u.1, some u.2) else if u.1 = "if" ∨ u.1 = "go" then (u.1, some g) else (u.1, none)
theorem stepF_fst (u : Un) (g : Int) : (stepF u g).1 = u.1 := by
  unfold stepF
  split
  · rfl
  · split <;> rfl
theorem stepF_ok {u : Un} {g : Int} {n : Nat} (hw : u.1 ∈ wordsU ∨ u.1 = "take") (h0 : 0 ≤ u.2) (h3 : u.2 ≤ 3) (hg0 : 0 ≤ g) (hgn : g < n) : StpOk n (stepF u g) := by
  obtain ⟨x, l⟩ := u
  have hw : x ∈ ("take" : Str) :: wordsU := by
    rcases hw with h | h
    · exact List.mem_cons_of_mem _ h
    · rw [show x = "take" from h]; exact List.mem_cons_self
  simp only [wordsU, List.mem_cons, List.not_mem_nil, or_false] at hw
  rcases hw with rfl | rfl | rfl | rfl | rfl | rfl | rfl | rfl | rfl
  · exact StpOk.take h0 h3
  · exact StpOk.enter
  · exact StpOk.leave
  · exact StpOk.keep h0 h3
  · exact StpOk.push h0 h3
  · exact StpOk.ifs hg0 hgn
  · exact StpOk.go hg0 hgn
  · exact StpOk.drop
  · exact StpOk.throw
/-- the dict of steps, asked -/
def bareL' (l g : Int) : List (Str × D) := [("push", .tup [.str "push", .int l]), ("if", .tup [.str "if", .int g]), ("go", .tup [.str "go", .int g]), ("keep", .tup [.str "keep", .int l]), ("take", .tup [.str "take", .int l])]
theorem bare_get {u : Un} {g : Int} (hw : u.1 ∈ wordsU ∨ u.1 = "take") : (sdGet (bareL' u.2 g) u.1).getD (.tup [.str u.1]) = stD (stepF u g) := by
  obtain ⟨x, l⟩ := u
  have hw : x ∈ ("take" : Str) :: wordsU := by
    rcases hw with h | h
    · exact List.mem_cons_of_mem _ h
    · rw [show x = "take" from h]; exact List.mem_cons_self
  simp only [wordsU, List.mem_cons, List.not_mem_nil, or_false] at hw
  rcases hw with rfl | rfl | rfl | rfl | rfl | rfl | rfl | rfl | rfl <;> rfl
structure CInv (F : List Un) (gs : List Int) (code : List Stp) : Prop where
  le : code.length ≤ F.length
  at_ : ∀ (j : Nat) s, code[j]? = some s → ∃ u g, F[j]? = some u ∧ g ∈ gs ∧ s = stepF u g
theorem CInv.add {F : List Un} {gs : List Int} {code : List Stp} (h : CInv F gs code) {u : Un} {g : Int} (hu : F[code.length]? = some u) (hg : g ∈ gs) : CInv F gs (code ++ [stepF u g]) := by
  refine ⟨by rw [List.length_append, List.length_singleton]; exact (List.getElem?_eq_some_iff.mp hu).1, fun j s hs => ?_⟩
  by_cases hj : j < code.length
  · rw [List.getElem?_append_left hj] at hs
    exact h.at_ j s hs
  · rw [List.getElem?_append_right (by omega)] at hs
    match hk : j - code.length, hs with
    | 0, hs =>
      have e : j = code.length := by omega
      rw [e]
      exact ⟨u, g, hu, hg, by simpa using hs.symm⟩
    | k + 1, hs => simp at hs
def HInv (n : Nat) (gs : List Int) (hs : List Hnd) : Prop := ∀ h ∈ hs, HndOk n h ∧ h.2.2.2 ∈ gs
inductive FinS : Stp → Prop
  | give : FinS ("give", none)
  | throw : FinS ("throw", none)
  | go : FinS ("go", some 0)
theorem goal_stepF {u : Un} {g k : Int} (h : goalS (stepF u g) = some k) : k = g := by
  unfold goalS at h
  rw [stepF_fst] at h
  split at h
  · rename_i hw
    unfold stepF at h
    have h1 : ¬ (u.1 = "push" ∨ u.1 = "keep" ∨ u.1 = "take") := by rcases hw with e | e <;> rw [e] <;> decide +kernel
    rw [if_neg h1, if_pos (Or.symm hw)] at h
    exact (Option.some.inj h).symm
  · cases h
theorem codeOk_of {F : List Un} {gs : List Int} {code : List Stp} {fs : Stp} {hs : List Hnd} (gi : GInv F gs) (ci : CInv F gs code) (hl : code.length = F.length) (hf : FinS fs) (hi : HInv (F.length + 1) gs hs) (h2 : hs.length ≤ 2) : CodeOk (code ++ [fs]) hs := by
  have hn : (code ++ [fs]).length = F.length + 1 := by rw [List.length_append, List.length_singleton, hl]
  have hmost := gi.most
  have hold : ∀ (i : Nat) s, (code ++ [fs])[i]? = some s → isHoldStep s = true → ∃ u g, i < code.length ∧ F[i]? = some u ∧ s = stepF u g ∧ holdU u = true := fun i s h hh => by
    by_cases hj : i < code.length
    · rw [List.getElem?_append_left hj] at h
      obtain ⟨u, g, h1, h2, h3⟩ := ci.at_ i s h
      refine ⟨u, g, hj, h1, h3, ?_⟩
      unfold holdU
      rw [← stepF_fst u g, ← h3, holdW]
      exact hh
    · rw [List.getElem?_append_right (by omega)] at h
      match hk : i - code.length, h with
      | 0, h =>
        have e : s = fs := by simpa using h.symm
        rw [e] at hh
        cases hf <;> exact absurd hh (by decide +kernel)
      | k + 1, h => simp at h
  refine ⟨by omega, by omega, fun s hs' => ?_, fun s h => ?_, fun i s h hh => ?_, fun i s h hh => ⟨fun hg => ?_, fun hd hdm e => ?_⟩, h2, fun h hh => by rw [hn]; exact (hi h hh).1⟩
  · rw [hn]
    rcases List.mem_append.mp hs' with h | h
    · obtain ⟨j, hj⟩ := List.mem_iff_getElem?.mp h
      obtain ⟨u, g, h1, h2, rfl⟩ := ci.at_ j s hj
      obtain ⟨w1, w2, w3⟩ := gi.wd u (List.mem_of_getElem? h1)
      obtain ⟨a1, a2, _⟩ := gi.aim g h2
      exact stepF_ok w1 w2 w3 a1 (by omega)
    · rw [List.mem_singleton.mp h]
      cases hf
      · exact StpOk.give
      · exact StpOk.throw
      · exact StpOk.go (by decide) (by omega)
  · rw [hn, Nat.add_sub_cancel, ← hl, List.getElem?_append_right (Nat.le_refl _), Nat.sub_self] at h
    have e : s = fs := by simpa using h.symm
    rw [e]
    cases hf
    · exact .inl rfl
    · exact .inr (.inr rfl)
    · exact .inr (.inl rfl)
  · obtain ⟨u, g, hj, h1, _, hh'⟩ := hold i s h hh
    obtain ⟨j, l, e, hFj⟩ := gi.hold i u h1 hh'
    have hjl : j < code.length := by omega
    have hcj : code[j]? = some code[j] := List.getElem?_eq_getElem hjl
    obtain ⟨u', g', h1', _, e'⟩ := ci.at_ j _ hcj
    rw [hFj] at h1'
    cases h1'
    refine ⟨j, l, e, ?_⟩
    rw [List.getElem?_append_left hjl, hcj, e']
    rfl
  · obtain ⟨u, g, hj, h1, _, hh'⟩ := hold i s h hh
    obtain ⟨s', hs', hgs⟩ := List.mem_filterMap.mp hg
    rcases List.mem_append.mp hs' with hm | hm
    · obtain ⟨j, hj'⟩ := List.mem_iff_getElem?.mp hm
      obtain ⟨u', g', _, hg', rfl⟩ := ci.at_ j s' hj'
      have e := goal_stepF hgs
      have := (gi.aim g' hg').2.2.2 u (by rw [← e, Int.toNat_natCast]; exact h1)
      rw [hh'] at this; cases this
    · rw [List.mem_singleton.mp hm] at hgs
      obtain ⟨j, l, e, _⟩ := gi.hold i u h1 hh'
      cases hf
      · cases hgs
      · cases hgs
      · have hgs : some (0 : Int) = some (i : Int) := hgs
        have := Option.some.inj hgs
        omega
  · obtain ⟨u, g, hj, h1, _, hh'⟩ := hold i s h hh
    have := (gi.aim _ (hi hd hdm).2).2.2.2 u (by rw [e, Int.toNat_natCast]; exact h1)
    rw [hh'] at this; cases this
end C66
end TM03
section TD21
set_option Elab.async false
set_option linter.all false
set_option autoImplicit false
set_option maxRecDepth 100000
set_option maxHeartbeats 8000000
namespace C66
open PySem PySem.Spec L2
/-! ### the plain side -/
def enF : D → Option D
  | .tup [.str w, l] => if w = "enter" then some l else none
  | _ => none
def nlF : D → Option D
  | .tup [.str w, l] => if w = "leave" then none else some (.tup [.str w, l])
  | _ => none
def lvF : D → Option D := fun d => some (.tup [.str "leave", d])
theorem enF_map (us : List Un) : (us.map uD).filterMap enF = ((us.filter fun (u : Un) => decide (u.1 = "enter")).map fun (u : Un) => u.2).map D.int := by
  induction us with
  | nil => rfl
  | cons u r ih =>
    have e0 : enF (uD u) = if u.1 = "enter" then some (.int u.2) else none := rfl
    rw [List.map_cons, List.filterMap_cons, ih, List.filter_cons, e0]
    by_cases e : u.1 = "enter"
    · rw [if_pos e, if_pos (decide_eq_true e)]; rfl
    · rw [if_neg e, if_neg (by simpa using e)]
theorem nlF_map (us : List Un) : (us.map uD).filterMap nlF = (us.filter fun (u : Un) => !decide (u.1 = "leave")).map uD := by
  induction us with
  | nil => rfl
  | cons u r ih =>
    have e0 : nlF (uD u) = if u.1 = "leave" then none else some (uD u) := rfl
    rw [List.map_cons, List.filterMap_cons, ih, List.filter_cons, e0]
    by_cases e : u.1 = "leave"
    · rw [if_pos e, decide_eq_true e]; rfl
    · rw [if_neg e, decide_eq_false e]; rfl
theorem lvF_map (ls : List Int) : (ls.map D.int).filterMap lvF = (ls.map fun l => (("leave", l) : Un)).map uD := by
  induction ls with
  | nil => rfl
  | cons l r ih => rw [List.map_cons, List.filterMap_cons, ih]; rfl
theorem low_uD {u : Un} (h : u.1 ∈ wordsU ∨ u.1 = "take") : (uD u).low 1 := by
  refine low_tup fun d hd => ?_
  simp only [List.mem_cons, List.not_mem_nil, or_false] at hd
  rcases hd with rfl | rfl
  · refine low_str ?_
    rcases h with h | h
    · simp only [wordsU, List.mem_cons, List.not_mem_nil, or_false] at h
      rcases h with h | h | h | h | h | h | h | h <;> (rw [h]; decide +kernel)
    · rw [h]; decide +kernel
  · exact low_int
def thC : List D := [.int 0, .int 0, .int 1, .int 2]
def thN : List D := [.str "top", .str "box"]
def thE : List D := [.tup [.str "give"], .tup [.str "give"], .tup [.str "throw"], .tup [.str "go", .int 0]]
def thW : List D := (["enter", "leave", "enter", "leave", "keep", "push", "if", "if", "go", "drop", "throw"] : List Str).map D.str
theorem thW_mem {d : D} (h : d ∈ thW) : ∃ x, d = .str x ∧ x ∈ wordsU := by
  obtain ⟨x, hx, rfl⟩ := List.mem_map.mp h
  refine ⟨x, rfl, ?_⟩
  simp only [List.mem_cons, List.not_mem_nil, or_false] at hx
  rcases hx with rfl | rfl | rfl | rfl | rfl | rfl | rfl | rfl | rfl | rfl | rfl <;> decide
abbrev rP (a : Addr) (ns : List Int) (q : Rw) (most : Int) (x2 x3 x4 x5 x6 x7 x8 x9 x10 x11 x12 x13 x14 x15 : Option Bd) : Rho := [some (.cel a (rowR ns q)), some (.dat (.int most)), x2, x3, x4, x5, x6, x7, x8, x9, x10, x11, x12, x13, x14, x15, none, none]
section
variable {P : Program} {w : World} {K : PySem.W.Frag} {mg : Str → Option Value} {base : Heap} {C : Addr} {Tb : List (Addr × Str)}
/-! _law_plain -/
abbrev nPl : List Str := ["_law_row", "_law_most", "_law_units", "_law_found", "_law_goals", "_law_way", "_law_turn", "_law_word", "_law_held", "_law_local", "_law_code", "_law_goal", "_law_bare", "_law_handlers", "_law_begin", "_law_end", "_law_unit", "_law_at"]
theorem scPl : FnScope nPl ["_law_row", "_law_most"] (defScope (topS 66)) := ⟨rfl, rfl, rfl, by decide +kernel, rfl, by decide +kernel, by decide +kernel⟩
abbrev vPl : List Nat := [0, 1, 2, 3, 4, 5, 6, 7, 8, 9, 10, 11, 12, 13, 14, 15]
def prePl : List D → List D → (List D → Bd → Prop) → Prop := fun row ds post => ∃ ns q most, row = rowR ns q ∧ ds = [.int most] ∧ RowOk q ∧ 0 < most ∧ most ≤ 12 ∧ ∀ q' c hs b, RowOk q' → CodeOk c hs → b = .dat (.tup [codeD c, hsD hs]) → post (rowR ns q') b
/-- from the fourth loop on -/
theorem plain_end {X : Cx} {g : Gm} (L : LoD X nPl (defScope (topS 66)) vPl) (hr : Room 2 X.A) (T : Txt X.K g.C X.mg) (GT : Dfr X.prog X.w X.K X.mg X.base g.C g.T 1 "_law_taken" preTk) (GP : Dfr X.prog X.w X.K X.mg X.base g.C g.T 2 "_law_pick" prePk) {a : Addr} {ns : List Int} {most : Int} {post : List D → Bd → Prop} (hp : ∀ q' c hs b, RowOk q' → CodeOk c hs → b = .dat (.tup [codeD c, hsD hs]) → post (rowR ns q') b)
    {q : Rw} (hq : RowOk q) {F : List Un} {gs : List Int} (gi : GInv F gs) (x2 x5 x6 x7 x8 x9 : Option Bd) :
    SUs X g (rP a ns q most x2 (some (.dat (.lst (F.map uD)))) (some (.dat (.lst (gs.map D.int)))) x5 x6 x7 x8 x9 (some (.own [])) none none none none none) ((defBody (topS 66)).drop 7) { nx := fun ρ => ∃ row', ρ[0]? = some (some (.cel a row')) ∧ post row' (.dat .non), rt := fun ρ b => ∃ row', ρ[0]? = some (some (.cel a row')) ∧ post row' b } := by
  have hr1 : Room 1 X.A := hr.mono (by decide)
  have hFm := gi.most
  have hgne : gs.map D.int ≠ [] := fun z => gi.ne (by simpa using z)
  have hgl : (gs.map D.int).length < 100000 := by rw [List.length_map]; exact Nat.lt_trans gi.few (by decide)
  -- a goal that is drawn
  have goal : ∀ q : Rw, RowOk q → ∃ k, pickF ns q (gs.map D.int) = .int k ∧ k ∈ gs := fun q hq => by
    obtain ⟨k, hk, e⟩ := List.mem_map.mp (pickF_at (ns := ns) hq hgne).2
    exact ⟨k, e.symm, hk⟩
  refine su_cons (su_for L (S := [7, 9]) (ds := F.map uD) (fun ρ d => match d with | .tup [a, b] => (ρ.set 7 (some (.dat a))).set 9 (some (.dat b)) | _ => ρ)
    (fun i ρ => ∃ (q : Rw) (code : List Stp) (x7 x9 x11 x12 : Option Bd), ρ = rP a ns q most x2 (some (.dat (.lst (F.map uD)))) (some (.dat (.lst (gs.map D.int)))) x5 x6 x7 x8 x9 (some (.own (code.map stD))) x11 x12 none none none ∧ RowOk q ∧ CInv F gs code ∧ code.length = i)
    (piu_lst (pu_var L.toLo 3)) (fun i d ρ' hd _ => ?_) ⟨q, [], _, _, _, _, rfl, hq, ⟨Nat.zero_le _, by simp⟩, rfl⟩ (fun i d ρ' hd hP => ?_) (fun ρ' hP => ?_))
  · obtain ⟨u, _, rfl⟩ := List.mem_map.mp (List.mem_of_getElem? hd)
    exact pgu_pair L.calm (pgu_name L.toLo 7 (.inl (L.fn _)) (hS := by decide)) (pgu_name L.toLo 9 (.inl (L.fn _)) (hS := by decide))
  · obtain ⟨q, code, y7, y9, y11, y12, rfl, hq, hci, hcl⟩ := hP
    rw [List.getElem?_map] at hd
    cases hu : F[i]? with
    | none => rw [hu] at hd; cases hd
    | some u =>
      rw [hu] at hd
      cases hd
      obtain ⟨k, ek, hk⟩ := goal q hq
      have hw := gi.wd u (List.mem_of_getElem? hu)
      show SUs X g (rP a ns q most x2 (some (.dat (.lst (F.map uD)))) (some (.dat (.lst (gs.map D.int)))) x5 x6 (some (.dat (.str u.1))) x8 (some (.dat (.int u.2))) (some (.own (code.map stD))) y11 y12 none none none) _ _
      refine su_cons (su_set L 11 (pu_pick L.toLo 0 GP hr (pu_var L.toLo 4) hq hgne hgl) ?_)
      rw [ek]
      have hq1 := pickF_row (ns := ns) hq hgne
      generalize (takenF ns q (gs.map D.int).length).2 = q1 at hq1
      show SUs X g (rP a ns q1 most x2 (some (.dat (.lst (F.map uD)))) (some (.dat (.lst (gs.map D.int)))) x5 x6 (some (.dat (.str u.1))) x8 (some (.dat (.int u.2))) (some (.own (code.map stD))) (some (.dat (.int k))) y12 none none none) _ _
      refine su_cons (su_setB L 12 (bd := .sdc [("push", .tup [.str "push", .int u.2]), ("if", .tup [.str "if", .int k]), ("go", .tup [.str "go", .int k]), ("keep", .tup [.str "keep", .int u.2])]) (pb_sdisp (ppu_cons (fun H0 R => pu_tup (pau_cons pu_str (pau_cons (pu_var (g := ⟨g.C, g.T, H0, R⟩) L.toLo 9) pau_nil))) (ppu_cons (fun H0 R => pu_tup (pau_cons pu_str (pau_cons (pu_var (g := ⟨g.C, g.T, H0, R⟩) L.toLo 11) pau_nil)))
        (ppu_cons (fun H0 R => pu_tup (pau_cons pu_str (pau_cons (pu_var (g := ⟨g.C, g.T, H0, R⟩) L.toLo 11) pau_nil))) (ppu_cons (fun H0 R => pu_tup (pau_cons pu_str (pau_cons (pu_var (g := ⟨g.C, g.T, H0, R⟩) L.toLo 9) pau_nil))) ppu_nil)))) (nd := by show (["push", "if", "go", "keep"] : List Str).Nodup; decide +kernel)) ?_)
      refine su_cons (su_sdput L 12 (y := "take") (d := .tup [.str "take", .int u.2]) (kvs := [("push", .tup [.str "push", .int u.2]), ("if", .tup [.str "if", .int k]), ("go", .tup [.str "go", .int k]), ("keep", .tup [.str "keep", .int u.2])]) (pu_tup (pau_cons pu_str (pau_cons (pu_var L.toLo 9) pau_nil))) pu_str rfl (by show 4 < sizeLine; decide) ?_)
      show SUs X g (rP a ns q1 most x2 (some (.dat (.lst (F.map uD)))) (some (.dat (.lst (gs.map D.int)))) x5 x6 (some (.dat (.str u.1))) x8 (some (.dat (.int u.2))) (some (.own (code.map stD))) (some (.dat (.int k))) (some (.sdc (bareL' u.2 k))) none none none) _ _
      refine su_one (su_append L 10 (d := stD (stepF u k)) (ds := code.map stD) (by rw [← bare_get hw.1]; exact pu_sdget2 L 12 (pu_var L.toLo 7) (pu_tup (pau_cons (pu_var L.toLo 7) pau_nil))) ⟨q1, code ++ [stepF u k], some (.dat (.str u.1)), some (.dat (.int u.2)), some (.dat (.int k)), some (.sdc (bareL' u.2 k)), ?_, hq1, hci.add (by rw [hcl]; exact hu) hk, by rw [List.length_append, List.length_singleton, hcl]⟩ (by rw [List.length_map, sizeLine_eq]; have := hci.le; omega))
      rw [List.map_append]
      rfl
  obtain ⟨q, code, y7, y9, y11, y12, rfl, hq, hci, hcl⟩ := hP
  rw [List.length_map] at hcl
  refine s_setN L 13 (pn_lst pau_nil) ?_
  show SUs X g (rP a ns q most x2 (some (.dat (.lst (F.map uD)))) (some (.dat (.lst (gs.map D.int)))) x5 x6 y7 x8 y9 (some (.own (code.map stD))) y11 y12 (some (.own [])) none none) _ _
  have hcnt : ∃ k : Int, pickF ns q thC = .int k ∧ 0 ≤ k ∧ k ≤ 2 := by
    have hk2 := (pickF_at (ns := ns) (th := thC) hq (by unfold thC; simp)).2
    simp only [thC, List.mem_cons, List.not_mem_nil, or_false] at hk2
    rcases hk2 with e | e | e | e <;> exact ⟨_, e, by decide, by decide⟩
  obtain ⟨cnt, ecnt, hc0, hc2⟩ := hcnt
  have hq1 := pickF_row (ns := ns) (th := thC) hq (by unfold thC; simp)
  refine su_cons (su_for L (S := [6]) (fun ρ d => ρ.set 6 (some (.dat d)))
    (fun i ρ => ∃ (q : Rw) (hs : List Hnd) (x6 x14 x15 : Option Bd), ρ = rP a ns q most x2 (some (.dat (.lst (F.map uD)))) (some (.dat (.lst (gs.map D.int)))) x5 x6 y7 x8 y9 (some (.own (code.map stD))) y11 y12 (some (.own (hs.map hdD))) x14 x15 ∧ RowOk q ∧ HInv (F.length + 1) gs hs ∧ hs.length = i)
    (piu_range (ρ1 := rP a ns (takenF ns q (thC.length : Nat)).2 most x2 (some (.dat (.lst (F.map uD)))) (some (.dat (.lst (gs.map D.int)))) x5 x6 y7 x8 y9 (some (.own (code.map stD))) y11 y12 (some (.own [])) none none) (n := cnt) L.toLo (by rw [← ecnt]; exact pu_pick L.toLo 0 GP hr (pu_lst (pau_cons pu_int (pau_cons pu_int (pau_cons pu_int (pau_cons pu_int pau_nil))))) hq (by unfold thC; simp) (by decide)) T.range hc0 (by omega))
    (fun i d ρ' _ _ => pgu_name L.toLo 6 (.inl (L.fn _)) (hS := by decide)) ⟨_, [], _, _, _, rfl, hq1, (show HInv (F.length + 1) gs [] from fun h hh => nomatch hh), rfl⟩ (fun i d ρ' hd hP => ?_) (fun ρ' hP => ?_))
  · obtain ⟨q, hs, y6, y14, y15, rfl, hq, hhi, hhl⟩ := hP
    have hil : i < 2 := by
      have h1 := (List.getElem?_eq_some_iff.mp hd).1
      rw [List.length_map, List.length_range] at h1
      omega
    show SUs X g (rP a ns q most x2 (some (.dat (.lst (F.map uD)))) (some (.dat (.lst (gs.map D.int)))) x5 (some (.dat d)) y7 x8 y9 (some (.own (code.map stD))) y11 y12 (some (.own (hs.map hdD))) y14 y15) _ _
    have hlen : ((code.map stD).length : Int) = F.length := by rw [List.length_map, hcl]
    -- begin
    obtain ⟨b0, bn, hq2⟩ := takenF_ok (ns := ns) (m := ((code.map stD).length : Int) + 1) hq (by omega)
    refine su_cons (su_set L 14 (pu_taken L.toLo 0 GT hr1 (pu_bin ou_add (pu_lenO L.toLo T 10) pu_int) hq (by omega) (by omega)) ?_)
    generalize (takenF ns q (((code.map stD).length : Int) + 1)).1 = bg at b0 bn
    generalize (takenF ns q (((code.map stD).length : Int) + 1)).2 = q2 at hq2
    show SUs X g (rP a ns q2 most x2 (some (.dat (.lst (F.map uD)))) (some (.dat (.lst (gs.map D.int)))) x5 (some (.dat d)) y7 x8 y9 (some (.own (code.map stD))) y11 y12 (some (.own (hs.map hdD))) (some (.dat (.int bg))) y15) _ _
    -- end
    obtain ⟨e0, en, hq3⟩ := takenF_ok (ns := ns) (m := ((code.map stD).length : Int) + 1 - bg) hq2 (by omega)
    refine su_cons (su_set L 15 (pu_bin ou_add (pu_bin ou_add (pu_var L.toLo 14) pu_int) (pu_taken L.toLo 0 GT hr1 (pu_bin ou_sub (pu_bin ou_add (pu_lenO L.toLo T 10) pu_int) (pu_var L.toLo 14)) hq2 (by omega) (by omega))) ?_)
    generalize (takenF ns q2 (((code.map stD).length : Int) + 1 - bg)).1 = ed at e0 en
    generalize (takenF ns q2 (((code.map stD).length : Int) + 1 - bg)).2 = q3 at hq3
    show SUs X g (rP a ns q3 most x2 (some (.dat (.lst (F.map uD)))) (some (.dat (.lst (gs.map D.int)))) x5 (some (.dat d)) y7 x8 y9 (some (.own (code.map stD))) y11 y12 (some (.own (hs.map hdD))) (some (.dat (.int bg))) (some (.dat (.int (bg + 1 + ed))))) _ _
    -- the handler
    have hnm : ∃ x : Str, pickF ns q3 thN = .str x ∧ (x = "top" ∨ x = "box") := by
      have hk2 := (pickF_at (ns := ns) (th := thN) hq3 (by unfold thN; simp)).2
      simp only [thN, List.mem_cons, List.not_mem_nil, or_false] at hk2
      rcases hk2 with e | e
      · exact ⟨_, e, .inl rfl⟩
      · exact ⟨_, e, .inr rfl⟩
    obtain ⟨nm, enm, hnm⟩ := hnm
    have hq4 := pickF_row (ns := ns) (th := thN) hq3 (by unfold thN; simp)
    obtain ⟨k, ek, hk⟩ := goal _ hq4
    have hq5 := pickF_row (ns := ns) hq4 hgne
    have ga := gi.aim k hk
    refine su_one (su_appendE L 13 (ds := hs.map hdD) (d := .tup [.int bg, .int (bg + 1 + ed), pickF ns q3 thN, pickF ns (takenF ns q3 (thN.length : Nat)).2 (gs.map D.int)]) (ρ1 := rP a ns (takenF ns (takenF ns q3 (thN.length : Nat)).2 ((gs.map D.int).length : Nat)).2 most x2 (some (.dat (.lst (F.map uD)))) (some (.dat (.lst (gs.map D.int)))) x5 (some (.dat d)) y7 x8 y9 (some (.own (code.map stD))) y11 y12 (some (.own (hs.map hdD))) (some (.dat (.int bg))) (some (.dat (.int (bg + 1 + ed)))))
      (pu_tup (pau_cons (pu_var L.toLo 14) (pau_cons (pu_var L.toLo 15) (pau_cons (pu_pick (th := thN) L.toLo 0 GP hr (pu_lst (pau_cons pu_str (pau_cons pu_str pau_nil))) hq3 (by unfold thN; simp) (by decide)) (pau_cons (pu_pick L.toLo 0 GP hr (pu_var L.toLo 4) hq4 hgne hgl) pau_nil))))) ?_ (by rw [List.length_map, sizeLine_eq]; omega))
    rw [enm, ek]
    refine ⟨_, hs ++ [(bg, bg + 1 + ed, nm, k)], some (.dat d), some (.dat (.int bg)), some (.dat (.int (bg + 1 + ed))), by rw [List.map_append]; rfl, hq5, fun h hh => ?_, by rw [List.length_append, List.length_singleton, hhl]⟩
    rcases List.mem_append.mp hh with z | z
    · exact hhi h z
    · rw [List.mem_singleton.mp z]
      refine ⟨⟨b0, ?_, ?_, ?_, hnm, ga.1, ?_⟩, hk⟩ <;> dsimp only <;> omega
  obtain ⟨q, hs, y6, y14, y15, rfl, hq, hhi, hhl⟩ := hP
  have hhl2 : hs.length ≤ 2 := by
    rw [List.length_map, List.length_range] at hhl
    omega
  refine su_freeze 10 (ds := code.map stD) ?_
  refine su_freeze 13 (ds := hs.map hdD) ?_
  show SUs X g (rP a ns q most x2 (some (.dat (.lst (F.map uD)))) (some (.dat (.lst (gs.map D.int)))) x5 y6 y7 x8 y9 (some (.dat (.lst (code.map stD)))) y11 y12 (some (.dat (.lst (hs.map hdD)))) y14 y15) _ _
  have hfs : ∃ fs : Stp, pickF ns q thE = stD fs ∧ FinS fs := by
    have hk2 := (pickF_at (ns := ns) (th := thE) hq (by unfold thE; simp)).2
    simp only [thE, List.mem_cons, List.not_mem_nil, or_false] at hk2
    rcases hk2 with e | e | e | e
    · exact ⟨(("give" : Str), none), e, .give⟩
    · exact ⟨(("give" : Str), none), e, .give⟩
    · exact ⟨(("throw" : Str), none), e, .throw⟩
    · exact ⟨(("go" : Str), some 0), e, .go⟩
  obtain ⟨fs, efs, hfs⟩ := hfs
  have hqE := pickF_row (ns := ns) (th := thE) hq (by unfold thE; simp)
  have hok := codeOk_of gi hci hcl hfs hhi hhl2
  have eD : D.tup [.tup (code.map stD ++ [pickF ns q thE]), .tup (hs.map hdD)] = .tup [codeD (code ++ [fs]), hsD hs] := by
    rw [efs]
    unfold codeD hsD
    rw [List.map_append]
    rfl
  refine su_one (su_ret (d := .tup [.tup (code.map stD ++ [pickF ns q thE]), .tup (hs.map hdD)]) (ρ1 := rP a ns (takenF ns q (thE.length : Nat)).2 most x2 (some (.dat (.lst (F.map uD)))) (some (.dat (.lst (gs.map D.int)))) x5 y6 y7 x8 y9 (some (.dat (.lst (code.map stD)))) y11 y12 (some (.dat (.lst (hs.map hdD)))) y14 y15)
    (pu_tup (pau_cons (pu_bin (ou_catT (by rw [List.length_map, sizeLine_eq]; simp; omega)) (pu_callTy L.toLo cu_tup T.tuple (by decide +kernel) (pau_cons (pu_var L.toLo 10) pau_nil)) (pu_tup (pau_cons (pu_pick (th := thE) L.toLo 0 GP hr (pu_lst (pau_cons (pu_tup (pau_cons pu_str pau_nil)) (pau_cons (pu_tup (pau_cons pu_str pau_nil)) (pau_cons (pu_tup (pau_cons pu_str pau_nil)) (pau_cons (pu_tup (pau_cons pu_str (pau_cons pu_int pau_nil))) pau_nil))))) hq (by unfold thE; simp) (by decide)) pau_nil)))
      (pau_cons (pu_callTy L.toLo cu_tup T.tuple (by decide +kernel) (pau_cons (pu_var L.toLo 13) pau_nil)) pau_nil))) ⟨_, rfl, ?_⟩)
  exact hp _ _ _ _ hqE hok (by rw [eD])
end
end C66
end TD21
section TD22
set_option Elab.async false
set_option linter.all false
set_option autoImplicit false
set_option maxRecDepth 100000
set_option maxHeartbeats 8000000
namespace C66
open PySem PySem.Spec L2
def cgF (n : Nat) : D → Option D
  | .int g => if g < (n : Int) then some (.int g) else none
  | _ => none
theorem cgF_map (n : Nat) (gs : List Int) : (gs.map D.int).filterMap (cgF n) = (gs.filter fun (g : Int) => decide (g < (n : Int))).map D.int := by
  induction gs with
  | nil => rfl
  | cons g r ih =>
    have e0 : cgF n (.int g) = if g < (n : Int) then some (.int g) else none := rfl
    rw [List.map_cons, List.filterMap_cons, ih, List.filter_cons, e0]
    by_cases e : g < (n : Int)
    · rw [if_pos e, if_pos (decide_eq_true e)]; rfl
    · rw [if_neg e, if_neg (by simpa using e)]
theorem wordsU_low {x : Str} (h : x ∈ wordsU) : (D.str x).low 0 := by
  refine low_str ?_
  simp only [wordsU, List.mem_cons, List.not_mem_nil, or_false] at h
  rcases h with h | h | h | h | h | h | h | h <;> (rw [h]; decide +kernel)
section
variable {P : Program} {w : World} {K : PySem.W.Frag} {mg : Str → Option Value} {base : Heap} {C : Addr} {Tb : List (Addr × Str)}
theorem u_lenML {X : Cx} {g : Gm} {ρ ρ1 : Rho} {N : List Str} {sc : Scope} {vs : List Nat} {pos p : Pos} {e : Expr} {α : Type} {l : List α} {fn : α → D} (L : Lo X N sc vs) (T : Txt X.K g.C X.mg) (ha : PU X g ρ e ρ1 (.lst (l.map fn))) (hg : gloC sc "len" = true := by decide +kernel)
    (he : starEach [e] X.env = (false, eval e X.env) :: starEach [] X.env := by rfl) (hpl : (backTo pos (starEach [] X.env)).any (·.1) = false := by rfl) : PU X g ρ (.Call (.Name "len" p) [e] [] pos) ρ1 (.int l.length) := by
  have h := u_lenL (p := p) L T ha hg he hpl
  rwa [List.length_map] at h
/-- from the third loop on -/
theorem plain_mid {X : Cx} {g : Gm} (L : LoD X nPl (defScope (topS 66)) vPl) (hr : Room 2 X.A) (T : Txt X.K g.C X.mg) (GT : Dfr X.prog X.w X.K X.mg X.base g.C g.T 1 "_law_taken" preTk) (GP : Dfr X.prog X.w X.K X.mg X.base g.C g.T 2 "_law_pick" prePk) {a : Addr} {ns : List Int} {most : Int} {post : List D → Bd → Prop} (hp : ∀ q' c hs b, RowOk q' → CodeOk c hs → b = .dat (.tup [codeD c, hsD hs]) → post (rowR ns q') b)
    {q : Rw} (hq : RowOk q) {us : List Un} (hu : ∀ u ∈ us, UnOk u) (hul : us.length ≤ 24) (x5 x6 x7 x8 : Option Bd) :
    SUs X g (rP a ns q most (some (.dat (.lst (us.map uD)))) (some (.own [])) (some (.own [])) x5 x6 x7 x8 none none none none none none none) ((defBody (topS 66)).drop 4) { nx := fun ρ => ∃ row', ρ[0]? = some (some (.cel a row')) ∧ post row' (.dat .non), rt := fun ρ b => ∃ row', ρ[0]? = some (some (.cel a row')) ∧ post row' b } := by
  refine su_freeze 3 (ds := []) ?_
  refine su_cons (su_for L (S := [7, 9]) (ds := us.map uD) (fun ρ d => match d with | .tup [a, b] => (ρ.set 7 (some (.dat a))).set 9 (some (.dat b)) | _ => ρ)
    (fun i ρ => ∃ (fd : List Un) (gs : List Int) (x7 x9 : Option Bd), ρ = rP a ns q most (some (.dat (.lst (us.map uD)))) (some (.dat (.lst (fd.map uD)))) (some (.own (gs.map D.int))) x5 x6 x7 x8 x9 none none none none none none ∧ FInv fd gs ∧ gs.length = i ∧ fd.length ≤ 2 * i)
    (piu_lst (pu_var L.toLo 2)) (fun i d ρ' hd _ => ?_) ⟨[], [], _, _, rfl, ⟨by simp, by simp, by simp, fun h => absurd rfl h⟩, rfl, Nat.le_refl _⟩ (fun i d ρ' hd hP => ?_) (fun ρ' hP => ?_))
  · obtain ⟨u, _, rfl⟩ := List.mem_map.mp (List.mem_of_getElem? hd)
    exact pgu_pair L.calm (pgu_name L.toLo 7 (.inl (L.fn _)) (hS := by decide)) (pgu_name L.toLo 9 (.inl (L.fn _)) (hS := by decide))
  · obtain ⟨fd, gs, y7, y9, rfl, fi, hgl, hfl⟩ := hP
    have hil : i < 24 := by
      have h1 := (List.getElem?_eq_some_iff.mp hd).1
      rw [List.length_map] at h1
      omega
    obtain ⟨u, hum, rfl⟩ := List.mem_map.mp (List.mem_of_getElem? hd)
    show SUs X g (rP a ns q most (some (.dat (.lst (us.map uD)))) (some (.dat (.lst (fd.map uD)))) (some (.own (gs.map D.int))) x5 x6 (some (.dat (.str u.1))) x8 (some (.dat (.int u.2))) none none none none none none) _ _
    refine su_cons (su_append L 4 (ds := gs.map D.int) (d := .int (fd.length : Nat)) (u_lenML (fn := uD) L.toLo T (pu_var L.toLo 3)) ?_ (by rw [List.length_map, sizeLine_eq]; omega))
    have eg : gs.map D.int ++ [D.int (fd.length : Nat)] = (gs ++ [(fd.length : Int)]).map D.int := by rw [List.map_append]; rfl
    rw [eg]
    show SUs X g (rP a ns q most (some (.dat (.lst (us.map uD)))) (some (.dat (.lst (fd.map uD)))) (some (.own ((gs ++ [(fd.length : Int)]).map D.int))) x5 x6 (some (.dat (.str u.1))) x8 (some (.dat (.int u.2))) none none none none none none) _ _
    have eadd : (fd.map uD ++ (if holdU u = true then [uD (tkU u.2)] else [])) ++ [uD u] = (addU fd u).map uD := by
      unfold addU
      rw [List.map_append, List.map_append]
      congr 2
      split <;> rfl
    refine su_cons (su_setN L 3 (ds := (fd.map uD ++ (if holdU u = true then [uD (tkU u.2)] else [])) ++ [uD u]) (pn_cat ?_ (pu_of_pn (pn_cat ?_ (pu_var L.toLo 3) (pu_ifE (ρ1 := rP a ns q most (some (.dat (.lst (us.map uD)))) (some (.dat (.lst (fd.map uD)))) (some (.own ((gs ++ [(fd.length : Int)]).map D.int))) x5 x6 (some (.dat (.str u.1))) x8 (some (.dat (.int u.2))) none none none none none none) (k := holdU u) (ptu_cmp (ou_inS (.inr rfl)) (pu_var L.toLo 7) (pu_lst (pau_cons pu_str (pau_cons pu_str pau_nil)))) (fun h => ?_) (fun h => ?_)))) (pu_lst (pau_cons (pu_tup (pau_cons (pu_var L.toLo 7) (pau_cons (pu_var L.toLo 9) pau_nil))) pau_nil))) ?_)
    · rw [List.length_append, List.length_map, sizeLine_eq]; split <;> simp <;> omega
    · rw [List.length_map, sizeLine_eq]; split <;> simp <;> omega
    · rw [if_pos h]
      exact pu_lst (pau_cons (pu_tup (pau_cons pu_str (pau_cons (pu_var L.toLo 9) pau_nil))) pau_nil)
    · rw [if_neg (by rw [h]; exact Bool.false_ne_true)]
      exact pu_lst pau_nil
    · rw [eadd]
      refine su_freeze 3 (ds := (addU fd u).map uD) (su_nil ⟨addU fd u, gs ++ [(fd.length : Int)], some (.dat (.str u.1)), some (.dat (.int u.2)), rfl, fi.add (hu u hum), by rw [List.length_append, List.length_singleton, hgl], ?_⟩)
      unfold addU
      rw [List.length_append, List.length_append, List.length_singleton]
      split <;> simp <;> omega
  obtain ⟨fd, gs, y7, y9, rfl, fi, hgl, hfl⟩ := hP
  rw [List.length_map] at hgl hfl
  have ecut : (fd.map uD).take (19 : Int).toNat = (fd.take 19).map uD := by rw [List.map_take]; rfl
  refine su_cons (su_2G L 3 10 (b1 := .own ((fd.take 19).map uD)) (b2 := .own []) (pab_cons (pb_own (by rw [← ecut]; exact n_slTo (k := 19) (pu_var L.toLo 3) pu_int (by decide))) (fun H0 R => pab_cons (pb_own (pn_lst pau_nil)) (fun H0 R => pab_nil) rfl) rfl) ?_)
  have gi := fi.cut (by omega)
  generalize hF : fd.take 19 = F at gi
  have hFm := gi.most
  refine su_freeze 3 (ds := F.map uD) ?_
  refine su_freeze 4 (ds := gs.map D.int) ?_
  show SUs X g (rP a ns q most (some (.dat (.lst (us.map uD)))) (some (.dat (.lst (F.map uD)))) (some (.dat (.lst (gs.map D.int)))) x5 x6 y7 x8 y9 (some (.own [])) none none none none none) _ _
  have hlow : (D.lst (F.map uD)).low 2 := low_lst fun d hd => by
    obtain ⟨u, hum, rfl⟩ := List.mem_map.mp hd
    exact low_uD (gi.wd u hum).1
  refine su_cons (su_setN L 4 (ds := (cutG F gs).map D.int) (pn_ifE (ρ1 := rP a ns q most (some (.dat (.lst (us.map uD)))) (some (.dat (.lst (F.map uD)))) (some (.dat (.lst (gs.map D.int)))) x5 x6 y7 x8 y9 (some (.own [])) none none none none none) (k := !PyData.eqv (D.lst (F.map uD)).py (D.lst []).py) (ptu_cmp (ou_neD L.hu (low_shp hlow (by decide)) (by decide +kernel)) (pu_var L.toLo 3) (pu_lst pau_nil)) (fun h => ?_) (fun h => ?_)) ?_)
  · rw [eqv_nilL] at h
    have hc : ¬ F.isEmpty = true := fun z => by
      have : (F.map uD).isEmpty = true := by rw [List.isEmpty_iff.mp z]; rfl
      rw [this] at h; cases h
    unfold cutG
    rw [if_neg hc, ← cgF_map]
    refine pn_lc L.toLo [("_law_at", 17)] [3, 17] (fun ρ d => ρ.set 17 (some (.dat d))) (cgF F.length) (piu_lst (pu_var L.toLo 4)) (by intro i hi; simp at hi; subst hi; rfl) (fun d => rfl) (fun s H Cc cl fp H0 R L' d hd ρ' e' => ?_) (by rw [List.length_map, sizeLine_eq]; omega)
    subst e'
    obtain ⟨x, _, rfl⟩ := List.mem_map.mp hd
    have e0 : cgF F.length (.int x) = if x < (F.length : Int) then some (.int x) else none := rfl
    refine ⟨pgu_name L' 17 (.inr (by rfl)), ?_, fun r hr' => ?_⟩
    · have e1 : (cgF F.length (.int x)).isSome = decide (x < (F.length : Int)) := by
        rw [e0]
        by_cases z : x < (F.length : Int)
        · rw [if_pos z, decide_eq_true z]; rfl
        · rw [if_neg z, decide_eq_false z]; rfl
      rw [e1]
      exact ptsu_one (ptu_cmp ou_lt (pu_var L' 17) (u_lenML (fn := uD) L' T (pu_var L' 3)))
    · have e2 : D.int x = r := by
        rw [e0] at hr'
        split at hr'
        · exact Option.some.inj hr'
        · cases hr'
      subst e2
      exact pu_var L' 17
  · rw [eqv_nilL] at h
    have hc : F.isEmpty = true := by
      cases F with
      | nil => rfl
      | cons u r => cases h
    unfold cutG
    rw [if_pos hc]
    exact pn_lst (pau_cons pu_int pau_nil)
  · refine su_freeze 4 (ds := (cutG F gs).map D.int) ?_
    exact plain_end L hr T GT GP hp hq gi _ _ _ _ _ _
end
end C66
end TD22
section TD23
set_option Elab.async false
set_option linter.all false
set_option autoImplicit false
set_option maxRecDepth 100000
set_option maxHeartbeats 8000000
namespace C66
open PySem PySem.Spec L2
theorem unD {us : List Un} (d : D) (h : d ∈ us.map uD) : ∃ u ∈ us, d = .tup [.str u.1, .int u.2] := by
  obtain ⟨u, h1, rfl⟩ := List.mem_map.mp h
  exact ⟨u, h1, rfl⟩
section
variable {P : Program} {w : World} {K : PySem.W.Frag} {mg : Str → Option Value} {base : Heap} {C : Addr} {Tb : List (Addr × Str)}
theorem ok_law_plain {f : Addr} {fd : FuncData} (F : Fun K "_law_plain" "_law_plain" (topS 66) f fd) (T : Txt K C mg) (GT : Dfr P w K mg base C Tb 1 "_law_taken" preTk) (GP : Dfr P w K mg base C Tb 2 "_law_pick" prePk) : FnOk P w K mg base CX0 3 f fd ["_law_row", "_law_most"] (spR C Tb P w K prePl) := by
  refine fn_row vPl F scPl (by decide +kernel) (fun row ds post ⟨_, _, _, _, e, _⟩ => by rw [e]; rfl) (by decide) ?_
  rintro X rfl rfl rfl rfl rfl L hr g rfl rfl a row ds post ⟨ns, q, most, rfl, rfl, hq, hm0, hm12, hp⟩
  have hr1 : Room 1 X.A := hr.mono (by decide)
  show SUs X g (rP a ns q most none none none none none none none none none none none none none none) _ _
  refine su_cons (su_3G L 2 3 4 (b1 := .own []) (b2 := .own []) (b3 := .own []) (pab_cons (pb_own (pn_lst pau_nil)) (fun H0 R => pab_cons (pb_own (pn_lst pau_nil)) (fun H0 R => pab_cons (pb_own (pn_lst pau_nil)) (fun H0 R => pab_nil) rfl) rfl) rfl) ?_)
  show SUs X g (rP a ns q most (some (.own [])) (some (.own [])) (some (.own [])) none none none none none none none none none none none) _ _
  obtain ⟨w0, w4, hq1⟩ := takenF_ok (ns := ns) (m := 4) hq (by decide)
  refine su_cons (su_set L 5 (pu_taken L.toLo 0 GT hr1 pu_int hq (by decide) (by decide)) ?_)
  generalize (takenF ns q 4).1 = way at w0 w4
  generalize (takenF ns q 4).2 = q1 at hq1
  show SUs X g (rP a ns q1 most (some (.own [])) (some (.own [])) (some (.own [])) (some (.dat (.int way))) none none none none none none none none none none) _ _
  obtain ⟨n0, n1, hq2⟩ := takenF_ok (ns := ns) (m := most) hq1 hm0
  refine su_cons (su_for L (S := [6]) (fun ρ d => ρ.set 6 (some (.dat d)))
    (fun i ρ => ∃ (q : Rw) (us : List Un) (x6 x7 : Option Bd), ρ = rP a ns q most (some (.own (us.map uD))) (some (.own [])) (some (.own [])) (some (.dat (.int way))) x6 x7 none none none none none none none none ∧ RowOk q ∧ (∀ u ∈ us, UnOk u) ∧ us.length = i)
    (piu_range (ρ1 := rP a ns (takenF ns q1 most).2 most (some (.own [])) (some (.own [])) (some (.own [])) (some (.dat (.int way))) none none none none none none none none none none) (n := 1 + (takenF ns q1 most).1) L.toLo (pu_bin ou_add pu_int (pu_taken L.toLo 0 GT hr1 (pu_var L.toLo 1) hq1 hm0 (by omega))) T.range (by omega) (by omega))
    (fun i d ρ' _ _ => pgu_name L.toLo 6 (.inl (L.fn _)) (hS := by decide)) ⟨_, [], _, _, rfl, hq2, by simp, rfl⟩ (fun i d ρ' hd hP => ?_) (fun ρ' hP => ?_))
  · obtain ⟨q, us, y6, y7, rfl, hq, hus, hul⟩ := hP
    have hil : i < 12 := by
      have h1 := (List.getElem?_eq_some_iff.mp hd).1
      rw [List.length_map, List.length_range] at h1
      omega
    show SUs X g (rP a ns q most (some (.own (us.map uD))) (some (.own [])) (some (.own [])) (some (.dat (.int way))) (some (.dat d)) y7 none none none none none none none none) _ _
    obtain ⟨x, ex, hx⟩ := thW_mem (pickF_at (ns := ns) (th := thW) hq (by unfold thW; simp)).2
    have hq3 := pickF_row (ns := ns) (th := thW) hq (by unfold thW; simp)
    refine su_cons (su_set L 7 (pu_pick (th := thW) L.toLo 0 GP hr (pu_lst (pau_cons pu_str (pau_cons pu_str (pau_cons pu_str (pau_cons pu_str (pau_cons pu_str (pau_cons pu_str (pau_cons pu_str (pau_cons pu_str (pau_cons pu_str (pau_cons pu_str (pau_cons pu_str pau_nil)))))))))))) hq (by unfold thW; simp) (by decide)) ?_)
    rw [ex]
    generalize (takenF ns q (thW.length : Nat)).2 = q3 at hq3
    show SUs X g (rP a ns q3 most (some (.own (us.map uD))) (some (.own [])) (some (.own [])) (some (.dat (.int way))) (some (.dat d)) (some (.dat (.str x))) none none none none none none none none) _ _
    have hm24 : ∃ m : Int, dAt [D.int 2, .int 4] (way % 2) = some (.int m) ∧ 0 < m ∧ m ≤ 4 := by
      have : way % 2 = 0 ∨ way % 2 = 1 := by omega
      rcases this with e | e <;> rw [e]
      · exact ⟨2, rfl, by decide, by decide⟩
      · exact ⟨4, rfl, by decide, by decide⟩
    obtain ⟨m, em, m0, m4⟩ := hm24
    obtain ⟨l0, l1, hq4⟩ := takenF_ok (ns := ns) (m := m) hq3 m0
    refine su_one (su_appendE L 2 (ds := us.map uD) (d := uD (x, (takenF ns q3 m).1)) (ρ1 := rP a ns (takenF ns q3 m).2 most (some (.own (us.map uD))) (some (.own [])) (some (.own [])) (some (.dat (.int way))) (some (.dat d)) (some (.dat (.str x))) none none none none none none none none)
      (pu_tup (pau_cons (pu_var L.toLo 7) (pau_cons (pu_taken L.toLo 0 GT hr1 (pu_ixL (pu_lst (pau_cons pu_int (pau_cons pu_int pau_nil))) (pu_bin (ou_mod (by decide)) (pu_var L.toLo 5) pu_int) em) hq3 m0 (by omega)) pau_nil))) ?_ (by rw [List.length_map, sizeLine_eq]; omega))
    refine ⟨_, us ++ [(x, (takenF ns q3 m).1)], some (.dat d), some (.dat (.str x)), by rw [List.map_append]; rfl, hq4, fun u hu => ?_, by rw [List.length_append, List.length_singleton, hul]⟩
    rcases List.mem_append.mp hu with z | z
    · exact hus u z
    · rw [List.mem_singleton.mp z]
      exact ⟨hx, l0, by dsimp only; omega⟩
  obtain ⟨q, us, y6, y7, rfl, hq, hus, hul⟩ := hP
  have hul : us.length ≤ 12 := by
    rw [List.length_map, List.length_range] at hul
    omega
  refine su_freeze 2 (ds := us.map uD) ?_
  show SUs X g (rP a ns q most (some (.dat (.lst (us.map uD)))) (some (.own [])) (some (.own [])) (some (.dat (.int way))) y6 y7 none none none none none none none none) _ _
  refine su_cons (su_if (k := decide (1 < way)) (ptu_cmp ou_gt (pu_var L.toLo 5) pu_int) (fun hc => ?_) (fun hc => su_nil ?_))
  · refine su_cons (su_setLc L 8 (own := [("_law_unit", 16)]) (lc_data L.toLo [("_law_unit", 16)] [16] (fun ρ d => ρ.set 16 (some (.dat d))) enF (piu_lst (pu_var L.toLo 2)) (by intro i hi; simp at hi; subst hi; rfl) (fun d => rfl) (fun s H Cc cl fp H0 R L' d hd ρ' e' => ?_) (by rw [List.length_map, sizeLine_eq]; omega)) ?_)
    · subst e'
      obtain ⟨u, hu, rfl⟩ := unD d hd
      have e0 : enF (.tup [.str u.1, .int u.2]) = if u.1 = "enter" then some (.int u.2) else none := rfl
      refine ⟨pgu_name L' 16 (.inr (by rfl)), ?_, fun r hr' => ?_⟩
      · have e1 : (enF (.tup [.str u.1, .int u.2])).isSome = decide (u.1 = "enter") := by
          rw [e0]
          by_cases z : u.1 = "enter"
          · rw [if_pos z, decide_eq_true z]; rfl
          · rw [if_neg z, decide_eq_false z]; rfl
        rw [e1]
        exact ptsu_one (ptu_cmp ou_eqS (pu_ixT (pu_var L' 16) pu_int rfl) pu_str)
      · have e2 : D.int u.2 = r := by
          rw [e0] at hr'
          split at hr'
          · exact Option.some.inj hr'
          · cases hr'
        subst e2
        exact pu_ixT (pu_var L' 16) pu_int rfl
    rw [enF_map]
    refine su_freeze 8 (ds := ((us.filter fun (u : Un) => decide (u.1 = "enter")).map fun (u : Un) => u.2).map D.int) ?_
    have hle : ∀ l ∈ ((us.filter fun (u : Un) => decide (u.1 = "enter")).map fun (u : Un) => u.2), 0 ≤ l ∧ l ≤ 3 := fun l hl => by
      obtain ⟨u, hu, rfl⟩ := List.mem_map.mp hl
      exact (hus u (List.mem_filter.mp hu).1).2
    have hll : ((us.filter fun (u : Un) => decide (u.1 = "enter")).map fun (u : Un) => u.2).length ≤ 12 := by
      rw [List.length_map]
      exact Nat.le_trans (List.length_filter_le _ _) hul
    generalize ((us.filter fun (u : Un) => decide (u.1 = "enter")).map fun (u : Un) => u.2) = ls at hle hll
    show SUs X g (rP a ns q most (some (.dat (.lst (us.map uD)))) (some (.own [])) (some (.own [])) (some (.dat (.int way))) y6 y7 (some (.dat (.lst (ls.map D.int)))) none none none none none none none) _ _
    have hstay : (us.filter fun (u : Un) => !decide (u.1 = "leave")).length ≤ 12 := Nat.le_trans (List.length_filter_le _ _) hul
    refine su_one (su_setN L 2 (ds := (us.map uD).filterMap nlF ++ (ls.map D.int).reverse.filterMap lvF) (pn_cat (ρ1 := rP a ns q most (some (.dat (.lst (us.map uD)))) (some (.own [])) (some (.own [])) (some (.dat (.int way))) y6 y7 (some (.dat (.lst (ls.map D.int)))) none none none none none none none) ?_ (pu_of_pn (pn_lc L.toLo [("_law_unit", 16)] [16] (fun ρ d => ρ.set 16 (some (.dat d))) nlF (piu_lst (pu_var L.toLo 2)) (by intro i hi; simp at hi; subst hi; rfl) (fun d => rfl) (fun s H Cc cl fp H0 R L' d hd ρ' e' => ?_) (by rw [List.length_map, sizeLine_eq]; omega)))
      (pu_of_pn (pn_lc (ρ1 := rP a ns q most (some (.dat (.lst (us.map uD)))) (some (.own [])) (some (.own [])) (some (.dat (.int way))) y6 y7 (some (.dat (.lst (ls.map D.int)))) none none none none none none none) L.toLo [("_law_local", 9)] [9] (fun ρ d => ρ.set 9 (some (.dat d))) lvF (piu_lst (pu_of_pn (pn_revL (pu_var L.toLo 8)))) (by intro i hi; simp at hi; subst hi; rfl) (fun d => rfl) (fun s H Cc cl fp H0 R L' d hd ρ' e' => ?_) (by rw [List.length_reverse, List.length_map, sizeLine_eq]; omega)))) ?_)
    · rw [nlF_map, ← List.map_reverse, lvF_map, List.length_map, List.length_map, List.length_map, List.length_reverse, sizeLine_eq]; omega
    · subst e'
      obtain ⟨u, hu, rfl⟩ := unD d hd
      have e0 : nlF (.tup [.str u.1, .int u.2]) = if u.1 = "leave" then none else some (.tup [.str u.1, .int u.2]) := rfl
      refine ⟨pgu_name L' 16 (.inr (by rfl)), ?_, fun r hr' => ?_⟩
      · have e1 : (nlF (.tup [.str u.1, .int u.2])).isSome = !decide (u.1 = "leave") := by
          rw [e0]
          by_cases z : u.1 = "leave"
          · rw [if_pos z, decide_eq_true z]; rfl
          · rw [if_neg z, decide_eq_false z]; rfl
        rw [e1]
        exact ptsu_one (ptu_cmp ou_neS (pu_ixT (pu_var L' 16) pu_int rfl) pu_str)
      · have e2 : D.tup [.str u.1, .int u.2] = r := by
          rw [e0] at hr'
          split at hr'
          · cases hr'
          · exact Option.some.inj hr'
        subst e2
        exact pu_var L' 16
    · subst e'
      refine ⟨pgu_name L' 9 (.inr (by rfl)), ptsu_nil, fun r hr' => ?_⟩
      have e2 : D.tup [.str "leave", d] = r := Option.some.inj hr'
      subst e2
      exact pu_tup (pau_cons pu_str (pau_cons (pu_var L' 9) pau_nil))
    · rw [nlF_map, ← List.map_reverse, lvF_map, ← List.map_append]
      refine su_freeze 2 (ds := ((us.filter fun (u : Un) => !decide (u.1 = "leave")) ++ (ls.reverse.map fun l => (("leave", l) : Un))).map uD) ?_
      refine plain_mid L hr T GT GP hp hq (fun u hu => ?_) (by rw [List.length_append, List.length_map, List.length_reverse]; omega) _ _ _ _
      rcases List.mem_append.mp hu with z | z
      · exact hus u (List.mem_filter.mp z).1
      · obtain ⟨l, hl, rfl⟩ := List.mem_map.mp z
        have := hle l (List.mem_reverse.mp hl)
        exact ⟨by show ("leave" : Str) ∈ wordsU; decide +kernel, this.1, this.2⟩
  · exact plain_mid L hr T GT GP hp hq hus (by omega) _ _ _ _
end
end C66
end TD23
section TP26
set_option Elab.async false
set_option linter.all false
set_option autoImplicit false
set_option maxRecDepth 100000
set_option maxHeartbeats 4000000
/-! P26: tuple * 1, {} as data, two names of which the second is whatever a call gives. -/
namespace C66
open PySem PySem.Spec L2
open PyProof.Rows
open PySem.AutoSeq1 (wpAny_loadPart')
theorem tuple_mul1 (l : Addr) (items : Array Value) (n : Nat) (dd : Option Addr) (sl : Array (Option Value)) (u : Tok) :
    Meets (Builtin.«tuple.__mul__» ⟨[.ref l, .int 1 u], []⟩) (fun _ R s => s.heap.get? l = some { cls := .type "tuple", dict := dd, data := .seq items n, slots := sl } ∧ R (.ok (.ret (Value.ref l))) s) :=
  .of_wp fun prog w A R s h => by
    obtain ⟨hp, g, d, tk, os⟩ := s
    obtain ⟨hl, h⟩ := h
    have f1 := AutoSeq1.idx_int
    have c1 : (items.isEmpty || (1 : Int) == 1) = true := by simp
    wp_walk using wpAny_loadPart' hl
    all_goals (first
      | (refine wpAny_ite_true (decide_eq_true c1) ?_; wp_walk using wpAny_loadPart' hl)
      | skip)
    exact ⟨_, rfl, h⟩
section
variable {X : Cx}
def rRep1 (K : PySem.W.Frag) : R2 := fun x y H Q => ∃ l xs, x = .ref l ∧ y = .int 1 ∧ SqT K H l xs ∧ Q (.ref l) H
theorem op_rep1 : OpR X (binaryOp .Mult) (rRep1 X.K) := by
  intro pins s σ H x y v u Q I rx ry h
  obtain ⟨l, xs, rfl, rfl, hT, q⟩ := h
  cases rx
  obtain ⟨t, rfl⟩ := ry
  obtain ⟨its, r, ⟨⟨cls, dd, data, sl⟩, ho, hc, n, hd⟩, hs⟩ := I.tuple hT
  simp only at hc hd
  subst hc hd
  refine wpAny_binaryOp_repeat_ref (T := "tuple") (U := "int") (by decide) ⟨_, ho, rfl⟩ (fun s' => typeIs_int s' 1 t) noFill_tuple_mul F.fills_int_mul F.slot_int_rmul repeat_tuple F.slot_int_index.lookup
    (call_meets F.slot_int_rmul (typeIs_int s 1 t) F.entry_int_rmul (F.args_int_rmul_2 _ _) (int_rmul_tuple 1 t l its.toArray n dd sl)
      ⟨ho, rfl, ⟨_, ho, rfl⟩, call_meets F.slot_tuple_mul ⟨_, ho, rfl⟩ F.entry_tuple_mul (F.args_tuple_mul_2 _ _) (tuple_mul1 l its.toArray n dd sl t) ⟨ho, ?_⟩⟩)
  exact ⟨.ref l, _, I, rfl, q⟩
end
section
variable {X : Cx} {g : Gm} {ρ ρ1 ρ2 : Rho} {N : List Str} {sc : Scope} {vs : List Nat} {pos p px py pz p1 p2 : Pos} {a b c e : Expr} {es : List Expr} {pp : Post} {d : D} {k kk : Nat} {x y : Str} {C : Addr}
theorem ou_rep1 {xs : List D} : OpU X C (binaryOp .Mult) (.tup xs) (.int 1) (.tup xs) :=
  opr_weak op_rep1 fun v u H Q ⟨r1, r2, q⟩ => by
    cases r2
    cases r1 with
    | @tup p us _ s r => exact ⟨p, us, rfl, rfl, s, q _ H (.refl H) (.tup s r)⟩
/-- t * k, one or more -/
theorem ou_rep {d : D} {k : Int} (h1 : 1 ≤ k) (h2 : k ≤ 1000) : OpU X C (binaryOp .Mult) (.tup [d]) (.int k) (.tup (List.replicate k.toNat d)) := by
  by_cases e : k = 1
  · subst e
    exact ou_rep1
  · have h := ou_repT (X := X) (C := C) (xs := [d]) (k := k) (by simp) (by omega) h2 (by simp)
    have e2 : ∀ m : Nat, (List.replicate m [d]).flatten = List.replicate m d := fun m => by
      induction m with
      | zero => rfl
      | succ m ih => rw [List.replicate_succ, List.replicate_succ, List.flatten_cons, ih]; rfl
    rwa [e2] at h
/-- {} -/
theorem pu_edc : PU X g ρ (.Dict [] [] pos) ρ .edc := by
  refine ⟨fun pins s σ H Q I ⟨E, q⟩ => ?_⟩
  refine thn (pe_dnewK.run pins s σ H (fun v H1 => ∃ a, v = .ref a ∧ H a = none ∧ H1 = upd H a (.dK [])) I (fun a n => ⟨a, rfl, n, rfl⟩)) fun u s1 ⟨v, H1, I1, rv, a, e1, n, e2⟩ => ?_
  subst e1 e2
  obtain ⟨o, I2⟩ := inv_freeze I1 (upd_same) (.inr (.inl ⟨_, rfl⟩))
  have sm : Same H (upd (upd H a (.dK [])) a (.frz o (.dK []))) := fun b w hb => by rw [upd_ne (ne_of_none hb n), upd_ne (ne_of_none hb n)]; exact hb
  exact ⟨.ref a, _, I2, rv, q _ _ (E.same sm) (.of_same sm) (.edc upd_same)⟩
/-- x, y = e, f(..): the second is whatever of post comes -/
theorem su_2GR (L : LoD X N sc vs) (i j : Nat) {z : Str} {d1 : D} {ds : List D} {pre : List D → (Bd → Prop) → Prop} {post : Bd → Prop} {k k2 kf : Nat} {pt pt2 pc pf : Pos} (ha : PU X g ρ a ρ d1) (G : Dfn X.prog X.w X.K X.mg X.base g.C g.T kf z pre) (hr : Room kf X.A) (hb : PAU X g ρ (e :: es) ρ ds) (hp : pre ds post) (hm : ∀ b, post b → b.mine = false)
    (h : ∀ b, post b → pp.nx ((ρ.set i (some (.dat d1))).set j (some b))) (hw : swappedStores [.Tuple [.Name x px, .Name y py] k pt] (.Tuple [a, .Call (.Name z pf) (e :: es) [] pc] k2 pt2) (envS sc) = pure none := by rfl) (hi : N[i]? = some x := by rfl) (hj : N[j]? = some y := by rfl)
    (hx : locC sc x = true := by decide +kernel) (hy : locC sc y = true := by decide +kernel) (hg : gloC sc z = true := by decide +kernel) (hdb : (z == ("__debug__" : Str)) = false := by decide) (he : starEach (e :: es) X.env = (false, eval e X.env) :: starEach es X.env := by rfl) (hpl : (backTo pc (starEach es X.env)).any (·.1) = false := by rfl)
    (hs : swapsWithSole [.Tuple [.Name x px, .Name y py] k pt] (.Tuple [a, .Call (.Name z pf) (e :: es) [] pc] k2 pt2) pos.line X.env = pure false := by rfl) (he1 : starEach [a, .Call (.Name z pf) (e :: es) [] pc] X.env = (false, eval a X.env) :: starEach [.Call (.Name z pf) (e :: es) [] pc] X.env := by rfl) (he2 : starEach [.Call (.Name z pf) (e :: es) [] pc] X.env = (false, eval (.Call (.Name z pf) (e :: es) [] pc) X.env) :: starEach [] X.env := by rfl)
    (h1 : (assignEach [.Tuple [.Name x px, .Name y py] k pt] X.env).map (·.2) = [assign (.Tuple [.Name x px, .Name y py] k pt) X.env] := by rfl) (e1 : (assignEach [.Name x px, .Name y py] X.env).map (·.2) = assign (.Name x px) X.env :: (assignEach [.Name y py] X.env).map (·.2) := by rfl)
    (e2 : (assignEach [.Name y py] X.env).map (·.2) = assign (.Name y py) X.env :: (assignEach [] X.env).map (·.2) := by rfl) (hn : (assignEach [.Name x px, .Name y py] X.env).length = 2 := by rfl) (hst : (assignEach [.Name x px, .Name y py] X.env).findIdx? (·.1) = none := by rfl) :
    SU X g ρ (.Assign [.Tuple [.Name x px, .Name y py] k pt] (.Tuple [a, .Call (.Name z pf) (e :: es) [] pc] k2 pt2) pos) pp := by
  have nd : X.N.Nodup := by rw [L.hN]; exact L.nd
  obtain ⟨f, fd, ps, F, hmg, hk, hbi⟩ := G
  refine ps_weak (ps_asg (pe_tup (pa_cons ha (pa_cons (pe_call F hr (gl_of L.toLo hg) hmg hk hbi .nil pass0 hb hdb he hpl) pa_nil he2) he1)) (pg_tup L.calm (pgs_cons (pg_name (i := i) nd (by rw [L.hN]; exact hi) (by rw [L.hs]; exact loc_of hx) (.inl (L.fn x))) (pgs_cons (pg_name (i := j) nd (by rw [L.hN]; exact hj) (by rw [L.hs]; exact loc_of hy) (.inl (L.fn y))) pgs_nil e2) e1) hn hst) hs (by rw [swap_scope L.hs]; exact hw) h1) fun D σ H q => ⟨q.1, fun v1 H1 E1 x1 r1 => ⟨E1, fun us H2 E2 x2 r2 => ?_⟩⟩
  show spF g.C g.T X.prog X.w X.K pre (us ++ []) H2 _ E0
  rw [List.append_nil]
  refine ⟨ds, _, hp, E2.tabs, r2, fun bd v H3 hb' kr ht r3 => ?_⟩
  obtain ⟨E3, x3⟩ := E2.called kr ht
  have hmm := hm bd hb'
  refine ⟨by show 2 ≤ sizeLine; decide, fun w n => ⟨w, _, rfl, .of upd_same, rfl, _, _, rfl, _, _, rfl, rfl, ?_⟩⟩
  have E4 := (E3.setB (i := i) (b := .dat d1) (r1.ext (x2.trans x3)) (fun m => by cases m)).setB (i := j) r3 (fun m => by rw [hmm] at m; cases m)
  refine q.2.1 _ _ _ (h bd hb') (E4.same fun bb o hb => ?_) (((x1.trans x2).trans x3).trans (.of_same fun bb o hb => ?_)) <;> (rw [upd_ne (ne_of_none hb n)]; exact hb)
end
end C66
end TP26
section TD24
set_option Elab.async false
set_option linter.all false
set_option autoImplicit false
set_option maxRecDepth 100000
set_option maxHeartbeats 8000000
namespace C66
open PySem PySem.Spec L2
def forBody : Stmt → List Stmt
  | .For _ _ b _ _ => b
  | _ => []
def turnB : List Stmt := forBody (((defBody (topS 75)).drop 1).headD (.Pass ⟨0, 0, 0, 0⟩))
def frC : Cell → Cell
  | .non => .hol zer
  | x => x
def frF : D → Option D := fun d => some (if isNon d = true then iD zer else d)
theorem frF_cell (x : Cell) : frF (cellD x) = some (cellD (frC x)) := by cases x <;> rfl
theorem frF_map (cs : List Cell) : (cs.map cellD).filterMap frF = (cs.map frC).map cellD := by
  induction cs with
  | nil => rfl
  | cons x r ih => rw [List.map_cons, List.filterMap_cons, frF_cell, ih]; rfl
def othL : List Cell := [.non, .hol [0, 0, 0, 0], .hol [1, 0, 0, 0], .hol [0, 1, 0, 0], .hol [0, 0, 0, 7], .hol [0, 0, 0], .lst [0, 0, 0, 0]]
abbrev nLaw : List Str := ["_law_script", "_law_row", "_law_turn", "_law_code", "_law_handlers", "_law_house_here", "_law_found", "_law_told", "_law_some", "_law_base", "_law_tries", "_law_lap", "_law_at", "_law_others", "_law_other", "_law_free", "_law_value", "_law_step", "_law_holds", "_law_one"]
theorem scLaw : FnScope nLaw ["_law_script"] (defScope (topS 75)) := ⟨rfl, rfl, rfl, by decide +kernel, rfl, by decide +kernel, by decide +kernel⟩
abbrev vLaw : List Nat := [0, 1, 2, 3, 4, 5, 6, 7, 8, 9, 10, 11, 12, 13, 14, 15, 16]
abbrev rL (a : Addr) (ns : List Int) (q : Rw) (x2 x3 x4 x5 x6 x7 x8 x9 x10 x11 x12 x13 x14 x15 x16 : Option Bd) : Rho := [some (.dat (.scr ns)), some (.cel a (rowR ns q)), x2, x3, x4, x5, x6, x7, x8, x9, x10, x11, x12, x13, x14, x15, x16, none, none, none]
section
variable {P : Program} {w : World} {K : PySem.W.Frag} {mg : Str → Option Value} {base : Heap} {C : Addr} {Tb : List (Addr × Str)}
/-- a turn, from the tries on -/
theorem law_end {X : Cx} {g : Gm} {pp : Post} (L : LoD X nLaw (defScope (topS 75)) vLaw) (hr : Room 7 X.A) (T : Txt X.K g.C X.mg) (GT : Dfr X.prog X.w X.K X.mg X.base g.C g.T 1 "_law_taken" preTk) (GP : Dfr X.prog X.w X.K X.mg X.base g.C g.T 2 "_law_pick" prePk)
    (GA : Dfn X.prog X.w X.K X.mg X.base g.C g.T 1 "_law_alike" preAlike) (GS : Dfn X.prog X.w X.K X.mg X.base g.C g.T 5 "shows_table" preShow) (GI : Dfn X.prog X.w X.K X.mg X.base g.C g.T 3 "_law_is_table" preLTab)
    {a : Addr} {ns : List Int} {q : Rw} (hq : RowOk q) {c : List Stp} {hs : List Hnd} (ok : CodeOk c hs) {cs : List Cell} (hcl : cs.length = c.length) (x2 x6 x7 x8 : Option Bd)
    (hp : ∀ q' y10 y11 y12 y13 y14 y15 y16, RowOk q' → pp.nx (rL a ns q' x2 (some (.dat (codeD c))) (some (.dat (hsD hs))) (some (.dat (.hou (clsD c hs)))) x6 x7 x8 (some (.dat (.tup (cs.map cellD)))) y10 y11 y12 y13 y14 y15 y16)) :
    SUs X g (rL a ns q x2 (some (.dat (codeD c))) (some (.dat (hsD hs))) (some (.dat (.hou (clsD c hs)))) x6 x7 x8 (some (.dat (.tup (cs.map cellD)))) none none none none none none none) (turnB.drop 5) pp := by
  have hr1 : Room 1 X.A := hr.mono (by decide)
  have hr2 : Room 2 X.A := hr.mono (by decide)
  have hr3 : Room 3 X.A := hr.mono (by decide)
  have hr5 : Room 5 X.A := hr.mono (by decide)
  have hn1 := ok.pos
  have hn20 := ok.most
  have hne : cs.map cellD ≠ [] := fun z => by
    have : (cs.map cellD).length = 0 := by rw [z]; rfl
    rw [List.length_map] at this
    omega
  have hrn : ∀ x : Cell, List.replicate ((c.length : Nat) : Int).toNat (cellD x) = (List.replicate c.length x).map cellD := fun x => by rw [Int.toNat_natCast, List.map_replicate]
  have v1 : D.tup (cs.map cellD).dropLast = valD (.tab cs.dropLast) := by
    show _ = D.tup (cs.dropLast.map cellD)
    rw [List.map_dropLast]
  have v2 : D.tup (cs.map cellD ++ [.non]) = valD (.tab (cs ++ [.non])) := by
    show _ = D.tup ((cs ++ [Cell.non]).map cellD)
    rw [List.map_append]; rfl
  have v3 : ∀ x : Cell, D.tup (List.replicate ((c.length : Nat) : Int).toNat (cellD x)) = valD (.tab (List.replicate c.length x)) := fun x => by rw [hrn]; rfl
  have hlenc : ((c.length : Nat) : Int) = c.length := rfl
  refine su_cons (su_setN L 10 (ds := ([.tab cs, .lst cs, .tab cs.dropLast, .tab (cs ++ [.non]), .tab (List.replicate c.length .non), .tab (List.replicate c.length (.hol [0, 0, 0, 0])), .three] : List Val).map valD)
    (pn_lst (pau_cons (pu_var L.toLo 9) (pau_cons (pu_of_pn (pn_listT L.toLo (pu_var L.toLo 9) T.list)) (pau_cons (by rw [← v1]; exact u_slM1 (pu_var L.toLo 9) hne) (pau_cons (by rw [← v2]; exact pu_bin (ou_catT (by rw [List.length_map, sizeLine_eq]; simp; omega)) (pu_var L.toLo 9) (pu_tup (pau_cons pu_non pau_nil)))
      (pau_cons (by rw [← v3]; exact pu_bin (ou_rep (by omega) (by omega)) (pu_tup (pau_cons pu_non pau_nil)) (u_lenM (fn := stD) L.toLo T (pu_var L.toLo 3))) (pau_cons (by rw [← v3]; exact pu_bin (ou_rep (by omega) (by omega)) (pu_tup (pau_cons (pu_tup (pau_cons pu_int (pau_cons pu_int (pau_cons pu_int (pau_cons pu_int pau_nil))))) pau_nil)) (u_lenM (fn := stD) L.toLo T (pu_var L.toLo 3))) (pau_cons pu_int pau_nil)))))))) ?_)
  generalize hV : ([.tab cs, .lst cs, .tab cs.dropLast, .tab (cs ++ [.non]), .tab (List.replicate c.length .non), .tab (List.replicate c.length (.hol [0, 0, 0, 0])), .three] : List Val) = V0
  have hV0 : V0.length = 7 := by rw [← hV]; rfl
  show SUs X g (rL a ns q x2 (some (.dat (codeD c))) (some (.dat (hsD hs))) (some (.dat (.hou (clsD c hs)))) x6 x7 x8 (some (.dat (.tup (cs.map cellD)))) (some (.own (V0.map valD))) none none none none none none) _ _
  refine su_cons (su_for L (S := [11]) (fun ρ d => ρ.set 11 (some (.dat d)))
    (fun i ρ => ∃ (q : Rw) (V : List Val) (y11 y12 y13 y14 : Option Bd), ρ = rL a ns q x2 (some (.dat (codeD c))) (some (.dat (hsD hs))) (some (.dat (.hou (clsD c hs)))) x6 x7 x8 (some (.dat (.tup (cs.map cellD)))) (some (.own (V.map valD))) y11 y12 y13 y14 none none ∧ RowOk q ∧ V.length = 7 + i)
    (piu_range (n := 8) L.toLo pu_int T.range (by decide) (by decide))
    (fun i d ρ' _ _ => pgu_name L.toLo 11 (.inl (L.fn _)) (hS := by decide)) ⟨q, V0, _, _, _, _, rfl, hq, hV0⟩ (fun i d ρ' hd hP => ?_) (fun ρ' hP => ?_))
  · obtain ⟨q, V, y11, y12, y13, y14, rfl, hq, hVl⟩ := hP
    have hil : i < 8 := by
      have h1 := (List.getElem?_eq_some_iff.mp hd).1
      rw [List.length_map, List.length_range] at h1
      exact h1
    show SUs X g (rL a ns q x2 (some (.dat (codeD c))) (some (.dat (hsD hs))) (some (.dat (.hou (clsD c hs)))) x6 x7 x8 (some (.dat (.tup (cs.map cellD)))) (some (.own (V.map valD))) (some (.dat d)) y12 y13 y14 none none) _ _
    obtain ⟨at0, at1, hq1⟩ := takenF_ok (ns := ns) (m := (c.length : Int)) hq (by omega)
    refine su_cons (su_set L 12 (pu_taken L.toLo 1 GT hr1 (u_lenM (fn := stD) L.toLo T (pu_var L.toLo 3)) hq (by omega) (by omega)) ?_)
    generalize (takenF ns q (c.length : Int)).1 = at_ at at0 at1
    generalize (takenF ns q (c.length : Int)).2 = q1 at hq1
    show SUs X g (rL a ns q1 x2 (some (.dat (codeD c))) (some (.dat (hsD hs))) (some (.dat (.hou (clsD c hs)))) x6 x7 x8 (some (.dat (.tup (cs.map cellD)))) (some (.own (V.map valD))) (some (.dat d)) (some (.dat (.int at_))) y13 y14 none none) _ _
    refine su_cons (su_set L 13 (d := .lst (othL.map cellD)) (pu_lst (pau_cons pu_non (pau_cons (pu_tup (pau_cons pu_int (pau_cons pu_int (pau_cons pu_int (pau_cons pu_int pau_nil))))) (pau_cons (pu_tup (pau_cons pu_int (pau_cons pu_int (pau_cons pu_int (pau_cons pu_int pau_nil))))) (pau_cons (pu_tup (pau_cons pu_int (pau_cons pu_int (pau_cons pu_int (pau_cons pu_int pau_nil))))) (pau_cons (pu_tup (pau_cons pu_int (pau_cons pu_int (pau_cons pu_int (pau_cons pu_int pau_nil)))))
      (pau_cons (pu_tup (pau_cons pu_int (pau_cons pu_int (pau_cons pu_int pau_nil)))) (pau_cons (pu_lst (pau_cons pu_int (pau_cons pu_int (pau_cons pu_int (pau_cons pu_int pau_nil))))) pau_nil)))))))) ?_)
    show SUs X g (rL a ns q1 x2 (some (.dat (codeD c))) (some (.dat (hsD hs))) (some (.dat (.hou (clsD c hs)))) x6 x7 x8 (some (.dat (.tup (cs.map cellD)))) (some (.own (V.map valD))) (some (.dat d)) (some (.dat (.int at_))) (some (.dat (.lst (othL.map cellD)))) y14 none none) _ _
    have hone : othL.map cellD ≠ [] := by simp [othL]
    obtain ⟨x, _, ex⟩ := List.mem_map.mp (pickF_at (ns := ns) (th := othL.map cellD) hq1 hone).2
    have hq2 := pickF_row (ns := ns) (th := othL.map cellD) hq1 hone
    refine su_cons (su_set L 14 (pu_pick L.toLo 1 GP hr2 (pu_var L.toLo 13) hq1 hone (by decide)) ?_)
    rw [← ex]
    generalize (takenF ns q1 ((othL.map cellD).length : Nat)).2 = q2 at hq2
    show SUs X g (rL a ns q2 x2 (some (.dat (codeD c))) (some (.dat (hsD hs))) (some (.dat (.hou (clsD c hs)))) x6 x7 x8 (some (.dat (.tup (cs.map cellD)))) (some (.own (V.map valD))) (some (.dat d)) (some (.dat (.int at_))) (some (.dat (.lst (othL.map cellD)))) (some (.dat (cellD x))) none none) _ _
    have v4 : D.tup (((cs.map cellD).take at_.toNat ++ [cellD x]) ++ (cs.map cellD).drop (at_ + 1).toNat) = valD (.tab ((cs.take at_.toNat ++ [x]) ++ cs.drop (at_ + 1).toNat)) := by
      show _ = D.tup (((cs.take at_.toNat ++ [x]) ++ cs.drop (at_ + 1).toNat).map cellD)
      rw [List.map_append, List.map_append, List.map_take, List.map_drop]; rfl
    refine su_one (su_append L 10 (ds := V.map valD) (d := valD (.tab ((cs.take at_.toNat ++ [x]) ++ cs.drop (at_ + 1).toNat))) (by rw [← v4]; exact pu_bin (ou_catT (by rw [List.length_append, List.length_take, List.length_drop, List.length_map, List.length_singleton, sizeLine_eq]; omega)) (pu_bin (ou_catT (by rw [List.length_take, List.length_map, List.length_singleton, sizeLine_eq]; omega)) (u_slTo (pu_var L.toLo 9) (pu_var L.toLo 12) at0) (pu_tup (pau_cons (pu_var L.toLo 14) pau_nil))) (u_slFrom (pu_var L.toLo 9) (pu_bin ou_add (pu_var L.toLo 12) pu_int) (by omega)))
      ⟨q2, V ++ [.tab ((cs.take at_.toNat ++ [x]) ++ cs.drop (at_ + 1).toNat)], _, _, _, _, by rw [List.map_append]; rfl, hq2, by rw [List.length_append, List.length_singleton]; omega⟩ (by rw [List.length_map, sizeLine_eq]; omega))
  obtain ⟨q, V, y11, y12, y13, y14, rfl, hq, hVl⟩ := hP
  rw [List.length_map, List.length_range] at hVl
  have hVl : V.length = 15 := hVl
  refine su_freeze 10 (ds := V.map valD) ?_
  show SUs X g (rL a ns q x2 (some (.dat (codeD c))) (some (.dat (hsD hs))) (some (.dat (.hou (clsD c hs)))) x6 x7 x8 (some (.dat (.tup (cs.map cellD)))) (some (.dat (.lst (V.map valD)))) y11 y12 y13 y14 none none) _ _
  have v5 : D.tup ((cs.map cellD).filterMap frF) = valD (.tab (cs.map frC)) := by rw [frF_map]; rfl
  refine su_cons (su_set L 15 (d := valD (.tab (cs.map frC))) (by
    rw [← v5]
    refine pu_callTy L.toLo cu_tup T.tuple (by decide +kernel) (pau_cons (pu_of_pn (pn_lc L.toLo [("_law_holds", 18)] [18] (fun ρ d => ρ.set 18 (some (.dat d))) frF (piu_tup (pu_var L.toLo 9)) (by intro i hi; simp at hi; subst hi; rfl) (fun d => rfl) (fun s H Cc cl fp H0 R L' d hd ρ' e' => ?_) (by rw [List.length_map, sizeLine_eq]; omega))) pau_nil)
    subst e'
    refine ⟨pgu_name L' 18 (.inr (by rfl)), ptsu_nil, fun r hr' => ?_⟩
    have e2 : (if isNon d = true then iD zer else d) = r := Option.some.inj hr'
    subst e2
    refine pu_ifE (ptu_isN (pu_var L' 18)) (fun h => ?_) (fun h => ?_)
    · rw [if_pos h]; exact pu_tup (pau_cons pu_int (pau_cons pu_int (pau_cons pu_int (pau_cons pu_int pau_nil))))
    · rw [if_neg (by rw [h]; exact Bool.false_ne_true)]; exact pu_var L' 18) ?_)
  show SUs X g (rL a ns q x2 (some (.dat (codeD c))) (some (.dat (hsD hs))) (some (.dat (.hou (clsD c hs)))) x6 x7 x8 (some (.dat (.tup (cs.map cellD)))) (some (.dat (.lst (V.map valD)))) y11 y12 y13 y14 (some (.dat (valD (.tab (cs.map frC))))) none) _ _
  have v6 : ∀ x : Cell, D.tup ([cellD x] ++ (cs.map cellD).drop (1 : Int).toNat) = valD (.tab ([x] ++ cs.drop 1)) := fun x => by
    show _ = D.tup (([x] ++ cs.drop 1).map cellD)
    rw [List.map_append, List.map_drop]; rfl
  have hz1 : ∀ d : D, ([d] : List D).length + ((cs.map cellD).drop (1 : Int).toNat).length ≤ sizeLine := fun d => by
    rw [List.length_drop, List.length_map, List.length_singleton, sizeLine_eq]; omega
  have vcat : V.map valD ++ [valD (.tab (cs.map frC)), valD (.tab ([.tru] ++ cs.drop 1)), valD (.tab ([.nons] ++ cs.drop 1)), valD .text, valD .edic] = (V ++ ([Val.tab (cs.map frC), Val.tab ([Cell.tru] ++ cs.drop 1), Val.tab ([Cell.nons] ++ cs.drop 1), Val.text, Val.edic] : List Val)).map valD := by rw [List.map_append]; rfl
  refine su_one (su_for L (S := [16]) (ds := V.map valD ++ [valD (.tab (cs.map frC)), valD (.tab ([.tru] ++ cs.drop 1)), valD (.tab ([.nons] ++ cs.drop 1)), valD .text, valD .edic]) (fun ρ d => ρ.set 16 (some (.dat d)))
    (fun i ρ => ∃ y16 : Option Bd, ρ = rL a ns q x2 (some (.dat (codeD c))) (some (.dat (hsD hs))) (some (.dat (.hou (clsD c hs)))) x6 x7 x8 (some (.dat (.tup (cs.map cellD)))) (some (.dat (.lst (V.map valD)))) y11 y12 y13 y14 (some (.dat (valD (.tab (cs.map frC))))) y16)
    (piu_lst (pu_of_pn (pn_cat (by rw [List.length_map, hVl, sizeLine_eq]; simp) (pu_var L.toLo 10) (pu_lst (pau_cons (pu_var L.toLo 15)
      (pau_cons (by rw [← v6]; exact pu_bin (ou_catT (hz1 _)) (pu_tup (pau_cons (pu_tup (pau_cons pu_bl (pau_cons pu_int (pau_cons pu_int (pau_cons pu_int pau_nil))))) pau_nil)) (u_slFrom (pu_var L.toLo 9) pu_int (by decide)))
      (pau_cons (by rw [← v6]; exact pu_bin (ou_catT (hz1 _)) (pu_tup (pau_cons (pu_bin (ou_rep (by decide) (by decide)) (pu_tup (pau_cons pu_non pau_nil)) pu_int) pau_nil)) (u_slFrom (pu_var L.toLo 9) pu_int (by decide)))
      (pau_cons pu_str (pau_cons pu_edc pau_nil)))))))))
    (fun i d ρ' _ _ => pgu_name L.toLo 16 (.inl (L.fn _)) (hS := by decide)) ⟨_, rfl⟩ (fun i d ρ' hd hP => ?_) (fun ρ' hP => ?_))
  · obtain ⟨y16, rfl⟩ := hP
    rw [vcat] at hd
    obtain ⟨v, _, rfl⟩ := List.mem_map.mp (List.mem_of_getElem? hd)
    show SUs X g (rL a ns q x2 (some (.dat (codeD c))) (some (.dat (hsD hs))) (some (.dat (.hou (clsD c hs)))) x6 x7 x8 (some (.dat (.tup (cs.map cellD)))) (some (.dat (.lst (V.map valD)))) y11 y12 y13 y14 (some (.dat (valD (.tab (cs.map frC))))) (some (.dat (valD v)))) _ _
    refine s_ifF (k := !true) (ptu_not (ptu_val (pu_call L.toLo (d := .bl true) GA hr1 (ds := [.bl (judge c hs v), .bl (judge c hs v)]) (pau_cons (pu_call L.toLo GS hr5 (pau_cons (pu_var L.toLo 5) (pau_cons pu_str (pau_cons pu_str (pau_cons (pu_var L.toLo 16) pau_nil)))) ⟨c, hs, v, rfl, ok, fun b h => h⟩) (pau_cons (pu_call L.toLo GI hr3 (pau_cons (pu_var L.toLo 3) (pau_cons (pu_var L.toLo 4) (pau_cons (pu_var L.toLo 16) pau_nil))) ⟨c, hs, v, rfl, ok, fun b h => h⟩) pau_nil)) ⟨judge c hs v, rfl, fun b h => h⟩))) rfl (su_nil ⟨_, rfl⟩)
  · obtain ⟨y16, rfl⟩ := hP
    exact hp _ _ _ _ _ _ _ _ hq
end
end C66
end TD24
section TD25
set_option Elab.async false
set_option linter.all false
set_option autoImplicit false
set_option maxRecDepth 100000
set_option maxHeartbeats 8000000
namespace C66
open PySem PySem.Spec L2
def oneB (ns : List Int) (a : List D × Rw) (h : List (List Int)) : List D × Rw :=
  if h.isEmpty = true then (a.1 ++ [.non], a.2) else (a.1 ++ [pickF ns a.2 (h.map iD)], (takenF ns a.2 ((h.map iD).length : Nat)).2)
theorem oneB_ok {ns : List Int} {a : List D × Rw} {h : List (List Int)} (hg : ∀ x ∈ h, GoodH x) (hq : RowOk a.2) : RowOk (oneB ns a h).2 ∧ ∃ x : Cell, GoodC x ∧ (oneB ns a h).1 = a.1 ++ [cellD x] := by
  unfold oneB
  by_cases c : h.isEmpty = true
  · rw [if_pos c]
    exact ⟨hq, .non, trivial, rfl⟩
  · rw [if_neg c]
    have hne : h.map iD ≠ [] := fun z => c (by cases h with | nil => rfl | cons _ _ => cases z)
    obtain ⟨x, hx, e⟩ := List.mem_map.mp (pickF_at (ns := ns) hq hne).2
    exact ⟨pickF_row hq hne, .hol x, hg x hx, by rw [← e]; rfl⟩
theorem allB_ok {ns : List Int} : ∀ (rows : List (List (List Int))) (a : List D × Rw) (cs : List Cell), (∀ h ∈ rows, ∀ x ∈ h, GoodH x) → RowOk a.2 → a.1 = cs.map cellD → RowOk (rows.foldl (oneB ns) a).2 ∧ ∃ cs' : List Cell, (rows.foldl (oneB ns) a).1 = cs'.map cellD ∧ cs'.length = cs.length + rows.length
  | [], a, cs, _, hq, e => ⟨hq, cs, e, rfl⟩
  | h :: r, a, cs, hg, hq, e => by
    obtain ⟨h1, x, _, h2⟩ := oneB_ok (ns := ns) (hg h List.mem_cons_self) hq
    obtain ⟨h3, cs', h4, h5⟩ := allB_ok r (oneB ns a h) (cs ++ [x]) (fun h hh => hg h (List.mem_cons_of_mem _ hh)) h1 (by rw [h2, e, List.map_append]; rfl)
    exact ⟨h3, cs', h4, by rw [h5, List.length_append, List.length_singleton, List.length_cons]; omega⟩
def rowsL (l : List Ent) (n : Nat) : List (List (List Int)) := (List.range n).map fun (i : Nat) => selL l (i : Int)
def selR (l : List Ent) : D → Option D
  | .int i => some (.lst ((selL l i).map iD))
  | _ => none
def lstI (h : List (List Int)) : D := .lst (h.map iD)
theorem selR_r (l : List Ent) (n : Nat) : ((List.range n).map fun (i : Nat) => D.int (i : Int)).filterMap (selR l) = (rowsL l n).map lstI := by
  unfold rowsL
  induction List.range n with
  | nil => rfl
  | cons a r ih => rw [List.map_cons, List.filterMap_cons, List.map_cons, List.map_cons, ← ih]; rfl
def preLaw : List D → (Bd → Prop) → Prop := fun ds post => ∃ ns, ds = [.scr ns] ∧ ∀ b, b = .dat (.bl true) → post b
section
variable {P : Program} {w : World} {K : PySem.W.Frag} {mg : Str → Option Value} {base : Heap} {C : Addr} {Tb : List (Addr × Str)}
theorem law_turn {X : Cx} {g : Gm} {pp : Post} (L : LoD X nLaw (defScope (topS 75)) vLaw) (hr : Room 7 X.A) (T : Txt X.K g.C X.mg) (GT : Dfr X.prog X.w X.K X.mg X.base g.C g.T 1 "_law_taken" preTk) (GP : Dfr X.prog X.w X.K X.mg X.base g.C g.T 2 "_law_pick" prePk)
    (GL : Dfr X.prog X.w X.K X.mg X.base g.C g.T 3 "_law_plain" prePl) (GH : Dfn X.prog X.w X.K X.mg X.base g.C g.T 7 "_law_house" preLHouse) (GM : Dfn X.prog X.w X.K X.mg X.base g.C g.T 3 "_law_met" preLMet) (GO : Dfn X.prog X.w X.K X.mg X.base g.C g.T 5 "hold_table" preHoldT)
    (GA : Dfn X.prog X.w X.K X.mg X.base g.C g.T 1 "_law_alike" preAlike) (GS : Dfn X.prog X.w X.K X.mg X.base g.C g.T 5 "shows_table" preShow) (GI : Dfn X.prog X.w X.K X.mg X.base g.C g.T 3 "_law_is_table" preLTab)
    {a : Addr} {ns : List Int} {q : Rw} (hq : RowOk q) (x2 : Option Bd)
    (hp : ∀ q' y3 y4 y5 y6 y7 y8 y9 y10 y11 y12 y13 y14 y15 y16, RowOk q' → pp.nx (rL a ns q' x2 y3 y4 y5 y6 y7 y8 y9 y10 y11 y12 y13 y14 y15 y16)) :
    SUs X g (rL a ns q x2 none none none none none none none none none none none none none none) turnB pp := by
  have hr1 : Room 1 X.A := hr.mono (by decide)
  have hr2 : Room 2 X.A := hr.mono (by decide)
  have hr3 : Room 3 X.A := hr.mono (by decide)
  have hr5 : Room 5 X.A := hr.mono (by decide)
  obtain ⟨b0, b1, hq1⟩ := takenF_ok (ns := ns) (m := 2) hq (by decide)
  have hm : ∃ m : Int, dAt [D.int 4, .int 12] (takenF ns q 2).1 = some (.int m) ∧ 0 < m ∧ m ≤ 12 := by
    have : (takenF ns q 2).1 = 0 ∨ (takenF ns q 2).1 = 1 := by omega
    rcases this with e | e <;> rw [e]
    · exact ⟨4, rfl, by decide, by decide⟩
    · exact ⟨12, rfl, by decide, by decide⟩
  obtain ⟨m, em, m0, m12⟩ := hm
  refine su_cons (su_unpackE L 1 3 4 (aa := a) (row0 := rowR ns q) (row := rowR ns (takenF ns q 2).2) (ds := [.int m]) (ρ1 := rL a ns (takenF ns q 2).2 x2 none none none none none none none none none none none none none none)
    (post := fun row' b => ∃ q' c hs, row' = rowR ns q' ∧ RowOk q' ∧ CodeOk c hs ∧ b = .dat (.tup [codeD c, hsD hs])) GL hr3 (pau_cons (pu_ixL (pu_lst (pau_cons pu_int (pau_cons pu_int pau_nil))) (pu_taken L.toLo 1 GT hr1 pu_int hq (by decide) (by decide)) em) pau_nil) ⟨ns, _, m, rfl, rfl, hq1, m0, m12, fun q' c hs b h1 h2 h3 => ⟨q', c, hs, rfl, h1, h2, h3⟩⟩ ?_)
  rintro _ _ ⟨q2, c, hs, rfl, hq2, ok, rfl⟩
  refine ⟨_, _, rfl, ?_⟩
  show SUs X g (rL a ns q2 x2 (some (.dat (codeD c))) (some (.dat (hsD hs))) none none none none none none none none none none none none) _ _
  have hn1 := ok.pos
  have hn20 := ok.most
  refine su_cons (su_2GR L 5 6 (d1 := .hou (clsD c hs)) (post := fun b => ∃ l, Met c.length l ∧ b = .fdc (fE l)) (pu_call L.toLo GH hr (pau_cons (pu_var L.toLo 3) (pau_cons (pu_var L.toLo 4) pau_nil)) ⟨c, hs, rfl, ok, fun b h => h⟩) GM hr3 (pau_cons (pu_var L.toLo 3) (pau_cons (pu_var L.toLo 4) pau_nil)) ⟨c, hs, rfl, ok, fun l hm => ⟨l, hm, rfl⟩⟩ (fun b ⟨l, _, e⟩ => by rw [e]; rfl) ?_)
  rintro b ⟨l, hm, rfl⟩
  show SUs X g (rL a ns q2 x2 (some (.dat (codeD c))) (some (.dat (hsD hs))) (some (.dat (.hou (clsD c hs)))) (some (.fdc (fE l))) none none none none none none none none none none) _ _
  have hmost := hm.most ok.most
  refine su_cons (su_call L 7 (post := fun b => b = .dat .non ∨ ∃ cs : List Cell, cs.length = c.length ∧ b = .dat (.tup (cs.map cellD))) GO hr5 (pau_cons (pu_var L.toLo 5) (pau_cons pu_str (pau_cons pu_str pau_nil))) ⟨c, hs, rfl, ok, .inl rfl, fun cs h1 _ => .inr ⟨cs, h1, rfl⟩⟩ (fun b h => by rcases h with h | ⟨_, _, h⟩ <;> rw [h] <;> rfl) ?_)
  intro b hb
  have hbd : ∃ d, b = .dat d ∧ (d = .non ∨ ∃ cs : List Cell, cs.length = c.length ∧ d = .tup (cs.map cellD)) := by
    rcases hb with h | ⟨cs, h1, h⟩
    · exact ⟨_, h, .inl rfl⟩
    · exact ⟨_, h, .inr ⟨cs, h1, rfl⟩⟩
  obtain ⟨d, rfl, hd⟩ := hbd
  show SUs X g (rL a ns q2 x2 (some (.dat (codeD c))) (some (.dat (hsD hs))) (some (.dat (.hou (clsD c hs)))) (some (.fdc (fE l))) (some (.dat d)) none none none none none none none none none) _ _
  refine su_cons (su_setLc L 8 (own := [("_law_at", 12)]) (lc_data L.toLo [("_law_at", 12)] [6, 12] (fun ρ d => ρ.set 12 (some (.dat d))) (selR l) (piu_range L.toLo (u_lenM (fn := stD) L.toLo T (pu_var L.toLo 3)) T.range (by omega) (by omega)) (by intro i hi; simp at hi; subst hi; rfl) (fun d => rfl) (fun s H Cc cl fp H0 R L' d hd ρ' e' => ?_) (by rw [List.length_map, List.length_range, sizeLine_eq]; omega)) ?_)
  · subst e'
    obtain ⟨i, _, rfl⟩ := List.mem_map.mp hd
    refine ⟨pgu_name L' 12 (.inl (by rfl)), ptsu_nil, fun r hr' => ?_⟩
    obtain rfl : D.lst ((selL l i).map iD) = r := Option.some.inj hr'
    rw [← selF_l]
    have e : (fE l).map (fun p => keyD p.1) = l.map fun p => kD p.1 := by
      unfold fE
      rw [List.map_map]
      exact List.map_congr_left fun p _ => keyD_kOf p.1
    rw [← e]
    refine pu_of_pn (pn_lc L' [("_law_step", 17), ("_law_holds", 18)] [12, 17, 18] (fun ρ d => match d with | .tup [a, b] => (ρ.set 17 (some (.dat a))).set 18 (some (.dat b)) | _ => ρ) (selF i) (piu_fdc L' 6 (kvs := fE l)) (by intro i hi; simp at hi; rcases hi with rfl | rfl <;> rfl) (by intro d; split <;> rfl) (fun s2 H2 Cc2 cl2 fp2 H02 R2 L2' d hd ρ' e' => ?_) ?_)
    · subst e'
      rw [e] at hd
      obtain ⟨p, _, rfl⟩ := List.mem_map.mp hd
      have e0 : selF i (kD p.1) = if p.1.1 = i then some (iD p.1.2) else none := rfl
      refine ⟨pgu_pair L2'.calm (pgu_name L2' 17 (.inr (by rfl))) (pgu_name L2' 18 (.inr (by rfl))), ?_, fun r hr' => ?_⟩
      · have e1 : (selF i (kD p.1)).isSome = decide (p.1.1 = i) := by
          rw [e0]
          by_cases z : p.1.1 = i
          · rw [if_pos z, decide_eq_true z]; rfl
          · rw [if_neg z, decide_eq_false z]; rfl
        rw [e1]
        exact ptsu_one (ptu_cmp ou_eqI (pu_var L2' 17) (pu_var L2' 12))
      · have e2 : iD p.1.2 = r := by
          rw [e0] at hr'
          split at hr'
          · exact Option.some.inj hr'
          · cases hr'
        subst e2
        exact pu_var L2' 18
    · rw [e, List.length_map, sizeLine_eq]; omega
  have erows : ((List.range ((c.length : Nat) : Int).toNat).map fun (i : Nat) => D.int (i : Int)).filterMap (selR l) = (rowsL l c.length).map lstI := by rw [Int.toNat_natCast]; exact selR_r l c.length
  rw [erows]
  have hgood : ∀ h ∈ rowsL l c.length, ∀ x ∈ h, GoodH x := fun h hh x hx => by
    obtain ⟨i, _, rfl⟩ := List.mem_map.mp hh
    exact selL_good hm hx
  have hsmall : ∀ h ∈ rowsL l c.length, h.length ≤ l.length := fun h hh => by
    obtain ⟨i, _, rfl⟩ := List.mem_map.mp hh
    exact selL_length l i
  have hrl : (rowsL l c.length).length = c.length := by unfold rowsL; rw [List.length_map, List.length_range]
  generalize rowsL l c.length = rows at hgood hsmall hrl
  refine su_freeze 8 (ds := rows.map lstI) ?_
  show SUs X g (rL a ns q2 x2 (some (.dat (codeD c))) (some (.dat (hsD hs))) (some (.dat (.hou (clsD c hs)))) (some (.fdc (fE l))) (some (.dat d)) (some (.dat (.lst (rows.map lstI)))) none none none none none none none none) _ _
  rcases hd with rfl | ⟨cs, hcl, rfl⟩
  · have hQ0 : ([] : List D) = ([] : List Cell).map cellD := rfl
    obtain ⟨hq3, cs, ecs, hcl⟩ := allB_ok (ns := ns) rows ([], q2) [] hgood hq2 hQ0
    have hcl : cs.length = c.length := by rw [hcl, hrl]; simp
    have tk : ∀ i h, rows[i]? = some h → (rows.take (i + 1)).foldl (oneB ns) ([], q2) = oneB ns ((rows.take i).foldl (oneB ns) ([], q2)) h := fun i h hi => by
      rw [List.take_add_one, hi, List.foldl_append]; rfl
    have hqi : ∀ i, RowOk ((rows.take i).foldl (oneB ns) ([], q2)).2 := fun i => (allB_ok (ns := ns) (rows.take i) ([], q2) [] (fun h hh => hgood h (List.mem_of_mem_take hh)) hq2 hQ0).1
    have hli : ∀ i, ((rows.take i).foldl (oneB ns) ([], q2)).1.length ≤ i := fun i => by
      obtain ⟨_, cs', e1, e2⟩ := allB_ok (ns := ns) (rows.take i) ([], q2) [] (fun h hh => hgood h (List.mem_of_mem_take hh)) hq2 hQ0
      rw [e1, List.length_map, e2, List.length_take]
      simp only [List.length_nil]
      omega
    have hqf : RowOk (rows.foldl (oneB ns) ([], q2)).2 := hq3
    refine su_cons (su_set L 9 (d := .tup (cs.map cellD)) (ρ1 := rL a ns (rows.foldl (oneB ns) ([], q2)).2 x2 (some (.dat (codeD c))) (some (.dat (hsD hs))) (some (.dat (.hou (clsD c hs)))) (some (.fdc (fE l))) (some (.dat .non)) (some (.dat (.lst (rows.map lstI)))) none none none none none none none none) (pu_ifE (k := true) (ptu_isN (d := .non) (pu_var L.toLo 7)) (fun _ => ?_) (fun h => by cases h)) ?_)
    · refine pu_callTy L.toLo cu_tup T.tuple (by decide +kernel) (pau_cons (pu_of_pn (pn_of_lc (own := [("_law_one", 19)]) L.toLo ?_)) pau_nil)
      refine lc_dataG L.toLo [("_law_one", 19)] [1, 19] (ρ1 := rL a ns q2 x2 (some (.dat (codeD c))) (some (.dat (hsD hs))) (some (.dat (.hou (clsD c hs)))) (some (.fdc (fE l))) (some (.dat .non)) (some (.dat (.lst (rows.map lstI)))) none none none none none none none none) (fun ρ d => ρ.set 19 (some (.dat d)))
        (fun i ρ acc => ρ = rL a ns ((rows.take i).foldl (oneB ns) ([], q2)).2 x2 (some (.dat (codeD c))) (some (.dat (hsD hs))) (some (.dat (.hou (clsD c hs)))) (some (.fdc (fE l))) (some (.dat .non)) (some (.dat (.lst (rows.map lstI)))) none none none none none none none none ∧ acc = ((rows.take i).foldl (oneB ns) ([], q2)).1)
        (piu_lst (pu_var L.toLo 8)) (by decide +kernel) (by decide +kernel) ⟨rfl, rfl⟩ (fun i d ρ' acc hd hP => ?_) (fun ρ' acc hP => ?_) (by rw [List.length_map, hrl, sizeLine_eq]; omega) (fun i ρ' acc hP => ?_)
      · obtain ⟨rfl, rfl⟩ := hP
        rw [List.getElem?_map] at hd
        cases hh : rows[i]? with
        | none => rw [hh] at hd; cases hd
        | some h =>
          rw [hh] at hd
          cases hd
          have e1 := tk i h hh
          have hq := hqi i
          have hsm := hsmall h (List.mem_of_getElem? hh)
          have hgd := hgood h (List.mem_of_getElem? hh)
          generalize (rows.take i).foldl (oneB ns) ([], q2) = st at e1 hq
          by_cases c0 : h.isEmpty = true
          · have e2 : oneB ns st h = (st.1 ++ [.non], st.2) := if_pos c0
            rw [e2] at e1
            have c1 : ((D.lst (h.map iD)).py, (D.lst (h.map iD))) = ((D.lst (h.map iD)).py, (D.lst (h.map iD))) := rfl
            refine ⟨true, .non, rL a ns st.2 x2 (some (.dat (codeD c))) (some (.dat (hsD hs))) (some (.dat (.hou (clsD c hs)))) (some (.fdc (fE l))) (some (.dat .non)) (some (.dat (.lst (rows.map lstI)))) none none none none none none none none |>.set 19 (some (.dat (lstI h))), fun s H Cc cl fp H0 R L' => ⟨pgu_name L' 19 (.inr (by rfl)), ptsu_nil, fun _ => ?_⟩, (fun z => by cases z), fun _ => by rw [e1]; exact ⟨rfl, rfl⟩⟩
            have hl2 : (D.lst (h.map iD)).low 2 := low_lst fun d hd => by
              obtain ⟨x, _, rfl⟩ := List.mem_map.mp hd
              exact low_iD
            refine pu_ifE (k := !PyData.eqv (D.lst (h.map iD)).py (D.lst []).py) (ptu_cmp (ou_neD L.hu (low_shp hl2 (by decide)) (by decide +kernel)) (pu_var L' 19) (pu_lst pau_nil)) (fun z => ?_) (fun _ => pu_non)
            rw [eqv_nilL] at z
            have : (h.map iD).isEmpty = true := by rw [List.isEmpty_iff.mp c0]; rfl
            rw [this] at z; cases z
          · have e2 : oneB ns st h = (st.1 ++ [pickF ns st.2 (h.map iD)], (takenF ns st.2 ((h.map iD).length : Nat)).2) := if_neg c0
            rw [e2] at e1
            have hne : h.map iD ≠ [] := fun z => c0 (by cases h with | nil => rfl | cons _ _ => cases z)
            refine ⟨true, pickF ns st.2 (h.map iD), rL a ns (takenF ns st.2 ((h.map iD).length : Nat)).2 x2 (some (.dat (codeD c))) (some (.dat (hsD hs))) (some (.dat (.hou (clsD c hs)))) (some (.fdc (fE l))) (some (.dat .non)) (some (.dat (.lst (rows.map lstI)))) none none none none none none none none |>.set 19 (some (.dat (lstI h))), fun s H Cc cl fp H0 R L' => ⟨pgu_name L' 19 (.inr (by rfl)), ptsu_nil, fun _ => ?_⟩, (fun z => by cases z), fun _ => by rw [e1]; exact ⟨rfl, rfl⟩⟩
            have hl2 : (D.lst (h.map iD)).low 2 := low_lst fun d hd => by
              obtain ⟨x, _, rfl⟩ := List.mem_map.mp hd
              exact low_iD
            refine pu_ifE (k := !PyData.eqv (D.lst (h.map iD)).py (D.lst []).py) (ptu_cmp (ou_neD L.hu (low_shp hl2 (by decide)) (by decide +kernel)) (pu_var L' 19) (pu_lst pau_nil)) (fun _ => ?_) (fun z => ?_)
            · exact pu_pick L' 1 GP hr2 (pu_var L' 19) hq hne (by rw [List.length_map]; omega)
            · rw [eqv_nilL] at z
              exfalso
              apply hne
              cases hz : h.map iD with
              | nil => rfl
              | cons u r => rw [hz] at z; cases z
      · obtain ⟨rfl, rfl⟩ := hP
        rw [List.length_map, List.take_length]
        exact ⟨fun _ _ h => h, rfl, ecs⟩
      · obtain ⟨rfl, rfl⟩ := hP
        refine ⟨hli i, fun j b h hm => ?_⟩
        obtain rfl : j = 19 := by simpa using hm
        cases h
    · exact law_end L hr T GT GP GA GS GI hqf ok hcl _ _ _ _ (fun q' y10 y11 y12 y13 y14 y15 y16 h => hp _ _ _ _ _ _ _ _ _ _ _ _ _ _ _ h)
  · refine su_cons (su_set L 9 (pu_ifE (ρ1 := rL a ns q2 x2 (some (.dat (codeD c))) (some (.dat (hsD hs))) (some (.dat (.hou (clsD c hs)))) (some (.fdc (fE l))) (some (.dat (.tup (cs.map cellD)))) (some (.dat (.lst (rows.map lstI)))) none none none none none none none none) (k := false) (d := .tup (cs.map cellD)) (ptu_isN (d := .tup (cs.map cellD)) (pu_var L.toLo 7)) (fun h => by cases h) (fun _ => pu_var L.toLo 7)) ?_)
    exact law_end L hr T GT GP GA GS GI hq2 ok hcl _ _ _ _ (fun q' y10 y11 y12 y13 y14 y15 y16 h => hp _ _ _ _ _ _ _ _ _ _ _ _ _ _ _ h)
def spLaw (K : PySem.W.Frag) (T : List (Addr × Str)) : Sp := fun vs H Q _ => ∃ (a : Addr) (ns : List Int), vs = [.ref a] ∧ SqL K H a (ns.map V.int) ∧ (∀ p ∈ T, H p.1 = some (.tbl #[])) ∧ ∀ H', Q (.bl true) H'
theorem pss_frz {X : Cx} {sts : List Stmt} : PSs X sts (fun D σ H => ∃ (a : Addr) (us : List V), H a = some (.lst us) ∧ ∀ o, ∃ t, PSs X sts t ∧ t D σ (upd H a (.frz o (.lst us)))) := ⟨fun pins s σ H D I ⟨a, us, ho, q⟩ => by
  obtain ⟨o, I2⟩ := inv_freeze I ho (.inl ⟨us, rfl⟩)
  obtain ⟨t, h', q'⟩ := q o
  exact h'.run pins s σ _ D I2 q'⟩
theorem law_body {X : Cx} {g : Gm} (L : LoD X nLaw (defScope (topS 75)) vLaw) (hr : Room 7 X.A) (T : Txt X.K g.C X.mg) (GT : Dfr X.prog X.w X.K X.mg X.base g.C g.T 1 "_law_taken" preTk) (GP : Dfr X.prog X.w X.K X.mg X.base g.C g.T 2 "_law_pick" prePk)
    (GL : Dfr X.prog X.w X.K X.mg X.base g.C g.T 3 "_law_plain" prePl) (GH : Dfn X.prog X.w X.K X.mg X.base g.C g.T 7 "_law_house" preLHouse) (GM : Dfn X.prog X.w X.K X.mg X.base g.C g.T 3 "_law_met" preLMet) (GO : Dfn X.prog X.w X.K X.mg X.base g.C g.T 5 "hold_table" preHoldT)
    (GA : Dfn X.prog X.w X.K X.mg X.base g.C g.T 1 "_law_alike" preAlike) (GS : Dfn X.prog X.w X.K X.mg X.base g.C g.T 5 "shows_table" preShow) (GI : Dfn X.prog X.w X.K X.mg X.base g.C g.T 3 "_law_is_table" preLTab) (ns : List Int) :
    SUs X g [some (.dat (.scr ns)), none, none, none, none, none, none, none, none, none, none, none, none, none, none, none, none, none, none, none] (defBody (topS 75)) { nx := fun _ => False, rt := fun _ b => b = .dat (.bl true) } := by
  refine su_cons (su_setN L 1 (ds := rowR ns (0, 2966, 0)) (pn_lst (pau_cons (pu_var L.toLo 0) (pau_cons pu_int (pau_cons pu_int (pau_cons pu_int pau_nil))))) ?_)
  refine su_pin 1 (ds := rowR ns (0, 2966, 0)) fun a => ?_
  show SUs X g (rL a ns (0, 2966, 0) none none none none none none none none none none none none none none none) _ _
  refine su_cons (su_for L (S := [2]) (fun ρ d => ρ.set 2 (some (.dat d)))
    (fun i ρ => ∃ (q : Rw) (y2 y3 y4 y5 y6 y7 y8 y9 y10 y11 y12 y13 y14 y15 y16 : Option Bd), ρ = rL a ns q y2 y3 y4 y5 y6 y7 y8 y9 y10 y11 y12 y13 y14 y15 y16 ∧ RowOk q)
    (piu_range (n := 3) L.toLo pu_int T.range (by decide) (by decide))
    (fun i d ρ' _ _ => pgu_name L.toLo 2 (.inl (L.fn _)) (hS := by decide)) ⟨_, _, _, _, _, _, _, _, _, _, _, _, _, _, _, _, rfl, ⟨by decide, by decide, by decide, by decide⟩⟩ (fun i d ρ' hd hP => ?_) (fun ρ' hP => ?_))
  · obtain ⟨q, y2, y3, y4, y5, y6, y7, y8, y9, y10, y11, y12, y13, y14, y15, y16, rfl, hq⟩ := hP
    refine su_weak (ρ1 := rL a ns q (some (.dat d)) none none none none none none none none none none none none none none) (law_turn L hr T GT GP GL GH GM GO GA GS GI hq _ (fun q' y3 y4 y5 y6 y7 y8 y9 y10 y11 y12 y13 y14 y15 y16 h => ⟨q', _, _, _, _, _, _, _, _, _, _, _, _, _, _, _, rfl, h⟩)) rfl ?_
    intro j b h
    match j, h with
    | 0, h => exact h
    | 1, h => exact h
    | 2, h => exact h
    | 3, h => cases h
    | 4, h => cases h
    | 5, h => cases h
    | 6, h => cases h
    | 7, h => cases h
    | 8, h => cases h
    | 9, h => cases h
    | 10, h => cases h
    | 11, h => cases h
    | 12, h => cases h
    | 13, h => cases h
    | 14, h => cases h
    | 15, h => cases h
    | 16, h => cases h
    | 17, h => cases h
    | 18, h => cases h
    | 19, h => cases h
    | j + 20, h => cases h
  · obtain ⟨q, y2, y3, y4, y5, y6, y7, y8, y9, y10, y11, y12, y13, y14, y15, y16, rfl, hq⟩ := hP
    exact su_one (s_ret pu_bl rfl)
theorem ok_law {f : Addr} {fd : FuncData} (F : Fun K "law" "law" (topS 75) f fd) (T : Txt K C mg) (GT : Dfr P w K mg base C Tb 1 "_law_taken" preTk) (GP : Dfr P w K mg base C Tb 2 "_law_pick" prePk)
    (GL : Dfr P w K mg base C Tb 3 "_law_plain" prePl) (GH : Dfn P w K mg base C Tb 7 "_law_house" preLHouse) (GM : Dfn P w K mg base C Tb 3 "_law_met" preLMet) (GO : Dfn P w K mg base C Tb 5 "hold_table" preHoldT)
    (GA : Dfn P w K mg base C Tb 1 "_law_alike" preAlike) (GS : Dfn P w K mg base C Tb 5 "shows_table" preShow) (GI : Dfn P w K mg base C Tb 3 "_law_is_table" preLTab) : FnOk P w K mg base CX0 8 f fd ["_law_script"] (spLaw K Tb) := by
  have S := scLaw
  refine F.ok S (fun vs H Q E h => ?_) (fun cdv A outer s H vs Q E hr h => ?_)
  · obtain ⟨a, ns, rfl, _⟩ := h
    rfl
  · obtain ⟨a, ns, rfl, hS, hT, hq⟩ := h
    have L : LoD (cxOf CX0 P w K mg base nLaw "law" (defScope (topS 75)) f cdv A outer s H E).nox nLaw (defScope (topS 75)) vLaw := ⟨⟨rfl, rfl, rfl, S.nd, by decide +kernel⟩, fun _ => rfl, PassesOwn.never, hr.units⟩
    have main : ∀ (D : Ends) (_ : ∀ H', D.rt (.bl true) H') (H' : Hp), SqF K H' a (ns.map V.int) → LamX.Tabs Tb H' → ∃ t, PSs (cxOf CX0 P w K mg base nLaw "law" (defScope (topS 75)) f cdv A outer s H E).nox (defBody (topS 75)) t ∧ t D (L2.start nLaw [.ref a]) H' := fun D hD H' hF hT' => by
      refine ⟨_, law_body (g := ⟨C, Tb, H', []⟩) L hr T GT GP GL GH GM GO GA GS GI ns, ?_⟩
      refine ⟨hold_start (X := (cxOf CX0 P w K mg base nLaw "law" (defScope (topS 75)) f cdv A outer s H E).nox) (g := ⟨C, Tb, H', []⟩) (N := nLaw) (ds := [.scr ns]) (us := [.ref a]) (.cons (.scr hF) .nil) (by simp) rfl hT', fun ρ' σ' H' hn E' _ => hn.elim, fun ρ' b v σ' H' hn E' _ r => ?_, fun _ _ _ z => z.elim, fun _ _ _ z => z.elim⟩
      have hn : b = .dat (.bl true) := hn
      subst hn
      cases r
      exact hD _
    have nil : ∀ H' : Hp, (∀ p ∈ Tb, H' p.1 = some (.tbl #[])) → LamX.Tabs Tb H' := fun H' h p hp => LamX.TabS.nil (h p hp)
    rcases hS with (ho | hf) | hk
    · refine ⟨_, pss_frz, a, _, ho, fun o => ?_⟩
      refine main _ hq _ (.inl ⟨o, upd_same⟩) (nil _ fun p hp => ?_)
      rw [upd_ne (fun z => by have := hT p hp; rw [z, ho] at this; cases this)]
      exact hT p hp
    · exact main _ hq H (.inl hf) (nil H hT)
    · exact main _ hq H (.inr hk) (nil H hT)
end
end C66
end TD25
section TE01
set_option Elab.async false
set_option linter.all false
set_option autoImplicit false
set_option maxRecDepth 100000
set_option maxHeartbeats 8000000
/-! E01: the promises of all defs, one after the other (printed by gen_end.py). -/
namespace C66
open PySem PySem.Spec L2
def FnAt (K : PySem.W.Frag) (mg : Str → Option Value) (x : Str) (st : Stmt) : Prop := ∃ f fd, Fun K x x st f fd ∧ mg x = some (.ref f) ∧ PySem.W.keepIn K (.ref f) = true
def FnAtC (K : PySem.W.Frag) (mg : Str → Option Value) (x : Str) (st : Stmt) (cc : Addr) : Prop := ∃ f fd, Fun K x x st f fd ∧ mg x = some (.ref f) ∧ PySem.W.keepIn K (.ref f) = true ∧ fd.code = .ref cc
section
variable {P : Program} {w : World} {K : PySem.W.Frag} {mg : Str → Option Value} {base : Heap} {C : Addr}
theorem chain {f fI cc PT : Addr} {fd fdI : FuncData} (F : Fun K "law" "law" (topS 75) f fd) (T : Txt K C mg) (HT : HTxt K C mg) (M : Mk K C fI) (F_init : Fun K "__init__" "House.__init__" sInit fI fdI) (TB : LamX.TabB base mg cc PT)
    (A_is_in : FnAt K mg "is_in" (topS 24)) (A_is_word : FnAt K mg "is_word" (topS 25)) (A_is_list : FnAt K mg "is_list" (topS 26)) (A_names_of : FnAt K mg "names_of" (topS 27)) (A_row_of : FnAt K mg "row_of" (topS 28)) (A_is_class : FnAt K mg "is_class" (topS 29)) (A_are_fields : FnAt K mg "are_fields" (topS 30)) (A_is_kind_in : FnAt K mg "is_kind_in" (topS 31)) (A_is_method : FnAt K mg "is_method" (topS 32)) (A_is_step : FnAt K mg "is_step" (topS 34)) (A_is_handler : FnAt K mg "is_handler" (topS 35)) (A_check_code : FnAt K mg "check_code" (topS 36)) (A_check_classes : FnAt K mg "check_classes" (topS 37)) (A__law_house : FnAt K mg "_law_house" (topS 67)) (A_need_house : FnAt K mg "need_house" (topS 39)) (A_need_name : FnAt K mg "need_name" (topS 41)) (A_nearest : FnAt K mg "nearest" (topS 43)) (A_need_method : FnAt K mg "need_method" (topS 47)) (A_goals_of : FnAt K mg "goals_of" (topS 48)) (A_are_plain : FnAt K mg "are_plain" (topS 49)) (A_need_plain : FnAt K mg "need_plain" (topS 50)) (A_goes_on : FnAt K mg "goes_on" (topS 51)) (A_caught : FnAt K mg "caught" (topS 52)) (A_next_steps : FnAt K mg "next_steps" (topS 53)) (A_is_end : FnAt K mg "is_end" (topS 54)) (A_local_of : FnAt K mg "local_of" (topS 55)) (A_is_astray : FnAt K mg "is_astray" (topS 56)) (A_holds_behind : FnAt K mg "holds_behind" (topS 57)) (A_all_met : FnAtC K mg "all_met" (topS 58) cc) (A_met_at : FnAt K mg "met_at" (topS 59)) (A_hold_table : FnAt K mg "hold_table" (topS 60)) (A_are_holds : FnAt K mg "are_holds" (topS 61)) (A_shows_table : FnAt K mg "shows_table" (topS 62)) (A__law_next : FnAt K mg "_law_next" (topS 69)) (A__law_is_end : FnAt K mg "_law_is_end" (topS 70)) (A__law_astray : FnAt K mg "_law_astray" (topS 71)) (A__law_behind : FnAt K mg "_law_behind" (topS 72)) (A__law_met : FnAt K mg "_law_met" (topS 73)) (A__law_alike : FnAt K mg "_law_alike" (topS 68)) (A__law_is_table : FnAt K mg "_law_is_table" (topS 74)) (A__law_taken : FnAt K mg "_law_taken" (topS 64)) (A__law_pick : FnAt K mg "_law_pick" (topS 65)) (A__law_plain : FnAt K mg "_law_plain" (topS 66)) :
    FnOk P w K mg base CX0 8 f fd ["_law_script"] (spLaw K [(PT, (("all_met" : Str) ++ ".<locals>.") ++ "<lambda>")]) := by
  generalize hT : ([(PT, (("all_met" : Str) ++ ".<locals>.") ++ "<lambda>")] : List (Addr × Str)) = Tb
  replace hT := hT.symm
  have D_is_in : Dfn P w K mg base C Tb 1 "is_in" preIsIn := by
    obtain ⟨f, fd, F, m, k⟩ := A_is_in
    exact ⟨f, fd, ["value", "least", "most"], ok_is_in F T, m, k, F.binds (ps := ["value", "least", "most"]) fun _ _ _ _ _ _ us hl => match us, hl with | [_, _, _], _ => rfl⟩
  have D_is_word : Dfn P w K mg base C Tb 1 "is_word" preIsWord := by
    obtain ⟨f, fd, F, m, k⟩ := A_is_word
    exact ⟨f, fd, ["value"], ok_is_word F T, m, k, F.binds (ps := ["value"]) fun _ _ _ _ _ _ us hl => match us, hl with | [_], _ => rfl⟩
  have D_is_list : Dfn P w K mg base C Tb 1 "is_list" preIsList := by
    obtain ⟨f, fd, F, m, k⟩ := A_is_list
    exact ⟨f, fd, ["value", "most"], ok_is_list F T, m, k, F.binds (ps := ["value", "most"]) fun _ _ _ _ _ _ us hl => match us, hl with | [_, _], _ => rfl⟩
  have D_names_of : Dfn P w K mg base C Tb 1 "names_of" preNamesOf := by
    obtain ⟨f, fd, F, m, k⟩ := A_names_of
    exact ⟨f, fd, ["classes"], ok_names_of F T, m, k, F.binds (ps := ["classes"]) fun _ _ _ _ _ _ us hl => match us, hl with | [_], _ => rfl⟩
  have D_row_of : Dfn P w K mg base C Tb 1 "row_of" preRowOf := by
    obtain ⟨f, fd, F, m, k⟩ := A_row_of
    exact ⟨f, fd, ["classes", "name"], ok_row_of F T, m, k, F.binds (ps := ["classes", "name"]) fun _ _ _ _ _ _ us hl => match us, hl with | [_, _], _ => rfl⟩
  have D_is_class : Dfn P w K mg base C Tb 2 "is_class" preIsClass := by
    obtain ⟨f, fd, F, m, k⟩ := A_is_class
    exact ⟨f, fd, ["classes", "value"], ok_is_class F T D_is_word D_names_of, m, k, F.binds (ps := ["classes", "value"]) fun _ _ _ _ _ _ us hl => match us, hl with | [_, _], _ => rfl⟩
  have D_are_fields : Dfn P w K mg base C Tb 2 "are_fields" preAreF := by
    obtain ⟨f, fd, F, m, k⟩ := A_are_fields
    exact ⟨f, fd, ["classes", "names", "told"], ok_are_fields F T D_is_list D_row_of, m, k, F.binds (ps := ["classes", "names", "told"]) fun _ _ _ _ _ _ us hl => match us, hl with | [_, _, _], _ => rfl⟩
  have D_is_kind_in : Dfn P w K mg base C Tb 2 "is_kind_in" preKindIn := by
    obtain ⟨f, fd, F, m, k⟩ := A_is_kind_in
    exact ⟨f, fd, ["names", "value"], ok_is_kind_in F T D_is_word, m, k, F.binds (ps := ["names", "value"]) fun _ _ _ _ _ _ us hl => match us, hl with | [_, _], _ => rfl⟩
  have D_is_method : Dfn P w K mg base C Tb 3 "is_method" preIsMeth := by
    obtain ⟨f, fd, F, m, k⟩ := A_is_method
    exact ⟨f, fd, ["classes", "names", "told", "at"], ok_is_method F T D_is_word D_is_list D_is_kind_in D_row_of, m, k, F.binds (ps := ["classes", "names", "told", "at"]) fun _ _ _ _ _ _ us hl => match us, hl with | [_, _, _, _], _ => rfl⟩
  have D_is_step : Dfn P w K mg base C Tb 2 "is_step" preIsStep := by
    obtain ⟨f, fd, F, m, k⟩ := A_is_step
    exact ⟨f, fd, ["classes", "code", "at"], ok_is_step F T D_is_in, m, k, F.binds (ps := ["classes", "code", "at"]) fun _ _ _ _ _ _ us hl => match us, hl with | [_, _, _], _ => rfl⟩
  have D_is_handler : Dfn P w K mg base C Tb 2 "is_handler" preIsHnd := by
    obtain ⟨f, fd, F, m, k⟩ := A_is_handler
    exact ⟨f, fd, ["classes", "code", "value"], ok_is_handler F T D_is_in D_is_word D_names_of, m, k, F.binds (ps := ["classes", "code", "value"]) fun _ _ _ _ _ _ us hl => match us, hl with | [_, _, _], _ => rfl⟩
  have D_check_code : Dfn P w K mg base C Tb 3 "check_code" preChk := by
    obtain ⟨f, fd, F, m, k⟩ := A_check_code
    exact ⟨f, fd, ["classes", "index", "place", "method"], ok_check_code F T D_is_list D_is_step D_is_handler, m, k, F.binds (ps := ["classes", "index", "place", "method"]) fun _ _ _ _ _ _ us hl => match us, hl with | [_, _, _, _], _ => rfl⟩
  have D_check_classes : Dfn P w K mg base C Tb 4 "check_classes" preChkC := by
    obtain ⟨f, fd, F, m, k⟩ := A_check_classes
    exact ⟨f, fd, ["classes"], ok_check_classes F T D_is_list D_is_class D_names_of D_are_fields D_is_method D_check_code, m, k, F.binds (ps := ["classes"]) fun _ _ _ _ _ _ us hl => match us, hl with | [_], _ => rfl⟩
  have FIo : FnOk P w K mg base CX0 5 fI fdI ["self", "classes"] (spInit K C Tb) := ok_init F_init HT D_check_classes
  have bI : Binds K fdI ["self", "classes"] [] := F_init.binds (ps := ["self", "classes"]) fun _ _ _ _ _ _ us hl => match us, hl with | [_, _], _ => rfl
  have D__law_house : Dfn P w K mg base C Tb 7 "_law_house" preLHouse := by
    obtain ⟨f, fd, F, m, k⟩ := A__law_house
    exact ⟨f, fd, nLHouse, ok_law_house F HT M FIo bI, m, k, F.binds (ps := nLHouse) fun _ _ _ _ _ _ us hl => match us, hl with | [_, _], _ => rfl⟩
  have D_need_house : Dfn P w K mg base C Tb 1 "need_house" preNeedH := by
    obtain ⟨f, fd, F, m, k⟩ := A_need_house
    exact ⟨f, fd, nNeedH, ok_need_house F T HT, m, k, F.binds (ps := nNeedH) fun _ _ _ _ _ _ us hl => match us, hl with | [_], _ => rfl⟩
  have D_need_name : Dfn P w K mg base C Tb 2 "need_name" preNeedN := by
    obtain ⟨f, fd, F, m, k⟩ := A_need_name
    exact ⟨f, fd, nNeedN, ok_need_name F T HT D_names_of, m, k, F.binds (ps := nNeedN) fun _ _ _ _ _ _ us hl => match us, hl with | [_, _], _ => rfl⟩
  have D_nearest : Dfn P w K mg base C Tb 2 "nearest" preNear := by
    obtain ⟨f, fd, F, m, k⟩ := A_nearest
    exact ⟨f, fd, ["house", "name", "word"], ok_nearest F T HT D_row_of, m, k, F.binds (ps := ["house", "name", "word"]) fun _ _ _ _ _ _ us hl => match us, hl with | [_, _, _], _ => rfl⟩
  have D_need_method : Dfn P w K mg base C Tb 3 "need_method" preNeedM := by
    obtain ⟨f, fd, F, m, k⟩ := A_need_method
    exact ⟨f, fd, ["house", "name", "word"], ok_need_method F T D_need_house D_need_name D_is_word D_nearest, m, k, F.binds (ps := ["house", "name", "word"]) fun _ _ _ _ _ _ us hl => match us, hl with | [_, _, _], _ => rfl⟩
  have D_goals_of : Dfn P w K mg base C Tb 1 "goals_of" preGoals := by
    obtain ⟨f, fd, F, m, k⟩ := A_goals_of
    exact ⟨f, fd, ["method"], ok_goals_of F , m, k, F.binds (ps := ["method"]) fun _ _ _ _ _ _ us hl => match us, hl with | [_], _ => rfl⟩
  have D_are_plain : Dfn P w K mg base C Tb 2 "are_plain" prePlain := by
    obtain ⟨f, fd, F, m, k⟩ := A_are_plain
    exact ⟨f, fd, ["method"], ok_are_plain F T D_goals_of, m, k, F.binds (ps := ["method"]) fun _ _ _ _ _ _ us hl => match us, hl with | [_], _ => rfl⟩
  have D_need_plain : Dfn P w K mg base C Tb 4 "need_plain" preNeedP := by
    obtain ⟨f, fd, F, m, k⟩ := A_need_plain
    exact ⟨f, fd, ["house", "name", "word"], ok_need_plain F D_need_method D_are_plain, m, k, F.binds (ps := ["house", "name", "word"]) fun _ _ _ _ _ _ us hl => match us, hl with | [_, _, _], _ => rfl⟩
  have D_goes_on : Dfn P w K mg base C Tb 1 "goes_on" preGoes := by
    obtain ⟨f, fd, F, m, k⟩ := A_goes_on
    exact ⟨f, fd, ["method", "at"], ok_goes_on F , m, k, F.binds (ps := ["method", "at"]) fun _ _ _ _ _ _ us hl => match us, hl with | [_, _], _ => rfl⟩
  have D_caught : Dfn P w K mg base C Tb 1 "caught" preCaught := by
    obtain ⟨f, fd, F, m, k⟩ := A_caught
    exact ⟨f, fd, ["method", "at"], ok_caught F , m, k, F.binds (ps := ["method", "at"]) fun _ _ _ _ _ _ us hl => match us, hl with | [_, _], _ => rfl⟩
  have D_next_steps : Dfn P w K mg base C Tb 2 "next_steps" preNext := by
    obtain ⟨f, fd, F, m, k⟩ := A_next_steps
    exact ⟨f, fd, nAt, ok_next_steps F T D_goes_on D_caught, m, k, F.binds (ps := nAt) fun _ _ _ _ _ _ us hl => match us, hl with | [_, _], _ => rfl⟩
  have D_is_end : Dfn P w K mg base C Tb 1 "is_end" preEnd := by
    obtain ⟨f, fd, F, m, k⟩ := A_is_end
    exact ⟨f, fd, nAt, ok_is_end F T, m, k, F.binds (ps := nAt) fun _ _ _ _ _ _ us hl => match us, hl with | [_, _], _ => rfl⟩
  have D_local_of : Dfn P w K mg base C Tb 1 "local_of" preLocal := by
    obtain ⟨f, fd, F, m, k⟩ := A_local_of
    exact ⟨f, fd, nAt, ok_local_of F , m, k, F.binds (ps := nAt) fun _ _ _ _ _ _ us hl => match us, hl with | [_, _], _ => rfl⟩
  have D_is_astray : Dfn P w K mg base C Tb 2 "is_astray" preAstr := by
    obtain ⟨f, fd, F, m, k⟩ := A_is_astray
    exact ⟨f, fd, ["method", "at", "holds"], ok_is_astray F T D_local_of D_is_end, m, k, F.binds (ps := ["method", "at", "holds"]) fun _ _ _ _ _ _ us hl => match us, hl with | [_, _, _], _ => rfl⟩
  have D_holds_behind : Dfn P w K mg base C Tb 2 "holds_behind" preBeh := by
    obtain ⟨f, fd, F, m, k⟩ := A_holds_behind
    exact ⟨f, fd, ["method", "at", "holds", "later"], ok_holds_behind F D_local_of, m, k, F.binds (ps := ["method", "at", "holds", "later"]) fun _ _ _ _ _ _ us hl => match us, hl with | [_, _, _, _], _ => rfl⟩
  have D_all_met : Dfn P w K mg base C Tb 3 "all_met" preMet := by
    obtain ⟨f, fd, F, m, k, hcc⟩ := A_all_met
    exact ⟨f, fd, ["method"], ok_all_met F hcc TB hT T D_is_astray D_next_steps D_holds_behind, m, k, F.binds (ps := ["method"]) fun _ _ _ _ _ _ us hl => match us, hl with | [_], _ => rfl⟩
  have D_met_at : Dfn P w K mg base C Tb 4 "met_at" preMetA := by
    obtain ⟨f, fd, F, m, k⟩ := A_met_at
    exact ⟨f, fd, ["method"], ok_met_at F T D_all_met, m, k, F.binds (ps := ["method"]) fun _ _ _ _ _ _ us hl => match us, hl with | [_], _ => rfl⟩
  have D_hold_table : Dfn P w K mg base C Tb 5 "hold_table" preHoldT := by
    obtain ⟨f, fd, F, m, k⟩ := A_hold_table
    exact ⟨f, fd, ["house", "name", "word"], ok_hold_table F T D_need_plain D_met_at D_is_astray, m, k, F.binds (ps := ["house", "name", "word"]) fun _ _ _ _ _ _ us hl => match us, hl with | [_, _, _], _ => rfl⟩
  have D_are_holds : Dfn P w K mg base C Tb 2 "are_holds" preAreH := by
    obtain ⟨f, fd, F, m, k⟩ := A_are_holds
    exact ⟨f, fd, ["value"], ok_are_holds F T D_is_in, m, k, F.binds (ps := ["value"]) fun _ _ _ _ _ _ us hl => match us, hl with | [_], _ => rfl⟩
  have D_shows_table : Dfn P w K mg base C Tb 5 "shows_table" preShow := by
    obtain ⟨f, fd, F, m, k⟩ := A_shows_table
    exact ⟨f, fd, ["house", "name", "word", "value"], ok_shows_table F T D_need_plain D_are_holds D_is_astray D_next_steps D_holds_behind, m, k, F.binds (ps := ["house", "name", "word", "value"]) fun _ _ _ _ _ _ us hl => match us, hl with | [_, _, _, _], _ => rfl⟩
  have D__law_next : Dfn P w K mg base C Tb 1 "_law_next" preLNext := by
    obtain ⟨f, fd, F, m, k⟩ := A__law_next
    exact ⟨f, fd, ["_law_code", "_law_handlers", "_law_at"], ok_law_next F T, m, k, F.binds (ps := ["_law_code", "_law_handlers", "_law_at"]) fun _ _ _ _ _ _ us hl => match us, hl with | [_, _, _], _ => rfl⟩
  have D__law_is_end : Dfn P w K mg base C Tb 1 "_law_is_end" preLEnd := by
    obtain ⟨f, fd, F, m, k⟩ := A__law_is_end
    exact ⟨f, fd, ["_law_code", "_law_handlers", "_law_at"], ok_law_is_end F T, m, k, F.binds (ps := ["_law_code", "_law_handlers", "_law_at"]) fun _ _ _ _ _ _ us hl => match us, hl with | [_, _, _], _ => rfl⟩
  have D__law_astray : Dfn P w K mg base C Tb 2 "_law_astray" preLAstr := by
    obtain ⟨f, fd, F, m, k⟩ := A__law_astray
    exact ⟨f, fd, ["_law_code", "_law_handlers", "_law_at", "_law_holds"], ok_law_astray F T D__law_is_end, m, k, F.binds (ps := ["_law_code", "_law_handlers", "_law_at", "_law_holds"]) fun _ _ _ _ _ _ us hl => match us, hl with | [_, _, _, _], _ => rfl⟩
  have D__law_behind : Dfn P w K mg base C Tb 1 "_law_behind" preLBeh := by
    obtain ⟨f, fd, F, m, k⟩ := A__law_behind
    exact ⟨f, fd, ["_law_code", "_law_at", "_law_holds", "_law_later"], ok_law_behind F T, m, k, F.binds (ps := ["_law_code", "_law_at", "_law_holds", "_law_later"]) fun _ _ _ _ _ _ us hl => match us, hl with | [_, _, _, _], _ => rfl⟩
  have D__law_met : Dfn P w K mg base C Tb 3 "_law_met" preLMet := by
    obtain ⟨f, fd, F, m, k⟩ := A__law_met
    exact ⟨f, fd, ["_law_code", "_law_handlers"], ok_law_met F T D__law_astray D__law_next D__law_behind, m, k, F.binds (ps := ["_law_code", "_law_handlers"]) fun _ _ _ _ _ _ us hl => match us, hl with | [_, _], _ => rfl⟩
  have D__law_alike : Dfn P w K mg base C Tb 1 "_law_alike" preAlike := by
    obtain ⟨f, fd, F, m, k⟩ := A__law_alike
    exact ⟨f, fd, ["_law_found", "_law_due"], ok_law_alike F T, m, k, F.binds (ps := ["_law_found", "_law_due"]) fun _ _ _ _ _ _ us hl => match us, hl with | [_, _], _ => rfl⟩
  have D__law_is_table : Dfn P w K mg base C Tb 3 "_law_is_table" preLTab := by
    obtain ⟨f, fd, F, m, k⟩ := A__law_is_table
    exact ⟨f, fd, ["_law_code", "_law_handlers", "_law_value"], ok_law_is_table F T D__law_astray D__law_next D__law_behind, m, k, F.binds (ps := ["_law_code", "_law_handlers", "_law_value"]) fun _ _ _ _ _ _ us hl => match us, hl with | [_, _, _], _ => rfl⟩
  have D__law_taken : Dfr P w K mg base C Tb 1 "_law_taken" preTk := by
    obtain ⟨f, fd, F, m, k⟩ := A__law_taken
    exact ⟨f, fd, ["_law_row", "_law_many"], ok_law_taken F T, m, k, F.binds (ps := ["_law_row", "_law_many"]) fun _ _ _ _ _ _ us hl => match us, hl with | [_, _], _ => rfl⟩
  have D__law_pick : Dfr P w K mg base C Tb 2 "_law_pick" prePk := by
    obtain ⟨f, fd, F, m, k⟩ := A__law_pick
    exact ⟨f, fd, nPk, ok_law_pick F T D__law_taken, m, k, F.binds (ps := nPk) fun _ _ _ _ _ _ us hl => match us, hl with | [_, _], _ => rfl⟩
  have D__law_plain : Dfr P w K mg base C Tb 3 "_law_plain" prePl := by
    obtain ⟨f, fd, F, m, k⟩ := A__law_plain
    exact ⟨f, fd, ["_law_row", "_law_most"], ok_law_plain F T D__law_taken D__law_pick, m, k, F.binds (ps := ["_law_row", "_law_most"]) fun _ _ _ _ _ _ us hl => match us, hl with | [_, _], _ => rfl⟩
  exact ok_law F T D__law_taken D__law_pick D__law_plain D__law_house D__law_met D_hold_table D__law_alike D_shows_table D__law_is_table
end
end C66
end TE01
section TE02
set_option Elab.async false
set_option linter.all false
set_option autoImplicit false
set_option maxRecDepth 100000
set_option maxHeartbeats 8000000
/-! E02: facts of the top, one by one. -/
namespace C66
open PySem PySem.Spec L2
section
variable {K : PySem.W.Frag} {h : Heap} {mg : Str → Option Value} {C : Addr} {x : Str} {st : Stmt}
theorem fn_at {f : Addr} {oc : Value} {od an : Option Addr} {sl : Array (Option Value)} {kV dc pm cd ct : Value} (X : K.In h) (G : h.Ns mainGlobals mg) (a : PySem.W.nsIn K mainGlobals x = some (some (.ref f)))
    (l : K.lookup f = some ⟨oc, od, .func (PySem.W.fnOf x x (defArgs st) (defBody st) (defScope st) .none kV dc pm an cd ct), sl⟩) (c : PySem.W.codeIn K cd x = true) (k : PySem.W.keepIn K (.ref f) = true) : FnAt K mg x st :=
  ⟨f, _, fun_mk (st := st) l c k, PySem.W.mg_of X G a, k⟩
theorem fn_atC {f cc : Addr} {oc : Value} {od an : Option Addr} {sl : Array (Option Value)} {kV dc pm ct : Value} (X : K.In h) (G : h.Ns mainGlobals mg) (a : PySem.W.nsIn K mainGlobals x = some (some (.ref f)))
    (l : K.lookup f = some ⟨oc, od, .func (PySem.W.fnOf x x (defArgs st) (defBody st) (defScope st) .none kV dc pm an (.ref cc) ct), sl⟩) (c : PySem.W.codeIn K (.ref cc) x = true) (k : PySem.W.keepIn K (.ref f) = true) : FnAtC K mg x st cc :=
  ⟨f, _, fun_mk (st := st) l c k, PySem.W.mg_of X G a, k, rfl⟩
theorem glob_int {n : Int} {t : Tok} (X : K.In h) (G : h.Ns mainGlobals mg) (a : PySem.W.nsIn K mainGlobals x = some (some (.int n t))) : GlobD K C mg x (.int n) := ⟨_, .int n, PySem.W.mg_of X G a, ⟨t, rfl⟩, fun H => .int n⟩
theorem glob_str {n : Str} {t : Tok} (X : K.In h) (G : h.Ns mainGlobals mg) (a : PySem.W.nsIn K mainGlobals x = some (some (.str n t))) : GlobD K C mg x (.str n) := ⟨_, .str n, PySem.W.mg_of X G a, ⟨t, rfl⟩, fun H => .str n⟩
/-- plain texts and whole numbers -/
def flatD : Value → Option D
  | .int i _ => some (.int i)
  | .str y _ => some (.str y)
  | _ => none
def flatDs : List Value → Option (List D)
  | [] => some []
  | u :: r => match flatD u, flatDs r with
    | some d, some ds => some (d :: ds)
    | _, _ => none
theorem flat_rep : ∀ (us : List Value) (ds : List D), flatDs us = some ds → ∃ vs : List V, Vals vs us ∧ ∀ H, RepL K C H vs ds
  | [], ds, e => by
    cases e
    exact ⟨[], .nil, fun H => .nil⟩
  | u :: r, ds, e => by
    unfold flatDs at e
    split at e
    · rename_i d ds' e1 e2
      cases e
      obtain ⟨vs, h1, h2⟩ := flat_rep r ds' e2
      unfold flatD at e1
      split at e1
      · rename_i i t
        cases e1
        exact ⟨.int i :: vs, .cons ⟨t, rfl⟩ h1, fun H => .cons (.int i) (h2 H)⟩
      · rename_i y t
        cases e1
        exact ⟨.str y :: vs, .cons ⟨t, rfl⟩ h1, fun H => .cons (.str y) (h2 H)⟩
      · cases e1
    · cases e
theorem glob_tup {a : Addr} {od : Option Addr} {its : Array Value} {n : Nat} {sl : Array (Option Value)} {ds : List D} (X : K.In h) (G : h.Ns mainGlobals mg) (e : PySem.W.nsIn K mainGlobals x = some (some (.ref a))) (l : K.lookup a = some ⟨.type "tuple", od, .seq its n, sl⟩)
    (hf : flatDs its.toList = some ds) (hz : its.size ≤ 100) : GlobD K C mg x (.tup ds) := by
  obtain ⟨vs, h1, h2⟩ := flat_rep (K := K) (C := C) _ _ hf
  exact ⟨_, .ref a, PySem.W.mg_of X G e, rfl, fun H => .tup (.inr ⟨_, its, n, l, rfl, rfl, Nat.le_trans hz (by rw [sizeLine_eq]; decide), h1⟩) (h2 H)⟩
end
end C66
end TE02
section TE03
set_option Elab.async false
set_option linter.all false
set_option autoImplicit false
set_option maxRecDepth 100000
set_option maxHeartbeats 8000000
/-! E03: what the top has left, gathered (printed by gen_fin.py). -/
namespace C66
open PySem PySem.Spec L2
section
variable {K : PySem.W.Frag} {h : Heap} {mg : Str → Option Value} {C : Addr}
theorem htxt_mk {fI : Addr} {oc kV dc pm cd ct : Value} {od an : Option Addr} {sl : Array (Option Value)} (X : K.In h) (G : h.Ns mainGlobals mg) (aC : PySem.W.nsIn K mainGlobals "House" = some (some (.ref C)))
    (pg : PySem.W.plainGet K C Str.empty = true) (hd : PySem.W.hasDictIn K C = true) (po : PySem.W.plainOver K C = true) (sa : PySem.W.findIn K (.ref C) "__setattr__" = some (some (.builtin "object.__setattr__")))
    (na : PySem.W.findIn K (.ref C) "told" = some none) (ha : PySem.W.findIn K (.ref C) "__class__" = some (some (.builtin "object.__class__")))
    (hn : PySem.W.specialIn K (.builtin "object.__class__") "__get__" = some (some (.builtin "getset_descriptor.__get__"))) (htk : PySem.W.takesIn K (.builtin "object.__class__") = some true) (hm : PySem.W.mroIn K C (.type "object") = some true)
    (mk : PySem.W.makesIn K C = true) (ini : PySem.W.findIn K (.ref C) "__init__" = some (some (.ref fI))) (fn : PySem.W.isFn K (.ref fI) = true) (kp : PySem.W.keepIn K (.ref C) = true)
    (l : K.lookup fI = some ⟨oc, od, .func (PySem.W.fnOf "__init__" "House.__init__" (defArgs sInit) (defBody sInit) (defScope sInit) .none kV dc pm an cd ct), sl⟩) (c : PySem.W.codeIn K cd "House.__init__" = true) (k : PySem.W.keepIn K (.ref fI) = true) :
    ∃ C fI fdI, HTxt K C mg ∧ Mk K C fI ∧ Fun K "__init__" "House.__init__" sInit fI fdI :=
  ⟨C, fI, _, ⟨PySem.W.mg_of X G aC, ⟨pg, hd, po, sa⟩, na, ha, hn, htk, hm, if_pos (beq_self_eq_true _)⟩, ⟨mk, ini, fn, kp⟩, fun_mk (st := sInit) l c k⟩
theorem with_fn {Z : Prop} {x : Str} {st : Stmt} {f : Addr} {oc : Value} {od an : Option Addr} {sl : Array (Option Value)} {kV dc pm cd ct : Value} (X : K.In h) (G : h.Ns mainGlobals mg) (a : PySem.W.nsIn K mainGlobals x = some (some (.ref f)))
    (l : K.lookup f = some ⟨oc, od, .func (PySem.W.fnOf x x (defArgs st) (defBody st) (defScope st) .none kV dc pm an cd ct), sl⟩) (c : PySem.W.codeIn K cd x = true) (k : PySem.W.keepIn K (.ref f) = true) (R : FnAt K mg x st → Z) : Z := R (fn_at X G a l c k)
theorem with_T {Z : Prop} (X : K.In h) (p : ∀ C, Txt K C mg) (R : (∀ C, Txt K C mg) → Z) : Z := R p
theorem with_H {p Z : Prop} (a : p) (R : p → Z) : Z := R a
end
section
variable {l : PySem.W.OpenLaw} {w : World} {K : PySem.W.Frag} {h : Heap} {mg : Str → Option Value}
theorem law_at {fa cc PT : Addr} (X : K.In h) (hfa : mg "law" = some (.ref fa)) (AL : FnAt K mg "law" (topS 75)) (T : ∀ C, Txt K C mg) (HH : ∃ C fI fdI, HTxt K C mg ∧ Mk K C fI ∧ Fun K "__init__" "House.__init__" sInit fI fdI)
    (A_is_in : FnAt K mg "is_in" (topS 24)) (A_is_word : FnAt K mg "is_word" (topS 25)) (A_is_list : FnAt K mg "is_list" (topS 26)) (A_names_of : FnAt K mg "names_of" (topS 27)) (A_row_of : FnAt K mg "row_of" (topS 28)) (A_is_class : FnAt K mg "is_class" (topS 29)) (A_are_fields : FnAt K mg "are_fields" (topS 30)) (A_is_kind_in : FnAt K mg "is_kind_in" (topS 31)) (A_is_method : FnAt K mg "is_method" (topS 32)) (A_is_step : FnAt K mg "is_step" (topS 34)) (A_is_handler : FnAt K mg "is_handler" (topS 35)) (A_check_code : FnAt K mg "check_code" (topS 36)) (A_check_classes : FnAt K mg "check_classes" (topS 37)) (A__law_house : FnAt K mg "_law_house" (topS 67)) (A_need_house : FnAt K mg "need_house" (topS 39)) (A_need_name : FnAt K mg "need_name" (topS 41)) (A_nearest : FnAt K mg "nearest" (topS 43)) (A_need_method : FnAt K mg "need_method" (topS 47)) (A_goals_of : FnAt K mg "goals_of" (topS 48)) (A_are_plain : FnAt K mg "are_plain" (topS 49)) (A_need_plain : FnAt K mg "need_plain" (topS 50)) (A_goes_on : FnAt K mg "goes_on" (topS 51)) (A_caught : FnAt K mg "caught" (topS 52)) (A_next_steps : FnAt K mg "next_steps" (topS 53)) (A_is_end : FnAt K mg "is_end" (topS 54)) (A_local_of : FnAt K mg "local_of" (topS 55)) (A_is_astray : FnAt K mg "is_astray" (topS 56)) (A_holds_behind : FnAt K mg "holds_behind" (topS 57)) (A_all_met : FnAtC K mg "all_met" (topS 58) cc) (A_met_at : FnAt K mg "met_at" (topS 59)) (A_hold_table : FnAt K mg "hold_table" (topS 60)) (A_are_holds : FnAt K mg "are_holds" (topS 61)) (A_shows_table : FnAt K mg "shows_table" (topS 62)) (A__law_next : FnAt K mg "_law_next" (topS 69)) (A__law_is_end : FnAt K mg "_law_is_end" (topS 70)) (A__law_astray : FnAt K mg "_law_astray" (topS 71)) (A__law_behind : FnAt K mg "_law_behind" (topS 72)) (A__law_met : FnAt K mg "_law_met" (topS 73)) (A__law_alike : FnAt K mg "_law_alike" (topS 68)) (A__law_is_table : FnAt K mg "_law_is_table" (topS 74)) (A__law_taken : FnAt K mg "_law_taken" (topS 64)) (A__law_pick : FnAt K mg "_law_pick" (topS 65)) (A__law_plain : FnAt K mg "_law_plain" (topS 66))
    (hT : h.get? PT = some { cls := .none, data := .fields #[] }) (nT : K.lookup PT = none) (hc : PySem.W.codeHdIn K cc PT = true) :
    LamX.LawAtS l w K CX0 8 63 "_law_script" mg fa h := by
  obtain ⟨C, fI, fdI, HT, M, FI⟩ := HH
  obtain ⟨f, fd, F, m, k⟩ := AL
  have e := hfa.symm.trans m
  cases e
  refine ⟨fd, [(cc, PT)], spLaw K [(PT, (("all_met" : Str) ++ ".<locals>.") ++ "<lambda>")], fun p hp => ?_, fun p hp => ?_, fun p hp => ?_, ?_, fun H a ns hl hb hT' hS => ?_, fun base KB GB TB => ?_⟩
  · cases List.mem_singleton.mp hp
    exact hT
  · cases List.mem_singleton.mp hp
    exact nT
  · cases List.mem_singleton.mp hp
    exact PySem.W.codeHd_of_K X hc
  · obtain ⟨oc, od, kV, doc, pm, an, cdv, ct, osl, rfl, lk, hcd⟩ := F.ex
    exact fun s u => .of_eq rfl
  · refine ⟨a, ns, rfl, hS, fun p hp => ?_, fun _ => rfl⟩
    cases List.mem_singleton.mp hp
    exact hT' (cc, PT) (List.mem_singleton.mpr rfl)
  · exact chain F (T C) HT M FI (TB (cc, PT) (List.mem_singleton.mpr rfl)) A_is_in A_is_word A_is_list A_names_of A_row_of A_is_class A_are_fields A_is_kind_in A_is_method A_is_step A_is_handler A_check_code A_check_classes A__law_house A_need_house A_need_name A_nearest A_need_method A_goals_of A_are_plain A_need_plain A_goes_on A_caught A_next_steps A_is_end A_local_of A_is_astray A_holds_behind A_all_met A_met_at A_hold_table A_are_holds A_shows_table A__law_next A__law_is_end A__law_astray A__law_behind A__law_met A__law_alike A__law_is_table A__law_taken A__law_pick A__law_plain
end
end C66
end TE03
set_option Elab.async false
set_option linter.all false
open PySem PySem.W PyProof.Rows
set_option maxRecDepth 100000 in
set_option maxHeartbeats 0 in
theorem PySem.Challenge.cw_classhouse_k66_whole_tables_judged_holds : PySem.Challenge.rw_classhouse_k66_whole_tables_judged.Holds := by
  w_on; o_law; k_head; (case hw => w_witness2)
  k_fill
  refine LamX.walk_ofTs (l := PySem.Challenge.rw_classhouse_k66_whole_tables_judged) (n := 63) (k := 8) (x := "_law_script") (CX := fun _ => L2.CX0) rfl (by decide) rfl ⟨rfl, by decide, by decide⟩ (fun w h Y => PySem.W.km_in_of Y) ?F (fun _ _ _ _ _ z => z)
  case F =>
    intro w mg fa h Y KX G hmg
    have hT8 := PySem.W.km_tabs_of Y
    refine' C66.with_fn (x := "law") (st := C66.topS 75) KX G ?a_law ?l_law ?c_law ?k_law ?R_law; (case a_law => k_is); (case l_law => k_is); (case c_law => k_is); (case k_law => k_is); intro A_law
    refine' C66.with_fn (x := "is_in") (st := C66.topS 24) KX G ?a_is_in ?l_is_in ?c_is_in ?k_is_in ?R_is_in; (case a_is_in => k_is); (case l_is_in => k_is); (case c_is_in => k_is); (case k_is_in => k_is); intro A_is_in
    refine' C66.with_fn (x := "is_word") (st := C66.topS 25) KX G ?a_is_word ?l_is_word ?c_is_word ?k_is_word ?R_is_word; (case a_is_word => k_is); (case l_is_word => k_is); (case c_is_word => k_is); (case k_is_word => k_is); intro A_is_word
    refine' C66.with_fn (x := "is_list") (st := C66.topS 26) KX G ?a_is_list ?l_is_list ?c_is_list ?k_is_list ?R_is_list; (case a_is_list => k_is); (case l_is_list => k_is); (case c_is_list => k_is); (case k_is_list => k_is); intro A_is_list
    refine' C66.with_fn (x := "names_of") (st := C66.topS 27) KX G ?a_names_of ?l_names_of ?c_names_of ?k_names_of ?R_names_of; (case a_names_of => k_is); (case l_names_of => k_is); (case c_names_of => k_is); (case k_names_of => k_is); intro A_names_of
    refine' C66.with_fn (x := "row_of") (st := C66.topS 28) KX G ?a_row_of ?l_row_of ?c_row_of ?k_row_of ?R_row_of; (case a_row_of => k_is); (case l_row_of => k_is); (case c_row_of => k_is); (case k_row_of => k_is); intro A_row_of
    refine' C66.with_fn (x := "is_class") (st := C66.topS 29) KX G ?a_is_class ?l_is_class ?c_is_class ?k_is_class ?R_is_class; (case a_is_class => k_is); (case l_is_class => k_is); (case c_is_class => k_is); (case k_is_class => k_is); intro A_is_class
    refine' C66.with_fn (x := "are_fields") (st := C66.topS 30) KX G ?a_are_fields ?l_are_fields ?c_are_fields ?k_are_fields ?R_are_fields; (case a_are_fields => k_is); (case l_are_fields => k_is); (case c_are_fields => k_is); (case k_are_fields => k_is); intro A_are_fields
    refine' C66.with_fn (x := "is_kind_in") (st := C66.topS 31) KX G ?a_is_kind_in ?l_is_kind_in ?c_is_kind_in ?k_is_kind_in ?R_is_kind_in; (case a_is_kind_in => k_is); (case l_is_kind_in => k_is); (case c_is_kind_in => k_is); (case k_is_kind_in => k_is); intro A_is_kind_in
    refine' C66.with_fn (x := "is_method") (st := C66.topS 32) KX G ?a_is_method ?l_is_method ?c_is_method ?k_is_method ?R_is_method; (case a_is_method => k_is); (case l_is_method => k_is); (case c_is_method => k_is); (case k_is_method => k_is); intro A_is_method
    refine' C66.with_fn (x := "is_step") (st := C66.topS 34) KX G ?a_is_step ?l_is_step ?c_is_step ?k_is_step ?R_is_step; (case a_is_step => k_is); (case l_is_step => k_is); (case c_is_step => k_is); (case k_is_step => k_is); intro A_is_step
    refine' C66.with_fn (x := "is_handler") (st := C66.topS 35) KX G ?a_is_handler ?l_is_handler ?c_is_handler ?k_is_handler ?R_is_handler; (case a_is_handler => k_is); (case l_is_handler => k_is); (case c_is_handler => k_is); (case k_is_handler => k_is); intro A_is_handler
    refine' C66.with_fn (x := "check_code") (st := C66.topS 36) KX G ?a_check_code ?l_check_code ?c_check_code ?k_check_code ?R_check_code; (case a_check_code => k_is); (case l_check_code => k_is); (case c_check_code => k_is); (case k_check_code => k_is); intro A_check_code
    refine' C66.with_fn (x := "check_classes") (st := C66.topS 37) KX G ?a_check_classes ?l_check_classes ?c_check_classes ?k_check_classes ?R_check_classes; (case a_check_classes => k_is); (case l_check_classes => k_is); (case c_check_classes => k_is); (case k_check_classes => k_is); intro A_check_classes
    refine' C66.with_fn (x := "_law_house") (st := C66.topS 67) KX G ?a__law_house ?l__law_house ?c__law_house ?k__law_house ?R__law_house; (case a__law_house => k_is); (case l__law_house => k_is); (case c__law_house => k_is); (case k__law_house => k_is); intro A__law_house
    refine' C66.with_fn (x := "need_house") (st := C66.topS 39) KX G ?a_need_house ?l_need_house ?c_need_house ?k_need_house ?R_need_house; (case a_need_house => k_is); (case l_need_house => k_is); (case c_need_house => k_is); (case k_need_house => k_is); intro A_need_house
    refine' C66.with_fn (x := "need_name") (st := C66.topS 41) KX G ?a_need_name ?l_need_name ?c_need_name ?k_need_name ?R_need_name; (case a_need_name => k_is); (case l_need_name => k_is); (case c_need_name => k_is); (case k_need_name => k_is); intro A_need_name
    refine' C66.with_fn (x := "nearest") (st := C66.topS 43) KX G ?a_nearest ?l_nearest ?c_nearest ?k_nearest ?R_nearest; (case a_nearest => k_is); (case l_nearest => k_is); (case c_nearest => k_is); (case k_nearest => k_is); intro A_nearest
    refine' C66.with_fn (x := "need_method") (st := C66.topS 47) KX G ?a_need_method ?l_need_method ?c_need_method ?k_need_method ?R_need_method; (case a_need_method => k_is); (case l_need_method => k_is); (case c_need_method => k_is); (case k_need_method => k_is); intro A_need_method
    refine' C66.with_fn (x := "goals_of") (st := C66.topS 48) KX G ?a_goals_of ?l_goals_of ?c_goals_of ?k_goals_of ?R_goals_of; (case a_goals_of => k_is); (case l_goals_of => k_is); (case c_goals_of => k_is); (case k_goals_of => k_is); intro A_goals_of
    refine' C66.with_fn (x := "are_plain") (st := C66.topS 49) KX G ?a_are_plain ?l_are_plain ?c_are_plain ?k_are_plain ?R_are_plain; (case a_are_plain => k_is); (case l_are_plain => k_is); (case c_are_plain => k_is); (case k_are_plain => k_is); intro A_are_plain
    refine' C66.with_fn (x := "need_plain") (st := C66.topS 50) KX G ?a_need_plain ?l_need_plain ?c_need_plain ?k_need_plain ?R_need_plain; (case a_need_plain => k_is); (case l_need_plain => k_is); (case c_need_plain => k_is); (case k_need_plain => k_is); intro A_need_plain
    refine' C66.with_fn (x := "goes_on") (st := C66.topS 51) KX G ?a_goes_on ?l_goes_on ?c_goes_on ?k_goes_on ?R_goes_on; (case a_goes_on => k_is); (case l_goes_on => k_is); (case c_goes_on => k_is); (case k_goes_on => k_is); intro A_goes_on
    refine' C66.with_fn (x := "caught") (st := C66.topS 52) KX G ?a_caught ?l_caught ?c_caught ?k_caught ?R_caught; (case a_caught => k_is); (case l_caught => k_is); (case c_caught => k_is); (case k_caught => k_is); intro A_caught
    refine' C66.with_fn (x := "next_steps") (st := C66.topS 53) KX G ?a_next_steps ?l_next_steps ?c_next_steps ?k_next_steps ?R_next_steps; (case a_next_steps => k_is); (case l_next_steps => k_is); (case c_next_steps => k_is); (case k_next_steps => k_is); intro A_next_steps
    refine' C66.with_fn (x := "is_end") (st := C66.topS 54) KX G ?a_is_end ?l_is_end ?c_is_end ?k_is_end ?R_is_end; (case a_is_end => k_is); (case l_is_end => k_is); (case c_is_end => k_is); (case k_is_end => k_is); intro A_is_end
    refine' C66.with_fn (x := "local_of") (st := C66.topS 55) KX G ?a_local_of ?l_local_of ?c_local_of ?k_local_of ?R_local_of; (case a_local_of => k_is); (case l_local_of => k_is); (case c_local_of => k_is); (case k_local_of => k_is); intro A_local_of
    refine' C66.with_fn (x := "is_astray") (st := C66.topS 56) KX G ?a_is_astray ?l_is_astray ?c_is_astray ?k_is_astray ?R_is_astray; (case a_is_astray => k_is); (case l_is_astray => k_is); (case c_is_astray => k_is); (case k_is_astray => k_is); intro A_is_astray
    refine' C66.with_fn (x := "holds_behind") (st := C66.topS 57) KX G ?a_holds_behind ?l_holds_behind ?c_holds_behind ?k_holds_behind ?R_holds_behind; (case a_holds_behind => k_is); (case l_holds_behind => k_is); (case c_holds_behind => k_is); (case k_holds_behind => k_is); intro A_holds_behind
    refine' C66.with_fn (x := "met_at") (st := C66.topS 59) KX G ?a_met_at ?l_met_at ?c_met_at ?k_met_at ?R_met_at; (case a_met_at => k_is); (case l_met_at => k_is); (case c_met_at => k_is); (case k_met_at => k_is); intro A_met_at
    refine' C66.with_fn (x := "hold_table") (st := C66.topS 60) KX G ?a_hold_table ?l_hold_table ?c_hold_table ?k_hold_table ?R_hold_table; (case a_hold_table => k_is); (case l_hold_table => k_is); (case c_hold_table => k_is); (case k_hold_table => k_is); intro A_hold_table
    refine' C66.with_fn (x := "are_holds") (st := C66.topS 61) KX G ?a_are_holds ?l_are_holds ?c_are_holds ?k_are_holds ?R_are_holds; (case a_are_holds => k_is); (case l_are_holds => k_is); (case c_are_holds => k_is); (case k_are_holds => k_is); intro A_are_holds
    refine' C66.with_fn (x := "shows_table") (st := C66.topS 62) KX G ?a_shows_table ?l_shows_table ?c_shows_table ?k_shows_table ?R_shows_table; (case a_shows_table => k_is); (case l_shows_table => k_is); (case c_shows_table => k_is); (case k_shows_table => k_is); intro A_shows_table
    refine' C66.with_fn (x := "_law_next") (st := C66.topS 69) KX G ?a__law_next ?l__law_next ?c__law_next ?k__law_next ?R__law_next; (case a__law_next => k_is); (case l__law_next => k_is); (case c__law_next => k_is); (case k__law_next => k_is); intro A__law_next
    refine' C66.with_fn (x := "_law_is_end") (st := C66.topS 70) KX G ?a__law_is_end ?l__law_is_end ?c__law_is_end ?k__law_is_end ?R__law_is_end; (case a__law_is_end => k_is); (case l__law_is_end => k_is); (case c__law_is_end => k_is); (case k__law_is_end => k_is); intro A__law_is_end
    refine' C66.with_fn (x := "_law_astray") (st := C66.topS 71) KX G ?a__law_astray ?l__law_astray ?c__law_astray ?k__law_astray ?R__law_astray; (case a__law_astray => k_is); (case l__law_astray => k_is); (case c__law_astray => k_is); (case k__law_astray => k_is); intro A__law_astray
    refine' C66.with_fn (x := "_law_behind") (st := C66.topS 72) KX G ?a__law_behind ?l__law_behind ?c__law_behind ?k__law_behind ?R__law_behind; (case a__law_behind => k_is); (case l__law_behind => k_is); (case c__law_behind => k_is); (case k__law_behind => k_is); intro A__law_behind
    refine' C66.with_fn (x := "_law_met") (st := C66.topS 73) KX G ?a__law_met ?l__law_met ?c__law_met ?k__law_met ?R__law_met; (case a__law_met => k_is); (case l__law_met => k_is); (case c__law_met => k_is); (case k__law_met => k_is); intro A__law_met
    refine' C66.with_fn (x := "_law_alike") (st := C66.topS 68) KX G ?a__law_alike ?l__law_alike ?c__law_alike ?k__law_alike ?R__law_alike; (case a__law_alike => k_is); (case l__law_alike => k_is); (case c__law_alike => k_is); (case k__law_alike => k_is); intro A__law_alike
    refine' C66.with_fn (x := "_law_is_table") (st := C66.topS 74) KX G ?a__law_is_table ?l__law_is_table ?c__law_is_table ?k__law_is_table ?R__law_is_table; (case a__law_is_table => k_is); (case l__law_is_table => k_is); (case c__law_is_table => k_is); (case k__law_is_table => k_is); intro A__law_is_table
    refine' C66.with_fn (x := "_law_taken") (st := C66.topS 64) KX G ?a__law_taken ?l__law_taken ?c__law_taken ?k__law_taken ?R__law_taken; (case a__law_taken => k_is); (case l__law_taken => k_is); (case c__law_taken => k_is); (case k__law_taken => k_is); intro A__law_taken
    refine' C66.with_fn (x := "_law_pick") (st := C66.topS 65) KX G ?a__law_pick ?l__law_pick ?c__law_pick ?k__law_pick ?R__law_pick; (case a__law_pick => k_is); (case l__law_pick => k_is); (case c__law_pick => k_is); (case k__law_pick => k_is); intro A__law_pick
    refine' C66.with_fn (x := "_law_plain") (st := C66.topS 66) KX G ?a__law_plain ?l__law_plain ?c__law_plain ?k__law_plain ?R__law_plain; (case a__law_plain => k_is); (case l__law_plain => k_is); (case c__law_plain => k_is); (case k__law_plain => k_is); intro A__law_plain
    refine' C66.with_H (C66.htxt_mk KX G ?H_aC ?H_pg ?H_hd ?H_po ?H_sa ?H_na ?H_ha ?H_hn ?H_htk ?H_hm ?H_mk ?H_ini ?H_fn ?H_kp ?H_l ?H_c ?H_k) ?R_HH
    (case H_aC => k_is); (case H_pg => k_is); (case H_hd => k_is); (case H_po => k_is); (case H_sa => k_is); (case H_na => k_is); (case H_ha => k_is); (case H_hn => k_is); (case H_htk => k_is); (case H_hm => k_is); (case H_mk => k_is); (case H_ini => k_is); (case H_fn => k_is); (case H_kp => k_is); (case H_l => k_is); (case H_c => k_is); (case H_k => k_is)
    intro HH
    refine' C66.with_T (mg := mg) KX ?T ?R_T
    case T =>
      intro C
      refine' { isinstance := PySem.W.mg_none_of KX G ?n_isinstance, int := PySem.W.mg_none_of KX G ?n_int, bool := PySem.W.mg_none_of KX G ?n_bool, str := PySem.W.mg_none_of KX G ?n_str, tuple := PySem.W.mg_none_of KX G ?n_tuple, list := PySem.W.mg_none_of KX G ?n_list, len := PySem.W.mg_none_of KX G ?n_len, all := PySem.W.mg_none_of KX G ?n_all, range := PySem.W.mg_none_of KX G ?n_range, enumerate := PySem.W.mg_none_of KX G ?n_enumerate, sorted := PySem.W.mg_none_of KX G ?n_sorted, set := PySem.W.mg_none_of KX G ?n_set, sum := PySem.W.mg_none_of KX G ?n_sum, min := PySem.W.mg_none_of KX G ?n_min, LETTERS := C66.glob_str KX G ?g_LETTERS, TOP := C66.glob_str KX G ?g_TOP, NUM := C66.glob_str KX G ?g_NUM, MOST_CLASSES := C66.glob_int KX G ?g_MOST_CLASSES, MOST_PARTS := C66.glob_int KX G ?g_MOST_PARTS, MOST_STEPS := C66.glob_int KX G ?g_MOST_STEPS, MOST_INS := C66.glob_int KX G ?g_MOST_INS, LOCALS := C66.glob_int KX G ?g_LOCALS, MOST_HOLDS := C66.glob_int KX G ?g_MOST_HOLDS, BARRED := C66.glob_tup KX G ?g_BARRED ?l_BARRED ?f_BARRED ?z_BARRED, BARE := C66.glob_tup KX G ?g_BARE ?l_BARE ?f_BARE ?z_BARE, ENDS := C66.glob_tup KX G ?g_ENDS ?l_ENDS ?f_ENDS ?z_ENDS, NOTHING := C66.glob_tup KX G ?g_NOTHING ?l_NOTHING ?f_NOTHING ?z_NOTHING }
      (case n_isinstance => k_is)
      (case n_int => k_is)
      (case n_bool => k_is)
      (case n_str => k_is)
      (case n_tuple => k_is)
      (case n_list => k_is)
      (case n_len => k_is)
      (case n_all => k_is)
      (case n_range => k_is)
      (case n_enumerate => k_is)
      (case n_sorted => k_is)
      (case n_set => k_is)
      (case n_sum => k_is)
      (case n_min => k_is)
      (case g_LETTERS => k_is)
      (case g_TOP => k_is)
      (case g_NUM => k_is)
      (case g_MOST_CLASSES => k_is)
      (case g_MOST_PARTS => k_is)
      (case g_MOST_STEPS => k_is)
      (case g_MOST_INS => k_is)
      (case g_LOCALS => k_is)
      (case g_MOST_HOLDS => k_is)
      (case g_BARRED => k_is); (case l_BARRED => k_is); (case f_BARRED => rfl); (case z_BARRED => decide)
      (case g_BARE => k_is); (case l_BARE => k_is); (case f_BARE => rfl); (case z_BARE => decide)
      (case g_ENDS => k_is); (case l_ENDS => k_is); (case f_ENDS => rfl); (case z_ENDS => decide)
      (case g_NOTHING => k_is); (case l_NOTHING => k_is); (case f_NOTHING => rfl); (case z_NOTHING => decide)
    intro T
    refine' C66.law_at (PT := 405) KX hmg A_law T HH A_is_in A_is_word A_is_list A_names_of A_row_of A_is_class A_are_fields A_is_kind_in A_is_method A_is_step A_is_handler A_check_code A_check_classes A__law_house A_need_house A_need_name A_nearest A_need_method A_goals_of A_are_plain A_need_plain A_goes_on A_caught A_next_steps A_is_end A_local_of A_is_astray A_holds_behind (C66.fn_atC KX G ?a_met ?l_met ?c_met ?k_met) A_met_at A_hold_table A_are_holds A_shows_table A__law_next A__law_is_end A__law_astray A__law_behind A__law_met A__law_alike A__law_is_table A__law_taken A__law_pick A__law_plain (hT8 405 (List.mem_singleton.mpr rfl)) ?nT_z ?hc_z
    (case a_met => k_is); (case l_met => k_is); (case c_met => k_is); (case k_met => k_is)
    (case nT_z => kernel_rfl); (case hc_z => kernel_rfl)
