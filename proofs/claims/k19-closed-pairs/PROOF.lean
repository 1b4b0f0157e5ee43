import PyProof.Rows.All
import Wide.All
import OpenK.AllK
import Wide.FinOn
import HandS.ForMost
import HandS.Deep
import KE.KDictKeyed
import HandS.TupAny
import HandS.Conv
import HandS.Style
import HandS.TupMul
import HandS.Exc
import HandS.CallSlots
import HandS.ForSpec
import HandS.ExcInit
import HandS.ExcOwn
import HandS.ExcField
import HandS.ExcIs
import KE.KExcSuper
import HandS.IsInst
import HandS.RaiseMore
import HandS.Rev
import HandS.Small
import HandS.WordsDict
import HandS.More
import KE.SortData
import HandS.TupLe
import PyProof.ReprRoads
import KE.GoesMore
import KE.GoesEnum
import KE.KDictWalk
import HandS.ReCall
import HandS.Iter
import KE.KDictCopyH
import KE.KDictList
import KE.KDictPairs
import HandS.WordsExc
import HandS.Strs
import KE.KDictDisplayH
import HandS.Walk
import HandS.Zip
import HandS.Ends
import PySem.Challenge.RW_markkeepers_k19_whole_closed_pairs_of_st
set_option Elab.async false
set_option linter.all false
set_option maxRecDepth 100000
/-! V0: values as trees (D), how the abstract heap bears them (Rep), frames. -/
namespace Vs
open PySem PySem.Spec L2
open PyProof.Rows hiding St

/-- what is fixed through a law: the written part, the classes by name -/
structure Ga where
  K : PySem.W.Frag
  cl : Str → Option Addr
  w : World

/-! ### dicts whose keys are tuples -/
mutual
/-- data as a key -/
def nkD : PyData → Option NestedKey
  | .none => some .none
  | .bool b => some (.num (if b = true then 1 else 0))
  | .int i => some (.num i)
  | .str x => some (.text x)
  | .tuple l => match nkDs l with
    | some ks => some (.tup ks)
    | none => none
  | _ => none
def nkDs : List PyData → Option (List NestedKey)
  | [] => some []
  | d :: l => match nkD d, nkDs l with
    | some k, some ks => some (k :: ks)
    | _, _ => none
end
/-- a tuple as a key -/
def tkey (d : PyData) : Option NestedKey := match d with
  | .tuple _ => match nkD d with
    | some k => if k.depth ≤ 8 then some k else none
    | none => none
  | _ => none
abbrev KAV := List (NestedKey × Addr × V)
def RelX (p : NestedKey × Addr × V) (q : NestedKey × Addr × Value) : Prop := p.1 = q.1 ∧ p.2.1 = q.2.1 ∧ RelV p.2.2 q.2.2
def dtP (w : World) (a : Addr) (kvs : KAV) (h : Heap) : Prop := kvs.length ≤ sizeLine ∧ (a == sysModules) = false ∧ ∃ xs : List (NestedKey × Addr × Value), Paired RelX kvs xs ∧
  ∃ o es ep, h.get? a = some o ∧ o.ExactDict ∧ o.data = .dict es ep ∧ es.toList = xs.map (fun x => (⟨x.1.hash w, .ref x.2.1, x.2.2⟩ : DictEntry)) ∧ (xs.map (·.1)).Nodup
def dtO (w : World) (a : Addr) (kvs : KAV) : HO := .ext (dtP w a kvs)

/-- a list that nobody may write -/
def SqF (K : PySem.W.Frag) (H : Hp) (a : Addr) (xs : List V) : Prop :=
  (∃ o, H a = some (.frz o (.lst xs))) ∨ SqL K (fun _ => none) a xs
theorem SqF.seq {K : PySem.W.Frag} {H : Hp} {a : Addr} {xs : List V} (h : SqF K H a xs) : SqL K H a xs := by
  rcases h with ⟨o, h⟩ | h
  · exact .inl (.inr ⟨o, h⟩)
  · rcases h with (h | ⟨_, h⟩) | h
    · cases h
    · cases h
    · exact .inr h

/-- a tuple that no dict hangs on -/
def SqN (K : PySem.W.Frag) (H : Hp) (a : Addr) (xs : List V) : Prop :=
  (∃ o : Obj, H a = some (.frz o (.tup xs)) ∧ o.dict = none) ∨
    ∃ (o : Obj) (its : Array Value) (n : Nat), K.lookup a = some o ∧ o.cls = .type "tuple" ∧ o.dict = none ∧ o.data = .seq its n ∧ its.size ≤ sizeLine ∧ Vals xs its.toList
theorem SqN.t {K : PySem.W.Frag} {H : Hp} {a : Addr} {xs : List V} (h : SqN K H a xs) : SqT K H a xs := by
  rcases h with ⟨o, h, _⟩ | ⟨o, its, n, h1, h2, _, h3⟩
  · exact .inl (.inr ⟨o, h⟩)
  · exact .inr ⟨o, its, n, h1, h2, h3⟩
theorem SqN.of {K : PySem.W.Frag} {H : Hp} {a : Addr} {xs : List V} {o : Obj} (h : H a = some (.frz o (.tup xs))) (e : o.dict = none) : SqN K H a xs := .inl ⟨o, h, e⟩
mutual
/-- shared data: nothing of it is ever written -/
inductive DpF (K : PySem.W.Frag) (H : Hp) : V → PyData → Prop
  | non : DpF K H .non .none
  | bl (b : Bool) : DpF K H (.bl b) (.bool b)
  | int (i : Int) : DpF K H (.int i) (.int i)
  | str (x : Str) : DpF K H (.str x) (.str x)
  | lst {a : Addr} {xs : List V} {ds : List PyData} : SqF K H a xs → DpFs K H xs ds → DpF K H (.ref a) (.list ds)
  | tup {a : Addr} {xs : List V} {ds : List PyData} : SqN K H a xs → DpFs K H xs ds → DpF K H (.ref a) (.tuple ds)
  | dct {a : Addr} {o : Obj} : H a = some (.frz o (.dK [])) → DpF K H (.ref a) (.dict [])
  | dc1 {a : Addr} {o : Obj} {x : Str} {i : Int} : H a = some (.frz o (.dK [(.inr x, .int i)])) → DpF K H (.ref a) (.dict [(.str x, .int i)])
inductive DpFs (K : PySem.W.Frag) (H : Hp) : List V → List PyData → Prop
  | nil : DpFs K H [] []
  | cons {v : V} {vs : List V} {d : PyData} {ds : List PyData} : DpF K H v d → DpFs K H vs ds → DpFs K H (v :: vs) (d :: ds)
end

/-- a value: shared data, or a tree whose nodes may be written by who holds it -/
inductive D where
  | sh (d : PyData)
  | tp (ds : List D)
  | ls (ds : List D)
  | dk (ks : List Key) (ds : List D)
  | dd (ks : List PyData) (ds : List D)
  | ob (c : Str) (ns : List Str) (ds : List D)
  | fn (c : Str)
  /-- a dict with tuples as keys that nobody writes any more -/
  | fd (ks ds : List PyData)

/-- an own class, and names that are no attributes of it -/
def ObjC (K : PySem.W.Frag) (C : Addr) (ns : List Str) : Prop := L2.Cls K C ∧ ∀ x ∈ ns, L2.NoAttr K C x
mutual
inductive Rep (G : Ga) (H : Hp) : V → D → List Addr → Prop
  | sh {v : V} {d : PyData} : DpF G.K H v d → Rep G H v (.sh d) []
  | tp {a : Addr} {xs : List V} {ds : List D} {O : List Addr} : SqN G.K H a xs → Reps G H xs ds O → Rep G H (.ref a) (.tp ds) O
  | ls {a : Addr} {xs : List V} {ds : List D} {O : List Addr} : H a = some (.lst xs) → Reps G H xs ds O → Rep G H (.ref a) (.ls ds) (a :: O)
  | dk {a : Addr} {kvs : List (Key × V)} {ds : List D} {O : List Addr} : H a = some (.dK kvs) → Reps G H (kvs.map (·.2)) ds O → Rep G H (.ref a) (.dk (kvs.map (·.1)) ds) (a :: O)
  | dd {a : Addr} {kvs : KAV} {ks : List PyData} {ds : List D} {O : List Addr} : H a = some (dtO G.w a kvs) → DpFs G.K H (kvs.map fun x => .ref x.2.1) ks → ks.map tkey = kvs.map (fun x => some x.1) → Reps G H (kvs.map (·.2.2)) ds O → Rep G H (.ref a) (.dd ks ds) (a :: O)
  | ob {a C dx : Addr} {c : Str} {fs : List (Str × V)} {ds : List D} {O : List Addr} : H a = some (.ins C dx fs) → G.cl c = some C → ObjC G.K C (fs.map (·.1)) → Reps G H (fs.map (·.2)) ds O → Rep G H (.ref a) (.ob c (fs.map (·.1)) ds) (a :: O)
  | fn {c : Str} {C : Addr} : G.cl c = some C → Rep G H (.ref C) (.fn c) []
  | fd {a : Addr} {o : Obj} {kvs : KAV} {ks ds : List PyData} : H a = some (.frz o (dtO G.w a kvs)) → DpFs G.K H (kvs.map fun x => .ref x.2.1) ks → ks.map tkey = kvs.map (fun x => some x.1) → DpFs G.K H (kvs.map (·.2.2)) ds → Rep G H (.ref a) (.fd ks ds) []
inductive Reps (G : Ga) (H : Hp) : List V → List D → List Addr → Prop
  | nil : Reps G H [] [] []
  | cons {v : V} {vs : List V} {d : D} {ds : List D} {O O' : List Addr} : Rep G H v d O → Reps G H vs ds O' → Reps G H (v :: vs) (d :: ds) (O ++ O')
end

/-! ### frames -/
def MutA (H : Hp) (S : List Addr) : Prop := ∀ a ∈ S, Mut (H a)
/-- what stands outside S stays -/
def Frm (S : List Addr) (H H' : Hp) : Prop := ∀ a o, H a = some o → a ∉ S → H' a = some o
/-- S' comes from S, or is new -/
def Sub (S S' : List Addr) (H : Hp) : Prop := ∀ a ∈ S', a ∈ S ∨ H a = none
structure Go (S : List Addr) (H : Hp) (S' : List Addr) (H' : Hp) : Prop where
  frm : Frm S H H'
  sub : Sub S S' H
theorem Go.refl {S : List Addr} {H : Hp} : Go S H S H := ⟨fun _ _ h _ => h, fun _ h => .inl h⟩
theorem Go.trans {S S1 S2 : List Addr} {H H1 H2 : Hp} (a : Go S H S1 H1) (b : Go S1 H1 S2 H2) : Go S H S2 H2 where
  frm := fun x o h n => by
    refine b.frm x o (a.frm x o h n) fun q => ?_
    rcases a.sub x q with q | q
    · exact n q
    · rw [h] at q; cases q
  sub := fun x h => by
    rcases b.sub x h with q | q
    · exact a.sub x q
    · cases e : H x with
      | none => exact .inr rfl
      | some o =>
        refine .inl (Classical.byContradiction fun n => ?_)
        rw [a.frm x o e n] at q; cases q
/-- less is held behind -/
theorem Go.less {S S1 S2 : List Addr} {H H1 : Hp} (a : Go S H S1 H1) (h : ∀ x ∈ S2, x ∈ S1) : Go S H S2 H1 := ⟨a.frm, fun x q => a.sub x (h x q)⟩
/-- more might have been written ahead -/
theorem Go.more {S T S1 : List Addr} {H H1 : Hp} (a : Go S H S1 H1) (h : ∀ x ∈ S, x ∈ T) : Go T H S1 H1 :=
  ⟨fun x o e n => a.frm x o e fun q => n (h x q), fun x q => (a.sub x q).imp (h x) id⟩
/-- what is held besides is carried over -/
theorem Go.keep {S S1 T : List Addr} {H H1 : Hp} (a : Go S H S1 H1) (hT : ∀ x ∈ T, x ∉ S ∧ ∃ o, H x = some o) : ∀ x ∈ T, x ∉ S1 := fun x h q => by
  obtain ⟨n, o, e⟩ := hT x h
  rcases a.sub x q with z | z
  · exact n z
  · rw [e] at z; cases z
/-- a new object -/
theorem Go.new {S : List Addr} {H : Hp} {a : Addr} {o : HO} (h : H a = none) : Go S H (a :: S) (upd H a o) where
  frm := fun b u e _ => by rw [upd_ne (ne_of_none e h)]; exact e
  sub := fun b q => by
    rcases List.mem_cons.mp q with rfl | q
    · exact .inr h
    · exact .inl q
/-- a held object is written -/
theorem Go.put {S : List Addr} {H : Hp} {a : Addr} {o : HO} (h : a ∈ S) : Go S H S (upd H a o) where
  frm := fun b u e n => by rw [upd_ne (fun q : b = a => n (by rw [q]; exact h))]; exact e
  sub := fun b q => .inl q

section
variable {G : Ga} {H H' : Hp} {S : List Addr}
theorem SqT.fr {a : Addr} {xs : List V} (h : SqT G.K H a xs) (f : Frm S H H') (m : MutA H S) : SqT G.K H' a xs := by
  rcases h with (h | ⟨o, h⟩) | h
  · exact .inl (.inl (f _ _ h fun q => by have z := m _ q; rw [h] at z; exact z))
  · exact .inl (.inr ⟨o, f _ _ h fun q => by have z := m _ q; rw [h] at z; exact z⟩)
  · exact .inr h
theorem SqN.fr {a : Addr} {xs : List V} (h : SqN G.K H a xs) (f : Frm S H H') (m : MutA H S) : SqN G.K H' a xs := by
  rcases h with ⟨o, h, e⟩ | h
  · exact .inl ⟨o, f _ _ h fun q => by have z := m _ q; rw [h] at z; exact z, e⟩
  · exact .inr h
theorem SqF.fr {a : Addr} {xs : List V} (h : SqF G.K H a xs) (f : Frm S H H') (m : MutA H S) : SqF G.K H' a xs := by
  rcases h with ⟨o, h⟩ | h
  · exact .inl ⟨o, f _ _ h fun q => by have z := m _ q; rw [h] at z; exact z⟩
  · exact .inr h
mutual
theorem DpF.fr : ∀ {v : V} {d : PyData}, DpF G.K H v d → Frm S H H' → MutA H S → DpF G.K H' v d
  | _, _, .non, _, _ => .non
  | _, _, .bl b, _, _ => .bl b
  | _, _, .int i, _, _ => .int i
  | _, _, .str x, _, _ => .str x
  | _, _, .lst h hs, f, m => .lst (SqF.fr h f m) (DpFs.fr hs f m)
  | _, _, .tup h hs, f, m => .tup (SqN.fr h f m) (DpFs.fr hs f m)
  | _, _, .dct h, f, m => .dct (f _ _ h fun q => by have z := m _ q; rw [h] at z; exact z)
  | _, _, .dc1 h, f, m => .dc1 (f _ _ h fun q => by have z := m _ q; rw [h] at z; exact z)
theorem DpFs.fr : ∀ {vs : List V} {ds : List PyData}, DpFs G.K H vs ds → Frm S H H' → MutA H S → DpFs G.K H' vs ds
  | _, _, .nil, _, _ => .nil
  | _, _, .cons h hs, f, m => .cons (DpF.fr h f m) (DpFs.fr hs f m)
end
mutual
theorem Rep.fr : ∀ {v : V} {d : D} {O : List Addr}, Rep G H v d O → Frm S H H' → MutA H S → (∀ a ∈ O, a ∉ S) → Rep G H' v d O
  | _, _, _, .sh h, f, m, _ => .sh (DpF.fr h f m)
  | _, _, _, .tp h hs, f, m, n => .tp (SqN.fr h f m) (Reps.fr hs f m n)
  | _, _, _, .ls h hs, f, m, n => .ls (f _ _ h (n _ List.mem_cons_self)) (Reps.fr hs f m fun a q => n a (List.mem_cons_of_mem _ q))
  | _, _, _, .dk h hs, f, m, n => .dk (f _ _ h (n _ List.mem_cons_self)) (Reps.fr hs f m fun a q => n a (List.mem_cons_of_mem _ q))
  | _, _, _, .dd h hk e hs, f, m, n => .dd (f _ _ h (n _ List.mem_cons_self)) (DpFs.fr hk f m) e (Reps.fr hs f m fun a q => n a (List.mem_cons_of_mem _ q))
  | _, _, _, .ob h c oc hs, f, m, n => .ob (f _ _ h (n _ List.mem_cons_self)) c oc (Reps.fr hs f m fun a q => n a (List.mem_cons_of_mem _ q))
  | _, _, _, .fn c, _, _, _ => .fn c
  | _, _, _, .fd h hk e hs, f, m, _ => .fd (f _ _ h fun q => by have z := m _ q; rw [h] at z; exact z) (DpFs.fr hk f m) e (DpFs.fr hs f m)
theorem Reps.fr : ∀ {vs : List V} {ds : List D} {O : List Addr}, Reps G H vs ds O → Frm S H H' → MutA H S → (∀ a ∈ O, a ∉ S) → Reps G H' vs ds O
  | _, _, _, .nil, _, _, _ => .nil
  | _, _, _, .cons h hs, f, m, n => .cons (Rep.fr h f m fun a q => n a (List.mem_append_left _ q)) (Reps.fr hs f m fun a q => n a (List.mem_append_right _ q))
end
mutual
theorem Rep.mut : ∀ {v : V} {d : D} {O : List Addr}, Rep G H v d O → MutA H O
  | _, _, _, .sh h => fun _ q => nomatch q
  | _, _, _, .tp h hs => Reps.mut hs
  | _, _, _, .ls h hs => fun a q => by
    rcases List.mem_cons.mp q with rfl | q
    · rw [h]; trivial
    · exact Reps.mut hs a q
  | _, _, _, .dk h hs => fun a q => by
    rcases List.mem_cons.mp q with rfl | q
    · rw [h]; trivial
    · exact Reps.mut hs a q
  | _, _, _, .dd h _ _ hs => fun a q => by
    rcases List.mem_cons.mp q with rfl | q
    · rw [h]; trivial
    · exact Reps.mut hs a q
  | _, _, _, .ob h _ _ hs => fun a q => by
    rcases List.mem_cons.mp q with rfl | q
    · rw [h]; trivial
    · exact Reps.mut hs a q
  | _, _, _, .fn _ => fun _ q => nomatch q
  | _, _, _, .fd _ _ _ _ => fun _ q => nomatch q
theorem Reps.mut : ∀ {vs : List V} {ds : List D} {O : List Addr}, Reps G H vs ds O → MutA H O
  | _, _, _, .nil => fun _ q => nomatch q
  | _, _, _, .cons h hs => fun a q => by
    rcases List.mem_append.mp q with q | q
    · exact Rep.mut h a q
    · exact Reps.mut hs a q
end
theorem MutA.some {S : List Addr} (m : MutA H S) : ∀ a ∈ S, ∃ o, H a = some o := fun a q => by
  have z := m a q
  cases e : H a with
  | none => rw [e] at z; exact z.elim
  | some o => exact ⟨o, rfl⟩
theorem MutA.app {S T : List Addr} (m : MutA H S) (n : MutA H T) : MutA H (S ++ T) := fun a q => (List.mem_append.mp q).elim (m a) (n a)
theorem MutA.sub {S T : List Addr} (m : MutA H S) (h : ∀ a ∈ T, a ∈ S) : MutA H T := fun a q => m a (h a q)
end

/-! ### the names of a def -/
abbrev Env := List (Option D)
inductive RepE (G : Ga) (H : Hp) : St → Env → List Addr → Prop
  | nil : RepE G H [] [] []
  | no {v : Option V} {σ : St} {ρ : Env} {O : List Addr} : RepE G H σ ρ O → RepE G H (v :: σ) (none :: ρ) O
  | va {v : V} {d : D} {σ : St} {ρ : Env} {O1 O : List Addr} : Rep G H v d O1 → RepE G H σ ρ O → RepE G H (some v :: σ) (some d :: ρ) (O1 ++ O)
section
variable {G : Ga} {H H' : Hp} {S : List Addr}
theorem RepE.len : ∀ {σ : St} {ρ : Env} {O : List Addr}, RepE G H σ ρ O → ρ.length = σ.length
  | _, _, _, .nil => rfl
  | _, _, _, .no h => congrArg (· + 1) (RepE.len h)
  | _, _, _, .va _ h => congrArg (· + 1) (RepE.len h)
theorem RepE.fr : ∀ {σ : St} {ρ : Env} {O : List Addr}, RepE G H σ ρ O → Frm S H H' → MutA H S → (∀ a ∈ O, a ∉ S) → RepE G H' σ ρ O
  | _, _, _, .nil, _, _, _ => .nil
  | _, _, _, .no h, f, m, n => .no (RepE.fr h f m n)
  | _, _, _, .va r h, f, m, n => .va (Rep.fr r f m fun a q => n a (List.mem_append_left _ q)) (RepE.fr h f m fun a q => n a (List.mem_append_right _ q))
theorem RepE.mut : ∀ {σ : St} {ρ : Env} {O : List Addr}, RepE G H σ ρ O → MutA H O
  | _, _, _, .nil => fun _ q => nomatch q
  | _, _, _, .no h => RepE.mut h
  | _, _, _, .va r h => MutA.app (Rep.mut r) (RepE.mut h)
/-- one name taken out -/
theorem RepE.out : ∀ {σ : St} {ρ : Env} {O : List Addr} {i : Nat} {d : D}, RepE G H σ ρ O → ρ[i]? = some (some d) →
    ∃ v O1 O2, σ[i]? = some (some v) ∧ Rep G H v d O1 ∧ O.Perm (O1 ++ O2) ∧ RepE G H σ (ρ.set i none) O2
  | _, _, _, i, d, .nil, e => by simp at e
  | _, _, _, 0, d, .no h, e => by simp at e
  | _, _, _, 0, d, .va r h, e => by
    simp at e; subst e
    exact ⟨_, _, _, rfl, r, .refl _, .no h⟩
  | _, _, _, i + 1, d, .no h, e => by
    obtain ⟨v, O1, O2, a, b, c, q⟩ := RepE.out (i := i) h (by simpa using e)
    exact ⟨v, O1, O2, by simpa using a, b, c, .no q⟩
  | _, _, _, i + 1, d, .va (O1 := P) r h, e => by
    obtain ⟨v, O1, O2, a, b, c, q⟩ := RepE.out (i := i) h (by simpa using e)
    refine ⟨v, O1, P ++ O2, by simpa using a, b, ?_, .va r q⟩
    exact (List.Perm.append_left P c).trans (by rw [← List.append_assoc, ← List.append_assoc]; exact List.Perm.append_right O2 List.perm_append_comm)
/-- a name forgotten -/
theorem RepE.drop : ∀ {σ : St} {ρ : Env} {O : List Addr} (i : Nat), RepE G H σ ρ O → ∃ O2, O2.Sublist O ∧ RepE G H σ (ρ.set i none) O2
  | _, _, _, i, .nil => ⟨[], .refl _, by simpa using .nil⟩
  | _, _, _, 0, .no h => ⟨_, .refl _, .no h⟩
  | _, _, _, 0, .va r h => ⟨_, List.sublist_append_right _ _, .no h⟩
  | _, _, _, i + 1, .no h => by
    obtain ⟨O2, a, q⟩ := RepE.drop i h
    exact ⟨O2, a, .no q⟩
  | _, _, _, i + 1, .va r h => by
    obtain ⟨O2, a, q⟩ := RepE.drop i h
    exact ⟨_, List.Sublist.append (.refl _) a, .va r q⟩
/-- a slot's value does not matter where the name is forgotten -/
theorem RepE.any : ∀ {σ : St} {ρ : Env} {O : List Addr} (i : Nat) (x : Option V), RepE G H σ ρ O → ρ[i]? = some none → RepE G H (σ.set i x) ρ O
  | _, _, _, i, x, .nil, e => by simp at e
  | _, _, _, 0, x, .no h, e => .no h
  | _, _, _, 0, x, .va r h, e => by simp at e
  | _, _, _, i + 1, x, .no h, e => .no (RepE.any i x h (by simpa using e))
  | _, _, _, i + 1, x, .va r h, e => .va r (RepE.any i x h (by simpa using e))
/-- a forgotten name is given a value -/
theorem RepE.put : ∀ {σ : St} {ρ : Env} {O O1 : List Addr} {i : Nat} {v : V} {d : D}, RepE G H σ ρ O → ρ[i]? = some none → σ[i]? = some (some v) → Rep G H v d O1 →
    ∃ O2, O2.Perm (O1 ++ O) ∧ RepE G H σ (ρ.set i (some d)) O2
  | _, _, _, _, i, v, d, .nil, e, _, _ => by simp at e
  | _, _, _, _, 0, v, d, .no h, e, es, r => by
    simp at es; subst es
    exact ⟨_, .refl _, .va r h⟩
  | _, _, _, _, 0, v, d, .va r h, e, _, _ => by simp at e
  | _, _, _, _, i + 1, v, d, .no h, e, es, r => by
    obtain ⟨O2, a, q⟩ := RepE.put (i := i) h (by simpa using e) (by simpa using es) r
    exact ⟨O2, a, .no q⟩
  | _, _, _, O1, i + 1, v, d, .va (O1 := P) (O := O) r h, e, es, r1 => by
    obtain ⟨O2, a, q⟩ := RepE.put (i := i) h (by simpa using e) (by simpa using es) r1
    refine ⟨_, ?_, .va r q⟩
    exact (List.Perm.append_left P a).trans (by rw [← List.append_assoc, ← List.append_assoc]; exact List.Perm.append_right O List.perm_append_comm)
end
end Vs
/-! VN: new tuples, known to have no dict. -/
namespace Vs
open PySem PySem.Spec L2
open PyProof.Rows hiding St
abbrev tupO (us : List Value) : Obj := { cls := .type "tuple", data := .seq us.toArray }
/-- what may be asked of a new tuple -/
def NewT (H : Hp) (xs : List V) (Q : VK) : Prop := ∀ (p : Addr) (o : Obj), H p = none → o.dict = none → Q (.ref p) (upd H p (.frz o (.tup xs)))
section
variable {X : Cx} {pins : List (Addr × Obj)} {σ : L2.St} {H : Hp} {s : Shared}
theorem laidT {t : Nat} {us : List Value} {xs : List V} {Q : VK} (I : Inv X pins σ H s) (rel : Vals xs us) (small : xs.length ≤ sizeLine) (h : NewT H xs Q) :
    EP X pins σ Q (.ref s.heap.objs.size) { s with heap := s.heap.push (tupO us), toks := t } := by
  refine ⟨.ref s.heap.objs.size, upd H s.heap.objs.size (.frz (tupO us) (.tup xs)), I.laid (t' := t) (fun _ _ z => Heap.get?_push_of_some _ z) (Nat.le_refl _) ?_, rfl, h _ _ (I.hok.fresh (Nat.le_refl _)) rfl⟩
  exact ⟨Heap.get?_push_size _ rfl, small, us, rel, _, Heap.get?_push_size _ rfl, rfl, _, rfl⟩
/-- a display -/
def tTupN (t : TA) : TE := fun σ H Q => t σ H fun xs H1 => xs.length ≤ sizeLine ∧ NewT H1 xs Q
theorem pe_tupN {es : List PySem.Expr} {t : TA} {k : Nat} {pos : Pos} (ps : PA X es t) : PE X (.Tuple es k pos) (tTupN t) :=
  ⟨fun pins s σ H Q I z => wpAny_Tuple_spliced (thn (ps.run pos pins s σ H _ I z) fun us s1 ⟨xs, H1, I1, rel, small, w⟩ => ⟨by rw [← rel.length]; exact small, laidT (t := s1.toks) I1 rel small w⟩)⟩
/-- tuple(x) -/
def rTupN (K : PySem.W.Frag) : List V → Hp → VK → Prop := fun vs H Q => ∃ a xs, vs = [.ref a] ∧ ((SqL K H a xs ∧ NewT H xs Q) ∨ (SqT K H a xs ∧ Q (.ref a) H))
theorem call_tupN : CallR X (.type "tuple") (rTupN X.K) := by
  intro pins s σ H vs us Q I rel h
  obtain ⟨a, xs, rfl, h⟩ := h
  obtain rfl := Vals.ref1 rel
  rcases h with ⟨hx, w⟩ | ⟨hx, w⟩
  · obtain ⟨its, rv, pl, small⟩ := I.list hx
    have hl := rv.length
    exact call_tuple_list pl.isList (fun h' old => laidT (t := s.toks) (I.kept (t' := s.toks) old) rv small w) (by rw [List.size_toArray]; omega)
  · obtain ⟨its, rv, pl, small⟩ := I.tuple hx
    exact call_tuple_same pl ⟨.ref a, H, I, rfl, w⟩
/-- t + u -/
def rCatN (K : PySem.W.Frag) : R2 := fun x y H Q => ∃ a b xs ys, x = .ref a ∧ y = .ref b ∧ SqT K H a xs ∧ SqT K H b ys ∧ xs.length + ys.length ≤ sizeLine ∧
  (xs = [] → Q (.ref b) H) ∧ (xs ≠ [] → ys = [] → Q (.ref a) H) ∧ (xs ≠ [] → ys ≠ [] → NewT H (xs ++ ys) Q)
theorem op_catN : OpR X (binaryOp .Add) (rCatN X.K) := by
  intro pins s σ H x y v u Q I rx ry h
  obtain ⟨a, b, xs, ys, rfl, rfl, ha, hb, small, w0, w1, w2⟩ := h
  by_cases e : xs = []
  · exact op_catA pins s σ H _ _ v u Q I rx ry ⟨a, b, xs, ys, rfl, rfl, ha, hb, small, w0, fun n => absurd e n, fun n => absurd e n⟩
  · cases rx
    cases ry
    obtain ⟨us, ru, pu, _⟩ := I.tuple ha
    obtain ⟨ws, rw', pw, _⟩ := I.tuple hb
    refine HT.cat_tup pu pw (fun z => e (ru.nil_iff.mp z)) (fun z => ⟨.ref a, H, I, rfl, w1 e (rw'.nil_iff.mp z)⟩) (fun z => ?_) (by rw [← ru.length, ← rw'.length]; exact small)
    exact laidT (t := s.toks) I (ru.append rw') (by rw [List.length_append]; exact small) (w2 e fun n => z (rw'.nil_iff.mpr n))
/-- a slice -/
def rSlN (K : PySem.W.Frag) : V → Option Int → Option Int → Hp → VK → Prop := fun x lo hi H Q => ∃ a xs, x = .ref a ∧ SqT K H a xs ∧
  (HT.sIx xs.length 0 lo = 0 ∧ HT.sIx xs.length xs.length hi = xs.length → Q (.ref a) H) ∧ (¬ (HT.sIx xs.length 0 lo = 0 ∧ HT.sIx xs.length xs.length hi = xs.length) → NewT H (cutV xs lo hi) Q)
theorem sl_tupN : SlR X (rSlN X.K) := by
  intro pins s σ H x v vl vu lo hi sl Q I rx hs pl pu h
  obtain ⟨a, xs, rfl, hx, w1, w2⟩ := h
  by_cases whole : HT.sIx xs.length 0 lo = 0 ∧ HT.sIx xs.length xs.length hi = xs.length
  · exact sl_tupA pins s σ H _ v vl vu lo hi sl Q I rx hs pl pu ⟨a, xs, rfl, hx, w1, fun n => absurd whole n⟩
  · cases rx
    obtain ⟨us, ru, pt, small⟩ := I.tuple hx
    have size : us.toArray.size = xs.length := by rw [List.size_toArray]; exact ru.length.symm
    refine ⟨"tuple", _, PyProof.Rows.slot_tuple_getitem.lookup, pt.typeIs, HT.getItem_tuple_cut pt hs pl pu (by rw [size]; exact whole) ?_ (by rw [size]; exact small)⟩
    rw [size]
    exact laidT (t := s.toks) I ((ru.drop _).take _) (Nat.le_trans (cutV_length xs lo hi) small) (w2 whole)
end
/-- tuple(range(..)) -/
def tTupRgN (te : L2.St → Hp → (Int → Int → Hp → Prop) → Prop) : TE := fun σ H Q => te σ H fun a b H1 => RgOk a b ∧ NewT H1 (rgV a b) Q
theorem pe_tupRgN {X : Cx} {e : PySem.Expr} {te : L2.St → Hp → (Int → Int → Hp → Prop) → Prop} {p pos : Pos} (hc : X.calm = true) (hg : Gl X "tuple") (hm : X.mg "tuple" = none) (he : PRg X e te) (na : starEach [e] X.env = (false, eval e X.env) :: starEach [] X.env) : PE X (.Call (.Name "tuple" p) [e] [] pos) (tTupRgN te) := by
  refine ⟨fun pins s σ H Q I z => Call_ (ld_blt I hg hm boot_tuple (PyProof.Rows.callWith_type1 (args_cons (thn (he pins s σ H _ I z) fun x s1 ⟨r, a, b, t, u, v, H1, ex, hr, I1, ⟨b1, b2, b3, b4, b5⟩, w⟩ => args_nil ?_) na) na))⟩
  subst ex
  refine call_tuple_range (n := (b - a).toNat) (I1.ok.hd hc) hr (small_one b1 b2 b3 b4) (rangeSize_nat a b) b5 fun h' tk acc hk hi => ?_
  have J := I1.kept (h' := h') (t' := tk) hk
  have := laidT (t := tk) J (vals_rg hi) (by rw [rgV_length, sizeLine_eq]; omega) w
  simpa only [tupO, Array.toArray_toList] using this
end Vs
set_option maxHeartbeats 4000000
/-! VT: tuple * int, any tuple, any small int. -/
namespace Vs
open PySem PySem.Spec L2
open PyProof.Rows hiding St
open PySem.AutoSeq1 (wpAny_loadPart')
theorem tup_mul_same (l : Addr) (items : Array Value) (n : Nat) (dd : Option Addr) (sl : Array (Option Value)) (x : Int) (u : Tok) (c0 : (decide (x < -(2 ^ 63)) || decide (x ≥ 2 ^ 63)) = false) (c1 : (items.isEmpty || x == 1) = true) :
    Meets (Builtin.«tuple.__mul__» ⟨[.ref l, .int x u], []⟩) (fun _ R s => s.heap.get? l = some { cls := .type "tuple", dict := dd, data := .seq items n, slots := sl } ∧ R (.ok (.ret (.ref l))) s) :=
  .of_wp fun prog w A R s h => by
    obtain ⟨hp, g, d, tk, os⟩ := s
    obtain ⟨hl, h⟩ := h
    have f1 := AutoSeq1.idx_int
    have hT : Shared.TypeIs ⟨hp, g, d, tk, os⟩ (.ref l) "tuple" := ⟨_, hl, rfl⟩
    wp_walk using wpAny_loadPart' hl
    refine wpAny_ite_false (decide_eq_false (by rw [c0]; exact Bool.false_ne_true)) ?_
    wp_walk using wpAny_loadPart' hl
    exact ⟨_, rfl, h⟩
theorem tup_mul_none (l : Addr) (items : Array Value) (n : Nat) (dd : Option Addr) (sl : Array (Option Value)) (x : Int) (u : Tok) (c0 : (decide (x < -(2 ^ 63)) || decide (x ≥ 2 ^ 63)) = false) (c1 : (items.isEmpty || x == 1) = false) (c2 : (decide (x ≤ 0) || items.isEmpty) = true) :
    Meets (Builtin.«tuple.__mul__» ⟨[.ref l, .int x u], []⟩) (fun _ R s => s.heap.get? l = some { cls := .type "tuple", dict := dd, data := .seq items n, slots := sl } ∧ R (.ok (.ret (Value.ref s.heap.objs.size))) { s with heap := s.heap.push { cls := Value.type "tuple", data := Data.seq #[] }, toks := s.toks }) :=
  .of_wp fun prog w A R s h => by
    obtain ⟨hp, g, d, tk, os⟩ := s
    obtain ⟨hl, h⟩ := h
    have f1 := AutoSeq1.idx_int
    wp_walk using wpAny_loadPart' hl
    repeat (first
      | (refine wpAny_ite_false (decide_eq_false (by rw [c0]; exact Bool.false_ne_true)) ?_; wp_walk using wpAny_loadPart' hl)
      | (refine wpAny_ite_false (decide_eq_false (by rw [c1]; exact Bool.false_ne_true)) ?_; wp_walk using wpAny_loadPart' hl)
      | (refine wpAny_ite_true (decide_eq_true c2) ?_; wp_walk using wpAny_loadPart' hl))
    exact ⟨_, rfl, h⟩
def rRepN (K : PySem.W.Frag) : R2 := fun x y H Q => ∃ l k xs, x = .ref l ∧ y = .int k ∧ SqT K H l xs ∧ -1000 ≤ k ∧ k ≤ 2000 ∧ xs.length ≤ 1000 ∧
  (xs = [] ∨ k = 1 → Q (.ref l) H) ∧ (¬ (xs = [] ∨ k = 1) → NewT H (List.replicate k.toNat xs).flatten Q)
theorem op_repN {X : Cx} : OpR X (binaryOp .Mult) (rRepN X.K) := by
  intro pins s σ H x y v u Q I rx ry h
  obtain ⟨l, k, xs, rfl, rfl, hT, h1, h2, hz, q0, q1⟩ := h
  cases rx
  obtain ⟨t, rfl⟩ := ry
  obtain ⟨its, r, ⟨⟨cls, dd, data, sl⟩, ho, hc, n, hd⟩, hs'⟩ := I.tuple hT
  simp only at hc hd
  subst hc hd
  have hle : its.length = xs.length := r.length.symm
  have c0 : (decide (k < -(2 ^ 63)) || decide (k ≥ 2 ^ 63)) = false := by
    rw [decide_eq_false (by omega), decide_eq_false (by omega)] <;> rfl
  by_cases hs : xs = [] ∨ k = 1
  · have q := q0 hs
    have c1 : (its.toArray.isEmpty || k == 1) = true := by
      rcases hs with rfl | rfl
      · have : its = [] := List.eq_nil_of_length_eq_zero hle
        subst this
        rfl
      · simp
    refine wpAny_binaryOp_repeat_ref (T := "tuple") (U := "int") (by decide) ⟨_, ho, rfl⟩ (fun s' => typeIs_int s' k t) noFill_tuple_mul F.fills_int_mul F.slot_int_rmul repeat_tuple F.slot_int_index.lookup
      (call_meets F.slot_int_rmul (typeIs_int s k t) F.entry_int_rmul (F.args_int_rmul_2 _ _) (int_rmul_tuple k t l its.toArray n dd sl)
        ⟨ho, rfl, ⟨_, ho, rfl⟩, call_meets F.slot_tuple_mul ⟨_, ho, rfl⟩ F.entry_tuple_mul (F.args_tuple_mul_2 _ _) (tup_mul_same l its.toArray n dd sl k t c0 c1) ⟨ho, ?_⟩⟩)
    exact ⟨.ref l, H, I, rfl, q⟩
  · have q := q1 hs
    have hi : its.toArray.isEmpty = false := by
      cases its with
      | nil => exact absurd (List.eq_nil_of_length_eq_zero hle.symm) fun e => hs (.inl e)
      | cons a b => rfl
    have hk1 : k ≠ 1 := fun e => hs (.inr e)
    have c1 : (its.toArray.isEmpty || k == 1) = false := by
      rw [hi, Bool.false_or]
      exact beq_eq_false_iff_ne.mpr hk1
    have rep := r.rep k.toNat
    have small : (List.replicate k.toNat xs).flatten.length ≤ sizeLine := by
      rw [PyProof.Rows.lm_len_rep_flat, sizeLine_eq]
      have : k.toNat * xs.length ≤ 2000 * 1000 := Nat.mul_le_mul (by omega) hz
      omega
    by_cases h3 : k ≤ 0
    · have c2 : (decide (k ≤ 0) || its.toArray.isEmpty) = true := by rw [decide_eq_true h3]; rfl
      have e0 : (List.replicate k.toNat xs).flatten = [] := by
        have : k.toNat = 0 := by omega
        rw [this]; rfl
      rw [e0] at q
      refine wpAny_binaryOp_repeat_ref (T := "tuple") (U := "int") (by decide) ⟨_, ho, rfl⟩ (fun s' => typeIs_int s' k t) noFill_tuple_mul F.fills_int_mul F.slot_int_rmul repeat_tuple F.slot_int_index.lookup
        (call_meets F.slot_int_rmul (typeIs_int s k t) F.entry_int_rmul (F.args_int_rmul_2 _ _) (int_rmul_tuple k t l its.toArray n dd sl)
          ⟨ho, rfl, ⟨_, ho, rfl⟩, call_meets F.slot_tuple_mul ⟨_, ho, rfl⟩ F.entry_tuple_mul (F.args_tuple_mul_2 _ _) (tup_mul_none l its.toArray n dd sl k t c0 c1 c2) ⟨ho, ?_⟩⟩)
      exact laidT (t := s.toks) (us := []) I .nil (Nat.zero_le _) q
    · have c2 : (decide (k ≤ 0) || its.toArray.isEmpty) = false := by
        rw [hi, Bool.or_false]
        exact decide_eq_false h3
      have hm : ((its.toArray.size : Nat) : Int) * k ≤ 2000000 := by
        rw [List.size_toArray, hle]
        have : ((xs.length : Nat) : Int) * k ≤ 1000 * k := Int.mul_le_mul_of_nonneg_right (by omega) (by omega)
        omega
      have c4 : Builtin.Tuple.tupleTooMany (((its.toArray.size : Nat) : Int) * k) = false := by
        unfold Builtin.Tuple.tupleTooMany
        rw [sizeLine_eq]
        exact decide_eq_false (by omega)
      refine wpAny_binaryOp_repeat_ref (T := "tuple") (U := "int") (by decide) ⟨_, ho, rfl⟩ (fun s' => typeIs_int s' k t) noFill_tuple_mul F.fills_int_mul F.slot_int_rmul repeat_tuple F.slot_int_index.lookup
        (call_meets F.slot_int_rmul (typeIs_int s k t) F.entry_int_rmul (F.args_int_rmul_2 _ _) (int_rmul_tuple k t l its.toArray n dd sl)
          ⟨ho, rfl, ⟨_, ho, rfl⟩, call_meets F.slot_tuple_mul ⟨_, ho, rfl⟩ F.entry_tuple_mul (F.args_tuple_mul_2 _ _) (tuple_mulW l its.toArray n dd sl k t c0 c1 c2 (by omega) c4 (by rw [size_rep, List.size_toArray, ← rep.length]; exact small)) ⟨ho, ?_⟩⟩)
      rw [size_rep]
      exact laidT (t := s.toks) I rep small q
end Vs
/-! V1: what an evaluation gives, as HandS readings. -/
namespace Vs
open PySem PySem.Spec L2
open PyProof.Rows hiding St

/-- an exception of one of the program's own classes, by its fields -/
structure Exc where
  cls : Str
  fs : List (Str × PyData)
inductive Res (α : Type) where
  | ok (a : α)
  | ex (x : Exc) (ρ : Env)
  | no
def Res.bind {α β : Type} : Res α → (α → Res β) → Res β
  | .ok a, k => k a
  | .ex x ρ, _ => .ex x ρ
  | .no, _ => .no
abbrev EF := Env → Res (D × Env)
def XR (G : Ga) (H : Hp) (cls : Value) (d : Option Addr) (x : Exc) : Prop := ∃ C, G.cl x.cls = some C ∧ cls = .ref C ∧
  (∀ f v, x.fs.lookup f = some v → ∃ dd fs u, d = some dd ∧ H dd = some (.xd fs) ∧ fs.lookup f = some u ∧ DpF G.K H u v) ∧ ∀ dd, d = some dd → ∃ fs, H dd = some (.xd fs)
/-- behind an expression that gives d -/
def EvR (G : Ga) (O : List Addr) (σ : L2.St) (H : Hp) (ρ : Env) (d : D) (v : V) (H' : Hp) : Prop :=
  ∃ O' T, RepE G H' σ ρ O' ∧ Rep G H' v d T ∧ (T ++ O').Nodup ∧ Go O H (T ++ O') H'
/-- behind an exception -/
def ExR (G : Ga) (O : List Addr) (H : Hp) (ρ : Env) (x : Exc) (cls : Value) (dd : Option Addr) (σ : L2.St) (H' : Hp) : Prop :=
  ∃ O', RepE G H' σ ρ O' ∧ O'.Nodup ∧ Go O H O' H' ∧ XR G H' cls dd x
def tE (G : Ga) (W : WX) (f : EF) : TE := fun σ H Q => ∃ ρ O, RepE G H σ ρ O ∧ O.Nodup ∧
  match f ρ with
  | .ok (d, ρ') => ∀ v H', EvR G O σ H ρ' d v H' → Q v H'
  | .ex x ρ' => ∀ cls dd H', ExR G O H ρ' x cls dd σ H' → W cls dd σ H'
  | .no => False

end Vs
set_option maxHeartbeats 2000000
/-! VP: own exceptions whose __init__ says super().__init__(..), over ValueError. -/
namespace PySem
namespace VsP
open PySem.Spec PySem.W PySem.HandSPX PySem.Calls PyProof.Rows
section
variable {prog : Program} {w : World} {A : Around} {E : Value → Shared → Prop} {R : Result → Shared → Prop} {h : Heap} {g : Array GenState} {d : Drawn} {t : Nat} {os : OsState}
variable {nm q : Str} {C N : Addr} {bs bm : List Value} {hdct : Bool} {sn : List Str} {sub : List Value} {ab : Bool} {col : Option Bool} {dd : Option Addr} {k0 k1 k2 k3 k5 : Option Value}
/-- the bound ValueError.__init__ called -/
theorem call_mwV {u e t0 : Addr} {rest : List Value} {Q : Value → Shared → Prop}
    (hC : h.get? C = some (excClassObj nm q C N bs bm hdct sn sub ab col dd k0 k1 k2 k3 k5 "ValueError.__new__")) (he : h.get? e = some (excO C t0)) (hu : h.get? u = some (kxs_mw "ValueError.__init__" e)) (hrest : rest.length ≤ sizeLine)
    (hq : ∀ h' t1, (∀ b o, b ≠ e → h.get? b = some o → h'.get? b = some o) → h'.get? e = some (excO C t1) → Q .none ⟨h', g, d, t, os⟩) :
    wpAny (model prog w) A (call (.ref u) rest) Q E ⟨h, g, d, t, os⟩ := by
  refine wpAny_call (codeAny_of_tree ?_)
  show wpAny _ A.in1 (callAny (.ref u) ⟨rest, []⟩) _ _ _
  simp only [callAny]
  refine wpAny_bind (wpAny_load hu ?_)
  simp only [kxs_mw, show (Value.type "method-wrapper" == Value.type "method" || Value.type "method-wrapper" == Value.type "builtin_function_or_method" || Value.type "method-wrapper" == Value.type "method-wrapper") = true by decide, if_true]
  refine KFB.if_so (by decide) ?_
  refine wpAny_bind (check_bound_init F.excBase_ValueError.toExcCallFacts hC he rfl ?_)
  refine wpAny_bind (wpAny_pure (wpAny_pure ?_))
  refine ⟨plainId_quiet F.excBase_ValueError.init.plain _, codeAny_builtin F.excBase_ValueError.initEntry ?_⟩
  exact exc_init_tree (cls := .ref C) (t0 := t0) (dv := none) (c2 := .none) (c3 := .none) (b4 := .bool false) he hrest (fun h' k e' _ => hq h' h.objs.size k e')
end
/-- what the written part says of the class at C and of its __init__ at fI -/
structure InitF (prog : Program) (K : Frag) (mg : Str → Option Value) (C fI : Addr) (qual : Str) (params : Arguments) (body : List Stmt) (scope : Scope) : Prop where
  cls : ∃ nm q N bs bm sn sub ab col dd k0 k1 k2 k3 k5, K.lookup C = some (excClassObj nm q C N bs bm true sn sub ab col dd k0 k1 k2 k3 k5 "ValueError.__new__") ∧ refsVE bm = true
  fn : ∃ oc od osl doc pm an cda ct cc ccl cdd vs ccs file tf cl cld csl, K.lookup fI = some ⟨oc, od, .func (ksFn "__init__" qual params body scope .none .none doc pm an (.ref cda) ct cc), osl⟩ ∧ codeIn K (.ref cda) qual = true ∧
    K.lookup cda = some ⟨ccl, cdd, .fields vs, ccs⟩ ∧ vs[2]? = some (.str file tf) ∧ ((prog.main.file : Str) == file) = true ∧ K.lookup cc = some ⟨cl, cld, .cell (some (.ref C)), csl⟩
  sup : mg "super" = none
  htp : nsIn K cStatics "thirdparty.any" = some none
  sin : ks_superIn K C C "__init__" = some (some (.builtin "ValueError.__init__"))
  vE : subIn K (.ref C) (.type "ValueError") = some true
  mC : mroIn K C (.ref C) = some true
  iC : findIn K (.ref C) "__init__" = some (some (.ref fI))
  tI : typeIn K (.ref fI) = some (.type "function")
  top : (prog.main.scope.names.lookup ("super" : Str)).isSome = false
  hks : scope.names.lookup ("super" : Str) = some .globalImplicit
  hkc : scope.names.lookup ("__class__" : Str) = some .free
  hsl : scope.names.lookup ("self" : Str) = some .local
  hcell : ∀ x ∈ scope.names, x.2 ≠ .cell
  kind : scope.kind = .function
  co : scope.isCoroutine = false
  gen : scope.isGenerator = false
  par : ∃ ar, (params.posonlyargs ++ params.args).head? = some ar ∧ ar.arg = "self"
/-- the module as the state has it -/
structure ModH (K : Frag) (mg : Str → Option Value) (h : Heap) : Prop where
  kin : K.In h
  glob : h.Ns mainGlobals mg
  blt : ∃ mb, h.Ns builtinsNs mb ∧ ∀ x : Str, x ≠ "__name__" → mb x = bootBuiltins x
  nolimit : h.NoLimit
theorem ModH.keeps {K : Frag} {mg : Str → Option Value} {h h' : Heap} (M : ModH K mg h) (k : ∀ b o, h.get? b = some o → h'.get? b = some o) : ModH K mg h' := by
  obtain ⟨mb, a, b⟩ := M.blt
  exact ⟨M.kin.keeps k, M.glob.keeps k, ⟨mb, a.keeps k, b⟩, M.nolimit.keeps k⟩
section
variable {prog : Program} {w : World} {A : Around} {E : Value → Shared → Prop} {R : Result → Shared → Prop} {h : Heap} {g : Array GenState} {d : Drawn} {t : Nat} {os : OsState} {K : Frag} {mg : Str → Option Value} {C fI : Addr} {qual : Str} {params : Arguments} {body : List Stmt} {scope : Scope}
theorem ev_sup {env : Env} {o : Expr} {nm : Str} {p2 pos : Pos} {args : List Expr} (hform : methodCallForm (args.length + 0) (backTo pos (starEach args env)) [] = true) (hl : (p2.endLine == pos.line) = true) :
    eval (.Call (.Attribute o nm p2) args [] pos) env = (do
      let ov ← attributeBase o nm env (eval o env)
      standAt p2.atName
      let (f, first) ← holding [ov] (getMethod ov nm (do return (← importBound o env).getD true))
      callWith pos f first (backTo pos (starEach args env)) []) := by
  rw [arm_eval_Call]
  show (do
    let ov ← attributeBase o nm env (eval o env)
    standAt p2.atName
    methodCall o nm p2 pos env ov (args.length + 0) (backTo pos (starEach args env)) []) = _
  unfold methodCall methodCallPos calleeOf
  simp only [hform, hl, Bool.not_true, Bool.false_or, if_true, pure_bind]
/-- super().__init__(args), up to the arguments -/
theorem sup_call (T : InitF prog K mg C fI qual params body scope) {oc : Value} {od : Option Addr} {osl : Array (Option Value)} {doc pm : Value} {an : Option Addr} {cda cc : Addr} {ct : Value} {ccl : Value} {cdd : Option Addr} {vs : Array Value} {ccs : Array (Option Value)} {file : Str} {tf : Tok} {cl : Value} {cld : Option Addr} {csl : Array (Option Value)}
    (hf : K.lookup fI = some ⟨oc, od, .func (ksFn "__init__" qual params body scope .none .none doc pm an (.ref cda) ct cc), osl⟩) (hcode : K.lookup cda = some ⟨ccl, cdd, .fields vs, ccs⟩) (hvs : vs[2]? = some (.str file tf)) (hfile : ((prog.main.file : Str) == file) = true) (hcell : K.lookup cc = some ⟨cl, cld, .cell (some (.ref C)), csl⟩)
    (M : ModH K mg h) {L e t0 : Addr} {m : Str → Option Value} (hn : h.Ns L m) (hv : m "self" = some (.ref e)) (he : h.get? e = some (excO C t0)) {body' : List Stmt} {p0 p1 p2 pos : Pos} {args : List Expr} {Q : Value → Shared → Prop}
    (hq : ∀ u h' t', (∀ b o, h.get? b = some o → h'.get? b = some o) → h'.get? u = some (kxs_mw "ValueError.__init__" e) → u ≠ e →
      wpAny (model prog w) A (callWith pos (.ref u) [] (backTo pos (starEach args (ksEnv qual scope L fI (.ref cda) cc))) []) Q E ⟨h', g, d, t', os⟩) {pl : Sem Bool}
    (hev : eval (.Call (.Attribute (.Call (.Name "super" p0) [] [] p1) "__init__" p2) args [] pos) (ksEnv qual scope L fI (.ref cda) cc) = (do
      let ov ← attributeBase (.Call (.Name "super" p0) [] [] p1) "__init__" (ksEnv qual scope L fI (.ref cda) cc) (eval (.Call (.Name "super" p0) [] [] p1) (ksEnv qual scope L fI (.ref cda) cc))
      standAt p2.atName
      let (f, first) ← holding [ov] (getMethod ov "__init__" pl)
      callWith pos f first (backTo pos (starEach args (ksEnv qual scope L fI (.ref cda) cc))) [])) :
    _root_.PySem.wpAt (model prog w) A (.func body' (ksEnv qual scope L fI (.ref cda) cc)) (eval (.Call (.Attribute (.Call (.Name "super" p0) [] [] p1) "__init__" p2) args [] pos) (ksEnv qual scope L fI (.ref cda) cc)) Q E ⟨h, g, d, t, os⟩ := by
  have X := M.kin
  obtain ⟨nm, qn, N, bs, bm, sn, sub, ab, col, dd, k0, k1, k2, k3, k5, hC, hbm⟩ := T.cls
  have hclC : clsIn K C = some { name := nm, bases := bs, mro := .ref C :: bm, ns := N, qualname := qn, hasDict := true, slotNames := sn, subclasses := sub, abstract := ab, collection := col, hasDel := false } := by unfold clsIn; rw [hC] <;> rfl
  have I : InstAt h e (excO C t0) C none := ⟨he, rfl, rfl, trivial⟩
  obtain ⟨ar, hp, har⟩ := T.par
  obtain ⟨mb, hb1, hb2⟩ := M.blt
  refine ks_wpAt_MethodCall ?_ hev
  refine ks_wpAt_super_base (env := ksEnv qual scope L fI (.ref cda) cc) T.hks T.hkc (by decide) rfl (X _ _ hf) rfl hp rfl (X _ _ hcode) rfl hvs hfile T.top ?_
  refine ks_loadName_global T.kind T.hks (loadGlobal_builtin (env := ksEnv qual scope L fI (.ref cda) cc) M.glob T.sup hb1 ((hb2 _ (by decide)).trans (by first | boot_by_name | rfl | kernel_rfl)) ⟨rfl, ?_⟩)
  refine wpAny_loadName_free T.kind T.hkc rfl ⟨_, X _ _ hcell, rfl⟩ ?_
  refine wpAny_loadName_local T.kind (by rw [har]; exact T.hsl) hn (by rw [har]; exact hv) ?_
  refine ks_wpAny_isType_cls (X _ _ hC) rfl ⟨rfl, ?_⟩
  refine ks_wpAny_call_super (X _ _ hC) rfl I.at_ I.cls (fun c e => by cases e) (looks_mroIn X T.mC) (fun h' hs k => ?_)
  have X' := X.keeps k
  have I' : InstAt h' e (excO C t0) C none := ⟨k _ _ he, rfl, rfl, trivial⟩
  have hI : Looks (model prog w) h' (isInstance (.ref e) (.type "ValueError")) true := I'.type.andThen (looks_subIn X' T.vE)
  have hm := T.sin
  unfold ks_superIn at hm
  rw [hclC] at hm
  refine kxs_getMethod kxs_ValueError hs (looks_opaque X' T.htp) (l₀ := .ref C :: bm) ?_ rfl X' hm hI (ks_ne X' I' hclC) (by decide) ?_
  · exact fun A Q E s k q => wpAny_bind ((looks_clsIn X' hclC) A _ E s k (wpAny_pure q))
  have hu : (h'.push (kxs_mw "ValueError.__init__" e)).get? h'.objs.size = some (kxs_mw "ValueError.__init__" e) := Heap.get?_push_at rfl rfl
  exact hq _ _ _ (fun b o q => Heap.get?_push_of_some _ (k _ _ q)) hu (fun z => by
    have := Heap.lt_size (k _ _ he)
    rw [z] at this
    exact absurd this (Nat.lt_irrefl _))
/-- def __init__(self): super().__init__() -/
theorem init0 (T : InitF prog K mg C fI qual params body scope) {pp p0 p1 p2 p3 p4 : Pos} (hl : (p2.endLine == p3.line) = true) (hpar : params = { posonlyargs := [], args := [{ arg := "self", annotation := none, pos := pp }], vararg := none, kwonlyargs := [], kw_defaults := [], kwarg := none, defaults := [] })
    (hb : body = [.Expr (.Call (.Attribute (.Call (.Name "super" p0) [] [] p1) "__init__" p2) [] [] p3) p4]) (M : ModH K mg h) {e t0 : Addr} (he : h.get? e = some (excO C t0)) (hroom : A.depth < recursionLimit)
    (hq : ∀ h' t1 t', (∀ b o, b ≠ e → h.get? b = some o → h'.get? b = some o) → h'.get? e = some (excO C t1) → R (.ok (.ret .none)) ⟨h', g, d, t', os⟩) :
    codeAny (model prog w) A (.call (.ref fI) ⟨[.ref e], []⟩) R ⟨h, g, d, t, os⟩ := by
  obtain ⟨oc, od, osl, doc, pm, an, cda, ct, cc, ccl, cdd, vs, ccs, file, tf, cl, cld, csl, hf, hcd, hcode, hvs, hfile, hcell⟩ := T.fn
  obtain ⟨nm, qn, N, bs, bm, sn, sub, ab, col, dd, k0, k1, k2, k3, k5, hC, hbm⟩ := T.cls
  subst hpar
  refine ks_codeAny_call_defAt (fd := ksFn "__init__" qual _ body scope .none .none doc pm an (.ref cda) ct cc) (body := body) (binds := [("self", .ref e)]) hroom (M.kin _ _ hf) rfl M.nolimit (codeRec_of M.kin hcd) rfl (.of_eq (by rfl)) T.hcell ?_ (fun h₁ hns hk => ?_) T.co T.gen T.kind
  · intro y hy
    rw [List.mem_singleton] at hy
    subst hy
    exact T.hsl
  rw [hb]
  refine ks_wpAt_execs_cons (ks_wpAt_Expr_any (sup_call T hf hcode hvs hfile hcell (M.keeps hk) hns (by rfl) (hk _ _ he) (fun u h' t' k hu hne => ?_) (ev_sup rfl hl)) (hi := by unfold interactive; show (scope.kind == _ && _) = false; rw [T.kind]; rfl))
  refine kxs_callWith (i := "ValueError.__init__") (x := e) rfl (evalArgs_empty ⟨hu, ?_⟩)
  refine call_mwV (k _ _ (hk _ _ (M.kin _ _ hC))) (k _ _ (hk _ _ he)) hu (Nat.zero_le _) (fun h2 t1 k2 e2 => ?_)
  refine wpAt_of_wpAny (wpAny_execs_nil ?_)
  exact hq h2 t1 _ (fun b o hb z => k2 b o hb (k _ _ (hk _ _ z))) e2
/-- self.f = v, v a value -/
theorem set_field (T : InitF prog K mg C fI qual params body scope) (sa : findIn K (.ref C) "__setattr__" = some (some (.builtin "object.__setattr__"))) {f : Str} (noN : findIn K (.ref C) f = some none) (X : K.In h) {e t0 : Addr} {v : Value} {Q : Unit → Shared → Prop} (he : h.get? e = some (excO C t0))
    (hq : ∀ h' t' dx, (∀ b o, b ≠ e → h.get? b = some o → h'.get? b = some o) → h.objs.size ≤ dx → dx ≠ e → h'.get? e = some { cls := .ref C, dict := some dx, data := .fields #[.ref t0, .none, .none, .none, .bool false, .none] } → h'.Ns1 dx (fun y => if y = f then some v else none) → Q () ⟨h', g, d, t', os⟩) :
    wpAny (model prog w) A (setAttr (.ref e) f v) Q E ⟨h, g, d, t, os⟩ := by
  obtain ⟨nm, qn, N, bs, bm, sn, sub, ab, col, dd, k0, k1, k2, k3, k5, hC, hbm⟩ := T.cls
  have hclC : clsIn K C = some { name := nm, bases := bs, mro := .ref C :: bm, ns := N, qualname := qn, hasDict := true, slotNames := sn, subclasses := sub, abstract := ab, collection := col, hasDel := false } := by unfold clsIn; rw [hC] <;> rfl
  refine set_plain X (ox := excO C t0) (od := none) ⟨he, rfl, rfl, trivial⟩ sa ?_
  exact exc_osa X he hclC (show refsVE (.ref C :: bm) = true from hbm) rfl noN (fun h₃ tk₃ dx k₃ dn dne hx₃ hn₃ => hq _ _ dx k₃ dn dne hx₃ hn₃)
/-- def __init__(self, f): super().__init__(f); self.f = f -/
theorem init1 (T : InitF prog K mg C fI qual params body scope) {f : Str} (sa : findIn K (.ref C) "__setattr__" = some (some (.builtin "object.__setattr__"))) (noN : findIn K (.ref C) f = some none) (hfs : f ≠ "self") (hfd : (f == ("__debug__" : Str)) = false) (hfl : scope.names.lookup f = some .local)
    {p0 p1 p2 p3 p4 p5 q1 q2 q3 q4 : Pos} (hl : (p2.endLine == p3.line) = true) (hbd : ∀ (doc pm cdv ct : Value) (an : Option Addr) (cc e : Addr) (v : Value), bindArgs (ksFn "__init__" qual params body scope .none .none doc pm an cdv ct cc) ⟨[.ref e, v], []⟩ = pure [(("self" : Str), .ref e), (f, v)])
    (hb : body = [.Expr (.Call (.Attribute (.Call (.Name "super" p0) [] [] p1) "__init__" p2) [.Name f p5] [] p3) p4, .Assign [.Attribute (.Name "self" q1) f q2] (.Name f q3) q4]) (M : ModH K mg h) {e t0 : Addr} {v : Value} (he : h.get? e = some (excO C t0)) (hnx : K.lookup e = none) (hroom : A.depth < recursionLimit)
    (hq : ∀ h' t1 t' dx, (∀ b o, b ≠ e → h.get? b = some o → h'.get? b = some o) → h.objs.size ≤ dx → dx ≠ e → h'.get? e = some { cls := .ref C, dict := some dx, data := .fields #[.ref t1, .none, .none, .none, .bool false, .none] } → h'.Ns1 dx (fun y => if y = f then some v else none) → R (.ok (.ret .none)) ⟨h', g, d, t', os⟩) :
    codeAny (model prog w) A (.call (.ref fI) ⟨[.ref e, v], []⟩) R ⟨h, g, d, t, os⟩ := by
  obtain ⟨oc, od, osl, doc, pm, an, cda, ct, cc, ccl, cdd, vs, ccs, file, tf, cl, cld, csl, hf, hcd, hcode, hvs, hfile, hcell⟩ := T.fn
  obtain ⟨nm, qn, N, bs, bm, sn, sub, ab, col, dd, k0, k1, k2, k3, k5, hC, hbm⟩ := T.cls
  refine ks_codeAny_call_defAt (fd := ksFn "__init__" qual _ body scope .none .none doc pm an (.ref cda) ct cc) (body := body) (binds := [("self", .ref e), (f, v)]) hroom (M.kin _ _ hf) rfl M.nolimit (codeRec_of M.kin hcd) rfl (.of_eq (hbd _ _ _ _ _ _ _ _)) T.hcell ?_ (fun h₁ hns hk => ?_) T.co T.gen T.kind
  · intro y hy
    rcases List.mem_cons.mp hy with rfl | hy
    · exact T.hsl
    · rw [List.mem_singleton] at hy
      subst hy
      exact hfl
  have ls : ([(("self" : Str), Value.ref e), (f, v)] : List (Str × Value)).reverse.lookup ("self" : Str) = some (Value.ref e) := by
    have : (("self" : Str) == f) = false := by simpa using Ne.symm hfs
    simp [List.lookup, this]
  have lf : ([(("self" : Str), Value.ref e), (f, v)] : List (Str × Value)).reverse.lookup f = some v := by
    simp [List.lookup]
  rw [hb]
  refine ks_wpAt_execs_cons (ks_wpAt_Expr_any (sup_call T hf hcode hvs hfile hcell (M.keeps hk) hns ls (hk _ _ he) (fun u h' t' k hu hne => ?_) (ev_sup rfl hl)) (hi := by unfold interactive; show (scope.kind == _ && _) = false; rw [T.kind]; rfl))
  have ld : ∀ {A' : Around} {E' : Value → Shared → Prop} {hh : Heap} {t' : Nat} {p : Pos} {Q : Value → Shared → Prop} {x : Str} {y : Value}, hh.Ns h.objs.size (fun x => ([(("self" : Str), Value.ref e), (f, v)] : List (Str × Value)).reverse.lookup x) → ([(("self" : Str), Value.ref e), (f, v)] : List (Str × Value)).reverse.lookup x = some y → scope.names.lookup x = some .local → (x == ("__debug__" : Str)) = false → Q y ⟨hh, g, d, t', os⟩ →
      wpAny (model prog w) A' (eval (.Name x p) (ksEnv qual scope h.objs.size fI (.ref cda) cc)) Q E' ⟨hh, g, d, t', os⟩ := fun n l1 l2 l3 q => wpAny_Name (wpAny_loadName_local T.kind l2 n l1 q) l3
  refine kxs_callWith (i := "ValueError.__init__") (x := e) rfl ?_
  refine evalArgs_plain (spliced_more (ld ((hns.keeps k)) lf hfl hfd (spliced_none ⟨hu, ?_⟩)))
  refine call_mwV (k _ _ (hk _ _ (M.kin _ _ hC))) (k _ _ (hk _ _ he)) hu (by rw [sizeLine_eq]; exact (by decide : 1 ≤ 16777216)) (fun h2 t1 k2 e2 => ?_)
  have hL : e ≠ h.objs.size := Nat.ne_of_lt (Heap.lt_size he)
  have hns2 : h2.Ns h.objs.size (fun x => ([(("self" : Str), Value.ref e), (f, v)] : List (Str × Value)).reverse.lookup x) := by
    obtain ⟨oL, es, ep, hoL, r⟩ := hns.keeps k
    exact ⟨oL, es, ep, k2 _ _ (Ne.symm hL) hoL, r⟩
  have X2 : K.In h2 := fun b o z => by
    have z' := M.kin _ _ z
    exact k2 b o (fun q => by rw [q, hnx] at z; cases z) (k _ _ (hk _ _ z'))
  refine ks_wpAt_execs_cons (wpAt_of_wpAny (plainObj_wpAny_Assign_Attribute ?_))
  refine ld hns2 lf hfl hfd (ld hns2 ls T.hsl (by decide) ?_)
  refine set_field T sa noN X2 e2 (fun h3 t3 dx k3 dn dne hx3 hn3 => ?_)
  refine wpAt_of_wpAny (wpAny_execs_nil ?_)
  exact hq h3 t1 _ dx (fun b o hb z => k3 b o hb (k2 b o hb (k _ _ (hk _ _ z)))) (Nat.le_trans (Nat.le_of_lt hns2.lt) dn) dne hx3 hn3
theorem made0 (T : InitF prog K mg C fI qual params body scope) {pp p0 p1 p2 p3 p4 : Pos} (hl : (p2.endLine == p3.line) = true) (hpar : params = { posonlyargs := [], args := [{ arg := "self", annotation := none, pos := pp }], vararg := none, kwonlyargs := [], kw_defaults := [], kwarg := none, defaults := [] })
    (hb : body = [.Expr (.Call (.Attribute (.Call (.Name "super" p0) [] [] p1) "__init__" p2) [] [] p3) p4]) (M : ModH K mg h) (hroom : A.depth + 1 < recursionLimit)
    (hq : ∀ h' t1 t', (∀ b o, h.get? b = some o → h'.get? b = some o) → h.get? (h.objs.size + 1) = none → h'.get? (h.objs.size + 1) = some (excO C t1) → R (.ok (.ret (.ref (h.objs.size + 1)))) ⟨h', g, d, t', os⟩) :
    codeAny (model prog w) A (.call (.ref C) ⟨[], []⟩) R ⟨h, g, d, t, os⟩ := by
  obtain ⟨nm, q, N, bs, bm, sn, sub, ab, col, dd, k0, k1, k2, k3, k5, hC, hbm⟩ := T.cls
  have k : ∀ b o, h.get? b = some o → ((h.push (kdv_tup [])).push (excO C h.objs.size)).get? b = some o := fun b o e => Heap.get?_push_of_some _ (Heap.get?_push_of_some _ e)
  have hget : ((h.push (kdv_tup [])).push (excO C h.objs.size)).get? (h.objs.size + 1) = some (excO C h.objs.size) := by heap_get
  have hno : h.get? (h.objs.size + 1) = none := by
    cases e : h.get? (h.objs.size + 1) with
    | none => rfl
    | some o => exact absurd (Nat.lt_of_succ_lt (Heap.lt_size e)) (Nat.lt_irrefl _)
  refine call_own F.excBase_ValueError (fun X => refsVE_contains X bm hbm) (M.kin _ _ hC) (looks_findIn M.kin T.iC) (fun self => bind_fn M.kin self T.tI) (Nat.zero_le _) ?_
  refine init0 T hl hpar hb (M.keeps k) hget hroom (fun h' t1 t' k' e' => ?_)
  have old : ∀ b o, h.get? b = some o → h'.get? b = some o := fun b o e => k' b o (fun z => by rw [z, hno] at e; cases e) (k b o e)
  exact ⟨rfl, hq h' t1 t' old hno e'⟩
theorem made1 (T : InitF prog K mg C fI qual params body scope) {f : Str} (sa : findIn K (.ref C) "__setattr__" = some (some (.builtin "object.__setattr__"))) (noN : findIn K (.ref C) f = some none) (hfs : f ≠ "self") (hfd : (f == ("__debug__" : Str)) = false) (hfl : scope.names.lookup f = some .local)
    {p0 p1 p2 p3 p4 p5 q1 q2 q3 q4 : Pos} (hl : (p2.endLine == p3.line) = true) (hbd : ∀ (doc pm cdv ct : Value) (an : Option Addr) (cc e : Addr) (v : Value), bindArgs (ksFn "__init__" qual params body scope .none .none doc pm an cdv ct cc) ⟨[.ref e, v], []⟩ = pure [(("self" : Str), .ref e), (f, v)])
    (hb : body = [.Expr (.Call (.Attribute (.Call (.Name "super" p0) [] [] p1) "__init__" p2) [.Name f p5] [] p3) p4, .Assign [.Attribute (.Name "self" q1) f q2] (.Name f q3) q4]) (M : ModH K mg h) {v : Value} (hroom : A.depth + 1 < recursionLimit)
    (hq : ∀ h' t1 t' dx, (∀ b o, h.get? b = some o → h'.get? b = some o) → h.objs.size ≤ dx → dx ≠ h.objs.size + 1 → h.get? (h.objs.size + 1) = none → h'.get? (h.objs.size + 1) = some { cls := .ref C, dict := some dx, data := .fields #[.ref t1, .none, .none, .none, .bool false, .none] } → h'.Ns1 dx (fun y => if y = f then some v else none) → R (.ok (.ret (.ref (h.objs.size + 1)))) ⟨h', g, d, t', os⟩) :
    codeAny (model prog w) A (.call (.ref C) ⟨[v], []⟩) R ⟨h, g, d, t, os⟩ := by
  obtain ⟨nm, q, N, bs, bm, sn, sub, ab, col, dd, k0, k1, k2, k3, k5, hC, hbm⟩ := T.cls
  have k : ∀ b o, h.get? b = some o → ((h.push (kdv_tup [v])).push (excO C h.objs.size)).get? b = some o := fun b o e => Heap.get?_push_of_some _ (Heap.get?_push_of_some _ e)
  have hget : ((h.push (kdv_tup [v])).push (excO C h.objs.size)).get? (h.objs.size + 1) = some (excO C h.objs.size) := by heap_get
  have hno : h.get? (h.objs.size + 1) = none := by
    cases e : h.get? (h.objs.size + 1) with
    | none => rfl
    | some o => exact absurd (Nat.lt_of_succ_lt (Heap.lt_size e)) (Nat.lt_irrefl _)
  have hnx : K.lookup (h.objs.size + 1) = none := by
    cases e : K.lookup (h.objs.size + 1) with
    | none => rfl
    | some o =>
      have z : h.get? (h.objs.size + 1) = some o := M.kin _ _ e
      rw [hno] at z; cases z
  refine call_own F.excBase_ValueError (fun X => refsVE_contains X bm hbm) (M.kin _ _ hC) (looks_findIn M.kin T.iC) (fun self => bind_fn M.kin self T.tI) (by rw [sizeLine_eq]; exact (by decide : 1 ≤ 16777216)) ?_
  refine init1 T sa noN hfs hfd hfl hl hbd hb (M.keeps k) hget hnx hroom (fun h' t1 t' dx k' dn dne e' hn' => ?_)
  have old : ∀ b o, h.get? b = some o → h'.get? b = some o := fun b o e => k' b o (fun z => by rw [z, hno] at e; cases e) (k b o e)
  have hs : h.objs.size ≤ ((h.push (kdv_tup [v])).push (excO C h.objs.size)).objs.size := by
    rw [Heap.size_push, Heap.size_push]
    omega
  exact ⟨rfl, hq h' t1 t' dx old (Nat.le_trans hs dn) dne hno e' hn'⟩
end
end VsP
end PySem
/-! VQ: raise C(), raise C(e): readings. -/
namespace Vs
open PySem PySem.Spec L2
open PyProof.Rows hiding St
theorem modH {X : Cx} {pins : List (Addr × Obj)} {σ : L2.St} {H : Hp} {s : Shared} (I : Inv X pins σ H s) : PySem.VsP.ModH X.K X.mg s.heap := by
  obtain ⟨mb, h1, h2⟩ := I.mod.blt
  exact ⟨I.kIn, I.mod.glob.keeps I.bk, ⟨mb, h1.keeps I.bk, h2⟩, I.nolimit⟩
/-- what the module says of an own exception class: its fields -/
inductive ExcT (P : Program) (K : PySem.W.Frag) (mg : Str → Option Value) (x : Str) (C : Addr) : List Str → Prop
  | zero {fI : Addr} {qual : Str} {params : Arguments} {body : List Stmt} {scope : Scope} {pp p0 p1 p2 p3 p4 : Pos} (T : PySem.VsP.InitF P K mg C fI qual params body scope) (hl : (p2.endLine == p3.line) = true) (hpar : params = { posonlyargs := [], args := [{ arg := "self", annotation := none, pos := pp }], vararg := none, kwonlyargs := [], kw_defaults := [], kwarg := none, defaults := [] })
    (hb : body = [.Expr (.Call (.Attribute (.Call (.Name "super" p0) [] [] p1) "__init__" p2) [] [] p3) p4]) : ExcT P K mg x C []
  | one {fI : Addr} {qual : Str} {params : Arguments} {body : List Stmt} {scope : Scope} {f : Str} {p0 p1 p2 p3 p4 p5 q1 q2 q3 q4 : Pos} (T : PySem.VsP.InitF P K mg C fI qual params body scope) (sa : PySem.W.findIn K (.ref C) "__setattr__" = some (some (.builtin "object.__setattr__"))) (noN : PySem.W.findIn K (.ref C) f = some none) (hfs : f ≠ "self") (hfd : (f == ("__debug__" : Str)) = false) (hfl : scope.names.lookup f = some .local)
    (hl : (p2.endLine == p3.line) = true) (hbd : ∀ (doc pm cdv ct : Value) (an : Option Addr) (cc e : Addr) (v : Value), bindArgs (PySem.W.ksFn "__init__" qual params body scope .none .none doc pm an cdv ct cc) ⟨[.ref e, v], []⟩ = pure [(("self" : Str), .ref e), (f, v)])
    (hb : body = [.Expr (.Call (.Attribute (.Call (.Name "super" p0) [] [] p1) "__init__" p2) [.Name f p5] [] p3) p4, .Assign [.Attribute (.Name "self" q1) f q2] (.Name f q3) q4]) : ExcT P K mg x C [f]
/-- what raise and except ask of the class -/
structure ExcG (P : Program) (K : PySem.W.Frag) (mg : Str → Option Value) (x : Str) (C : Addr) (fs : List Str) : Prop where
  gC : mg x = some (.ref C)
  kC : PySem.W.keepIn K (.ref C) = true
  exC : PySem.W.subIn K (.ref C) (.type "BaseException") = some true
  tyC : PySem.W.typeIn K (.ref C) = some (.type "type")
  db : (x == ("__debug__" : Str)) = false
  txt : ExcT P K mg x C fs
theorem relO_one {f : Str} {v : V} {v' : Value} (r : RelV v v') (y : Str) : RelO (List.lookup y [(f, v)]) (if y = f then some v' else none) := by
  by_cases hw : y = f
  · subst hw
    rw [if_pos rfl]
    have q : List.lookup y [(y, v)] = some v := by simp [List.lookup]
    rw [q]
    exact r
  · rw [if_neg hw]
    have qw : (y == f) = false := by simpa using hw
    have q2 : List.lookup y [(f, v)] = none := by simp [List.lookup, qw]
    rw [q2]
    trivial
section
variable {X : Cx} {x : Str} {C : Addr} {p pos : Pos}
theorem pmk0 {k : Nat} (T : ExcG X.prog X.K X.mg x C []) (hr : Room k X.A) (hk : 1 ≤ k) (hg : Gl X x) : PMk X (.Call (.Name x p) [] [] pos) (fun _ H Q => Q (.ref C) none H) := by
  intro pins s σ H Q I h
  refine wpAny_Call_Name_kw (ld_glob I hg T.gC ?_ T.db)
  refine PySem.W.callWith_K0 I.kIn T.kC ?_
  have M := modH I
  have hdp := hr.dp
  obtain ⟨hp, g, dr, tk, os⟩ := s
  cases T.txt with
  | zero T' hl hpar hb =>
    show wpAny _ _ (call (.ref C) []) _ _ _
    refine wpAny_call (PySem.VsP.made0 T' hl hpar hb M (by omega) fun h' t1 t' old hno e' => ?_)
    show MkP X pins σ Q (.ref (hp.objs.size + 1)) ⟨h', g, dr, t', os⟩
    obtain ⟨G', g1, g2⟩ := restrict h' fun b => decide (b ≠ hp.objs.size + 1)
    have gk : ∀ b, b ≠ hp.objs.size + 1 → G'.get? b = h'.get? b := fun b hb => g1 b (decide_eq_true hb)
    have ge : G'.get? (hp.objs.size + 1) = none := g2 _ (by simp)
    have old' : ∀ b o, hp.get? b = some o → G'.get? b = some o := fun b o q => (gk b (fun z => by rw [z, hno] at q; cases q)).trans (old b o q)
    have J : Inv X pins σ H ⟨G', g, dr, t', os⟩ := I.kept (t' := t') (h' := G') old'
    refine ⟨_, _, _, ⟨G', g, dr, t', os⟩, H, .ref C, none, rfl, J, fun b o q => ?_, ge, e', ⟨rfl, rfl⟩, rfl, rfl, I.hok.fresh (Nat.le_succ _), rfl, I.bare, raises_own T.exC T.tyC, h⟩
    by_cases hb : b = hp.objs.size + 1
    · have q' : G'.get? b = some o := q
      rw [hb, ge] at q'; cases q'
    · exact (gk b hb).symm.trans q
theorem pmk1 {k : Nat} {f : Str} {a : Expr} {ta : TA} (T : ExcG X.prog X.K X.mg x C [f]) (hr : Room k X.A) (hk : 1 ≤ k) (hg : Gl X x) (ha : PA X [a] ta) (he : starEach (a :: []) X.env = (false, eval a X.env) :: starEach [] X.env) :
    PMk X (.Call (.Name x p) [a] [] pos) (fun σ H Q => ta σ H fun vs H1 => ∃ v, vs = [v] ∧ ∀ d, H1 d = none → Q (.ref C) (some d) (upd H1 d (.xd [(f, v)]))) := by
  intro pins s σ H Q I h
  refine wpAny_Call_Name_kw (ld_glob I hg T.gC ?_ T.db)
  refine PySem.W.callWith_K (h₀ := X.base) I.ok.mod.kin T.kC (thn (ha.run pos pins s σ H _ I h) fun us s1 hh => ?_) he rfl
  obtain ⟨vs, H1, I1, r1, v, ev, q1⟩ := hh
  subst ev
  refine ⟨I1.kIn, ?_⟩
  have M := modH I1
  have hdp := hr.dp
  cases r1 with
  | cons rv rn =>
    rename_i v' us'
    cases rn
    show wpAny _ _ (call (.ref C) [v']) _ _ _
    obtain ⟨hp, g, dr, tk, os⟩ := s1
    cases T.txt with
    | one T' sa noN hfs hfd hfl hl hbd hb =>
      refine wpAny_call (PySem.VsP.made1 T' sa noN hfs hfd hfl hl hbd hb M (by omega) fun h' t1 t' dx old dn dne hno e' hns => ?_)
      show MkP X pins σ Q (.ref (hp.objs.size + 1)) ⟨h', g, dr, t', os⟩
      obtain ⟨G', g1, g2⟩ := restrict h' fun b => decide (b ≠ hp.objs.size + 1)
      have gk : ∀ b, b ≠ hp.objs.size + 1 → G'.get? b = h'.get? b := fun b hb => g1 b (decide_eq_true hb)
      have ge : G'.get? (hp.objs.size + 1) = none := g2 _ (by simp)
      have old' : ∀ b o, hp.get? b = some o → G'.get? b = some o := fun b o q => (gk b (fun z => by rw [z, hno] at q; cases q)).trans (old b o q)
      have ob : ObjOk X.prog X.w (upd H1 dx (.xd [(f, v)])) G' dx (.xd [(f, v)]) :=
        ⟨_, hns.at (fun o q => (gk dx dne).trans q), fun y => relO_one rv y⟩
      have J : Inv X pins σ (upd H1 dx (.xd [(f, v)])) ⟨G', g, dr, t', os⟩ := I1.laid (t' := t') old' dn ob
      refine ⟨_, _, _, ⟨G', g, dr, t', os⟩, _, .ref C, some dx, rfl, J, fun b o q => ?_, ge, e', ⟨rfl, rfl⟩, rfl, rfl, ?_, rfl, I1.bare, raises_own T.exC T.tyC, q1 dx (I1.hok.fresh dn)⟩
      · by_cases hb : b = hp.objs.size + 1
        · have q' : G'.get? b = some o := q
          rw [hb, ge] at q'; cases q'
        · exact (gk b hb).symm.trans q
      · rw [upd_ne (Ne.symm dne)]
        exact I1.hok.fresh (Nat.le_succ _)
end
end Vs
/-! V2: built-in operations on values: what they give, and the rules. -/
namespace Vs
open PySem PySem.Spec L2
open PyProof.Rows hiding St

/-- all shared -/
def unsh : List D → Option (List PyData)
  | [] => some []
  | .sh d :: r => match unsh r with
    | some l => some (d :: l)
    | none => none
  | _ :: _ => none
@[simp] theorem unsh_map (l : List PyData) : unsh (l.map .sh) = some l := by
  induction l with
  | nil => rfl
  | cons d l ih => simp [unsh, ih]
@[simp] theorem unsh_nil : unsh [] = some [] := rfl
inductive SK where
  | lst
  | tup
  deriving DecidableEq
/-- a list or tuple of shared things -/
def D.seq : D → Option (SK × List PyData)
  | .sh (.list l) => some (.lst, l)
  | .sh (.tuple l) => some (.tup, l)
  | .ls ds => match unsh ds with
    | some l => some (.lst, l)
    | none => none
  | _ => none
mutual
/-- as plain data -/
def D.py : D → Option PyData
  | .sh d => some d
  | .ls ds => match D.pys ds with
    | some l => some (.list l)
    | none => none
  | .tp ds => match D.pys ds with
    | some l => some (.tuple l)
    | none => none
  | _ => none
def D.pys : List D → Option (List PyData)
  | [] => some []
  | d :: ds => match D.py d, D.pys ds with
    | some x, some l => some (x :: l)
    | _, _ => none
end
@[simp] theorem pys_map (l : List PyData) : D.pys (l.map .sh) = some l := by
  induction l with
  | nil => rfl
  | cons d l ih => simp [D.pys, D.py, ih]

/-- read: the footprints do not matter -/
inductive RVs (G : Ga) (H : Hp) : List V → List D → Prop
  | nil : RVs G H [] []
  | cons {v : V} {vs : List V} {d : D} {ds : List D} {T : List Addr} : Rep G H v d T → RVs G H vs ds → RVs G H (v :: vs) (d :: ds)
def SqK (K : PySem.W.Frag) (H : Hp) (a : Addr) (xs : List V) : SK → Prop
  | .lst => SqL K H a xs
  | .tup => SqT K H a xs
section
variable {G : Ga} {H H' : Hp}
theorem Reps.of_unsh : ∀ {vs : List V} {ds : List D} {T : List Addr} {l : List PyData}, Reps G H vs ds T → unsh ds = some l → DpFs G.K H vs l ∧ T = []
  | _, _, _, _, .nil, e => by
    unfold unsh at e; cases e; exact ⟨.nil, rfl⟩
  | _, _, _, l, .cons (d := d) (ds := ds) h hs, e => by
    cases h with
    | sh h =>
      unfold unsh at e
      cases e2 : unsh ds with
      | none => rw [e2] at e; cases e
      | some m =>
        rw [e2] at e; cases e
        obtain ⟨a, b⟩ := Reps.of_unsh hs e2
        exact ⟨.cons h a, by rw [b]; rfl⟩
    | tp _ _ => unfold unsh at e; cases e
    | ls _ _ => unfold unsh at e; cases e
    | dk _ _ => unfold unsh at e; cases e
    | dd _ _ _ _ => unfold unsh at e; cases e
    | ob => unfold unsh at e; cases e
    | fn _ => unfold unsh at e; cases e
    | fd => unfold unsh at e; cases e
theorem Reps.to_sh : ∀ {vs : List V} {l : List PyData}, DpFs G.K H vs l → Reps G H vs (l.map .sh) []
  | _, _, .nil => .nil
  | _, _, .cons h hs => .cons (O := []) (O' := []) (.sh h) (Reps.to_sh hs)
theorem Rep.seq {v : V} {d : D} {T : List Addr} {k : SK} {l : List PyData} (h : Rep G H v d T) (e : d.seq = some (k, l)) : ∃ a xs, v = .ref a ∧ SqK G.K H a xs k ∧ DpFs G.K H xs l := by
  cases h with
  | sh h =>
    cases h with
    | lst q hs => unfold D.seq at e; cases e; exact ⟨_, _, rfl, q.seq, hs⟩
    | tup q hs => unfold D.seq at e; cases e; exact ⟨_, _, rfl, q.t, hs⟩
    | non => unfold D.seq at e; cases e
    | bl _ => unfold D.seq at e; cases e
    | int _ => unfold D.seq at e; cases e
    | str _ => unfold D.seq at e; cases e
    | dct _ => unfold D.seq at e; cases e
    | dc1 _ => unfold D.seq at e; cases e
  | @ls a xs ds O q hs =>
    cases e2 : unsh ds with
    | none => simp only [D.seq, e2] at e; cases e
    | some m =>
      simp only [D.seq, e2] at e; cases e
      exact ⟨_, _, rfl, SqL.of q, (hs.of_unsh e2).1⟩
  | tp _ _ => unfold D.seq at e; cases e
  | dk _ _ => unfold D.seq at e; cases e
  | dd _ _ _ _ => unfold D.seq at e; cases e
  | ob => unfold D.seq at e; cases e
  | fn _ => unfold D.seq at e; cases e
  | fd => unfold D.seq at e; cases e
mutual
/-- as Dp, with dicts that have nothing and that nobody writes -/
inductive Dd (K : PySem.W.Frag) (H : Hp) : V → PyData → Prop
  | non : Dd K H .non .none
  | bl (b : Bool) : Dd K H (.bl b) (.bool b)
  | int (i : Int) : Dd K H (.int i) (.int i)
  | str (x : Str) : Dd K H (.str x) (.str x)
  | lst {a : Addr} {xs : List V} {ds : List PyData} : SqL K H a xs → Dds K H xs ds → Dd K H (.ref a) (.list ds)
  | tup {a : Addr} {xs : List V} {ds : List PyData} : SqT K H a xs → Dds K H xs ds → Dd K H (.ref a) (.tuple ds)
  | dct {a : Addr} {o : Obj} : H a = some (.frz o (.dK [])) → Dd K H (.ref a) (.dict [])
  | dc1 {a : Addr} {o : Obj} {x : Str} {i : Int} : H a = some (.frz o (.dK [(.inr x, .int i)])) → Dd K H (.ref a) (.dict [(.str x, .int i)])
inductive Dds (K : PySem.W.Frag) (H : Hp) : List V → List PyData → Prop
  | nil : Dds K H [] []
  | cons {v : V} {vs : List V} {d : PyData} {ds : List PyData} : Dd K H v d → Dds K H vs ds → Dds K H (v :: vs) (d :: ds)
end
mutual
theorem Dd.dp {K : PySem.W.Frag} {H : Hp} : ∀ {v : V} {d : PyData}, Dd K H v d → d.hasDict = false → Dp K H v d
  | _, _, .non, _ => .non
  | _, _, .bl b, _ => .bl b
  | _, _, .int i, _ => .int i
  | _, _, .str x, _ => .str x
  | _, _, .lst h hs, n => .lst h (Dds.dp hs (by simpa [PyData.hasDict] using n))
  | _, _, .tup h hs, n => .tup h (Dds.dp hs (by simpa [PyData.hasDict] using n))
  | _, _, .dct _, n => by simp [PyData.hasDict] at n
  | _, _, .dc1 _, n => by simp [PyData.hasDict] at n
theorem Dds.dp {K : PySem.W.Frag} {H : Hp} : ∀ {vs : List V} {ds : List PyData}, Dds K H vs ds → PyData.hasDictAll ds = false → DpAll K H vs ds
  | _, _, .nil, _ => .nil
  | _, _, .cons (d := d) (ds := ds) h hs, n => by
    have n : d.hasDict = false ∧ PyData.hasDictAll ds = false := by simpa [PyData.hasDictAll] using n
    exact .cons (Dd.dp h n.1) (Dds.dp hs n.2)
end
theorem nd_shaped {p : PyData} (h : SeqAt.shaped p = true) : p.hasDict = false := by
  refine PyData.hasDict_of_canLay p ?_
  unfold SeqAt.shaped at h
  simp only [Bool.and_eq_true] at h
  first | exact h.1 | exact h.2
mutual
theorem DpF.dd : ∀ {v : V} {d : PyData}, DpF G.K H v d → Dd G.K H v d
  | _, _, .non => .non
  | _, _, .bl b => .bl b
  | _, _, .int i => .int i
  | _, _, .str x => .str x
  | _, _, .lst h hs => .lst h.seq (DpFs.dd hs)
  | _, _, .tup h hs => .tup h.t (DpFs.dd hs)
  | _, _, .dct h => .dct h
  | _, _, .dc1 h => .dc1 h
theorem DpFs.dd : ∀ {vs : List V} {ds : List PyData}, DpFs G.K H vs ds → Dds G.K H vs ds
  | _, _, .nil => .nil
  | _, _, .cons h hs => .cons (DpF.dd h) (DpFs.dd hs)
end
mutual
theorem Rep.dd' : ∀ {v : V} {d : D} {T : List Addr} {p : PyData}, Rep G H v d T → d.py = some p → Dd G.K H v p
  | _, _, _, _, .sh h, e => by unfold D.py at e; cases e; exact h.dd
  | _, _, _, _, .tp (ds := ds) q hs, e => by
    unfold D.py at e
    cases e2 : D.pys ds with
    | none => rw [e2] at e; cases e
    | some l => rw [e2] at e; cases e; exact .tup q.t (Reps.dd' hs e2)
  | _, _, _, _, .ls (ds := ds) q hs, e => by
    unfold D.py at e
    cases e2 : D.pys ds with
    | none => rw [e2] at e; cases e
    | some l => rw [e2] at e; cases e; exact .lst (SqL.of q) (Reps.dd' hs e2)
  | _, _, _, _, .dk _ _, e => by unfold D.py at e; cases e
  | _, _, _, _, .dd _ _ _ _, e => by unfold D.py at e; cases e
  | _, _, _, _, .ob _ _ _ _, e => by unfold D.py at e; cases e
  | _, _, _, _, .fn _, e => by unfold D.py at e; cases e
  | _, _, _, _, .fd _ _ _ _, e => by unfold D.py at e; cases e
theorem Reps.dd' : ∀ {vs : List V} {ds : List D} {T : List Addr} {l : List PyData}, Reps G H vs ds T → D.pys ds = some l → Dds G.K H vs l
  | _, _, _, _, .nil, e => by unfold D.pys at e; cases e; exact .nil
  | _, _, _, _, .cons (d := d) (ds := ds) h hs, e => by
    unfold D.pys at e
    cases e1 : D.py d with
    | none => rw [e1] at e; cases e
    | some x =>
      cases e2 : D.pys ds with
      | none => rw [e1, e2] at e; cases e
      | some m => rw [e1, e2] at e; cases e; exact .cons (Rep.dd' h e1) (Reps.dd' hs e2)
end
theorem DpF.dp {v : V} {d : PyData} (h : DpF G.K H v d) (n : d.hasDict = false) : Dp G.K H v d := h.dd.dp n
theorem DpFs.dp {vs : List V} {ds : List PyData} (h : DpFs G.K H vs ds) (n : PyData.hasDictAll ds = false) : DpAll G.K H vs ds := h.dd.dp n
theorem Rep.dp {v : V} {d : D} {T : List Addr} {p : PyData} (h : Rep G H v d T) (e : d.py = some p) (n : p.hasDict = false) : Dp G.K H v p := (h.dd' e).dp n
theorem RVs.one {v : V} {ds : List D} (h : RVs G H [v] ds) : ∃ d T, ds = [d] ∧ Rep G H v d T := by
  cases h with | cons a b => cases b; exact ⟨_, _, rfl, a⟩
theorem RVs.two {v u : V} {ds : List D} (h : RVs G H [v, u] ds) : ∃ d e T T', ds = [d, e] ∧ Rep G H v d T ∧ Rep G H u e T' := by
  cases h with | cons a b => cases b with | cons c f => cases f; exact ⟨_, _, _, _, rfl, a, c⟩
theorem RVs.of1 {vs : List V} {d : D} (h : RVs G H vs [d]) : ∃ v T, vs = [v] ∧ Rep G H v d T := by
  cases h with | cons a b => cases b; exact ⟨_, _, rfl, a⟩
theorem RVs.of2 {vs : List V} {d e : D} (h : RVs G H vs [d, e]) : ∃ v u T T', vs = [v, u] ∧ Rep G H v d T ∧ Rep G H u e T' := by
  cases h with | cons a b => cases b with | cons c f => cases f; exact ⟨_, _, _, _, rfl, a, c⟩
theorem Rep.int_of {v : V} {i : Int} {T : List Addr} (h : Rep G H v (.sh (.int i)) T) : v = .int i := by
  cases h with | sh h => cases h; rfl
theorem Rep.bl_of {v : V} {b : Bool} {T : List Addr} (h : Rep G H v (.sh (.bool b)) T) : v = .bl b := by
  cases h with | sh h => cases h; rfl
theorem Rep.str_of {v : V} {x : Str} {T : List Addr} (h : Rep G H v (.sh (.str x)) T) : v = .str x := by
  cases h with | sh h => cases h; rfl
theorem Rep.non_of {v : V} {T : List Addr} (h : Rep G H v (.sh .none) T) : v = .non := by
  cases h with | sh h => cases h; rfl
theorem DpFs.len : ∀ {vs : List V} {l : List PyData}, DpFs G.K H vs l → vs.length = l.length
  | _, _, .nil => rfl
  | _, _, .cons _ hs => congrArg (· + 1) (DpFs.len hs)
theorem DpFs.app : ∀ {vs us : List V} {l m : List PyData}, DpFs G.K H vs l → DpFs G.K H us m → DpFs G.K H (vs ++ us) (l ++ m)
  | _, _, _, _, .nil, q => q
  | _, _, _, _, .cons h hs, q => .cons h (DpFs.app hs q)
theorem DpFs.get : ∀ {vs : List V} {l : List PyData} {i : Nat} {d : PyData}, DpFs G.K H vs l → l[i]? = some d → ∃ v, vs[i]? = some v ∧ DpF G.K H v d
  | _, _, i, d, .nil, e => by simp at e
  | _, _, 0, d, .cons h hs, e => by simp at e; subst e; exact ⟨_, rfl, h⟩
  | _, _, i + 1, d, .cons h hs, e => by
    obtain ⟨v, a, b⟩ := DpFs.get (i := i) hs (by simpa using e)
    exact ⟨v, by simpa using a, b⟩
theorem DpFs.take : ∀ {vs : List V} {l : List PyData} (n : Nat), DpFs G.K H vs l → DpFs G.K H (vs.take n) (l.take n)
  | _, _, 0, _ => .nil
  | _, _, n + 1, .nil => .nil
  | _, _, n + 1, .cons h hs => .cons h (DpFs.take n hs)
theorem DpFs.drop : ∀ {vs : List V} {l : List PyData} (n : Nat), DpFs G.K H vs l → DpFs G.K H (vs.drop n) (l.drop n)
  | _, _, 0, h => h
  | _, _, n + 1, .nil => .nil
  | _, _, n + 1, .cons h hs => DpFs.drop n hs
theorem DpFs.rep {vs : List V} {l : List PyData} (h : DpFs G.K H vs l) : ∀ k : Nat, DpFs G.K H (List.replicate k vs).flatten (List.replicate k l).flatten
  | 0 => .nil
  | k + 1 => by
    simp only [List.replicate_succ, List.flatten_cons]
    exact DpFs.app h (DpFs.rep h k)
theorem DpFs.rev : ∀ {vs : List V} {l : List PyData}, DpFs G.K H vs l → DpFs G.K H vs.reverse l.reverse
  | _, _, .nil => .nil
  | _, _, .cons h hs => by
    simp only [List.reverse_cons]
    exact DpFs.app (DpFs.rev hs) (.cons h .nil)
theorem DpFs.nil_iff {vs : List V} {l : List PyData} (h : DpFs G.K H vs l) : vs = [] ↔ l = [] := by
  cases h with
  | nil => simp
  | cons _ _ => simp

/-- a new value: nothing that stood is touched -/
def NewR (G : Ga) (H : Hp) (d : D) (Q : VK) : Prop := ∀ v H' T, Rep G H' v d T → T.Nodup → (∀ a ∈ T, H a = none) → Frm [] H H' → Q v H'
theorem NewR.sh {p : PyData} {Q : VK} (h : NewR G H (.sh p) Q) {v : V} (r : DpF G.K H v p) : Q v H := h v H [] (.sh r) .nil (fun _ q => nomatch q) fun _ _ e _ => e
theorem frm_new {a : Addr} {o : HO} (h : H a = none) : Frm [] H (upd H a o) := fun b u e _ => by rw [upd_ne (ne_of_none e h)]; exact e
theorem mut_nil : MutA H [] := fun _ q => nomatch q
/-- a new tuple of shared things -/
theorem NewR.tup {l : List PyData} {Q : VK} (h : NewR G H (.sh (.tuple l)) Q) {xs : List V} (r : DpFs G.K H xs l) {p : Addr} {o : Obj} (hp : H p = none) (ho : o.dict = none) : Q (.ref p) (upd H p (.frz o (.tup xs))) :=
  h (.ref p) _ [] (.sh (.tup (SqN.of upd_same ho) (DpFs.fr (G := G) (S := []) r (frm_new hp) mut_nil))) .nil (fun _ q => nomatch q) (frm_new hp)
/-- a new list of shared things -/
theorem NewR.lst {l : List PyData} {Q : VK} (h : NewR G H (.ls (l.map .sh)) Q) {xs : List V} (r : DpFs G.K H xs l) {p : Addr} (hp : H p = none) : Q (.ref p) (upd H p (.lst xs)) :=
  h (.ref p) _ [p] (.ls upd_same (Reps.to_sh (DpFs.fr (G := G) (S := []) r (frm_new hp) mut_nil))) (by simp) (fun a q => by simp at q; subst q; exact hp) (frm_new hp)
end
end Vs
/-! VK: dicts whose keys are tuples: readings and rules. -/
namespace Vs
open PySem PySem.Spec L2
open PyProof.Rows hiding St
section
variable {X : Cx} {pins : List (Addr × Obj)} {σ : L2.St} {H : Hp} {s : Shared}
mutual
theorem nis (I : Inv X pins σ H s) : ∀ {v : V} {d : PyData} {u : Value} {k : NestedKey}, DpF X.K H v d → nkD d = some k → RelV v u → NestedIs s.heap k u
  | _, _, _, _, .non, e, r => by unfold nkD at e; cases e; cases r; exact .none
  | _, _, _, _, .bl b, e, r => by unfold nkD at e; cases e; cases r; exact .bool rfl
  | _, _, _, _, .int i, e, r => by unfold nkD at e; cases e; obtain ⟨t, rfl⟩ := r; exact .int _ _
  | _, _, _, _, .str x, e, r => by unfold nkD at e; cases e; obtain ⟨t, rfl⟩ := r; exact .text _ _
  | _, _, _, _, .lst _ _, e, r => by unfold nkD at e; cases e
  | _, _, _, _, .dct _, e, r => by unfold nkD at e; cases e
  | _, _, _, _, .dc1 _, e, r => by unfold nkD at e; cases e
  | _, _, _, _, .tup (ds := ds) h hs, e, r => by
    unfold nkD at e
    cases e2 : nkDs ds with
    | none => rw [e2] at e; cases e
    | some ks =>
      rw [e2] at e; cases e
      cases r
      obtain ⟨its, rv, ⟨o, ho, hc, n, hd⟩, _⟩ := I.tuple h.t
      exact .tup ho hc hd (by simpa using niss I hs e2 rv)
theorem niss (I : Inv X pins σ H s) : ∀ {vs : List V} {ds : List PyData} {us : List Value} {ks : List NestedKey}, DpFs X.K H vs ds → nkDs ds = some ks → Vals vs us → NestedAll s.heap ks us
  | _, _, _, _, .nil, e, r => by unfold nkDs at e; cases e; cases r; exact .nil
  | _, _, _, _, .cons (d := d) (ds := ds) h hs, e, r => by
    unfold nkDs at e
    cases e1 : nkD d with
    | none => rw [e1] at e; cases e
    | some k =>
      cases e2 : nkDs ds with
      | none => rw [e1, e2] at e; cases e
      | some ks =>
        rw [e1, e2] at e; cases e
        cases r with
        | cons r rs => exact .cons (nis I h e1 r) (niss I hs e2 rs)
end
theorem tkey_is (I : Inv X pins σ H s) {b : Addr} {d : PyData} {k : NestedKey} (h : DpF X.K H (.ref b) d) (e : tkey d = some k) : (nestedKind X.prog X.w).is s.heap k b := by
  unfold tkey at e
  split at e
  · split at e
    · rename_i k' ek
      split at e
      · cases e
        exact ⟨nis I h ek rfl, by assumption⟩
      · cases e
    · cases e
  · cases e
/-- what stands in a dict of tuples -/
def ddV : KAV → NestedKey → Option V
  | [], _ => none
  | x :: r, k => if x.1 = k then some x.2.2 else ddV r k
/-- at a stands a dict of tuples (the empty one too) -/
inductive DDat (X : Cx) (H : Hp) (a : Addr) : KAV → Prop
  | of {kvs : KAV} {ks : List PyData} : H a = some (dtO X.w a kvs) → DpFs X.K H (kvs.map fun x => .ref x.2.1) ks → ks.map tkey = kvs.map (fun x => some x.1) → DDat X H a kvs
  | emp : H a = some (.dK []) → DDat X H a []
theorem keys_is (I : Inv X pins σ H s) : ∀ {kvs : KAV} {ks : List PyData} {xs : List (NestedKey × Addr × Value)}, DpFs X.K H (kvs.map fun x => .ref x.2.1) ks → ks.map tkey = kvs.map (fun x => some x.1) → Paired RelX kvs xs → ∀ x ∈ xs, (nestedKind X.prog X.w).is s.heap x.1 x.2.1
  | [], ks, xs, h, e, p => by cases p; exact fun _ q => nomatch q
  | y :: kvs, ks, xs, h, e, p => by
    cases p with
    | @cons _ q _ qs r t =>
      cases h with
      | cons h hs =>
        simp only [List.map_cons, List.cons.injEq] at e
        intro x hx
        rcases List.mem_cons.mp hx with rfl | hx
        · obtain ⟨r1, r2, _⟩ := r
          rw [← r1, ← r2]
          exact tkey_is I h e.1
        · exact keys_is I hs e.2 t x hx
theorem DDat.rd (I : Inv X pins σ H s) {a : Addr} {kvs : KAV} (h : DDat X H a kvs) : kvs.length ≤ sizeLine ∧ (a == sysModules) = false ∧ ∃ xs, Paired RelX kvs xs ∧ s.heap.DictOfH (nestedKind X.prog X.w) a xs := by
  cases h with
  | of h hk e =>
    obtain ⟨⟨z, y, xs, p, o, es, ep, h1, h2, h3, h4, h5⟩, _⟩ := (show ObjOk X.prog X.w H s.heap a (dtO X.w a kvs) from I.hok a _ h)
    exact ⟨z, y, xs, p, o, es, ep, h1, h2, h3, h4, keys_is I hk e p, h5⟩
  | emp h =>
    obtain ⟨z, y, vs, r, o, es, ep, h1, h2, h3, h4, h5, h6⟩ := dk_of I.hok h
    cases r
    refine ⟨z, y, [], .nil, o, es, ep, h1, h2, h3, ?_, (fun x hx => absurd hx List.not_mem_nil), List.nodup_nil⟩
    generalize es.toList = l at h5 ⊢
    cases h5
    rfl
theorem ddV_val {kvs : KAV} {xs : List (NestedKey × Addr × Value)} (p : Paired RelX kvs xs) (k : NestedKey) : RelO (ddV kvs k) ((atKey xs k).map (·.2)) := by
  induction p with
  | nil => exact True.intro
  | @cons y q ys qs r t ih =>
    obtain ⟨r1, r2, r3⟩ := r
    unfold ddV
    by_cases e : y.1 = k
    · have e' : q.1 = k := r1.symm.trans e
      rw [if_pos e]
      have : (atKey (q :: qs) k).map (·.2) = some q.2.2 := by simp [atKey, List.find?_cons, e']
      rw [this]; exact r3
    · have e' : ¬ q.1 = k := fun z => e (r1.trans z)
      rw [if_neg e]
      have : (atKey (q :: qs) k).map (·.2) = (atKey qs k).map (·.2) := by simp [atKey, List.find?_cons, e']
      rw [this]; exact ih
/-- y is the key k -/
def TKey (K : PySem.W.Frag) (H : Hp) (y : V) (k : NestedKey) : Prop := ∃ b d, y = .ref b ∧ DpF K H (.ref b) d ∧ tkey d = some k
theorem room_nk (hu : X.A.units + 65 < cLine) : (nestedKind X.prog X.w).room X.A.in1 := by
  show X.A.units + 1 + 8 < cLine
  omega
def rInDD (X : Cx) (neg : Bool) : R2 := fun x y H Q => ∃ a kvs k, y = .ref a ∧ DDat X H a kvs ∧ TKey X.K H x k ∧ Q (.bl (neg != (ddV kvs k).isSome)) H
theorem op_inDD (hu : X.A.units + 65 < cLine) : OpR X (compareOp .In) (rInDD X false) := by
  intro pins s σ H x y v u Q I rx ry h
  obtain ⟨a, kvs, k, rfl, hd, ⟨b, d, rfl, hk, ek⟩, q⟩ := h
  cases rx
  cases ry
  obtain ⟨z, na, xs, p, dd⟩ := hd.rd I
  refine wpAny_in_heap (room_nk hu) (tkey_is I hk ek) na dd ?_
  have e := (ddV_val p k).isSome_eq
  rw [Option.isSome_map] at e
  rw [← e]
  exact ⟨.bl _, H, I.tok _, rfl, by simpa using q⟩
theorem op_notinDD (hu : X.A.units + 65 < cLine) : OpR X (compareOp .NotIn) (rInDD X true) := by
  intro pins s σ H x y v u Q I rx ry h
  obtain ⟨a, kvs, k, rfl, hd, ⟨b, d, rfl, hk, ek⟩, q⟩ := h
  cases rx
  cases ry
  obtain ⟨z, na, xs, p, dd⟩ := hd.rd I
  refine wpAny_notIn_heap (room_nk hu) (tkey_is I hk ek) na dd ?_
  have e := (ddV_val p k).isSome_eq
  rw [Option.isSome_map] at e
  rw [← e]
  exact ⟨.bl _, H, I.tok _, rfl, by simpa using q⟩
def rIxDD (X : Cx) : R2 := fun x y H Q => ∃ a kvs k v, x = .ref a ∧ DDat X H a kvs ∧ TKey X.K H y k ∧ ddV kvs k = some v ∧ Q v H
theorem ix_DD (hu : X.A.units + 65 < cLine) : IxR X (rIxDD X) := by
  intro value slice pins s σ H x y v u Q I rx ry h hs
  obtain ⟨a, kvs, k, r, rfl, hd, ⟨b, d, rfl, hk, ek⟩, ev, q⟩ := h
  cases rx
  cases ry
  obtain ⟨z, na, xs, p, dd⟩ := hd.rd I
  obtain ⟨w', hw, rw'⟩ := RelO.some_of (v := r) (o := (atKey xs k).map (·.2)) (by rw [← ev]; exact ddV_val p k)
  obtain ⟨p', hp, hp2⟩ := Option.map_eq_some_iff.mp hw
  refine tail_any dd.typeIs slot_dict_getitem.lookup (wpAny_getItem_heap (room_nk hu) (tkey_is I hk ek) dd hp ?_) hs
  rw [hp2]
  exact ⟨r, H, I.tok _, rw', q⟩
/-- the entries behind a store -/
def ddP : KAV → NestedKey → Addr → V → KAV
  | [], k, b, v => [(k, b, v)]
  | x :: r, k, b, v => if x.1 = k then (x.1, x.2.1, v) :: r else x :: ddP r k b v
theorem ddP_put {kvs : KAV} {xs : List (NestedKey × Addr × Value)} {k : NestedKey} {b : Addr} {v : V} {u : Value} (p : Paired RelX kvs xs) (rv : RelV v u) (hn : (xs.map (·.1)).Nodup) : Paired RelX (ddP kvs k b v) (storedH xs k b u) := by
  induction p with
  | nil => exact .cons ⟨rfl, rfl, rv⟩ .nil
  | @cons y q ys qs r t ih =>
    obtain ⟨r1, r2, r3⟩ := r
    rw [List.map_cons, List.nodup_cons] at hn
    unfold ddP
    by_cases e : y.1 = k
    · have e' : q.1 = k := r1.symm.trans e
      rw [if_pos e]
      have hm : qs.map (putAt k u) = qs := by
        rw [List.map_congr_left (g := id) fun z hz => ?_, List.map_id]
        unfold putAt
        rw [if_neg fun ez => hn.1 (by rw [e', ← ez]; exact List.mem_map.mpr ⟨z, hz, rfl⟩)]
        rfl
      have hs : storedH (q :: qs) k b u = (q.1, q.2.1, u) :: qs := by
        rw [storedH_old (p := q.2) (by simp [atKey, List.find?_cons, e'])]
        rw [List.map_cons, hm]
        unfold putAt
        rw [if_pos e']
      rw [hs]
      exact .cons ⟨r1, r2, rv⟩ t
    · have e' : ¬ q.1 = k := fun z => e (r1.trans z)
      rw [if_neg e]
      have hs : storedH (q :: qs) k b u = q :: storedH qs k b u := by
        have ea : atKey (q :: qs) k = atKey qs k := by simp [atKey, List.find?_cons, e']
        unfold storedH
        rw [ea]
        split
        · rw [List.map_cons]
          unfold putAt
          rw [if_neg e']
        · rfl
      rw [hs]
      exact .cons ⟨r1, r2, r3⟩ (ih hn.2)
theorem ddP_len : ∀ (kvs : KAV) (k : NestedKey) (b : Addr) (v : V), (ddP kvs k b v).length ≤ kvs.length + 1
  | [], _, _, _ => Nat.le_refl _
  | x :: r, k, b, v => by
    unfold ddP
    split
    · simp
    · have := ddP_len r k b v
      simp only [List.length_cons]
      omega
def rSetDD (X : Cx) : TSet := fun o i v H Q => ∃ a b kvs k d, o = .ref a ∧ i = .ref b ∧ DDat X H a kvs ∧ DpF X.K H (.ref b) d ∧ tkey d = some k ∧ kvs.length < sizeLine ∧ Q (upd H a (dtO X.w a (ddP kvs k b v)))
theorem set_DD (hu : X.A.units + 65 < cLine) : PSet X (rSetDD X) := by
  intro pins s σ H o i v ov iv u Q I ro ri rv h
  obtain ⟨a, b, kvs, k, d, rfl, rfl, hd, hk, ek, hl, q⟩ := h
  cases ro
  cases ri
  obtain ⟨z, na, xs, p, dd⟩ := hd.rd I
  have hz : xs.length ≤ sizeLine := by rw [← Paired.length p]; exact z
  refine wpAny_setItem_heap (hsz := hz) (room_nk hu) (tkey_is I hk ek) dd fun h' dd' hs => ⟨_, ?_, q⟩
  have hn : (xs.map (·.1)).Nodup := dd.nodup
  obtain ⟨o, es, ep, hq, h2, h3, h4, _, h5⟩ := dd'
  have mu : Mut (H a) := by
    cases hd with
    | of h _ _ => rw [h]; exact True.intro
    | emp h => rw [h]; exact True.intro
  have hP : dtP X.w a (ddP kvs k b v) h' := ⟨by have := ddP_len kvs k b v; omega, na, _, ddP_put p rv hn, o, es, ep, hq, h2, h3, h4, h5⟩
  refine d_write I mu hs ⟨o, hq⟩ ⟨hP, ⟨o, hq⟩, fun h1 h2 ⟨z1, z2, ys, y1, o1, es1, ep1, y2, y3⟩ st => ⟨z1, z2, ys, y1, o1, es1, ep1, st _ y2, y3⟩⟩
def rLenDD (X : Cx) : List V → Hp → VK → Prop := fun xs H Q => ∃ a kvs, xs = [.ref a] ∧ DDat X H a kvs ∧ Q (.int kvs.length) H
theorem call_lenDD : CallR X (.builtin "len") (rLenDD X) := by
  intro pins s σ H xs us Q I r h
  obtain ⟨a, kvs, rfl, hd, q⟩ := h
  obtain rfl := Vals.ref1 r
  obtain ⟨z, na, ys, p, dd⟩ := hd.rd I
  have hl := Paired.length p
  refine PyProof.Rows.call_len_slot (n := ys.length) dd.typeIs PySem.F.slot_dict_len (fun Q' hq => len_keyed na (⟨ys, dd, rfl⟩ : s.heap.DictKeyed (nestedKind X.prog X.w) a (pairsH ys)) (by rw [pairsH_length]; exact hq)) (by omega) (by rw [sizeLine_eq] at z; omega) ?_
  rw [← hl]
  exact ⟨.int kvs.length, H, I.tok _, ⟨_, rfl⟩, q⟩
theorem tkey_ref {K : PySem.W.Frag} {v : V} {d : PyData} {k : NestedKey} (h : DpF K H v d) (e : tkey d = some k) : ∃ b, v = .ref b := by
  cases h with
  | tup _ _ => exact ⟨_, rfl⟩
  | lst _ _ => exact ⟨_, rfl⟩
  | dct _ => exact ⟨_, rfl⟩
  | dc1 _ => exact ⟨_, rfl⟩
  | non => unfold tkey at e; cases e
  | bl _ => unfold tkey at e; cases e
  | int _ => unfold tkey at e; cases e
  | str _ => unfold tkey at e; cases e
def rInDK (neg : Bool) : R2 := fun x y H Q => ∃ a kvs k, y = .ref a ∧ x = kV k ∧ H a = some (.dK kvs) ∧ Q (.bl (neg != (valV kvs k).isSome)) H
theorem op_inDK (hu : X.A.units + 65 < cLine) : OpR X (compareOp .In) (rInDK false) := by
  intro pins s σ H x y v u Q I rx ry h
  obtain ⟨a, kvs, k, rfl, rfl, ha, q⟩ := h
  cases ry
  exact d_in (by omega) I (DGet.k ha) rx fun s' I' => ⟨.bl _, H, I', rfl, by simpa using q⟩
theorem op_notinDK (hu : X.A.units + 65 < cLine) : OpR X (compareOp .NotIn) (rInDK true) := by
  intro pins s σ H x y v u Q I rx ry h
  obtain ⟨a, kvs, k, rfl, rfl, ha, q⟩ := h
  cases ry
  exact d_notIn (by omega) I (DGet.k ha) rx fun s' I' => ⟨.bl _, H, I', rfl, by simpa using q⟩
def rIxDK : R2 := fun x y H Q => ∃ a kvs k v, x = .ref a ∧ y = kV k ∧ H a = some (.dK kvs) ∧ valV kvs k = some v ∧ Q v H
theorem ix_DK (hu : X.A.units + 65 < cLine) : IxR X rIxDK := by
  intro value slice pins s σ H x y v u Q I rx ry h hs
  obtain ⟨a, kvs, k, r, rfl, rfl, ha, ev, q⟩ := h
  cases rx
  have g : DGet H a (kV k) (some r) := by rw [← ev]; exact DGet.k ha
  exact tail_any (dict_typeIs I g) slot_dict_getitem.lookup (d_getItem (by omega) I g ry fun w' s' I' rw' => ⟨r, H, I', rw', q⟩) hs
end
end Vs
/-! V3: operators and built-ins on values, with their rules. -/
namespace Vs
open PySem PySem.Spec L2
open PyProof.Rows hiding St

abbrev DI (i : Int) : D := .sh (.int i)
abbrev DB (b : Bool) : D := .sh (.bool b)
abbrev DS (x : Str) : D := .sh (.str x)
/-- an owned list of shared things -/
abbrev DL (l : List PyData) : D := .ls (l.map .sh)
abbrev DT (l : List PyData) : D := .sh (.tuple l)
def guardO (c : Bool) (d : D) : Option D := if c = true then some d else none
theorem guardO_some {c : Bool} {d e : D} (h : guardO c d = some e) : c = true ∧ d = e := by
  unfold guardO at h
  split at h
  · exact ⟨by assumption, Option.some.inj h⟩
  · cases h
@[simp] theorem guardO_true {d : D} : guardO true d = some d := rfl

/-- an owned list of shared things -/
def D.own : D → Option (List PyData)
  | .ls ds => unsh ds
  | _ => none
def oAdd : D → D → Option D
  | .sh (.int i), .sh (.int j) => some (DI (i + j))
  | .sh (.str x), .sh (.str y) => guardO (decide (x.length + y.length ≤ sizeLine)) (DS (x ++ y))
  | .sh (.tuple l), .sh (.tuple m) => guardO (decide (l.length + m.length ≤ sizeLine)) (DT (l ++ m))
  | .ls ds, .ls es => match unsh ds, unsh es with
    | some l, some m => guardO (decide (l.length + m.length ≤ sizeLine)) (DL (l ++ m))
    | _, _ => none
  | _, _ => none
def oInt2 (f : Int → Int → Int) (c : Int → Int → Bool) : D → D → Option D
  | .sh (.int i), .sh (.int j) => guardO (c i j) (DI (f i j))
  | _, _ => none
def small64b (i : Int) : Bool := decide (i.natAbs < 18446744073709551616)
def oMul : D → D → Option D
  | .sh (.int i), .sh (.int j) => guardO (small64b i || small64b j) (DI (i * j))
  | .ls ds, .sh (.int k) => match unsh ds with
    | some l => guardO (decide (k < 16777216) && decide (-16777216 < k) && decide (l.length * k.toNat ≤ sizeLine)) (DL (List.replicate k.toNat l).flatten)
    | none => none
  | .sh (.tuple l), .sh (.int k) => guardO (decide (-1000 ≤ k) && decide (k ≤ 2000) && decide (l.length ≤ 1000)) (DT (List.replicate k.toNat l).flatten)
  | _, _ => none
def oCmpI (f : Int → Int → Bool) : D → D → Option D
  | .sh (.int i), .sh (.int j) => some (DB (f i j))
  | _, _ => none
/-- i <= j, for tuples of numbers too -/
def leI : List Int → List Int → Bool
  | [], _ => true
  | _ :: _, [] => false
  | i :: l, j :: m => if i = j then leI l m else decide (i < j)
def oEq (neg : Bool) (x y : D) : Option D := match x.py, y.py with
  | some p, some q => guardO (SeqAt.shaped p && SeqAt.shaped q) (DB (neg != PyData.eqv p q))
  | _, _ => none
def dkGet : List Key → List D → Key → Option D
  | k :: ks, d :: ds, q => if k = q then some d else dkGet ks ds q
  | _, _, _ => none
def ddGet : List PyData → List D → NestedKey → Option D
  | q :: ks, d :: ds, k => if tkey q = some k then some d else ddGet ks ds k
  | _, _, _ => none
/-- a key of a dict of numbers and texts -/
def kOf : PyData → Option Key
  | .int i => some (.inl i)
  | .str x => some (.inr x)
  | _ => none
def dIn (neg : Bool) : D → D → Option D
  | .sh kd, .dk ks _ => match kOf kd with
    | some k => some (DB (neg != ks.any fun q => decide (q = k)))
    | none => match tkey kd, ks with
      | some _, [] => some (DB neg)
      | _, _ => none
  | .sh kd, .dd ks ds => match tkey kd with
    | some k => some (DB (neg != (ddGet ks ds k).isSome))
    | none => none
  | _, _ => none
def oIn (neg : Bool) (x y : D) : Option D := match x.py, y.py with
  | some p, some (.list l) => guardO (SeqAt.shaped p && SeqAt.shaped (.list l)) (DB (neg != l.any fun z => PyData.eqv z p))
  | some p, some (.tuple l) => guardO (SeqAt.shaped p && SeqAt.shaped (.tuple l)) (DB (neg != l.any fun z => PyData.eqv z p))
  | _, _ => dIn neg x y
def oIs (neg : Bool) : D → D → Option D
  | .sh p, .sh .none => some (DB (neg != match p with | .none => true | _ => false))
  | _, .sh .none => some (DB neg)
  | _, _ => none
def shOnly : Option D → Option D
  | some (.sh p) => some (.sh p)
  | _ => none
def oIx : D → D → Option D
  | .ls ds, .sh (.int i) => shOnly (atI ds i)
  | .tp ds, .sh (.int i) => shOnly (atI ds i)
  | .sh (.list l), .sh (.int i) => (atI l i).map .sh
  | .sh (.tuple l), .sh (.int i) => (atI l i).map .sh
  | .sh (.str z), .sh (.int i) => if z.length ≤ sizeLine then (atI z.cps.toList i).map fun c => DS ⟨#[c]⟩ else none
  | .dk ks ds, .sh kd => match kOf kd with
    | some k => shOnly (dkGet ks ds k)
    | none => none
  | .dd ks ds, .sh kd => match tkey kd with
    | some k => shOnly (ddGet ks ds k)
    | none => none
  | _, _ => none
def cutL (xs : List PyData) (lo hi : Option Int) : List PyData := (xs.drop (HT.sIx xs.length 0 lo)).take (HT.sIx xs.length xs.length hi - HT.sIx xs.length 0 lo)
def oSl (lo hi : Option Int) : D → Option D
  | .ls ds => match unsh ds with
    | some l => some (DL (cutL l lo hi))
    | none => none
  | .sh (.list l) => some (DL (cutL l lo hi))
  | .sh (.tuple l) => some (DT (cutL l lo hi))
  | _ => none
def oLen : D → Option D
  | .sh (.list l) => some (DI l.length)
  | .sh (.tuple l) => some (DI l.length)
  | .sh (.str x) => guardO (decide (x.length ≤ sizeLine)) (DI x.length)
  | .ls ds => some (DI ds.length)
  | .tp ds => some (DI ds.length)
  | .dk ks _ => some (DI ks.length)
  | .dd ks _ => some (DI ks.length)
  | _ => none
def oNeg : D → Option D
  | .sh (.int i) => some (DI (-i))
  | _ => none
def oAbs : D → Option D
  | .sh (.int i) => some (DI (if i < 0 then -i else i))
  | _ => none
def oInt : D → Option D
  | .sh (.int i) => some (DI i)
  | .sh (.bool b) => some (DI (if b then 1 else 0))
  | _ => none
def oRepr (x : D) : Option D := match x.py with
  | some p => guardO (p.showable && decide (p.depth ≤ 60) && decide (p.shown.length ≤ sizeLine)) (DS p.shown)
  | none => none
/-- a store in a dict of tuples -/
def ddPut : List PyData → List D → PyData → NestedKey → D → List PyData × List D
  | q :: ks, e :: ds, kk, k, d => if tkey q = some k then (q :: ks, d :: ds) else (q :: (ddPut ks ds kk k d).1, e :: (ddPut ks ds kk k d).2)
  | _, _, kk, _, d => ([kk], [d])
/-- dict(..) of pairs -/
def dctF : List PyData → List PyData → List D → Option (List PyData × List D)
  | [], ks, ds => some (ks, ds)
  | .tuple [k, v] :: l, ks, ds => match tkey k with
    | some q => dctF l (ddPut ks ds k q (.sh v)).1 (ddPut ks ds k q (.sh v)).2
    | none => none
  | _ :: _, _, _ => none
def oDct (x : D) : Option D := match x.seq with
  | some (.lst, l) => if l.length ≤ 1000000 then (match dctF l [] [] with
    | some q => some (.dd q.1 q.2)
    | none => none) else none
  | _ => none
/-- the keys of a dict of tuples -/
def keysD : D → Option (List PyData)
  | .dk [] [] => some []
  | .dd ks _ => some ks
  | .fd ks _ => some ks
  | _ => none
def oList (x : D) : Option D := match x.seq with
  | some (_, l) => some (DL l)
  | none => match keysD x with
    | some l => some (DL l)
    | none => none
def oTuple (x : D) : Option D := match x.seq with
  | some (_, l) => some (DT l)
  | none => none
def allAlike (l : List PyData) : Bool := l.all fun a => l.all fun b => PySem.W.alike a b
def tupB : PyData → Bool
  | .tuple _ => true
  | _ => false
def headB : PyData → Bool
  | .tuple (_ :: _) => true
  | _ => false
def sortable2B (l : List PyData) : Bool := (l.all fun d => match d with | .tuple (_ :: _) => true | _ => false) || (l.all fun d => match d with | .none => false | .tuple _ => false | _ => true)
def sortableB (l : List PyData) : Bool := ((l.all fun d => match d with | .tuple (_ :: _) => true | _ => false) || (l.all fun d => match d with | .none => false | .tuple _ => false | _ => true)) || (l.all tupB && !(l.all headB))
/-- sorted of a tuple, of a dict's keys -/
def sortD (l : List PyData) : Option D := guardO (allAlike l && sortable2B l && decide (PyData.depthAll l ≤ 60)) (DL (l.mergeSort (PySem.W.dataLe false id)))
def oSorted (x : D) : Option D := match x.seq with
  | some (.lst, l) => guardO (allAlike l && sortableB l && decide (PyData.depthAll l ≤ 60)) (DL (l.mergeSort (PySem.W.dataLe false id)))
  | some (.tup, l) => sortD l
  | none => match keysD x with
    | some l => sortD l
    | none => none
def intsOf : List PyData → Option (List Int)
  | [] => some []
  | .int i :: r => match intsOf r with
    | some l => some (i :: l)
    | none => none
  | _ :: _ => none
@[simp] theorem intsOf_map (l : List Int) : intsOf (l.map .int) = some l := by
  induction l with
  | nil => rfl
  | cons d l ih => simp [intsOf, ih]
def oSum (x : D) : Option D := match x.seq with
  | some (.lst, l) => match intsOf l with
    | some ns => some (DI ns.sum)
    | none => none
  | _ => none
def boolsOf : List PyData → Option (List Bool)
  | [] => some []
  | .bool i :: r => match boolsOf r with
    | some l => some (i :: l)
    | none => none
  | _ :: _ => none
@[simp] theorem boolsOf_map (l : List Bool) : boolsOf (l.map .bool) = some l := by
  induction l with
  | nil => rfl
  | cons d l ih => simp [boolsOf, ih]
def oAll (x : D) : Option D := match x.seq with
  | some (.lst, l) => match boolsOf l with
    | some ns => some (DB (ns.all id))
    | none => none
  | _ => none
def oAny (x : D) : Option D := match x.seq with
  | some (.lst, l) => match boolsOf l with
    | some ns => some (DB (ns.any id))
    | none => none
  | _ => none
def oLe : D → D → Option D
  | .sh (.int i), .sh (.int j) => some (DB (decide (i ≤ j)))
  | .sh (.tuple l), .sh (.tuple m) => match intsOf l, intsOf m with
    | some a, some b => some (DB (leI a b))
    | _, _ => none
  | _, _ => none
/-- str(i) -/
def oStr : D → Option D
  | .sh (.int i) => guardO (decide (i.natAbs.log2 < 1920)) (DS (Str.ofString (toString i)))
  | _ => none
inductive Ty where
  | int | bool | str | list | tuple | dict
  deriving DecidableEq
def Ty.nm : Ty → String
  | .int => "int" | .bool => "bool" | .str => "str" | .list => "list" | .tuple => "tuple" | .dict => "dict"
def D.ty : D → Option String
  | .sh .none => some "NoneType"
  | .sh (.bool _) => some "bool"
  | .sh (.int _) => some "int"
  | .sh (.str _) => some "str"
  | .sh (.list _) => some "list"
  | .sh (.tuple _) => some "tuple"
  | .sh (.dict _) => some "dict"
  | .ls _ => some "list"
  | .tp _ => some "tuple"
  | .dk _ _ => some "dict"
  | _ => none
def isiTab (a : String) (t : Ty) : Bool := match t with
  | .int => a == "int" || a == "bool"
  | t => a == t.nm
def oIsi (t : Ty) (x : D) : Option D := match x.ty with
  | some a => some (DB (isiTab a t))
  | none => none
end Vs
/-! V4: the rules of the operators and built-ins. -/
namespace Vs
open PySem PySem.Spec L2
open PyProof.Rows hiding St
def r2 (G : Ga) (o : D → D → Option D) : R2 := fun x y H Q => ∃ d e z T T', Rep G H x d T ∧ Rep G H y e T' ∧ o d e = some z ∧ NewR G H z Q
def r1 (G : Ga) (o : D → Option D) : List V → Hp → VK → Prop := fun vs H Q => ∃ x d z T, vs = [x] ∧ Rep G H x d T ∧ o d = some z ∧ NewR G H z Q
section
variable {X : Cx} {G : Ga} {H : Hp}
theorem NewR.int {i : Int} {Q : VK} (h : NewR G H (DI i) Q) : Q (.int i) H := h.sh (.int i)
theorem NewR.bl {i : Bool} {Q : VK} (h : NewR G H (DB i) Q) : Q (.bl i) H := h.sh (.bl i)
theorem NewR.str {i : Str} {Q : VK} (h : NewR G H (DS i) Q) : Q (.str i) H := h.sh (.str i)
theorem Rep.tupN_of {v : V} {l : List PyData} {T : List Addr} (h : Rep G H v (.sh (.tuple l)) T) : ∃ a xs, v = .ref a ∧ SqN G.K H a xs ∧ DpFs G.K H xs l := by
  cases h with | sh h => cases h with | tup a b => exact ⟨_, _, rfl, a, b⟩
theorem Rep.tup_of {v : V} {l : List PyData} {T : List Addr} (h : Rep G H v (.sh (.tuple l)) T) : ∃ a xs, v = .ref a ∧ SqT G.K H a xs ∧ DpFs G.K H xs l := by
  obtain ⟨a, xs, e, q, d⟩ := h.tupN_of
  exact ⟨a, xs, e, q.t, d⟩
theorem Rep.fl_of {v : V} {l : List PyData} {T : List Addr} (h : Rep G H v (.sh (.list l)) T) : ∃ a xs, v = .ref a ∧ SqL G.K H a xs ∧ DpFs G.K H xs l := by
  cases h with | sh h => cases h with | lst a b => exact ⟨_, _, rfl, a.seq, b⟩
theorem Rep.ls_of {v : V} {ds : List D} {l : List PyData} {T : List Addr} (h : Rep G H v (.ls ds) T) (e : unsh ds = some l) : ∃ a xs, v = .ref a ∧ H a = some (.lst xs) ∧ DpFs G.K H xs l := by
  cases h with | ls a b => exact ⟨_, _, rfl, a, (b.of_unsh e).1⟩
theorem int2_of {o : Int → Int → Int} {c : Int → Int → Bool} {x y : V} {d e z : D} {T T' : List Addr} (hx : Rep G H x d T) (hy : Rep G H y e T') (h : oInt2 o c d e = some z) : ∃ i j, x = .int i ∧ y = .int j ∧ c i j = true ∧ z = DI (o i j) := by
  unfold oInt2 at h
  split at h
  · obtain ⟨a, b⟩ := guardO_some h
    exact ⟨_, _, hx.int_of, hy.int_of, a, b.symm⟩
  · cases h
theorem opImp {f : Value → Value → Sem Value} {r r' : R2} (h : OpR X f r) (i : ∀ x y H Q, r' x y H Q → r x y H Q) : OpR X f r' := fun pins s σ H x y v u Q I rx ry q => h pins s σ H x y v u Q I rx ry (i _ _ _ _ q)
theorem callImp {f : Value} {r r' : List V → Hp → VK → Prop} (h : CallR X f r) (i : ∀ xs H Q, r' xs H Q → r xs H Q) : CallR X f r' := fun pins s σ H xs us Q I rx q => h pins s σ H xs us Q I rx (i _ _ _ q)
theorem OpR.cases {f : Value → Value → Sem Value} {r : R2} (h : ∀ x y H Q, r x y H Q → ∃ r', OpR X f r' ∧ r' x y H Q) : OpR X f r := fun pins s σ H x y v u Q I rx ry q => by
  obtain ⟨r', a, b⟩ := h _ _ _ _ q
  exact a pins s σ H x y v u Q I rx ry b
theorem CallR.cases {f : Value} {r : List V → Hp → VK → Prop} (h : ∀ xs H Q, r xs H Q → ∃ r', CallR X f r' ∧ r' xs H Q) : CallR X f r := fun pins s σ H x v Q I rx q => by
  obtain ⟨r', a, b⟩ := h _ _ _ q
  exact a pins s σ H x v Q I rx b

theorem v_add (hG : G.K = X.K) : OpR X (binaryOp .Add) (r2 G oAdd) := OpR.cases fun x y H Q ⟨d, e, z, T, T', hx, hy, ho, hn⟩ => by
  unfold oAdd at ho
  split at ho
  · cases ho
    exact ⟨_, op_add, _, _, hx.int_of, hy.int_of, hn.int⟩
  · obtain ⟨c, rfl⟩ := guardO_some ho
    exact ⟨_, op_add_str, _, _, hx.str_of, hy.str_of, of_decide_eq_true c, hn.str⟩
  · obtain ⟨c, rfl⟩ := guardO_some ho
    obtain ⟨a, xs, rfl, ha, da⟩ := hx.tupN_of
    obtain ⟨b, ys, rfl, hb, db⟩ := hy.tupN_of
    have c := of_decide_eq_true c
    refine ⟨_, op_catN, a, b, xs, ys, rfl, rfl, hG ▸ ha.t, hG ▸ hb.t, by rw [da.len, db.len]; exact c, fun e => ?_, fun _ e => ?_, fun _ _ p o hp ho => ?_⟩
    · have : _ = _ := da.nil_iff.mp e
      subst this
      exact hn.sh (.tup hb db)
    · have : _ = _ := db.nil_iff.mp e
      subst this
      rw [List.append_nil] at hn
      exact hn.sh (.tup ha da)
    · exact hn.tup (da.app db) hp ho
  · split at ho
    · obtain ⟨c, rfl⟩ := guardO_some ho
      obtain ⟨a, xs, rfl, ha, da⟩ := hx.ls_of (by assumption)
      obtain ⟨b, ys, rfl, hb, db⟩ := hy.ls_of (by assumption)
      have c := of_decide_eq_true c
      exact ⟨_, op_cat, a, b, xs, ys, rfl, rfl, ha, hb, by rw [da.len, db.len]; exact c, fun p hp => hn.lst (da.app db) hp⟩
    · cases ho
  · cases ho
theorem v_int2 {op : Operator} {o : Int → Int → Int} {c : Int → Int → Bool} {C : Int → Int → Prop} (h : OpR X (binaryOp op) (rI C fun i j => .int (o i j))) (hc : ∀ i j, c i j = true → C i j) : OpR X (binaryOp op) (r2 G (oInt2 o c)) :=
  opImp h fun x y H Q ⟨d, e, z, T, T', hx, hy, ho, hn⟩ => by
    obtain ⟨i, j, rfl, rfl, a, rfl⟩ := int2_of hx hy ho
    exact ⟨i, j, rfl, rfl, hc i j a, hn.int⟩
theorem v_int20 {op : Operator} {o : Int → Int → Int} (h : OpR X (binaryOp op) (rI0 fun i j => .int (o i j))) : OpR X (binaryOp op) (r2 G (oInt2 o fun _ _ => true)) :=
  opImp h fun x y H Q ⟨d, e, z, T, T', hx, hy, ho, hn⟩ => by
    obtain ⟨i, j, rfl, rfl, a, rfl⟩ := int2_of hx hy ho
    exact ⟨i, j, rfl, rfl, hn.int⟩
theorem small64_mul {i j : Int} (h : (small64b i || small64b j) = true) : CMul i j := by
  rcases (Bool.or_eq_true _ _).mp h with h | h
  · have := of_decide_eq_true h; left; omega
  · have := of_decide_eq_true h; right; omega
theorem v_mul (hG : G.K = X.K) : OpR X (binaryOp .Mult) (r2 G oMul) := OpR.cases fun x y H Q ⟨d, e, z, T, T', hx, hy, ho, hn⟩ => by
  unfold oMul at ho
  split at ho
  · obtain ⟨c, rfl⟩ := guardO_some ho
    exact ⟨_, op_mul, _, _, hx.int_of, hy.int_of, small64_mul c, hn.int⟩
  · split at ho
    · obtain ⟨c, rfl⟩ := guardO_some ho
      simp only [Bool.and_eq_true, decide_eq_true_eq] at c
      obtain ⟨a, xs, rfl, ha, da⟩ := hx.ls_of (by assumption)
      exact ⟨_, op_rep, a, _, xs, rfl, hy.int_of, ha, by omega, by omega, by rw [da.len]; exact c.2, fun p hp => hn.lst (da.rep _) hp⟩
    · cases ho
  · rename_i l k
    obtain ⟨c, rfl⟩ := guardO_some ho
    simp only [Bool.and_eq_true, decide_eq_true_eq] at c
    obtain ⟨a, xs, rfl, ha, da⟩ := hx.tupN_of
    refine ⟨_, op_repN, a, _, xs, rfl, hy.int_of, hG ▸ ha.t, c.1.1, c.1.2, by rw [da.len]; exact c.2, fun e => ?_, fun _ p o hp ho => hn.tup (da.rep _) hp ho⟩
    have r := da.rep k.toNat
    have ex : (List.replicate k.toNat xs).flatten = xs := by
      rcases e with rfl | rfl
      · simp
      · simp
    rw [ex] at r
    exact hn.sh (.tup ha r)
  · cases ho
theorem v_cmpI {op : CmpOp} {o : Int → Int → Bool} (h : OpR X (compareOp op) (rI0 fun i j => .bl (o i j))) : OpR X (compareOp op) (r2 G (oCmpI o)) :=
  opImp h fun x y H Q ⟨d, e, z, T, T', hx, hy, ho, hn⟩ => by
    unfold oCmpI at ho
    split at ho
    · cases ho; exact ⟨_, _, hx.int_of, hy.int_of, hn.bl⟩
    · cases ho
theorem leI_at : ∀ (ns ms : List Int) (e r : Nat → Bool) (k : Nat), (∀ j, e (k + j) = decide (ns.getD j 0 = ms.getD j 0)) → (∀ j, r (k + j) = decide (ns.getD j 0 ≤ ms.getD j 0)) → Ob.lexAt e r (decide (ns.length ≤ ms.length)) k (min ns.length ms.length) = leI ns ms
  | [], ms, e, r, k, _, _ => by simp [leI, Ob.lexAt.eq_1]
  | n :: ns, [], e, r, k, _, _ => by simp [leI, Ob.lexAt.eq_1]
  | n :: ns, m :: ms, e, r, k, he, hr => by
    have h0 := he 0
    have r0 := hr 0
    have ih := leI_at ns ms e r (k + 1) (fun j => by have := he (j + 1); simpa [Nat.add_comm, Nat.add_left_comm, Nat.add_assoc] using this) (fun j => by have := hr (j + 1); simpa [Nat.add_comm, Nat.add_left_comm, Nat.add_assoc] using this)
    simp only [Nat.add_zero, List.getD_cons_zero] at h0 r0
    have hm : min (n :: ns).length (m :: ms).length = (min ns.length ms.length).succ := by simp only [List.length_cons]; omega
    have hl : decide ((n :: ns).length ≤ (m :: ms).length) = decide (ns.length ≤ ms.length) := by simp
    rw [hm, hl, Ob.lexAt.eq_2, h0, r0, leI]
    by_cases hn : n = m
    · rw [if_pos hn, if_pos (by simpa using hn)]; exact ih
    · rw [if_neg hn, if_neg (by simpa using hn)]
      by_cases hlt : n < m
      · simp [hlt, Int.le_of_lt hlt]
      · have : ¬ n ≤ m := by omega
        simp [hlt, this]
theorem ints_of4 {G : Ga} {H : Hp} : ∀ {l : List PyData} {ns : List Int} {xs : List V}, intsOf l = some ns → DpFs G.K H xs l → xs = ns.map V.int
  | [], ns, xs, e, h => by unfold intsOf at e; cases e; cases h; rfl
  | d :: l, ns, xs, e, h => by
    cases h with
    | cons h hs =>
      cases h with
      | int i =>
        unfold intsOf at e
        cases e2 : intsOf l with
        | none => rw [e2] at e; cases e
        | some m => rw [e2] at e; cases e; rw [ints_of4 e2 hs]; rfl
      | _ => unfold intsOf at e; cases e
theorem v_le (hG : G.K = X.K) (hu : X.A.units < cLine) : OpR X (compareOp .LtE) (r2 G oLe) := OpR.cases fun x y H Q ⟨d, e, z, T, T', hx, hy, ho, hn⟩ => by
  unfold oLe at ho
  split at ho
  · cases ho
    exact ⟨_, op_le, _, _, hx.int_of, hy.int_of, hn.bl⟩
  · split at ho
    · rename_i ea eb
      cases ho
      obtain ⟨a, xs, rfl, q, hs⟩ := hx.tup_of
      obtain ⟨b, ys, rfl, q', hs'⟩ := hy.tup_of
      cases ints_of4 ea hs
      cases ints_of4 eb hs'
      refine ⟨_, op_leT hu, a, b, _, _, rfl, rfl, hG ▸ q, hG ▸ q', ?_⟩
      rw [leI_at _ _ _ _ 0 (fun j => by rw [Nat.zero_add]) (fun j => by rw [Nat.zero_add])]
      exact hn.bl
    · cases ho
  · cases ho
theorem v_eq (hG : G.K = X.K) (hu : X.A.units + 64 < cLine) : OpR X (compareOp .Eq) (r2 G (oEq false)) := opImp (op_eqD hu) fun x y H Q ⟨d, e, z, T, T', hx, hy, ho, hn⟩ => by
  unfold oEq at ho
  split at ho
  · obtain ⟨c, rfl⟩ := guardO_some ho
    simp only [Bool.and_eq_true] at c
    exact ⟨_, _, hG ▸ hx.dp (by assumption) (nd_shaped c.1), hG ▸ hy.dp (by assumption) (nd_shaped c.2), c.1, c.2, by have := hn.bl; simpa using this⟩
  · cases ho
theorem v_ne (hG : G.K = X.K) (hu : X.A.units + 64 < cLine) : OpR X (compareOp .NotEq) (r2 G (oEq true)) := opImp (op_neD hu) fun x y H Q ⟨d, e, z, T, T', hx, hy, ho, hn⟩ => by
  unfold oEq at ho
  split at ho
  · obtain ⟨c, rfl⟩ := guardO_some ho
    simp only [Bool.and_eq_true] at c
    exact ⟨_, _, hG ▸ hx.dp (by assumption) (nd_shaped c.1), hG ▸ hy.dp (by assumption) (nd_shaped c.2), c.1, c.2, by have := hn.bl; simpa using this⟩
  · cases ho
def rInT (K : PySem.W.Frag) (neg : Bool) : R2 := fun x y H Q => ∃ d ds, Dp K H x d ∧ Dp K H y (.tuple ds) ∧ SeqAt.shaped d = true ∧ SeqAt.shaped (.tuple ds) = true ∧ Q (.bl (neg != ds.any fun z => PyData.eqv z d)) H
theorem in_room {K : PySem.W.Frag} {A : Around} {d : PyData} {ds : List PyData} (sd : SeqAt.shaped d = true) (hu : A.units + 65 < cLine) : A.units + 1 + min (PyData.depthAll ds) d.depth < cLine := by
  have h1 := SeqAt.depth_of_shaped sd
  have h2 : min (PyData.depthAll ds) d.depth ≤ d.depth := Nat.min_le_right _ _
  omega
theorem op_inT (hu : X.A.units + 65 < cLine) : OpR X (compareOp .In) (rInT X.K false) := by
  intro pins s σ H x y v u Q I rx ry ⟨d, ds, hd, he, sd, se, q⟩
  obtain ⟨as, r1⟩ := Dp.reads I d x v hd rx
  obtain ⟨bs, r2⟩ := Dp.reads I (.tuple ds) y u he ry
  exact SeqAt.in_tuple_reads r2 r1 (SeqAt.canLay_of_shaped se) (SeqAt.canLay_of_shaped sd) (in_room (K := X.K) sd hu) ⟨.bl _, H, I, rfl, by simpa using q⟩
theorem op_notInT (hu : X.A.units + 65 < cLine) : OpR X (compareOp .NotIn) (rInT X.K true) := by
  intro pins s σ H x y v u Q I rx ry ⟨d, ds, hd, he, sd, se, q⟩
  obtain ⟨as, r1⟩ := Dp.reads I d x v hd rx
  obtain ⟨bs, r2⟩ := Dp.reads I (.tuple ds) y u he ry
  exact SeqAt.notIn_tuple_reads r2 r1 (SeqAt.canLay_of_shaped se) (SeqAt.canLay_of_shaped sd) (in_room (K := X.K) sd hu) ⟨.bl _, H, I, rfl, by simpa using q⟩
theorem kOf_v {v : V} {d : PyData} {k : Key} {K : PySem.W.Frag} (h : DpF K H v d) (e : kOf d = some k) : v = kV k := by
  unfold kOf at e
  split at e
  · cases e; cases h; rfl
  · cases e; cases h; rfl
  · cases e
theorem dk_any (k : Key) : ∀ kvs : List (Key × V), ((kvs.map (·.1)).any fun q => decide (q = k)) = (valV kvs k).isSome := fun kvs => by
  rw [List.any_map, ← valV_any]
  rfl
theorem dd_some : ∀ {kvs : KAV} {ks : List PyData} {ds : List D} {T : List Addr} {k : NestedKey}, ks.map tkey = kvs.map (fun x => some x.1) → Reps G H (kvs.map (·.2.2)) ds T → (ddGet ks ds k).isSome = (ddV kvs k).isSome
  | [], ks, ds, T, k, e, r => by
    have : ks = [] := by simpa using e
    subst this
    rfl
  | x :: kvs, [], ds, T, k, e, r => by simp at e
  | x :: kvs, q :: ks, ds0, T, k, e, r => by
    simp only [List.map_cons, List.cons.injEq] at e
    rw [List.map_cons] at r
    cases r with
    | cons h hs =>
    unfold ddGet ddV
    rw [e.1]
    by_cases z : x.1 = k
    · rw [if_pos (by rw [z]), if_pos z]; rfl
    · rw [if_neg (fun y => z (Option.some.inj y)), if_neg z]; exact dd_some e.2 hs
theorem dd_at : ∀ {kvs : KAV} {ks : List PyData} {ds : List D} {T : List Addr} {k : NestedKey} {d : D}, ks.map tkey = kvs.map (fun x => some x.1) → Reps G H (kvs.map (·.2.2)) ds T → ddGet ks ds k = some d → ∃ v T', ddV kvs k = some v ∧ Rep G H v d T'
  | [], ks, ds, T, k, d, e, r, g => by
    have : ks = [] := by simpa using e
    subst this
    cases g
  | x :: kvs, [], ds, T, k, d, e, r, g => by simp at e
  | x :: kvs, q :: ks, ds0, T, k, d, e, r, g => by
    simp only [List.map_cons, List.cons.injEq] at e
    rw [List.map_cons] at r
    cases r with
    | cons h hs =>
    unfold ddGet at g
    unfold ddV
    rw [e.1] at g
    by_cases z : x.1 = k
    · rw [if_pos (by rw [z])] at g
      cases g
      rw [if_pos z]
      exact ⟨_, _, rfl, h⟩
    · rw [if_neg (fun y => z (Option.some.inj y))] at g
      rw [if_neg z]
      exact dd_at e.2 hs g
theorem dk_at' : ∀ {kvs : List (Key × V)} {ds : List D} {T : List Addr} {k : Key} {d : D}, Reps G H (kvs.map (·.2)) ds T → dkGet (kvs.map (·.1)) ds k = some d → ∃ v T', valV kvs k = some v ∧ Rep G H v d T'
  | [], ds, T, k, d, h, e => by simp [dkGet] at e
  | (q, v) :: kvs, ds0, T, k, d, r, e => by
    rw [List.map_cons] at r
    cases r with
    | cons h hs =>
    simp only [List.map_cons, dkGet] at e
    by_cases hk : q = k
    · rw [if_pos hk] at e
      cases e
      exact ⟨v, _, valV_pos hk, h⟩
    · rw [if_neg hk] at e
      obtain ⟨u, T', a, b⟩ := dk_at' hs e
      exact ⟨u, T', by rw [valV_neg hk]; exact a, b⟩
theorem Rep.ddat {v : V} {ks : List PyData} {ds : List D} {T : List Addr} (hG : G.K = X.K) (hw : G.w = X.w) (h : Rep G H v (.dd ks ds) T) : ∃ a kvs T', v = .ref a ∧ DDat X H a kvs ∧ ks.map tkey = kvs.map (fun x => some x.1) ∧ Reps G H (kvs.map (·.2.2)) ds T' ∧ ks.length = kvs.length := by
  cases h with
  | dd h hk e hs => exact ⟨_, _, _, rfl, .of (hw ▸ h) (hG ▸ hk) e, e, hs, by have := congrArg List.length e; simpa using this⟩
theorem in_dict (hG : G.K = X.K) (hw : G.w = X.w) (hu : X.A.units + 65 < cLine) {neg : Bool} {x y : V} {d e z : D} {T T' : List Addr} {Q : VK} (hx : Rep G H x d T) (hy : Rep G H y e T') (ho : dIn neg d e = some z) (hn : NewR G H z Q) : rInDK neg x y H Q ∨ rInDD X neg x y H Q := by
  unfold dIn at ho
  split at ho
  · rename_i kd ks ds
    cases hx with
    | sh hx =>
    cases hy with
    | @dk a kvs _ _ ha hs =>
    split at ho
    · rename_i k ek
      cases ho
      rw [dk_any] at hn
      exact .inl ⟨a, kvs, k, rfl, kOf_v hx ek, ha, hn.bl⟩
    · split at ho
      · rename_i k ek em
        cases ho
        have : kvs = [] := by simpa using em
        subst this
        obtain ⟨b, rfl⟩ := tkey_ref hx ek
        exact .inr ⟨a, [], k, rfl, .emp ha, ⟨b, kd, rfl, hG ▸ hx, ek⟩, by have := hn.bl; simpa [ddV] using this⟩
      · cases ho
  · rename_i kd ks ds
    cases hx with
    | sh hx =>
    split at ho
    · rename_i k ek
      cases ho
      obtain ⟨a, kvs, T2, rfl, hd, em, hs, _⟩ := hy.ddat hG hw
      obtain ⟨b, rfl⟩ := tkey_ref hx ek
      rw [dd_some em hs] at hn
      exact .inr ⟨a, kvs, k, rfl, hd, ⟨b, kd, rfl, hG ▸ hx, ek⟩, hn.bl⟩
    · cases ho
  · cases ho
theorem v_in (hG : G.K = X.K) (hw : G.w = X.w) (hu : X.A.units + 65 < cLine) : OpR X (compareOp .In) (r2 G (oIn false)) := OpR.cases fun x y H Q ⟨d, e, z, T, T', hx, hy, ho, hn⟩ => by
  unfold oIn at ho
  split at ho
  · obtain ⟨c, rfl⟩ := guardO_some ho
    simp only [Bool.and_eq_true] at c
    exact ⟨_, op_inD hu, _, _, hG ▸ hx.dp (by assumption) (nd_shaped c.1), hG ▸ hy.dp (by assumption) (nd_shaped c.2), c.1, c.2, by have := hn.bl; simpa using this⟩
  · obtain ⟨c, rfl⟩ := guardO_some ho
    simp only [Bool.and_eq_true] at c
    exact ⟨_, op_inT hu, _, _, hG ▸ hx.dp (by assumption) (nd_shaped c.1), hG ▸ hy.dp (by assumption) (nd_shaped c.2), c.1, c.2, hn.bl⟩
  · rcases in_dict hG hw hu hx hy ho hn with q | q
    · exact ⟨_, op_inDK hu, q⟩
    · exact ⟨_, op_inDD hu, q⟩
theorem v_notin (hG : G.K = X.K) (hw : G.w = X.w) (hu : X.A.units + 65 < cLine) : OpR X (compareOp .NotIn) (r2 G (oIn true)) := OpR.cases fun x y H Q ⟨d, e, z, T, T', hx, hy, ho, hn⟩ => by
  unfold oIn at ho
  split at ho
  · obtain ⟨c, rfl⟩ := guardO_some ho
    simp only [Bool.and_eq_true] at c
    exact ⟨_, op_notInD hu, _, _, hG ▸ hx.dp (by assumption) (nd_shaped c.1), hG ▸ hy.dp (by assumption) (nd_shaped c.2), c.1, c.2, by have := hn.bl; simpa using this⟩
  · obtain ⟨c, rfl⟩ := guardO_some ho
    simp only [Bool.and_eq_true] at c
    exact ⟨_, op_notInT hu, _, _, hG ▸ hx.dp (by assumption) (nd_shaped c.1), hG ▸ hy.dp (by assumption) (nd_shaped c.2), c.1, c.2, hn.bl⟩
  · rcases in_dict hG hw hu hx hy ho hn with q | q
    · exact ⟨_, op_notinDK hu, q⟩
    · exact ⟨_, op_notinDD hu, q⟩
theorem is_of {neg : Bool} {x y : V} {d e z : D} {T T' : List Addr} (hx : Rep G H x d T) (hy : Rep G H y e T') (ho : oIs neg d e = some z) : y = .non ∧ z = DB (neg != decide (x = .non)) := by
  unfold oIs at ho
  split at ho
  · cases ho
    refine ⟨hy.non_of, ?_⟩
    cases hx with
    | sh hx => cases hx <;> simp
  · cases ho
    refine ⟨hy.non_of, ?_⟩
    cases hx with
    | sh hx => exact absurd rfl (by rename_i h; exact h _)
    | tp _ _ => simp
    | ls _ _ => simp
    | dk _ _ => simp
    | dd _ _ _ _ => simp
    | ob => simp
    | fn _ => simp
    | fd => simp
  · cases ho
theorem v_is : OpR X (compareOp .Is) (r2 G (oIs false)) := opImp op_isN fun x y H Q ⟨d, e, z, T, T', hx, hy, ho, hn⟩ => by
  obtain ⟨a, rfl⟩ := is_of hx hy ho
  exact ⟨a, by have := hn.bl; simpa using this⟩
theorem v_isnot : OpR X (compareOp .IsNot) (r2 G (oIs true)) := opImp op_notN fun x y H Q ⟨d, e, z, T, T', hx, hy, ho, hn⟩ => by
  obtain ⟨a, rfl⟩ := is_of hx hy ho
  exact ⟨a, by have := hn.bl; simpa using this⟩
end
end Vs
/-! VS: sorted where the list holds tuples, some of them empty. -/
namespace Vs
open PySem PySem.W PySem.Calls PyProof.Rows
theorem tupB_some {d : PyData} (h : tupB d = true) : ∃ xs, d = .tuple xs := by
  cases d <;> first | exact ⟨_, rfl⟩ | cases h
section
variable {M : Model} {prog : Program} {w : World} {A : Around} {E : Value → Shared → Prop} {s : Shared}
theorem firsts_any : ∀ {us : List Value} {ds : List PyData}, EachIs (fun v d => ∃ as, Reads s.heap v d as) us ds → (∀ d, d ∈ ds → tupB d = true) →
    ∃ os : List (Option Value), os.map (·.isSome) = ds.map headB ∧ ∀ {E : Value → Shared → Prop} {Q : List (Option Value) → Shared → Prop}, Q os s → wpAny M A (us.mapM firstOfTuple') Q E s
  | _, _, .nil, _ => ⟨[], rfl, fun {_ _} h => by rw [List.mapM_nil]; exact wpAny_pure h⟩
  | _, _, .cons (a := u) (as := us) (b := d) (bs := ds) ⟨as, r⟩ t, ht => by
    obtain ⟨os, h1, h2⟩ := firsts_any t fun e he => ht e (.tail _ he)
    obtain ⟨xs, rfl⟩ := tupB_some (ht d (.head _))
    cases r with
    | @tuple a o its n _ _ q1 q2 q3 q4 =>
      refine ⟨its[0]? :: os, ?_, fun {E Q} h => ?_⟩
      · have e0 : its[0]?.isSome = headB (.tuple xs) := by
          have q := SeqAt.ReadsAll.length _ _ _ q4
          rw [Array.length_toList] at q
          cases xs with
          | nil =>
            have : its = #[] := by simpa using q
            subst this
            rfl
          | cons y ys =>
            have : 0 < its.size := by rw [q]; exact Nat.succ_pos _
            simp [headB, this]
        rw [List.map_cons, List.map_cons, e0, h1]
      · rw [List.mapM_cons]
        refine wpAny_bind ?_
        rw [kas_first_eq]
        have lk : Looks M s.heap (typeOf (Value.ref a)) o.cls := (Looks.ld q1).andThen .now
        refine wpAny_bind (lk.here ?_)
        rw [q2, if_neg (by simp)]
        refine wpAny_bind (listItems_at q1 q3 (wpAny_pure ?_))
        exact wpAny_bind (h2 (Q := fun bs s' => wpAny M A (pure (its[0]? :: bs)) Q E s') (wpAny_pure h))
/-- the kind of keys: some tuple is empty -/
theorem kind_any {us : List Value} {ds : List PyData} (e : EachIs (fun v d => ∃ as, Reads s.heap v d as) us ds) (ht : ∀ d, d ∈ ds → tupB d = true) (hn : ds.all headB = false) :
    ∃ kd : SortKind, (kd = general' ∨ kd = oneType') ∧ ∀ {E : Value → Shared → Prop} {Q : SortKind → Shared → Prop}, Q kd s → wpAny M A (keyKind' us.toArray) Q E s := by
  obtain ⟨os, h1, h2⟩ := firsts_any (M := M) (A := A) e ht
  have hs : os.toArray.all (fun o => o.isSome) = false := by
    rw [List.all_toArray, ← hn]
    have : os.all (fun o => o.isSome) = (os.map (·.isSome)).all id := by rw [List.all_map]; rfl
    rw [this, h1, List.all_map]
    rfl
  by_cases h0 : (os.toArray[0]?.bind id).isSome = true
  · refine ⟨general', .inl rfl, fun {E Q} h => ?_⟩
    rw [keyKind'_eq, List.mapM_toArray, map_eq_pure_bind]
    refine wpAny_bind (wpAny_bind (h2 (wpAny_pure ?_)))
    rw [if_neg (by rw [hs]; simp), if_pos h0]
    exact wpAny_pure h
  · refine ⟨oneType', .inr rfl, fun {E Q} h => ?_⟩
    rw [keyKind'_eq, List.mapM_toArray, map_eq_pure_bind]
    refine wpAny_bind (wpAny_bind (h2 (wpAny_pure ?_)))
    rw [if_neg (by rw [hs]; simp), if_neg h0]
    have hne : us ≠ [] := by
      rintro rfl
      cases e
      cases hn
    obtain ⟨u, ur, rfl⟩ := List.exists_cons_of_ne_nil hne
    rw [oneTypeOnly'_eq, List.mapM_toArray, map_eq_pure_bind]
    refine wpAny_bind (wpAny_bind (wpAny_bind (kas_mapM (r := Value.type "tuple") _ (fun v hv Q' hq => ?_) (wpAny_pure ?_))))
    · obtain ⟨d, hd, as, r⟩ := e.left v hv
      obtain ⟨xs, rfl⟩ := tupB_some (ht d hd)
      exact (looks_reads r).here hq
    · have a0 : ((u :: ur).map fun _ => Value.type "tuple").toArray[0]? = some (Value.type "tuple") := by simp
      have a1 : (((u :: ur).map fun _ => Value.type "tuple").toArray.all fun x => x == Value.type "tuple") = true := by
        simp only [List.all_toArray, List.all_map, List.all_eq_true]
        intro _ _
        exact beq_self_eq_true _
      rw [a0]
      simp only [a1, if_true]
      exact wpAny_pure (wpAny_pure h)
theorem tup_lt {x y : PyData} {a b : Value} {as bs : List Addr} {Q : Bool → Shared → Prop} (tx : tupB x = true) (ra : Reads s.heap a x as) (rb : Reads s.heap b y bs) (h : alike x y = true) (hu : A.units + min x.depth y.depth < cLine) (hq : Q (dataLt x y) s) :
    wpAny (model prog w) A (oneLt' true a b) Q E s := by
  obtain ⟨xs, rfl⟩ := tupB_some tx
  cases y with
  | tuple ys =>
    have hal : alikeAll xs ys = true := by simpa [alike] using h
    cases ra with
    | @tuple l o us n _ as₁ h1 h2 h3 h4 =>
      cases rb with
      | @tuple l' o' us' n' _ bs₁ k1 k2 k3 k4 =>
        have z1 : us.size = xs.length := by simpa using SeqAt.ReadsAll.length _ _ _ h4
        have z2 : us'.size = ys.length := by simpa using SeqAt.ReadsAll.length _ _ _ k4
        rw [dataLt_tuple, ← firstLt_toks xs ys hal, ← z1, ← z2] at hq
        rw [oneLt'_eq]
        simp only [if_true]
        refine wpAny_bind (wpAny_cRoomFor (SeqAt.room_here hu) ?_)
        have ee : ∀ j (j1 : j < us.size) (j2 : j < us'.size), SeqAt.EqAt A.in1 s us[j] us'[j] (SeqAt.pairEq xs ys j) := fun j j1 j2 => by
          have := eqAt_alikeAll xs ys A.in1 s us.toList us'.toList _ _ h4 k4 hal (SeqAt.room_in hu) j (by simpa using j1) (by simpa using j2)
          simpa using this
        have er : ∀ j (j1 : j < us.size) (j2 : j < us'.size), SeqAt.pairEq xs ys j = false → SeqAt.RcLt A.in1 s us[j] us'[j] (dataLt (xs.getD j .none) (ys.getD j .none)) := fun j j1 j2 hj => by
          have := rcLt_alikeAll xs ys A.in1 s us.toList us'.toList _ _ h4 k4 hal (SeqAt.room_in hu) j (by simpa using j1) (by simpa using j2) hj
          simpa using this
        obtain ⟨cls, dd, data, sl⟩ := o
        obtain ⟨cls2, dd2, data2, sl2⟩ := o'
        simp only at h2 h3 k2 k3
        subst h2 h3 k2 k3
        refine wpAny_bind (wpAny_callSpecialIfBound?_slot (T := "tuple") ⟨_, h1, rfl⟩ F.slot_tuple_lt (call_meets F.slot_tuple_lt ⟨_, h1, rfl⟩ F.entry_tuple_lt (F.args_tuple_lt_2 _ _)
          (SeqAt.tuple_ltAt l l' us us' n n' dd dd2 sl sl2 (SeqAt.pairEq xs ys) fun j => dataLt (xs.getD j .none) (ys.getD j .none)) ⟨h1, k1, ee, er, ?_⟩))
        exact wpAny_truthy_bool hq
  | _ => exact absurd h (by simp [alike])
/-- lists of tuples, some of them empty -/
theorem sortsAt_any {us : List Value} {ds : List PyData} (e : EachIs (fun v d => ∃ as, Reads s.heap v d as) us ds) (hal : AllAlike ds) (ht : ∀ d, d ∈ ds → tupB d = true) (hn : ds.all headB = false) (hu : ∀ d, d ∈ ds → A.units + d.depth < cLine) :
    SortsAt prog w A s (dataKind s.heap ds) us := by
  refine ⟨fun v hv => ?_, ?_⟩
  · obtain ⟨d, hd, as, r⟩ := e.left v hv
    exact ⟨_, dataKind_some hal hd r⟩
  · obtain ⟨kd, hk, hh⟩ := kind_any (M := model prog w) (A := A) e ht hn
    refine ⟨kd, fun E x y a b Q ha hb hq => ?_, fun _ E Q hq => ?_⟩
    · obtain ⟨d, as, hd, ra, rfl⟩ := dataKind_inv ha
      obtain ⟨d', as', hd', rb, rfl⟩ := dataKind_inv hb
      have hr : A.units + min d.depth d'.depth < cLine := Nat.lt_of_le_of_lt (Nat.add_le_add_left (Nat.min_le_left _ _) _) (hu d hd)
      rcases hk with rfl | rfl
      · show wpAny (model prog w) A (oneLt' false x y) Q E s
        exact oneLt_alike (fun h => nomatch h) ra rb (hal d hd d' hd') (fun q => by have := ht d hd; rw [q] at this; cases this) hr hq
      · rw [keyLt'_oneType]
        exact tup_lt (ht d hd) ra rb (hal d hd d' hd') hr hq
    · exact hh hq
/-- sorted(xs), by whatever says how xs is sorted -/
theorem sorted_any {β : Type} {us : List Value} {bs : List β} {enc : β → PyData} {R : Value → β → Prop} {l : Addr} {Q : Value → Shared → Prop} (hl : s.heap.IsList l us.toArray) (e : EachIs R us bs)
    (er : EachIs (fun v b => ∃ as, Reads s.heap v (enc b) as) us bs) (hal : AllAlike (bs.map enc)) (ht : ∀ d, d ∈ bs.map enc → tupB d = true) (hn : (bs.map enc).all headB = false) (hL : bs.length ≤ sizeLine)
    (hu : ∀ b, b ∈ bs → A.units + 2 + (enc b).depth < cLine) (h : ∀ out, out.length = bs.length → EachIs R out (bs.mergeSort (dataLe false enc)) → Q (.ref (s.heap.objs.size + 1)) { s with heap := sortedAll s.heap us (List.toArray out) }) :
    wpAny (model prog w) A (call (.builtin "sorted") [.ref l]) Q E s := by
  have ek : EachIs (fun v b => ∃ as, Reads (sortingHeap (copyHeap s.heap us) (s.heap.objs.size + 1) us) v (enc b) as) us bs := er.mono fun _ _ ⟨as, r⟩ => ⟨as, PyProof.Rows.Reads.keeps (fun _ _ => sorting_copy_old) r⟩
  refine sorted_vals hl (sortsAt_any (s := { s with heap := sortingHeap (copyHeap s.heap us) (s.heap.objs.size + 1) us }) (each_map (R := fun v d => ∃ as, Reads (sortingHeap (copyHeap s.heap us) (s.heap.objs.size + 1) us) v d as) enc ek) hal ht hn (bound_map hu)) ?_ ?_
  · rw [e.length]
    exact hL
  · exact h _ ((sortVals_length false rfl).trans e.length) (sortVals_data false e ek hal)
/-- sorted(xs), either way -/
theorem sorted_both {β : Type} {us : List Value} {bs : List β} {enc : β → PyData} {R : Value → β → Prop} {l : Addr} {Q : Value → Shared → Prop} (hl : s.heap.IsList l us.toArray) (e : EachIs R us bs)
    (er : EachIs (fun v b => ∃ as, Reads s.heap v (enc b) as) us bs) (hal : AllAlike (bs.map enc)) (hs : Sortable (bs.map enc) ∨ ((∀ d, d ∈ bs.map enc → tupB d = true) ∧ (bs.map enc).all headB = false)) (hL : bs.length ≤ sizeLine)
    (hu : ∀ b, b ∈ bs → A.units + 2 + (enc b).depth < cLine) (h : ∀ out, out.length = bs.length → EachIs R out (bs.mergeSort (dataLe false enc)) → Q (.ref (s.heap.objs.size + 1)) { s with heap := sortedAll s.heap us (List.toArray out) }) :
    wpAny (model prog w) A (call (.builtin "sorted") [.ref l]) Q E s := hs.elim (fun hk => sorted_data hl e er hal hk hL hu h) fun ⟨ht, hn⟩ => sorted_any hl e er hal ht hn hL hu h
end
end Vs
/-! VD: data with dicts that have nothing: read, and shown. -/
namespace Vs
open PySem PySem.Spec L2
open PyProof.Rows hiding St
section
variable {X : Cx} {pins : List (Addr × Obj)} {σ : L2.St} {H : Hp} {s : Shared}
theorem dct_obj (I : Inv X pins σ H s) {a : Addr} {o : Obj} (h : H a = some (.frz o (.dK []))) : (a == sysModules) = false ∧ ∃ o es n, s.heap.get? a = some o ∧ o.cls = .type "dict" ∧ o.data = .dict es n ∧ es.toList = [] := by
  obtain ⟨z, q, vs, kv, o', es, n, ho, hx, hd, _, hp, _⟩ := dk_rd I.hok (.inr ⟨o, h⟩)
  cases kv
  refine ⟨q, o', es, n, ho, hx.1, hd, ?_⟩
  generalize es.toList = l at hp
  cases hp
  rfl
theorem dc1_obj (I : Inv X pins σ H s) {a : Addr} {o : Obj} {x : Str} {i : Int} (h : H a = some (.frz o (.dK [(.inr x, .int i)]))) : (a == sysModules) = false ∧ ∃ o es n t u ha, s.heap.get? a = some o ∧ o.cls = .type "dict" ∧ o.data = .dict es n ∧ es.toList = [⟨ha, .str x t, .int i u⟩] := by
  obtain ⟨z, q, vs, kv, o', es, n, ho, hx, hd, _, hp, _⟩ := dk_rd I.hok (.inr ⟨o, h⟩)
  refine ⟨q, o', es, n, ?_⟩
  cases kv with
  | @cons p q' ps qs r rs =>
    cases rs
    obtain ⟨k, v⟩ := q'
    obtain ⟨r1, r2⟩ := r
    dsimp only at r1 r2
    subst r1
    obtain ⟨u, rfl⟩ := r2
    generalize es.toList = l at hp ⊢
    cases hp with
    | @cons e kv es' kvs' h1 h2 h3 =>
      cases h3
      obtain ⟨eh, ek, ev⟩ := e
      dsimp only at h1 h2
      subst h2
      rcases keyIs_shape (show keyIs (.inr x) ek = true from h1) with ⟨_, _, z1, _⟩ | ⟨x', t, z1, z2⟩
      · cases z1
      · cases z1
        subst z2
        exact ⟨t, u, eh, ho, hx.1, hd, rfl⟩
mutual
theorem Dd.reads (I : Inv X pins σ H s) : ∀ {d : PyData} {v : V} {u : Value}, Dd X.K H v d → RelV v u → ∃ as, Reads s.heap u d as
  | _, _, _, .non, r => by cases r; exact ⟨_, .none⟩
  | _, _, _, .bl b, r => by cases r; exact ⟨_, .bool b⟩
  | _, _, _, .int i, r => by obtain ⟨t, rfl⟩ := r; exact ⟨_, .int i t⟩
  | _, _, _, .str x, r => by obtain ⟨t, rfl⟩ := r; exact ⟨_, .str x t⟩
  | _, _, _, .lst h hs, r => by
    cases r
    obtain ⟨its, rv, ⟨o, n, e1, e2, _, e3⟩, _⟩ := I.list h
    obtain ⟨as, q⟩ := Dds.reads I hs rv
    exact ⟨_, .list e1 e2 e3 q⟩
  | _, _, _, .tup h hs, r => by
    cases r
    obtain ⟨its, rv, ⟨o, e1, e2, n, e3⟩, _⟩ := I.tuple h
    obtain ⟨as, q⟩ := Dds.reads I hs rv
    exact ⟨_, .tuple e1 e2 e3 q⟩
  | _, _, _, .dct h, r => by
    cases r
    obtain ⟨_, o, es, n, e1, e2, e3, e4⟩ := dct_obj I h
    exact ⟨_, .dict e1 e2 e3 (by rw [e4]; exact .nil) (by rw [e4]; exact .nil)⟩
  | _, _, _, .dc1 h, r => by
    cases r
    obtain ⟨_, o, es, n, t, u, ha, e1, e2, e3, e4⟩ := dc1_obj I h
    exact ⟨_, .dict e1 e2 e3 (by rw [e4]; exact .cons (.str _ _) .nil) (by rw [e4]; exact .cons (.int _ _) .nil)⟩
theorem Dds.reads (I : Inv X pins σ H s) : ∀ {ds : List PyData} {vs : List V} {us : List Value}, Dds X.K H vs ds → Vals vs us → ∃ as, ReadsAll s.heap us ds as
  | _, _, _, .nil, r => by cases r; exact ⟨_, .nil⟩
  | _, _, _, .cons h hs, r => by
    cases r with
    | cons r rs =>
      obtain ⟨as, q⟩ := Dd.reads I h r
      obtain ⟨bs, qs⟩ := Dds.reads I hs rs
      exact ⟨_, .cons q qs⟩
end
variable {P : Program} {w : World}
def ShK (P : Program) (w : World) (h : Heap) (u : Value) (d : PyData) : Prop := ∃ bs, ReadAtMost h d.depth bs ∧ ReprK P w bs h d.depth u d.shown
def ShA (P : Program) (w : World) (h : Heap) (us : List Value) (ds : List PyData) : Prop := ∃ bs, ReadAtMost h (PyData.depthAll ds) bs ∧ ReprAllK P w bs h (PyData.depthAll ds) us (PyData.shownAll ds)
theorem dict1_shown {x : Str} {i : Int} : PyData.shown (.dict [(.str x, .int i)]) = dictText [(PyData.str x).shown ++ ": " ++ (PyData.int i).shown] := by simp only [PyData.shown, PyData.shownKv]
theorem dict1_depth {x : Str} {i : Int} : (PyData.dict [(.str x, .int i)]).depth = 1 := by simp [PyData.depth, PyData.depthKv]
theorem dc1_len {x : Str} {i : Int} : (PyData.str x).shown.length ≤ (PyData.dict [(.str x, .int i)]).shown.length := by
  rw [dict1_shown]
  refine Nat.le_trans ?_ (dictText_mem_le (ps := [(PyData.str x).shown ++ ": " ++ (PyData.int i).shown]) List.mem_cons_self)
  rw [Str.length_append, Str.length_append]
  omega
theorem dict0_shown : PyData.shown (.dict []) = dictText [] := by simp only [PyData.shown, PyData.shownKv]
mutual
theorem Dd.shk (I : Inv X pins σ H s) : ∀ {d : PyData} {v : V} {u : Value}, Dd X.K H v d → RelV v u → d.showable = true → d.shown.length ≤ sizeLine → ShK P w s.heap u d
  | _, _, _, .non, r, _, _ => by cases r; exact ⟨[], nofun, by simp only [PyData.shown]; exact .of_is .none _ _ _⟩
  | _, _, _, .bl b, r, _, _ => by cases r; exact ⟨[], nofun, by simp only [PyData.shown]; exact .of_is (.bool b) _ _ _⟩
  | _, _, _, .int i, r, hs, _ => by obtain ⟨t, rfl⟩ := r; exact ⟨[], nofun, by simp only [PyData.shown]; exact .of_is (.int t (by simpa [PyData.showable] using hs)) _ _ _⟩
  | _, _, _, .str x, r, _, hz => by obtain ⟨t, rfl⟩ := r; exact ⟨[], nofun, by simp only [PyData.shown]; exact .of_is (.str x t (by simpa only [PyData.shown] using hz)) _ _ _⟩
  | _, _, _, .lst (ds := ds) h hd, r, hs, hz => by
    cases r
    obtain ⟨its, rv, ⟨o, n, e1, e2, _, e3⟩, _⟩ := I.list h
    obtain ⟨as, q⟩ := Dds.reads I hd rv
    have z : (listText (PyData.shownAll ds)).length ≤ sizeLine := by simpa only [PyData.shown] using hz
    obtain ⟨bs, b1, b2⟩ := Dds.sha I hd rv (by simpa [PyData.showable] using hs) fun t m => Nat.le_trans (listText_mem_le m) z
    have rd := Reads.list e1 e2 e3 q
    have deep : PyData.depthAll ds < (PyData.list ds).depth := by simp only [PyData.depth]; omega
    have out := not_mem_of_deeper rd deep b1
    refine ⟨_, ReadAtMost.cons rd (by omega) b1, ?_⟩
    simp only [PyData.depth, PyData.shown]
    cases its with
    | nil =>
      cases rv
      cases hd
      simp only [PyData.shownAll, listText_nil]
      exact ReprK.listEmpty e1 e2 e3
    | cons y l => exact ReprK.list e1 e2 e3 out (by simpa using b2.length_eq) fun i y e => b2.item i y (by simpa using e)
  | _, _, _, .tup (ds := ds) h hd, r, hs, hz => by
    cases r
    obtain ⟨its, rv, ⟨o, e1, e2, n, e3⟩, _⟩ := I.tuple h
    obtain ⟨as, q⟩ := Dds.reads I hd rv
    have z : (tupleText (PyData.shownAll ds)).length ≤ sizeLine := by simpa only [PyData.shown] using hz
    obtain ⟨bs, b1, b2⟩ := Dds.sha I hd rv (by simpa [PyData.showable] using hs) fun t m => Nat.le_trans (tupleText_mem_le m) z
    have rd := Reads.tuple e1 e2 e3 q
    have deep : PyData.depthAll ds < (PyData.tuple ds).depth := by simp only [PyData.depth]; omega
    have out := not_mem_of_deeper rd deep b1
    refine ⟨_, ReadAtMost.cons rd (by omega) b1, ?_⟩
    simp only [PyData.depth, PyData.shown]
    exact ReprK.tuple e1 e2 e3 out b2
  | _, _, _, .dct h, r, _, _ => by
    cases r
    obtain ⟨sm, o, es, n, e1, e2, e3, e4⟩ := dct_obj I h
    have rd : Reads s.heap _ (.dict []) _ := .dict e1 e2 e3 (by rw [e4]; exact .nil) (by rw [e4]; exact .nil)
    refine ⟨_, ReadAtMost.cons (n := 0) (bs := []) rd (Nat.zero_le _) nofun, ?_⟩
    rw [dict0_shown]
    simp only [PyData.depth]
    exact ReprK.dict e1 e2 e3 sm (by simp) (by rw [e4]; exact .nil)
  | _, _, _, .dc1 (x := x) (i := i) h, r, hs, hz => by
    cases r
    obtain ⟨sm, o, es, n, t, u, ha, e1, e2, e3, e4⟩ := dc1_obj I h
    have rd : Reads s.heap _ (.dict [(.str x, .int i)]) _ := .dict e1 e2 e3 (by rw [e4]; exact .cons (.str _ _) .nil) (by rw [e4]; exact .cons (.int _ _) .nil)
    have hi : i.natAbs.log2 < 1920 := by simpa [PyData.showable, PyData.showableKv] using hs
    have hx : (PyData.str x).shown.length ≤ sizeLine := Nat.le_trans (dc1_len (x := x) (i := i)) hz
    refine ⟨_, ReadAtMost.cons (n := 0) (bs := []) rd (Nat.zero_le _) nofun, ?_⟩
    rw [dict1_shown, dict1_depth]
    exact ReprK.dict e1 e2 e3 sm (by simp) (by rw [e4]; exact .cons (.of_is (.str x t (by simpa only [PyData.shown] using hx)) _ _ _) (.of_is (.int u hi) _ _ _) .nil)
theorem Dds.sha (I : Inv X pins σ H s) : ∀ {ds : List PyData} {vs : List V} {us : List Value}, Dds X.K H vs ds → Vals vs us → PyData.showableAll ds = true → (∀ t ∈ PyData.shownAll ds, t.length ≤ sizeLine) → ShA P w s.heap us ds
  | _, _, _, .nil, r, _, _ => by cases r; exact ⟨[], nofun, by simp only [PyData.shownAll]; exact .nil⟩
  | _, _, _, .cons (d := d) (ds := ds) h hd, r, hs, hz => by
    cases r with
    | cons r rs =>
      have hs : d.showable = true ∧ PyData.showableAll ds = true := by simpa [PyData.showableAll] using hs
      simp only [PyData.shownAll] at hz
      obtain ⟨b, p1, p2⟩ := Dd.shk I h r hs.1 (hz _ List.mem_cons_self)
      obtain ⟨c, q1, q2⟩ := Dds.sha I hd rs hs.2 fun t m => hz t (List.mem_cons_of_mem _ m)
      refine ⟨b ++ c, ?_, ?_⟩
      · simp only [PyData.depthAll]
        exact (p1.mono (Nat.le_max_left _ _)).append (q1.mono (Nat.le_max_right _ _))
      · simp only [PyData.depthAll, PyData.shownAll]
        exact .cons ((p2.more fun x m => List.mem_append_left _ m).level_le (Nat.le_max_left _ _)) (q2.more_le (fun x m => List.mem_append_right _ m) (Nat.le_max_right _ _))
end
/-- repr(x) of such data -/
theorem repr_dd {A : Around} {E : Value → Shared → Prop} {Q : Value → Shared → Prop} (I : Inv X pins σ H s) {d : PyData} {v : V} {u : Value} (hd : Dd X.K H v d) (r : RelV v u) (hs : d.showable = true) (hg : A.guards = some []) (hu : A.units + (d.depth + 1) < cLine) (hz : d.shown.length ≤ sizeLine)
    (hQ : ∀ h' t tk, (∀ b o, s.heap.get? b = some o → h'.get? b = some o) → Q (.str d.shown t) { s with heap := h', toks := tk }) : wpAny (model X.prog X.w) A (call (.builtin "repr") [u]) Q E s := by
  have one : A.units + 1 < cLine := by omega
  have same : ∀ b o, s.heap.get? b = some o → s.heap.get? b = some o := fun _ _ e => e
  cases hd with
  | non => cases r; exact PySem.P.repr_of_none (by have := hQ s.heap; simp only [PyData.shown] at this; exact this _ _ same)
  | bl b => cases r; exact PySem.P.repr_of_bool (by have := hQ s.heap; simp only [PyData.shown] at this; exact this _ _ same)
  | int i =>
    obtain ⟨t, rfl⟩ := r
    exact PySem.P.repr_of_int (by simpa [PyData.showable] using hs) (by have := hQ s.heap; simp only [PyData.shown] at this; exact this _ _ same)
  | str x =>
    obtain ⟨t, rfl⟩ := r
    exact PySem.P.repr_of_str (by have := hQ s.heap; simp only [PyData.shown] at this; exact this _ _ same) (by simpa only [PyData.shown] using hz)
  | @lst a xs ds h hd =>
    cases r
    obtain ⟨its, rv, ⟨o, n, e1, e2, _, e3⟩, _⟩ := I.list h
    obtain ⟨as, q⟩ := Dds.reads I hd rv
    have z : (listText (PyData.shownAll ds)).length ≤ sizeLine := by simpa only [PyData.shown] using hz
    obtain ⟨bs, b1, b2⟩ := Dds.sha (P := X.prog) (w := X.w) I hd rv (by simpa [PyData.showable] using hs) fun t m => Nat.le_trans (listText_mem_le m) z
    have deep : PyData.depthAll ds < (PyData.list ds).depth := by simp only [PyData.depth]; omega
    have out := not_mem_of_deeper (Reads.list e1 e2 e3 q) deep b1
    simp only [PyData.depth] at hu
    simp only [PyData.shown] at hQ
    refine call_repr_slot one ⟨o, e1, e2⟩ F.slot_list_repr.toG ?_
    cases its with
    | nil =>
      cases rv
      cases hd
      simp only [PyData.shownAll, listText_nil] at hQ
      exact call_list_repr_empty ⟨o, e1, e2⟩ e1 e3 ⟨_, _, rfl, hQ s.heap _ _ same⟩
    | cons y l => exact call_list_reprK e1 e2 e3 out (by simpa using b2.length_eq) (fun i y e => b2.item i y (by simpa using e)) hg (fun b _ => Clear.nil b) (by show A.units + 1 + _ < cLine; omega) same (fun h' t tk hk => ⟨_, _, rfl, hQ h' t tk hk⟩) z
  | @tup a xs ds h hd =>
    cases r
    obtain ⟨its, rv, ⟨o, e1, e2, n, e3⟩, _⟩ := I.tuple h
    obtain ⟨as, q⟩ := Dds.reads I hd rv
    have z : (tupleText (PyData.shownAll ds)).length ≤ sizeLine := by simpa only [PyData.shown] using hz
    obtain ⟨bs, b1, b2⟩ := Dds.sha (P := X.prog) (w := X.w) I hd rv (by simpa [PyData.showable] using hs) fun t m => Nat.le_trans (tupleText_mem_le m) z
    have deep : PyData.depthAll ds < (PyData.tuple ds).depth := by simp only [PyData.depth]; omega
    have out := not_mem_of_deeper (Reads.tuple e1 e2 e3 q) deep b1
    simp only [PyData.depth] at hu
    simp only [PyData.shown] at hQ
    exact call_repr_slot one ⟨o, e1, e2⟩ F.slot_tuple_repr (call_tuple_reprK e1 e2 e3 out b2 hg (fun b _ => Clear.nil b) (by show A.units + 1 + _ < cLine; omega) same (fun h' t tk hk => ⟨_, _, rfl, hQ h' t tk hk⟩) z)
  | dct h =>
    cases r
    obtain ⟨sm, o, es, n, e1, e2, e3, e4⟩ := dct_obj I h
    rw [dict0_shown] at hQ hz
    have hu : A.units + 2 < cLine := by simpa only [PyData.depth, PyData.depthKv] using hu
    exact call_repr_slot one ⟨o, e1, e2⟩ F.slot_dict_repr (call_dict_reprK (as := []) (d := 0) e1 e2 e3 sm (by simp) (by rw [e4]; exact .nil) hg (fun b _ => Clear.nil b) (by show A.units + 1 + _ < cLine; omega) same (fun h' t tk hk => ⟨_, _, rfl, hQ h' t tk hk⟩) hz)
  | @dc1 a o x i h =>
    cases r
    obtain ⟨sm, o, es, n, t, u, ha, e1, e2, e3, e4⟩ := dc1_obj I h
    have hi : i.natAbs.log2 < 1920 := by simpa [PyData.showable, PyData.showableKv] using hs
    have hx : (PyData.str x).shown.length ≤ sizeLine := Nat.le_trans (dc1_len (x := x) (i := i)) hz
    rw [dict1_shown] at hQ hz
    have hu : A.units + 2 < cLine := by rw [dict1_depth] at hu; exact hu
    exact call_repr_slot one ⟨o, e1, e2⟩ F.slot_dict_repr (call_dict_reprK (as := []) (d := 0) e1 e2 e3 sm (by simp) (by rw [e4]; exact .cons (.of_is (.str x t (by simpa only [PyData.shown] using hx)) _ _ _) (.of_is (.int u hi) _ _ _) .nil) hg (fun b _ => Clear.nil b) (by show A.units + 1 + _ < cLine; omega) same (fun h' t tk hk => ⟨_, _, rfl, hQ h' t tk hk⟩) hz)
end
end Vs
/-! V5: the rules of built-in calls, items, slices. -/
namespace Vs
open PySem PySem.Spec L2
open PyProof.Rows hiding St
section
variable {X : Cx} {G : Ga} {H : Hp}
theorem Reps.get : ∀ {vs : List V} {ds : List D} {O : List Addr} {i : Nat} {d : D}, Reps G H vs ds O → ds[i]? = some d → ∃ v T, vs[i]? = some v ∧ Rep G H v d T
  | _, _, _, i, d, .nil, e => by simp at e
  | _, _, _, 0, d, .cons h hs, e => by simp at e; subst e; exact ⟨_, _, rfl, h⟩
  | _, _, _, i + 1, d, .cons h hs, e => by
    obtain ⟨v, T, a, b⟩ := Reps.get (i := i) hs (by simpa using e)
    exact ⟨v, T, by simpa using a, b⟩
theorem Reps.len : ∀ {vs : List V} {ds : List D} {O : List Addr}, Reps G H vs ds O → vs.length = ds.length
  | _, _, _, .nil => rfl
  | _, _, _, .cons _ hs => congrArg (· + 1) (Reps.len hs)
theorem atI_to {α β : Type} {xs : List α} {ys : List β} {i : Int} {y : β} (hl : xs.length = ys.length) (h : atI ys i = some y) : ∃ j : Nat, ys[j]? = some y ∧ ∀ x, xs[j]? = some x → atI xs i = some x := by
  unfold atI at h
  cases e : ixN ys.length i with
  | none => rw [e] at h; cases h
  | some j =>
    rw [e] at h
    refine ⟨j, h, fun x hx => ?_⟩
    unfold atI
    rw [hl, e]
    exact hx
theorem shOnly_some {o : Option D} {z : D} (h : shOnly o = some z) : ∃ p, z = .sh p ∧ o = some (.sh p) := by
  unfold shOnly at h
  split at h
  · cases h; exact ⟨_, rfl, rfl⟩
  · cases h
theorem Rep.sh_of {v : V} {p : PyData} {T : List Addr} (h : Rep G H v (.sh p) T) : DpF G.K H v p := by cases h; assumption
theorem ixCases {r : R2} (h : ∀ x y H Q, r x y H Q → ∃ r', IxR X r' ∧ r' x y H Q) : IxR X r := fun a b pins s σ H x y v u Q I rx ry q hs => by
  obtain ⟨r', k, z⟩ := h _ _ _ _ q
  exact k a b pins s σ H x y v u Q I rx ry z hs
theorem v_ix (hG : G.K = X.K) (hw : G.w = X.w) (hu : X.A.units + 65 < cLine) : IxR X (r2 G oIx) := ixCases fun x y H Q ⟨d, e, z, T, T', hx, hy, ho, hn⟩ => by
  unfold oIx at ho
  split at ho
  · obtain ⟨p, rfl, ha⟩ := shOnly_some ho
    cases hx with
    | ls q hs =>
      obtain ⟨j, e1, e2⟩ := atI_to hs.len ha
      obtain ⟨v, T, e3, r⟩ := hs.get e1
      exact ⟨_, ix_list, _, _, _, v, rfl, hy.int_of, hG ▸ SqL.of q, e2 v e3, hn.sh r.sh_of⟩
  · obtain ⟨p, rfl, ha⟩ := shOnly_some ho
    cases hx with
    | tp q hs =>
      obtain ⟨j, e1, e2⟩ := atI_to hs.len ha
      obtain ⟨v, T, e3, r⟩ := hs.get e1
      exact ⟨_, ix_tup, _, _, _, v, rfl, hy.int_of, hG ▸ q.t, e2 v e3, hn.sh r.sh_of⟩
  · obtain ⟨p, ha, rfl⟩ := Option.map_eq_some_iff.mp ho
    obtain ⟨a, xs, rfl, q, hs⟩ := hx.fl_of
    obtain ⟨j, e1, e2⟩ := atI_to hs.len ha
    obtain ⟨v, e3, r⟩ := hs.get e1
    exact ⟨_, ix_list, _, _, _, v, rfl, hy.int_of, hG ▸ q, e2 v e3, hn.sh r⟩
  · obtain ⟨p, ha, rfl⟩ := Option.map_eq_some_iff.mp ho
    obtain ⟨a, xs, rfl, q, hs⟩ := hx.tup_of
    obtain ⟨j, e1, e2⟩ := atI_to hs.len ha
    obtain ⟨v, e3, r⟩ := hs.get e1
    exact ⟨_, ix_tup, _, _, _, v, rfl, hy.int_of, hG ▸ q, e2 v e3, hn.sh r⟩
  · split at ho
    · obtain ⟨c, ha, rfl⟩ := Option.map_eq_some_iff.mp ho
      exact ⟨_, ix_str, _, _, c, hx.str_of, hy.int_of, by assumption, ha, hn.str⟩
    · cases ho
  · rename_i ks ds kd
    split at ho
    · rename_i k ek
      obtain ⟨p, rfl, hg⟩ := shOnly_some ho
      cases hx with
      | @dk a kvs _ _ ha hs =>
      cases hy with
      | sh hy =>
      obtain ⟨v, T', e1, r⟩ := dk_at' hs hg
      exact ⟨_, ix_DK hu, a, kvs, k, v, rfl, kOf_v hy ek, ha, e1, hn.sh r.sh_of⟩
    · cases ho
  · rename_i ks ds kd
    split at ho
    · rename_i k ek
      obtain ⟨p, rfl, hg⟩ := shOnly_some ho
      obtain ⟨a, kvs, T2, rfl, hd, em, hs, _⟩ := hx.ddat hG hw
      cases hy with
      | sh hy =>
      obtain ⟨b, rfl⟩ := tkey_ref hy ek
      obtain ⟨v, T', e1, r⟩ := dd_at em hs hg
      exact ⟨_, ix_DD hu, a, kvs, k, v, rfl, hd, ⟨b, kd, rfl, hG ▸ hy, ek⟩, e1, hn.sh r.sh_of⟩
    · cases ho
  · cases ho
/-! ### slices -/
def rSl (G : Ga) : V → Option Int → Option Int → Hp → VK → Prop := fun x lo hi H Q => ∃ d z T, Rep G H x d T ∧ oSl lo hi d = some z ∧ NewR G H z Q
theorem slCases {r : V → Option Int → Option Int → Hp → VK → Prop} (h : ∀ x lo hi H Q, r x lo hi H Q → ∃ r', SlR X r' ∧ r' x lo hi H Q) : SlR X r := fun pins s σ H x v vl vu lo hi sl Q I rx hs pl pu q => by
  obtain ⟨r', k, z⟩ := h _ _ _ _ _ q
  exact k pins s σ H x v vl vu lo hi sl Q I rx hs pl pu z
theorem DpFs.cut {vs : List V} {l : List PyData} (lo hi : Option Int) (h : DpFs G.K H vs l) : DpFs G.K H (cutV vs lo hi) (cutL l lo hi) := by
  unfold cutV cutL
  rw [h.len]
  exact (h.drop _).take _
theorem cut_whole {l : List PyData} {lo hi : Option Int} (h : HT.sIx l.length 0 lo = 0 ∧ HT.sIx l.length l.length hi = l.length) : cutL l lo hi = l := by
  unfold cutL
  rw [h.1, h.2]
  simp
theorem v_sl (hG : G.K = X.K) : SlR X (rSl G) := slCases fun x lo hi H Q ⟨d, z, T, hx, ho, hn⟩ => by
  unfold oSl at ho
  split at ho
  · split at ho
    · cases ho
      obtain ⟨a, xs, rfl, q, hs⟩ := hx.ls_of (by assumption)
      exact ⟨_, sl_list, a, xs, rfl, SqL.of q, fun p hp => hn.lst (hs.cut lo hi) hp⟩
    · cases ho
  · cases ho
    obtain ⟨a, xs, rfl, q, hs⟩ := hx.fl_of
    exact ⟨_, sl_list, a, xs, rfl, hG ▸ q, fun p hp => hn.lst (hs.cut lo hi) hp⟩
  · cases ho
    obtain ⟨a, xs, rfl, q, hs⟩ := hx.tupN_of
    refine ⟨_, sl_tupN, a, xs, rfl, hG ▸ q.t, fun w => ?_, fun w p o hp ho => hn.tup (hs.cut lo hi) hp ho⟩
    rw [hs.len] at w
    rw [cut_whole w] at hn
    exact hn.sh (.tup q hs)
  · cases ho
/-! ### calls -/
theorem v_len (hG : G.K = X.K) (hw : G.w = X.w) : CallR X (.builtin "len") (r1 G oLen) := CallR.cases fun vs H Q ⟨x, d, z, T, e, hx, ho, hn⟩ => by
  subst e
  unfold oLen at ho
  split at ho
  · cases ho
    obtain ⟨a, xs, rfl, q, hs⟩ := hx.fl_of
    exact ⟨_, call_len_seq, a, xs, rfl, .inl (hG ▸ q), by rw [hs.len]; exact hn.int⟩
  · cases ho
    obtain ⟨a, xs, rfl, q, hs⟩ := hx.tup_of
    exact ⟨_, call_len_seq, a, xs, rfl, .inr (hG ▸ q), by rw [hs.len]; exact hn.int⟩
  · obtain ⟨c, rfl⟩ := guardO_some ho
    exact ⟨_, call_len_str, _, by rw [hx.str_of], of_decide_eq_true c, hn.int⟩
  · cases ho
    cases hx with
    | ls q hs => exact ⟨_, call_len_seq, _, _, rfl, .inl (SqL.of q), by rw [hs.len]; exact hn.int⟩
  · cases ho
    cases hx with
    | tp q hs => exact ⟨_, call_len_seq, _, _, rfl, .inr (hG ▸ q.t), by rw [hs.len]; exact hn.int⟩
  · cases ho
    cases hx with
    | @dk a kvs _ _ ha hs => exact ⟨_, call_lenD, a, kvs, rfl, ha, by have := hn.int; simpa using this⟩
  · cases ho
    obtain ⟨a, kvs, T2, rfl, hd, em, hs, hl⟩ := hx.ddat hG hw
    rw [hl] at hn
    exact ⟨_, call_lenDD, a, kvs, rfl, hd, hn.int⟩
  · cases ho
theorem v_abs : CallR X (.builtin "abs") (r1 G oAbs) := callImp call_abs fun vs H Q ⟨x, d, z, T, e, hx, ho, hn⟩ => by
  subst e
  unfold oAbs at ho
  split at ho
  · cases ho
    exact ⟨_, by rw [hx.int_of], hn.int⟩
  · cases ho
theorem v_int : CallR X (.type "int") (r1 G oInt) := callImp call_int1 fun vs H Q ⟨x, d, z, T, e, hx, ho, hn⟩ => by
  subst e
  unfold oInt at ho
  split at ho
  · cases ho
    exact .inl ⟨_, by rw [hx.int_of], hn.int⟩
  · cases ho
    exact .inr ⟨_, by rw [hx.bl_of], hn.int⟩
  · cases ho
theorem v_str : CallR X (.type "str") (r1 G oStr) := callImp call_str_int fun vs H Q ⟨x, d, z, T, e, hx, ho, hn⟩ => by
  subst e
  unfold oStr at ho
  split at ho
  · obtain ⟨c, rfl⟩ := guardO_some ho
    exact ⟨_, by rw [hx.int_of], of_decide_eq_true c, hn.str⟩
  · cases ho
theorem seq_tupI {d : D} {l : List PyData} (e : d.seq = some (.tup, l)) : d = .sh (.tuple l) := by
  unfold D.seq at e
  split at e
  · cases e
  · cases e; rfl
  · split at e <;> cases e
  · cases e
theorem v_tuple (hG : G.K = X.K) : CallR X (.type "tuple") (r1 G oTuple) := callImp call_tupN fun vs H Q ⟨x, d, z, T, e, hx, ho, hn⟩ => by
  subst e
  unfold oTuple at ho
  split at ho
  · rename_i k l e
    cases ho
    cases k with
    | lst =>
      obtain ⟨a, xs, rfl, q, hs⟩ := hx.seq e
      exact ⟨a, xs, rfl, .inl ⟨hG ▸ q, fun p o hp ho => hn.tup hs hp ho⟩⟩
    | tup =>
      cases seq_tupI e
      obtain ⟨a, xs, rfl, q, hs⟩ := hx.tupN_of
      exact ⟨a, xs, rfl, .inr ⟨hG ▸ q.t, hn.sh (.tup q hs)⟩⟩
  · cases ho
theorem ints_of : ∀ {l : List PyData} {ns : List Int} {xs : List V}, intsOf l = some ns → DpFs G.K H xs l → xs = ns.map V.int
  | [], ns, xs, e, h => by unfold intsOf at e; cases e; cases h; rfl
  | d :: l, ns, xs, e, h => by
    cases h with
    | cons h hs =>
      cases h with
      | int i =>
        unfold intsOf at e
        cases e2 : intsOf l with
        | none => rw [e2] at e; cases e
        | some m => rw [e2] at e; cases e; rw [ints_of e2 hs]; rfl
      | non => unfold intsOf at e; cases e
      | bl _ => unfold intsOf at e; cases e
      | str _ => unfold intsOf at e; cases e
      | lst _ _ => unfold intsOf at e; cases e
      | dct _ => unfold intsOf at e; cases e
      | dc1 _ => unfold intsOf at e; cases e
      | tup _ _ => unfold intsOf at e; cases e
theorem bools_of : ∀ {l : List PyData} {ns : List Bool} {xs : List V}, boolsOf l = some ns → DpFs G.K H xs l → xs = ns.map V.bl
  | [], ns, xs, e, h => by unfold boolsOf at e; cases e; cases h; rfl
  | d :: l, ns, xs, e, h => by
    cases h with
    | cons h hs =>
      cases h with
      | bl i =>
        unfold boolsOf at e
        cases e2 : boolsOf l with
        | none => rw [e2] at e; cases e
        | some m => rw [e2] at e; cases e; rw [bools_of e2 hs]; rfl
      | non => unfold boolsOf at e; cases e
      | int _ => unfold boolsOf at e; cases e
      | str _ => unfold boolsOf at e; cases e
      | lst _ _ => unfold boolsOf at e; cases e
      | dct _ => unfold boolsOf at e; cases e
      | dc1 _ => unfold boolsOf at e; cases e
      | tup _ _ => unfold boolsOf at e; cases e
theorem v_sum (hG : G.K = X.K) (hc : X.calm = true) : CallR X (.builtin "sum") (r1 G oSum) := callImp (cr_sum hc) fun vs H Q ⟨x, d, z, T, e, hx, ho, hn⟩ => by
  subst e
  unfold oSum at ho
  split at ho
  · split at ho
    · cases ho
      obtain ⟨a, xs, rfl, q, hs⟩ := hx.seq (by assumption)
      rw [ints_of (by assumption) hs] at q
      exact ⟨a, _, rfl, hG ▸ q, hn.int⟩
    · cases ho
  · cases ho
theorem v_all (hG : G.K = X.K) (hc : X.calm = true) : CallR X (.builtin "all") (r1 G oAll) := callImp (cr_all hc) fun vs H Q ⟨x, d, z, T, e, hx, ho, hn⟩ => by
  subst e
  unfold oAll at ho
  split at ho
  · split at ho
    · cases ho
      obtain ⟨a, xs, rfl, q, hs⟩ := hx.seq (by assumption)
      rw [bools_of (by assumption) hs] at q
      exact ⟨a, _, rfl, hG ▸ q, hn.bl⟩
    · cases ho
  · cases ho
theorem v_any (hG : G.K = X.K) (hc : X.calm = true) : CallR X (.builtin "any") (r1 G oAny) := callImp (cr_any hc) fun vs H Q ⟨x, d, z, T, e, hx, ho, hn⟩ => by
  subst e
  unfold oAny at ho
  split at ho
  · split at ho
    · cases ho
      obtain ⟨a, xs, rfl, q, hs⟩ := hx.seq (by assumption)
      rw [bools_of (by assumption) hs] at q
      exact ⟨a, _, rfl, hG ▸ q, hn.bl⟩
    · cases ho
  · cases ho
theorem v_repr (hG : G.K = X.K) (hg : X.A.guards = some []) (hu : X.A.units + 64 < cLine) : CallR X (.builtin "repr") (r1 G oRepr) := fun pins s σ H xs us Q I rx ⟨x, d, z, T, e, hx, ho, hn⟩ => by
  subst e
  unfold oRepr at ho
  split at ho
  · rename_i p ep
    obtain ⟨c, rfl⟩ := guardO_some ho
    simp only [Bool.and_eq_true, decide_eq_true_eq] at c
    obtain ⟨u, rfl, ru⟩ := vals1 rx
    have hd : Dd X.K H x p := hG ▸ hx.dd' ep
    have hq := hn.str
    exact repr_dd I hd ru c.1.1 hg (by omega) c.2 fun h' t tk hk => ⟨.str _, H, I.kept (t' := tk) hk, ⟨_, rfl⟩, hq⟩
  · cases ho
/-! ### sorted -/
theorem each_of : ∀ {xs : List V} {us : List Value} {l : List PyData}, Vals xs us → DpFs G.K H xs l → PySem.W.EachIs (fun u d => ∃ x, RelV x u ∧ DpF G.K H x d) us l
  | _, _, _, .nil, .nil => .nil
  | _, _, _, .cons r rs, .cons h hs => .cons ⟨_, r, h⟩ (each_of rs hs)
theorem of_each : ∀ {us : List Value} {l : List PyData}, PySem.W.EachIs (fun u d => ∃ x, RelV x u ∧ DpF G.K H x d) us l → ∃ xs, Vals xs us ∧ DpFs G.K H xs l
  | _, _, .nil => ⟨[], .nil, .nil⟩
  | _, _, .cons ⟨x, r, h⟩ hs => by
    obtain ⟨xs, a, b⟩ := of_each hs
    exact ⟨x :: xs, .cons r a, .cons h b⟩
theorem alike_all {l : List PyData} (h : allAlike l = true) : PySem.W.AllAlike l := fun d hd e he => List.all_eq_true.mp (List.all_eq_true.mp h d hd) e he
theorem sortable_of {l : List PyData} (h : sortableB l = true) : PySem.W.Sortable l ∨ ((∀ d, d ∈ l → tupB d = true) ∧ l.all headB = false) := by
  rcases (Bool.or_eq_true _ _).mp h with h | h
  · refine .inl ?_
    rcases (Bool.or_eq_true _ _).mp h with h | h
    · refine .inl fun d hd => ?_
      have := List.all_eq_true.mp h d hd
      split at this
      · exact ⟨_, _, rfl⟩
      · cases this
    · refine .inr fun d hd => ?_
      have := List.all_eq_true.mp h d hd
      split at this
      · cases this
      · cases this
      · exact ⟨fun e => by simp_all, fun xs e => by simp_all⟩
  · simp only [Bool.and_eq_true, Bool.not_eq_true'] at h
    exact .inr ⟨fun d hd => List.all_eq_true.mp h.1 d hd, h.2⟩
theorem depth_mem : ∀ {l : List PyData} {d : PyData}, d ∈ l → d.depth ≤ PyData.depthAll l
  | [], _, h => nomatch h
  | e :: l, d, h => by
    unfold PyData.depthAll
    rcases List.mem_cons.mp h with rfl | h
    · omega
    · have := depth_mem h
      omega
/-! ### isinstance -/
theorem ty_of {v : V} {d : D} {T : List Addr} {a : String} (h : Rep G H v d T) (e : d.ty = some a) : TyX G.K H v (.type a) := by
  cases h with
  | sh h =>
    cases h with
    | non => cases e; exact .base .non
    | bl b => cases e; exact .base (.bl b)
    | int b => cases e; exact .base (.int b)
    | str b => cases e; exact .base (.str b)
    | dct q => cases e; exact .fDict q
    | dc1 q => cases e; exact .fDict q
    | lst q _ =>
      cases e
      rcases q with ⟨o, q⟩ | ((q | ⟨_, q⟩) | ⟨o, its, n, q, c, _⟩)
      · exact .base (.frz q)
      · cases q
      · cases q
      · exact .kList q c
    | tup q _ =>
      cases e
      rcases q with ⟨o, q, _⟩ | ⟨o, its, n, q, c, _⟩
      · exact .fTuple q
      · exact .kTuple q c
  | ls q _ => cases e; exact .base (.lst q)
  | tp q _ =>
    cases e
    rcases q with ⟨o, q, _⟩ | ⟨o, its, n, q, c, _⟩
    · exact .fTuple q
    · exact .kTuple q c
  | dk q _ => cases e; exact .base (.dK q)
  | dd _ _ _ _ => cases e
  | ob => cases e
  | fn _ => cases e
  | fd => cases e
theorem isi_tab {a : String} (t : Ty) (h : a = "NoneType" ∨ a = "bool" ∨ a = "int" ∨ a = "str" ∨ a = "list" ∨ a = "tuple" ∨ a = "dict") : kitB a t.nm = some (isiTab a t) := by
  rcases h with rfl | rfl | rfl | rfl | rfl | rfl | rfl <;> cases t <;> decide +kernel
theorem ty_in {d : D} {a : String} (e : d.ty = some a) : a = "NoneType" ∨ a = "bool" ∨ a = "int" ∨ a = "str" ∨ a = "list" ∨ a = "tuple" ∨ a = "dict" := by
  unfold D.ty at e
  split at e <;> cases e <;> simp
/-- isinstance(x, t), the class named -/
def rIsiV (G : Ga) (t : Ty) : List V → Hp → VK → Prop := fun vs H Q => ∃ x d z T, vs = [x, .ty t.nm] ∧ Rep G H x d T ∧ oIsi t d = some z ∧ NewR G H z Q
theorem v_isi (hG : G.K = X.K) (t : Ty) : CallR X (.builtin "isinstance") (rIsiV G t) := callImp call_isi fun vs H Q ⟨x, d, z, T, e, hx, ho, hn⟩ => by
  subst e
  unfold oIsi at ho
  split at ho
  · cases ho
    rename_i a e
    exact ⟨x, .ty t.nm, .type a, .type t.nm, _, rfl, .ty _, hG ▸ ty_of hx e, kit_ty (isi_tab t (ty_in e)), hn.bl⟩
  · cases ho
end
end Vs
/-! VE: enumerate over a tuple. -/
namespace Vs
open PySem PySem.Spec L2
open PyProof.Rows hiding St
open PySem.AutoSeq1 (wpAny_loadPart')
set_option maxHeartbeats 1000000 in
theorem mk_enumT (b : Addr) (its : Array Value) (k : Nat) (q : Option Addr) (r : Array (Option Value)) :
    Meets (Builtin.«enumerate.__new__» ⟨[.type "enumerate", .ref b], []⟩) (fun _ R z => z.heap.get? b = some { cls := .type "tuple", dict := q, data := .seq its k, slots := r } ∧
      R (.ok (.ret (.ref (z.heap.push { cls := .type "tuple_iterator", data := .fields #[.ref b, .int 0 0] }).objs.size)))
        { z with heap := (z.heap.push { cls := .type "tuple_iterator", data := .fields #[.ref b, .int 0 0] }).push { cls := .type "enumerate", data := .fields #[.none, .bool false, .ref z.heap.objs.size, rawInt 0, .none, .none] } }) :=
  .of_wp fun pg w A R z f => by
    obtain ⟨hp, g, d, tk, os⟩ := z
    obtain ⟨hl, f⟩ := f
    have hs := sub_enumerate
    have hT : Heap.IsTuple (Shared.heap ⟨hp, g, d, tk, os⟩) b its := ⟨_, hl, rfl, k, rfl⟩
    wp_walk using wpAny_loadPart' hl
    refine wpAny_stack_any fun _ => wpAny_pure ?_
    split
    · rename_i c _ _ _ _ _
      cases (c == Value.type "enumerate")
      all_goals
        wp_walk using wpAny_loadPart' hl, wpAny_pyIter_tuple hT
        exact ⟨_, rfl, f⟩
    · wp_walk using wpAny_loadPart' hl, wpAny_pyIter_tuple hT
      exact ⟨_, rfl, f⟩
theorem push2 {h : Heap} {x y : Obj} : ∀ b u, h.get? b = some u → ((h.push x).push y).get? b = some u := fun b u e => Heap.get?_push_of_some _ (Heap.get?_push_of_some _ e)
theorem new_enumT {pg : Program} {w : World} {A : Around} {E : Value → Shared → Prop} {z : Shared} {b : Addr} {its : Array Value} {Q : Value → Shared → Prop} (hT : z.heap.IsTuple b its)
    (f : ∀ h', IsEnum h' (z.heap.objs.size + 1) z.heap.objs.size 0 .none → h'.IsTupleIter z.heap.objs.size b 0 → (∀ c u, z.heap.get? c = some u → h'.get? c = some u) → Q (.ref (z.heap.objs.size + 1)) { z with heap := h' }) :
    wpAny (model pg w) A (call (.type "enumerate") [.ref b]) Q E z := by
  obtain ⟨⟨c, q, dt, r⟩, hl, hc, k, hd⟩ := hT
  change c = _ at hc
  change dt = _ at hd
  subst hc hd
  have M := mk_enumT b its k q r
  refine callType_new F.called_enumerate (by decide) (F.typeCall_enumerate_1 _) (F.newCall_enumerate_1 _) (fun o => F.args_object_init_2 o _) F.entry_enumerate_new M ⟨hl, ?_⟩
  have hz : (z.heap.push { cls := .type "tuple_iterator", data := .fields #[.ref b, .int 0 0] }).objs.size = z.heap.objs.size + 1 := Heap.size_push ..
  have he := Heap.get?_push_size (z.heap.push { cls := .type "tuple_iterator", data := .fields #[.ref b, .int 0 0] }) (o := { cls := .type "enumerate", data := .fields #[.none, .bool false, .ref z.heap.objs.size, rawInt 0, .none, .none] }) rfl
  show _ ∧ _
  rw [hz] at he ⊢
  exact ⟨⟨_, he, rfl⟩, f _ he ⟨_, Heap.get?_push_of_some _ (Heap.get?_push_size _ rfl), rfl, rfl⟩ push2⟩
/-- the tuple at a, each item in a new pair -/
def IteT (K : PySem.W.Frag) (a : Addr) : It :=
  ⟨fun i H => ∃ (l : List V) (v : V), SqT K H a l ∧ l[i]? = some v,
   fun i H u H' => ∃ P v, u = .ref P ∧ H P = none ∧ H' = upd H P (.tup [.int (i : Nat), v]) ∧ ∀ l, SqT K H a l → l[i]? = some v,
   fun i H => ∃ l : List V, SqT K H a l ∧ l.length ≤ i⟩
theorem turn_enumT {P : Program} {w : World} {K : PySem.W.Frag} {elts : List Expr} {kk : Nat} {tpos : Pos} (a e it : Addr) (hat : a ≠ it) :
    Turn P w K (.Tuple elts kk tpos) (IteT K a) [e, it] e (fun i h => (∃ u, IsEnum h e it ((i : Nat) : Int) u) ∧ h.IsTupleIter it a i ∧ e ≠ it) where
  mem := List.mem_cons_self
  obj := fun i h ⟨⟨u, he⟩, ⟨o, ho, hc, hd⟩, _⟩ b hb => by
    rcases List.mem_cons.mp hb with rfl | hb
    · exact ⟨_, he, fun v q => nomatch q⟩
    · rw [List.mem_singleton.mp hb]
      exact ⟨o, ho, fun v q => by rw [hd] at q; cases q⟩
  keep := fun i h h' ⟨⟨u, he⟩, hi, hne⟩ k => ⟨⟨u, k e (by simp) _ he⟩, hi.at fun o q => k it (by simp) o q, hne⟩
  item := by
    intro X hP hw hK hc i pins s σ H E I hf st hg
    subst hP hw hK
    obtain ⟨⟨old, he⟩, hit, hne⟩ := st
    obtain ⟨l, v, hq, hx⟩ := hg
    obtain ⟨its, rv, p, hz⟩ := I.tuple hq
    obtain ⟨u, hu, ru⟩ := rv.get hx
    have hh := I.ok.hd hc
    have hel : e < s.heap.objs.size := Heap.lt_size he
    have hil : it < s.heap.objs.size := hit.elim fun _ q => Heap.lt_size q.1
    by_cases hea : e = a
    · subst hea
      obtain ⟨o, ho, hcl, _⟩ := p
      rw [he] at ho
      cases ho
      exact absurd hcl (by simp)
    refine wpAny_pyNext_enum_itemD (Draws.tuple (by first | exact hh | simpa using hh) it a hat its.toArray) he ⟨hit, p⟩ (by have := rv.length; have := (List.getElem?_eq_some_iff.mp hx).1; simp; omega) hne (by simp [hne, hea]) fun x h' tk hPx ho hst' hT hsz hk => ?_
    obtain rfl : x = u := by
      have : its.toArray[i]? = some u := by simpa using hu
      exact Option.some.inj (hPx.symm.trans this)
    refine ⟨_, rfl, wpAny_letOwnedTupleGo_enum (s := { s with heap := h', toks := tk + 1 }) ho fun h2 he' sb => ?_⟩
    have hT2 : h2.get? s.heap.objs.size = some { cls := .type "tuple", data := .seq #[.int i tk, x] } := (sb.2 _ (Nat.ne_of_gt hel)).trans hT
    have new : ObjOk X.prog X.w (upd H s.heap.objs.size (.tup [.int (i : Nat), v])) h2 s.heap.objs.size (.tup [.int (i : Nat), v]) := ⟨by show 2 ≤ sizeLine; decide, [.int i tk, x], .cons ⟨_, rfl⟩ (.cons ru .nil), ⟨_, hT2, rfl, _, rfl⟩⟩
    have I1 := I.turnedNew (t' := tk + 1) (ch := [e, it]) (fun b o hb q => (sb.2 b (fun z => hb (by simp [z]))).trans (hk b o (fun z => hb (by simp [z])) (fun z => hb (by simp [z])) q)) hf (Nat.le_refl _) new
    refine ⟨.ref s.heap.objs.size, _, I1, rfl, ⟨_, v, rfl, I.hok.fresh (Nat.le_refl _), rfl, fun m hm => by rw [I.tuple_inj hm hq]; exact hx⟩, ⟨⟨x, ?_⟩, hst'.1.at fun o q => (sb.2 it (Ne.symm hne)).trans q, hne⟩, fun b hb => ?_⟩
    · rw [show ((i + 1 : Nat) : Int) = (i : Int) + 1 by omega]
      exact he'
    · have hlt : b < s.heap.objs.size := by
        rcases List.mem_cons.mp hb with rfl | z
        · exact hel
        · rw [List.mem_singleton.mp z]; exact hil
      rw [upd_ne (Nat.ne_of_lt hlt)]
      exact (hf b hb).1
  done := by
    intro X hP hw hK hc i pins s σ H E I hf st hg
    subst hP hw hK
    obtain ⟨⟨old, he⟩, hit, hne⟩ := st
    obtain ⟨l, hq, hx⟩ := hg
    obtain ⟨its, rv, p, hz⟩ := I.tuple hq
    have hh := I.ok.hd hc
    obtain ⟨f0, f1, f2, f3, f4, f5⟩ := hf it (by simp)
    have hl := rv.length
    have hend : its.toArray[i]? = none := by simp; omega
    have D : Draws X.prog X.w X.A.in1 it [it, a] i (fun _ _ => False) (fun j h => j = i ∧ h.IsTupleIter it a i ∧ h.IsTuple a its.toArray) :=
      ⟨fun _ _ ⟨_, ⟨o, ho, _⟩, _⟩ => ⟨o, ho⟩, fun _ _ _ ⟨q, x, y⟩ k => ⟨q, x.at fun o e => k it (by simp) o e, y.at fun o e => k a (by simp) o e⟩, fun j _ _ _ lt ⟨q, _⟩ => absurd lt (by omega), fun s Q E ⟨_, x, y⟩ hE => wpAny_nextOf_tuple_end (by first | exact hh | simpa using hh) x y hend hE⟩
    exact wpAny_pyNext_enum_endD D he ⟨rfl, hit, p⟩ fun h' eb => ⟨rfl, I.turned (t' := s.toks) (fun b o hb q => eb b o hb q) f0 f1 f3 f4 f5⟩
  self := fun A i s Q E ⟨⟨_, q⟩, _⟩ h => wpAny_pyIter_enum q h
/-- enumerate over a list or a tuple -/
def iEnumA (K : PySem.W.Frag) (ta : TA) : TI := fun σ H R => ta σ H fun vs H1 => ∃ a l, vs = [.ref a] ∧ ((SqL K H1 a l ∧ R (Ite K a) H1) ∨ (SqT K H1 a l ∧ R (IteT K a) H1))
theorem pi_enumA {X : Cx} {e : PySem.Expr} {ta : TA} {p pos tpos : Pos} {elts : List PySem.Expr} {kk : Nat} (hg : Gl X "enumerate") (hm : X.mg "enumerate" = none) (ha : PA X [e] ta) (hs : starEach [e] X.env = [(false, eval e X.env)] := by rfl) :
    PI X (.Tuple elts kk tpos) (.Call (.Name "enumerate" p) [e] [] pos) (iEnumA X.K ta) := by
  refine ⟨fun pins s σ H R I h => Call_ (ld_blt I hg hm boot_enumerate (PyProof.Rows.callWith_type1 (thn (ha.run pos pins s σ H _ I h) fun us s1 ⟨vs, H1, I1, r1, a, l, ex, q1⟩ => ?_) hs rfl))⟩
  subst ex
  cases r1 with
  | cons r rr =>
    cases rr
    cases r
    have fresh : ∀ b ∈ [s1.heap.objs.size + 1, s1.heap.objs.size], FpOk X pins H1 b := fun b hb => by
      have hle : s1.heap.objs.size ≤ b := by
        rcases List.mem_cons.mp hb with z | z
        · omega
        · rw [List.mem_singleton.mp z]; exact Nat.le_refl _
      exact I1.fpOk hle (I1.hok.fresh hle)
    rcases q1 with ⟨hq, q⟩ | ⟨hq, q⟩
    · obtain ⟨its, rv, p', hz⟩ := I1.list hq
      exact call_enumerate_list p'.isList fun h' he hit hsz hk => wpAny_pyIter_enum he ⟨_, _, _, _, H1, rfl, I1.kept (t' := s1.toks) hk, turn_enum a (s1.heap.objs.size + 1) s1.heap.objs.size, ⟨⟨.none, he⟩, hit, Nat.succ_ne_self _⟩, fresh, q⟩
    · obtain ⟨its, rv, p', hz⟩ := I1.tuple hq
      have hat : a ≠ s1.heap.objs.size := by
        obtain ⟨o, ho, _⟩ := p'
        exact Nat.ne_of_lt (Heap.lt_size ho)
      exact new_enumT p' fun h' he hit hk => wpAny_pyIter_enum he ⟨_, _, _, _, H1, rfl, I1.kept (t' := s1.toks) hk, turn_enumT a (s1.heap.objs.size + 1) s1.heap.objs.size hat, ⟨⟨.none, he⟩, hit, Nat.succ_ne_self _⟩, fresh, q⟩
end Vs
/-! VY: the items of a dict that nobody writes any more, one by one. -/
namespace Vs
open PySem PySem.Spec L2
open PyProof.Rows hiding St
theorem paired_get {α β : Type} {F : α → β → Prop} : ∀ {l : List α} {m : List β} {i : Nat} {x : α} {y : β}, Paired F l m → l[i]? = some x → m[i]? = some y → F x y
  | _, _, i, _, _, .nil, e, _ => by simp at e
  | _, _, 0, _, _, .cons h _, e, e' => by simp at e e'; subst e e'; exact h
  | _, _, i + 1, _, _, .cons _ t, e, e' => paired_get t (by simpa using e) (by simpa using e')
/-- a frozen dict whose keys are tuples (or that has nothing) -/
def FzD (w : World) (H : Hp) (a : Addr) (o : Obj) (kvs : KAV) : Prop := H a = some (.frz o (dtO w a kvs)) ∨ (kvs = [] ∧ H a = some (.frz o (.dK [])))
section
variable {X : Cx} {pins : List (Addr × Obj)} {σ : L2.St} {H : Hp} {s : Shared} {a : Addr} {o : Obj} {kvs : KAV}
theorem FzD.rd (I : Inv X pins σ H s) (h : FzD X.w H a o kvs) : s.heap.get? a = some o ∧ (a == sysModules) = false ∧ ∃ xs es ep, Paired RelX kvs xs ∧ o.ExactDict ∧ o.data = .dict es ep ∧ es.toList = xs.map fun x => { hash := NestedKey.hash X.w x.1, key := .ref x.2.1, val := x.2.2 } := by
  rcases h with h | ⟨rfl, h⟩
  · obtain ⟨g, ⟨z, y, xs, p, o', es, ep, h1, h2, h3, h4, h5⟩, _⟩ := (show ObjOk X.prog X.w H s.heap a (.frz o (dtO X.w a kvs)) from I.hok a _ h)
    rw [g] at h1
    cases h1
    exact ⟨g, y, xs, es, ep, p, h2, h3, h4⟩
  · have g : s.heap.get? a = some o := (show ObjOk X.prog X.w H s.heap a (.frz o (.dK [])) from I.hok a _ h).1
    obtain ⟨z, q, vs, kv, o', es, n, ho, hx, hd, _, hp, _⟩ := dk_rd I.hok (.inr ⟨o, h⟩)
    rw [g] at ho
    cases ho
    cases kv
    refine ⟨g, q, [], es, n, .nil, hx, hd, ?_⟩
    generalize es.toList = l at hp
    cases hp
    rfl
theorem FzD.raw (I : Inv X pins σ H s) (h : FzD X.w H a o kvs) {es : Array DictEntry} {ep : Nat} (hd : o.data = .dict es ep) : s.heap.DictRaw a es ep ∧ es.size = kvs.length ∧ ∀ i (hi : i < es.size), ∃ e, kvs[i]? = some e ∧ es[i].key = .ref e.2.1 ∧ RelV e.2.2 es[i].val := by
  obtain ⟨g, y, xs, es', ep', p, h2, h3, h4⟩ := h.rd I
  rw [hd] at h3
  cases h3
  have hl : es.size = xs.length := by have := congrArg List.length h4; simpa using this
  have hp : kvs.length = xs.length := p.length
  refine ⟨⟨o, g, h2, hd⟩, by rw [hl, hp], fun i hi => ?_⟩
  have hx : i < xs.length := hl ▸ hi
  have hk : i < kvs.length := hp ▸ hx
  have e1 : es[i] = { hash := NestedKey.hash X.w xs[i].1, key := .ref xs[i].2.1, val := xs[i].2.2 } := by
    have : es.toList[i]? = some es[i] := by simp [hi]
    rw [h4, List.getElem?_map, List.getElem?_eq_getElem hx] at this
    exact (Option.some.inj this).symm
  obtain ⟨r1, r2, r3⟩ := paired_get p (List.getElem?_eq_getElem hk) (List.getElem?_eq_getElem hx)
  exact ⟨_, List.getElem?_eq_getElem hk, by rw [e1, r2], by rw [e1]; exact r3⟩
/-- its entries, each in a new pair -/
def ItF (w : World) (a : Addr) (o : Obj) (kvs : KAV) : It :=
  ⟨fun i H => FzD w H a o kvs ∧ i < kvs.length,
   fun i H u H' => ∃ P e, kvs[i]? = some e ∧ u = .ref P ∧ H P = none ∧ H' = upd H P (.tup [.ref e.2.1, e.2.2]),
   fun i H => FzD w H a o kvs ∧ kvs.length ≤ i⟩
theorem turn_F {P : Program} {w : World} {K : PySem.W.Frag} {elts : List Expr} {kk : Nat} {tpos : Pos} {es : Array DictEntry} {ep : Nat} (it : Addr) (hd : o.data = .dict es ep) :
    Turn P w K (.Tuple elts kk tpos) (ItF w a o kvs) [it] it (fun i h => ∃ ok ov, IsItemIter h it a i kvs.length ep ok ov) where
  mem := List.mem_cons_self
  obj := fun i h ⟨ok, ov, q⟩ b hb => by
    rw [List.mem_singleton.mp hb]
    exact ⟨_, q, fun v z => nomatch z⟩
  keep := fun i h h' ⟨ok, ov, q⟩ k => ⟨ok, ov, k it (by simp) _ q⟩
  item := by
    intro X hP hw hK hc i pins s σ H E I hf ⟨ok, ov, hit⟩ ⟨hz, hi⟩
    subst hP hw hK
    obtain ⟨raw, hl, hx⟩ := hz.raw I hd
    rw [← hl] at hit
    have hil : it < s.heap.objs.size := Heap.lt_size hit
    refine wpAny_pyNext_items_item_raw hit raw (hl ▸ hi) fun h' ho hT hsz hk => ?_
    refine ⟨_, rfl, wpAny_letOwnedTupleGo_items (s := { s with heap := h' }) ho fun h2 he' sb => ?_⟩
    obtain ⟨e, ee, k1, k2⟩ := hx i (hl ▸ hi)
    have hne : s.heap.objs.size ≠ it := Nat.ne_of_gt hil
    have hT2 := (sb.2 _ hne).trans hT
    have new : ObjOk X.prog X.w (upd H s.heap.objs.size (.tup [.ref e.2.1, e.2.2])) h2 s.heap.objs.size (.tup [.ref e.2.1, e.2.2]) := ⟨by show 2 ≤ sizeLine; decide, [es[i].key, es[i].val], .cons (by rw [k1]; rfl) (.cons k2 .nil), ⟨_, hT2, rfl, _, rfl⟩⟩
    have I1 := I.turnedNew (t' := s.toks) (ch := [it]) (fun b o hb q => (sb.2 b (fun z => hb (by simp [z]))).trans (hk b o (fun z => hb (by simp [z])) q)) hf (Nat.le_refl _) new
    refine ⟨.ref s.heap.objs.size, _, I1, rfl, ⟨_, e, ee, rfl, I.hok.fresh (Nat.le_refl _), rfl⟩, ⟨_, _, by rw [← hl]; exact he'⟩, fun b hb => ?_⟩
    rw [List.mem_singleton.mp hb, upd_ne hne.symm]
    exact (hf it (by simp)).1
  done := by
    intro X hP hw hK hc i pins s σ H E I hf ⟨ok, ov, hit⟩ ⟨hz, hi⟩
    subst hP hw hK
    have hh := I.ok.hd hc
    obtain ⟨raw, hl, hx⟩ := hz.raw I hd
    rw [← hl] at hit
    obtain ⟨f0, f1, f2, f3, f4, f5⟩ := hf it (by simp)
    exact wpAny_pyNext_items_end_raw hh hit raw (hl ▸ hi) fun h' eb => ⟨rfl, I.turned (t' := s.toks) (fun b o hb q => eb b o hb q) f0 f1 f3 f4 f5⟩
  self := fun A i s Q E ⟨ok, ov, q⟩ h => by
    have t := (turn_items (P := P) (w := w) (K := K) (d := a) (kvs := List.replicate kvs.length (Sum.inl 0, V.non)) (elts := elts) (kk := kk) (tpos := tpos) it hd)
    exact t.self A i s Q E ⟨ok, ov, by rw [List.length_replicate]; exact q⟩ h
/-! ### x.items() -/
def viewO (p a : Addr) : HO := .ext fun h => h.IsItemsView p a
def rItF (X : Cx) : V → List V → Hp → VK → Prop := fun x xs H Q => ∃ a o kvs, x = .ref a ∧ xs = [] ∧ FzD X.w H a o kvs ∧ ∀ p, H p = none → Q (.ref p) (upd H p (viewO p a))
def tyF (X : Cx) : V → Hp → Prop := fun x H => ∃ a o kvs, x = .ref a ∧ FzD X.w H a o kvs
theorem ty_F : TyOk X "dict" (tyF X) := fun pins σ H s x v I r ⟨a, o, kvs, e, h⟩ => by
  subst e
  cases r
  obtain ⟨g, y, xs, es, ep, p, h2, h3, h4⟩ := h.rd I
  exact ⟨⟨o, g, h2.1⟩, fun b e => by cases e; exact ⟨o, g, h2.2.1⟩⟩
theorem mt_F : MtR X "dict.items" (rItF X) := fun pins s σ H x xs v us Q I rx rs ⟨a, o, kvs, e1, e2, h, q⟩ => by
  subst e1 e2
  cases rx
  cases rs
  obtain ⟨g, y, xs, es, ep, p, h2, h3, h4⟩ := h.rd I
  refine call_meetsIn F.slot_dict_items ⟨o, g, h2.1⟩ F.entry_dict_items (F.args_dict_items_1 _) (meets_dict_items_raw a y) ⟨⟨es, ep, o, g, h2, h3⟩, ?_⟩
  have hv : ObjOk X.prog X.w (upd H s.heap.objs.size (viewO s.heap.objs.size a)) (s.heap.push { cls := .type "dict_items", data := .fields #[.ref a] }) s.heap.objs.size (viewO s.heap.objs.size a) := by
    refine ⟨⟨_, Heap.get?_push_size _ rfl, rfl, rfl⟩, ⟨_, Heap.get?_push_size _ rfl⟩, ?_⟩
    rintro h1 h2 ⟨o, x, y⟩ k
    exact ⟨o, k o x, y⟩
  exact ⟨.ref s.heap.objs.size, _, I.laid (t' := s.toks) (fun b o e => Heap.get?_push_of_some _ e) (Nat.le_refl _) hv, rfl, q _ (I.hok.fresh (Nat.le_refl _))⟩
def QItF (X : Cx) (R : It → Hp → Prop) : VK := fun v H' => ∃ a o kvs p, v = .ref p ∧ H' p = some (viewO p a) ∧ FzD X.w H' a o kvs ∧ R (ItF X.w a o kvs) H'
def iItF (X : Cx) (td : TE) : TI := fun σ H R => td σ H fun x H1 => tyF X x H1 ∧ rItF X x [] H1 (QItF X R)
theorem pi_F {e : PySem.Expr} {td : TE} {apos cpos : Pos} {elts : List PySem.Expr} {kk : Nat} {tpos : Pos} (h : PE X e td) (hb : attributeBase e "items" X.env (eval e X.env) = eval e X.env := by rfl) (hl : (apos.endLine == cpos.line) = true := by rfl) :
    PI X (.Tuple elts kk tpos) (.Call (.Attribute e "items" apos) [] [] cpos) (iItF X td) := by
  have pe := pe_mG0 (ty_F (X := X)) F.plainAttrs_dict F.slot_dict_items F.type_dict_items mt_F h hb hl
  refine ⟨fun pins s σ H R I z => ?_⟩
  refine thn (pe.run pins s σ H (QItF X R) I z) fun u s1 ⟨v, H1, I1, r1, a, o, kvs, p, e1, hp, hz, q⟩ => ?_
  subst e1
  cases r1
  obtain ⟨g, y, xs, es, ep, pp, h2, h3, h4⟩ := hz.rd I1
  obtain ⟨raw, hl, _⟩ := hz.raw I1 h3
  have hv : s1.heap.IsItemsView p a := (show ObjOk X.prog X.w H1 s1.heap p (viewO p a) from I1.hok p _ hp).1
  refine wpAny_pyIter_items_raw hv raw ?_
  refine ⟨s1.heap.objs.size, [s1.heap.objs.size], _, _, H1, rfl, I1.kept (t' := s1.toks) fun b o e => Heap.get?_push_of_some _ e, turn_F s1.heap.objs.size h3, ⟨.none, .none, ?_⟩, fun b hb => ?_, q⟩
  · have := Heap.get?_push_size s1.heap (o := { cls := Value.type "dict_itemiterator", data := Data.fields #[Value.none, Value.bool false, Value.ref a, Value.int 0 0, Value.int (↑es.size) 0, Value.int (↑ep) 0, Value.none, Value.none] }) rfl
    rw [← hl]
    exact this
  · have e : b = s1.heap.objs.size := by simpa using hb
    subst e
    exact I1.fpOk (Nat.le_refl _) (I1.hok.fresh (Nat.le_refl _))
end
end Vs
/-! VZ: sorted of tuples and dicts, list of dicts. -/
namespace Vs
open PySem PySem.Spec L2
open PyProof.Rows hiding St
def Ext (h h' : Heap) : Prop := ∀ b o, h.get? b = some o → h'.get? b = some o
section
variable {prog : Program} {w : World} {A : Around} {E : Value → Shared → Prop} {s : Shared}
/-- collect(v) gives these -/
def Col (prog : Program) (w : World) (A : Around) (s : Shared) (v : Value) (us : List Value) : Prop := ∀ (E : Value → Shared → Prop) (R' : List Value → Shared → Prop), (∀ h' tk, Ext s.heap h' → R' us { s with heap := h', toks := tk }) → wpAny (model prog w) A (collect v) R' E s
/-- sorted(v), once it is known what v gives -/
theorem sorted_col {β : Type} {v : Value} {us : List Value} {bs : List β} {enc : β → PyData} {R : Value → β → Prop} {Q : Value → Shared → Prop}
    (hc : Col prog w A.in1 s v us)
    (e : PySem.W.EachIs R us bs) (er : PySem.W.EachIs (fun v b => ∃ as, Reads s.heap v (enc b) as) us bs) (hal : PySem.W.AllAlike (bs.map enc)) (hk : PySem.W.Sortable (bs.map enc)) (hL : bs.length ≤ sizeLine) (hu : ∀ b, b ∈ bs → A.units + 2 + (enc b).depth < cLine)
    (h : ∀ (out : List Value) (h1 h' : Heap) (tk : Nat), Ext s.heap h1 → Ext h1 h' → (∃ n, h'.get? h1.objs.size = some { cls := .type "list", data := .seq out.toArray n }) → out.length = bs.length → PySem.W.EachIs R out (bs.mergeSort (PySem.W.dataLe false enc)) → Q (.ref h1.objs.size) { s with heap := h', toks := tk }) :
    wpAny (model prog w) A (call (.builtin "sorted") [v]) Q E s := by
  refine call_function_entry_kw kind_sorted plain_sorted entry_sorted (args_sorted1 v) ?_
  unfold Builtin.sorted
  have hlen : us.length ≤ sizeLine := by rw [e.length]; exact hL
  refine wpAny_bind (wpAny_pure (wpAny_bind (hc _ _ fun h1 tk k1 => wpAny_bind (wpAny_newList ?_ hlen))))
  have ho : (h1.push { cls := .type "list", data := .seq us.toArray }).get? h1.objs.size = some (seqObj "list" us.toArray 0) := Heap.get?_push_size _ rfl
  have old : ∀ b o, s.heap.get? b = some o → (h1.push { cls := Value.type "list", data := .seq us.toArray }).get? b = some o ∧ b < h1.objs.size := fun b o q => ⟨Heap.get?_push_of_some _ (k1 b o q), Heap.lt_size (k1 b o q)⟩
  have er' : PySem.W.EachIs (fun v b => ∃ as, Reads (PySem.W.sortingHeap (h1.push { cls := Value.type "list", data := .seq us.toArray }) h1.objs.size us) v (enc b) as) us bs := er.mono fun _ _ ⟨as, r⟩ => ⟨as, PyProof.Rows.Reads.keeps (fun b o q => PySem.W.sortingHeap_old (Nat.ne_of_lt (old b o q).2) (old b o q).1) r⟩
  refine wpAny_bind (wpAny_holding (wpAny_call_entry_kw slot_list_sort ⟨_, ho, rfl⟩ entry_list_sort ?_ (args_list_sort _)))
  refine PySem.W.list_sort_vals (n := 0) ho (PySem.W.SortsAt.data (PySem.W.each_map enc er') hal hk (PySem.W.bound_map hu)) hlen ⟨.none, rfl, wpAny_pure ⟨_, rfl, ?_⟩⟩
  refine h _ h1 _ tk k1 (fun b o q => ?_) (sortedHeap_at ho) ((PySem.W.sortVals_length false rfl).trans e.length) (PySem.W.sortVals_data false e er' hal)
  have lt := Heap.lt_size q
  rw [sortedHeap_old (Nat.ne_of_lt lt) (by rw [Heap.size_push]; exact Nat.lt_succ_of_lt lt)]
  exact Heap.get?_push_of_some _ q
/-- what a list or a tuple gives -/
theorem seq_col {T : String} {a : Addr} {o : Obj} {its : Array Value} {n : Nat} (hT : T = "list" ∨ T = "tuple") (h1 : s.heap.get? a = some o) (h2 : o.cls = .type T) (h3 : o.data = .seq its n) (hz : its.size ≤ sizeLine) : Col prog w A s (.ref a) its.toList := fun E R' h =>
  wpAny_collect_seq a hT h1 h2 h3 (fun h' k => h h' s.toks k) hz
/-- what a thing that is walked gives -/
theorem src_col {T : String} {r d : Addr} {n : Nat} {P : Nat → Value → Prop} {OK : Heap → Prop} {us : List Value} (K : PySem.W.KdlSrc prog w T r d n P OK) (hh : A.handled = none) (ok : OK s.heap) (hn : n ≤ sizeLine) (hu : ∀ acc : Array Value, ItemsOf P acc n → acc.toList = us) : Col prog w A s (.ref r) us := fun E R' h => by
  obtain ⟨hr, hd⟩ := K.there _ ok
  unfold collect
  refine wpAny_bind (wpAny_runValue (codeAny_builtin entry_proto_collect' ?_))
  rw [Around.under_plainId F.plain_proto_collect]
  unfold Builtin.«proto.collect»
  refine wpAny_bind (wpAny_newObj_type (wpAny_pure ⟨plainId_quiet F.plain_list_iadd _, codeAny_builtin entry_list_iadd' ?_⟩))
  rw [Around.under_plainId F.plain_list_iadd]
  have hS := Heap.get?_push_size s.heap (o := { cls := Value.type "list", data := Data.seq #[] }) rfl
  unfold Builtin.«list.__iadd__»
  have key := PySem.W.kdl_extend (s := { s with heap := s.heap.push { cls := Value.type "list", data := Data.seq #[] } }) (R := fun q s' => ∃ h' tk acc c, q = Except.ok (Flow.ret (.ref s.heap.objs.size)) ∧ s' = { s with heap := h', toks := tk } ∧ Ext s.heap h' ∧ h'.get? s.heap.objs.size = some { cls := .type "list", data := .seq acc c } ∧ ItemsOf P acc n) K hh (K.keep _ _ ok fun b _ o q => Heap.get?_push_of_some _ q) s.heap.objs.size (Nat.ne_of_gt hr) (Nat.ne_of_gt hd) (.ref s.heap.objs.size) 0 hS (fun h' tk acc c k1 k2 k3 => ⟨h', tk, acc, c, rfl, rfl, fun b o q => k1 b o (Nat.ne_of_lt (Heap.lt_size q)) (Heap.get?_push_of_some _ q), k2, k3⟩) hn
  have fin : ∀ (r : Result) (s' : Shared), (∃ h' tk acc c, r = Except.ok (Flow.ret (.ref s.heap.objs.size)) ∧ s' = { s with heap := h', toks := tk } ∧ Ext s.heap h' ∧ h'.get? s.heap.objs.size = some { cls := .type "list", data := .seq acc c } ∧ ItemsOf P acc n) →
      (match r with
        | .ok (.ret v) => wpAny (model prog w) A (match v with
          | .ref a => do
            let __do_lift ← load a
            match __do_lift.data with
              | .seq xs epoch => pure xs.toList
              | x => unsupported "internal:collect"
          | x => unsupported "internal:collect") R' E s'
        | .ok a => False
        | .error e => E e s') := by
    rintro r s' ⟨h', tk, acc, c, rfl, rfl, k1, k2, k3⟩
    refine wpAny_bind (wpAny_load k2 (wpAny_pure ?_))
    show R' acc.toList _
    rw [hu acc k3]
    exact h h' tk k1
  refine wpAny_mono key (fun f s' z => ?_) fun e s' z => ?_
  · cases f with
    | done f => exact fin _ _ z
    | again c => exact ⟨z.1, codeAny_mono z.2 fun r s1 q => fin r s1 q⟩
  · exact fin _ _ z
end
section
variable {X : Cx} {G : Ga} {pins : List (Addr × Obj)} {σ : L2.St} {H : Hp} {s : Shared}
theorem keys_map {kvs : KAV} {xs : List (NestedKey × Addr × Value)} (p : Paired RelX kvs xs) : xs.map (fun x => Value.ref x.2.1) = kvs.map (fun x => Value.ref x.2.1) := by
  induction p with
  | nil => rfl
  | cons r t ih => rw [List.map_cons, List.map_cons, ih, r.2.1]
theorem dk_nil {kvs : List (L2.Key × V)} (h : kvs.map (·.1) = []) : kvs = [] := by
  cases kvs with
  | nil => rfl
  | cons x r => cases h
/-- how the keys stand -/
theorem keysD_raw (hG : G.K = X.K) (hw : G.w = X.w) (I : Inv X pins σ H s) {v : V} {d : D} {T : List Addr} {ks : List PyData} (r : Rep G H v d T) (e : keysD d = some ks) :
    ∃ (a : Addr) (kvs : KAV) (es : Array DictEntry) (ep : Nat), v = .ref a ∧ DpFs G.K H (kvs.map fun x => .ref x.2.1) ks ∧ s.heap.DictRaw a es ep ∧ (a == sysModules) = false ∧ es.size ≤ sizeLine ∧ es.toList.map (·.key) = kvs.map (fun x => Value.ref x.2.1) := by
  cases r with
  | @dk a kvs ds O h hs =>
    cases kvs with
    | nil =>
      cases hs
      have e : some [] = some ks := e
      cases e
      obtain ⟨z, y, vs, r, o, es, ep, h1, h2, h3, h4, h5, h6⟩ := dk_of I.hok h
      cases r
      have el : es.toList = [] := by
        generalize es.toList = l at h5
        cases h5
        rfl
      refine ⟨a, [], es, ep, rfl, .nil, ⟨o, h1, h2, h3⟩, y, ?_, by rw [el]; rfl⟩
      have : es.size = 0 := by rw [← Array.length_toList, el]; rfl
      omega
    | cons x r => cases hs; cases e
  | @dd a kvs ks' ds O h hk em hs =>
    have e : some ks' = some ks := e
    cases e
    obtain ⟨⟨z, y, xs, p, o, es, ep, h1, h2, h3, h4, h5⟩, _⟩ := (show ObjOk X.prog X.w H s.heap a (dtO X.w a kvs) from I.hok a _ (hw ▸ h))
    refine ⟨a, kvs, es, ep, rfl, hk, ⟨o, h1, h2, h3⟩, y, ?_, ?_⟩
    · have : es.size = kvs.length := by rw [← Array.length_toList, h4, List.length_map, Paired.length p]
      omega
    · rw [h4, List.map_map, ← keys_map p]; rfl
  | @fd a o kvs ks' ds h hk em hs =>
    have e : some ks' = some ks := e
    cases e
    have hz : FzD X.w H a o kvs := .inl (hw ▸ h)
    obtain ⟨g, ⟨z, y, xs, p, o', es, ep, h1, h2, h3, h4, h5⟩, _⟩ := (show ObjOk X.prog X.w H s.heap a (.frz o (dtO X.w a kvs)) from I.hok a _ (hw ▸ h))
    refine ⟨a, kvs, es, ep, rfl, hk, ⟨o', h1, h2, h3⟩, y, ?_, ?_⟩
    · have : es.size = kvs.length := by rw [← Array.length_toList, h4, List.length_map, Paired.length p]
      omega
    · rw [h4, List.map_map, ← keys_map p]; rfl
  | _ => cases e
theorem refs_vals : ∀ as : List Addr, Vals (as.map V.ref) (as.map Value.ref)
  | [] => .nil
  | a :: as => .cons rfl (refs_vals as)
theorem items_keys {es : Array DictEntry} (acc : Array Value) (h : ItemsOf (fun i v => ∃ hi : i < es.size, v = es[i].key) acc es.size) : acc.toList = es.toList.map (·.key) := by
  obtain ⟨h1, h2⟩ := h
  refine List.ext_getElem? fun i => ?_
  by_cases hi : i < es.size
  · have hi' : i < acc.size := by omega
    obtain ⟨_, e⟩ := h2 i acc[i] (by simp [hi'])
    rw [List.getElem?_map]
    simp [hi, hi', e]
  · rw [List.getElem?_eq_none (by simp; omega), List.getElem?_eq_none (by simp; omega)]
theorem sortable2_of {l : List PyData} (h : sortable2B l = true) : PySem.W.Sortable l := by
  rcases (Bool.or_eq_true _ _).mp h with h | h
  · refine .inl fun d hd => ?_
    have := List.all_eq_true.mp h d hd
    split at this
    · exact ⟨_, _, rfl⟩
    · cases this
  · refine .inr fun d hd => ?_
    have := List.all_eq_true.mp h d hd
    split at this
    · cases this
    · cases this
    · exact ⟨fun e => by simp_all, fun xs e => by simp_all⟩
/-- sorted of what is collected -/
theorem sort_rule (hG : G.K = X.K) (hu : X.A.units + 64 < cLine) (I : Inv X pins σ H s) {v : Value} {us : List Value} {ys : List V} {l : List PyData} {z : D} {Q : VK} (hc : Col X.prog X.w X.A.in1 s v us) (rv : Vals ys us) (hs : DpFs G.K H ys l) (ho : sortD l = some z) (hl : l.length ≤ sizeLine) (hn : NewR G H z Q) :
    wpAny (model X.prog X.w) X.A (call (.builtin "sorted") [v]) (EP X pins σ Q) X.xe s := by
  unfold sortD at ho
  obtain ⟨c, rfl⟩ := guardO_some ho
  simp only [Bool.and_eq_true, decide_eq_true_eq] at c
  have er : PySem.W.EachIs (fun u d => ∃ as, Reads s.heap u (id d) as) us l := by
    have r1 : Dds X.K H ys l := hG ▸ hs.dd
    obtain ⟨as, r2⟩ := Dds.reads I r1 rv
    exact PySem.W.readsAll_each id (by simpa using r2)
  refine sorted_col (enc := id) (bs := l) (us := us) hc (each_of rv hs) er (by simpa using alike_all c.1.1) (by simpa using sortable2_of c.1.2) hl (fun b hb => ?_) fun out h1 h' tk k1 k2 ⟨n, k3⟩ ho2 eo => ?_
  · have := depth_mem hb
    show X.A.units + 2 + b.depth < cLine
    omega
  · obtain ⟨zs, q1, q2⟩ := of_each eo
    have hlen : zs.length ≤ sizeLine := by rw [q1.length, ho2]; exact hl
    have I1 : Inv X pins σ H { s with heap := h1, toks := tk } := I.kept (t' := tk) k1
    refine ⟨.ref _, upd H h1.objs.size (.lst zs), I1.laid (t' := tk) k2 (Nat.le_refl _) ⟨hlen, out, n, q1, by simpa using k3⟩, rfl, hn.lst q2 (I1.hok.fresh (Nat.le_refl _))⟩
end
section
variable {X : Cx} {G : Ga}
theorem v_list (hG : G.K = X.K) (hw : G.w = X.w) (hc : X.calm = true) : CallR X (.type "list") (r1 G oList) := CallR.cases fun vs H Q ⟨x, d, z, T, e, hx, ho, hn⟩ => by
  subst e
  unfold oList at ho
  split at ho
  · rename_i k l e
    cases ho
    obtain ⟨a, xs, rfl, q, hs⟩ := hx.seq e
    refine ⟨_, call_list_of, a, xs, rfl, ?_, fun p hp => hn.lst hs hp⟩
    cases k with
    | lst => exact .inl (hG ▸ q)
    | tup => exact .inr (hG ▸ q)
  · split at ho
    · rename_i l el
      cases ho
      refine ⟨fun us H' Q' => us = [x] ∧ H' = H ∧ Q' = Q, fun pins s σ H' us vs' Q' I rx ⟨e1, e2, e3⟩ => ?_, rfl, rfl, rfl⟩
      subst e1 e2 e3
      obtain ⟨a, kvs, es, ep, rfl, hk, raw, y, hz, ek⟩ := keysD_raw hG hw I hx el
      obtain rfl := Vals.ref1 rx
      have hh := I.ok.hd hc
      refine PySem.W.kdl_call (KdlSrc.rawDict y) hh raw hz fun h' tk acc c k1 k2 k3 => ?_
      have e4 := items_keys acc k3
      rw [ek] at e4
      have rv : Vals (kvs.map fun x => V.ref x.2.1) acc.toList := by
        rw [e4]
        have := refs_vals (kvs.map fun x => x.2.1)
        simpa [List.map_map, Function.comp_def] using this
      refine ⟨.ref _, upd H' s.heap.objs.size (.lst (kvs.map fun x => V.ref x.2.1)), I.laid (t' := tk) k1 (Nat.le_refl _) ⟨?_, acc.toList, c, rv, by simpa using k2⟩, rfl, hn.lst hk (I.hok.fresh (Nat.le_refl _))⟩
      have := rv.length
      rw [this, Array.length_toList, k3.1]
      exact hz
    · cases ho
theorem v_sorted (hG : G.K = X.K) (hw : G.w = X.w) (hc : X.calm = true) (hu : X.A.units + 64 < cLine) : CallR X (.builtin "sorted") (r1 G oSorted) := fun pins s σ H xs us Q I rx ⟨x, d, z, T, e, hx, ho, hn⟩ => by
  subst e
  unfold oSorted at ho
  split at ho
  · obtain ⟨c, rfl⟩ := guardO_some ho
    simp only [Bool.and_eq_true, decide_eq_true_eq] at c
    obtain ⟨a, ys, rfl, q, hs⟩ := hx.seq (by assumption)
    rw [Vals.ref1 rx]
    obtain ⟨its, rv, hl, hz⟩ := I.list (hG ▸ q : SqL X.K H a ys)
    rename_i l _ _
    have e0 := hs.len
    have er : PySem.W.EachIs (fun u d => ∃ as, Reads s.heap u (id d) as) its l := by
      have r1 : Dds X.K H ys l := hG ▸ hs.dd
      obtain ⟨as, r2⟩ := Dds.reads I r1 rv
      exact PySem.W.readsAll_each id (by simpa using r2)
    refine sorted_both (enc := id) (bs := l) (us := its) hl.isList (each_of rv hs) er (by simpa using alike_all c.1.1) (by simpa using sortable_of c.1.2) (by omega) (fun b hb => ?_) fun out ho2 eo => ?_
    · have := depth_mem hb
      show X.A.units + 2 + b.depth < cLine
      omega
    · obtain ⟨zs, k1, k2⟩ := of_each eo
      obtain ⟨ep, he'⟩ := PyProof.Rows.sortedAll_at s.heap its (List.toArray out)
      have hlen : zs.length ≤ sizeLine := by rw [k1.length, ho2]; omega
      exact ⟨.ref _, upd H (s.heap.objs.size + 1) (.lst zs), I.laid (t' := s.toks) (fun _ _ => PyProof.Rows.sortedAll_old) (Nat.le_succ _) ⟨hlen, out, ep, k1, by simpa using he'⟩, rfl, hn.lst k2 (I.hok.fresh (Nat.le_succ _))⟩
  · rename_i l el
    obtain ⟨a, ys, rfl, q, hs⟩ := hx.seq el
    rw [Vals.ref1 rx]
    obtain ⟨its, rv, ⟨o, h1, h2, n, h3⟩, hz⟩ := I.tuple (hG ▸ q : SqT X.K H a ys)
    have hl := hs.len
    have hi := rv.length
    refine sort_rule hG hu I (seq_col (.inr rfl) h1 h2 h3 (by simp; omega)) (by simpa using rv) hs ho (by omega) hn
  · split at ho
    · rename_i l el
      obtain ⟨a, kvs, es, ep, rfl, hk, raw, y, hz, ek⟩ := keysD_raw hG hw I hx el
      rw [Vals.ref1 rx]
      have hh := I.ok.hd hc
      have hl := hk.len
      have es' : es.size = kvs.length := by
        have := congrArg List.length ek
        simpa using this
      have rv : Vals (kvs.map fun x => V.ref x.2.1) (es.toList.map (·.key)) := by
        rw [ek]
        have := refs_vals (kvs.map fun x => x.2.1)
        simpa [List.map_map, Function.comp_def] using this
      exact sort_rule hG hu I (src_col (KdlSrc.rawDict y) (by first | exact hh | simpa using hh) raw hz items_keys) rv hk ho (by simp at hl; omega) hn
    · cases ho
end
end Vs
/-! VU: dict(..) of a list of pairs whose keys are tuples. -/
namespace Vs
open PySem PySem.Spec L2
open PyProof.Rows hiding St
section
variable {G : Ga}
theorem nd_appU {α : Type} {a b : List α} : (a ++ b).Nodup ↔ a.Nodup ∧ b.Nodup ∧ ∀ x ∈ a, x ∉ b := by
  rw [List.nodup_append]
  refine ⟨fun ⟨x, y, z⟩ => ⟨x, y, fun a p q => z a p a q rfl⟩, fun ⟨x, y, z⟩ => ⟨x, y, fun a p b q e => z a p (e ▸ q)⟩⟩
theorem ddP_rep {H : Hp} {b : Addr} {v : V} {kk : PyData} {k : NestedKey} {d : D} {Td : List Addr} (hb : DpF G.K H (.ref b) kk) (ek : tkey kk = some k) (rd : Rep G H v d Td) : ∀ {kvs : KAV} {ks : List PyData} {ds : List D} {T : List Addr},
    DpFs G.K H (kvs.map fun x => .ref x.2.1) ks → ks.map tkey = kvs.map (fun x => some x.1) → Reps G H (kvs.map (·.2.2)) ds T → (T ++ Td).Nodup →
    ∃ T', DpFs G.K H ((ddP kvs k b v).map fun x => .ref x.2.1) (ddPut ks ds kk k d).1 ∧ (ddPut ks ds kk k d).1.map tkey = (ddP kvs k b v).map (fun x => some x.1) ∧ Reps G H ((ddP kvs k b v).map (·.2.2)) (ddPut ks ds kk k d).2 T' ∧ T'.Nodup ∧ ∀ a ∈ T', a ∈ T ++ Td
  | [], ks, ds, T, hk, e, hs, nd => by
    have : ks = [] := by simpa using e
    subst this
    cases hs
    refine ⟨Td ++ [], .cons hb .nil, by simp [ddPut, ddP, ek], .cons rd .nil, by simpa using nd, fun a q => by simpa using q⟩
  | x :: kvs, [], ds, T, hk, e, hs, nd => by simp at e
  | x :: kvs, q :: ks, ds0, T, hk, e, hs, nd => by
    simp only [List.map_cons, List.cons.injEq] at e
    rw [List.map_cons] at hk hs
    cases hk with
    | cons hk hks =>
    cases hs with
    | @cons _ _ e0 ds O O' h hs =>
    unfold ddPut ddP
    rw [e.1]
    rw [List.append_assoc] at nd
    have nd' := nd_appU.mp nd
    have nd2 := nd_appU.mp nd'.2.1
    by_cases z : x.1 = k
    · rw [if_pos z, if_pos (show some x.1 = some k by rw [z])]
      refine ⟨Td ++ O', .cons hk hks, by simp [e.1, e.2], .cons rd hs, nd_appU.mpr ⟨nd2.2.1, nd2.1, fun a p y => nd2.2.2 a y p⟩, fun a p => ?_⟩
      simp only [List.mem_append] at p ⊢
      exact p.elim (fun y => .inr y) fun y => .inl (.inr y)
    · rw [if_neg z, if_neg (show ¬ some x.1 = some k from fun y => z (Option.some.inj y))]
      obtain ⟨T', a1, a2, a3, a4, a5⟩ := ddP_rep hb ek rd hks e.2 hs nd'.2.1
      refine ⟨O ++ T', .cons hk a1, by simp [e.1, a2], .cons h a3, nd_appU.mpr ⟨nd'.1, a4, fun a p y => nd'.2.2 a p (a5 a y)⟩, fun a p => ?_⟩
      rw [List.append_assoc]
      rcases List.mem_append.mp p with y | y
      · exact List.mem_append_left _ y
      · exact List.mem_append_right _ (a5 a y)
end
section
theorem keys_put {K : Type} [DecidableEq K] (k : K) (u : Value) (xs : List (K × Addr × Value)) : (xs.map (putAt k u)).map (·.1) = xs.map (·.1) := by
  rw [List.map_map]
  refine List.map_congr_left fun x _ => ?_
  simp only [Function.comp]
  unfold putAt
  split <;> rfl
theorem stored_nd {xs : List (NestedKey × Addr × Value)} {k : NestedKey} {b : Addr} {u : Value} (h : (xs.map (·.1)).Nodup) : ((storedH xs k b u).map (·.1)).Nodup := by
  unfold storedH
  split
  · rw [keys_put]; exact h
  · rename_i hk
    rw [List.map_append, nd_appU]
    refine ⟨h, by simp, fun x hx hy => hk ?_⟩
    simp only [List.map_cons, List.map_nil, List.mem_singleton] at hy
    subst hy
    obtain ⟨y, hy, e⟩ := List.mem_map.mp hx
    unfold atKey
    rw [Option.isSome_map, List.find?_isSome]
    exact ⟨y, hy, by simpa using e⟩
/-- an entry: where the pair stands, the key, where it stands, the value -/
abbrev Ent : Type := Addr × NestedKey × Addr × V
def ddAll (kvs : KAV) (es : List Ent) : KAV := es.foldl (fun acc e => ddP acc e.2.1 e.2.2.1 e.2.2.2) kvs
theorem all_put : ∀ {es : List Ent} {qs : List (NestedKey × Addr × Value)} {kvs : KAV} {xs : List (NestedKey × Addr × Value)}, Paired (fun (e : Ent) q => RelX e.2 q) es qs → Paired RelX kvs xs → (xs.map (·.1)).Nodup → Paired RelX (ddAll kvs es) (storedAllH xs qs) ∧ ((storedAllH xs qs).map (·.1)).Nodup
  | _, _, _, _, .nil, p, n => ⟨p, n⟩
  | _, _, _, _, .cons (a := e) (b := q) ⟨r1, r2, r3⟩ t, p, n => by
    have h := ddP_put (k := e.2.1) (b := e.2.2.1) p r3 n
    have nn := stored_nd (k := e.2.1) (b := e.2.2.1) (u := q.2.2) n
    have := all_put t h nn
    rw [r1, r2] at this
    unfold ddAll storedAllH at *
    simp only [List.foldl_cons, r1, r2]
    exact this
theorem ddAll_len : ∀ (es : List Ent) (kvs : KAV), (ddAll kvs es).length ≤ kvs.length + es.length
  | [], kvs => Nat.le_refl _
  | e :: es, kvs => by
    have := ddAll_len es (ddP kvs e.2.1 e.2.2.1 e.2.2.2)
    have h := ddP_len kvs e.2.1 e.2.2.1 e.2.2.2
    show (ddAll _ es).length ≤ _
    simp only [List.length_cons]
    omega
end
section
variable {X : Cx} {G : Ga} {H : Hp}
structure EntOk (G : Ga) (H : Hp) (e : Ent) : Prop where
  sq : SqN G.K H e.1 [.ref e.2.2.1, e.2.2.2]
  k : ∃ kd, DpF G.K H (.ref e.2.2.1) kd ∧ tkey kd = some e.2.1
theorem dct_fold : ∀ {l : List PyData} {xs : List V} {kvs : KAV} {ks ks' : List PyData} {ds ds' : List D}, DpFs G.K H xs l → dctF l ks ds = some (ks', ds') → DpFs G.K H (kvs.map fun x => .ref x.2.1) ks → ks.map tkey = kvs.map (fun x => some x.1) → Reps G H (kvs.map (·.2.2)) ds [] →
    ∃ es : List Ent, xs = es.map (fun e => V.ref e.1) ∧ (∀ e ∈ es, EntOk G H e) ∧ DpFs G.K H ((ddAll kvs es).map fun x => .ref x.2.1) ks' ∧ ks'.map tkey = (ddAll kvs es).map (fun x => some x.1) ∧ Reps G H ((ddAll kvs es).map (·.2.2)) ds' [] := by
  intro l
  induction l with
  | nil =>
    intro xs kvs ks ks' ds ds' h e hk em hs
    cases h
    unfold dctF at e
    cases e
    exact ⟨[], rfl, (fun e q => absurd q List.not_mem_nil), hk, em, hs⟩
  | cons p l ih =>
    intro xs kvs ks ks' ds ds' h e hk em hs
    unfold dctF at e
    split at e
    · rename_i h0; cases h0
    · rename_i k v l' _ _ h0
      cases h0
      split at e
      · rename_i q eq
        cases h with
        | @cons x xs _ _ hp hps =>
        cases hp with
        | @tup a ys _ sq hy =>
        cases hy with
        | @cons y1 ys1 _ _ hk1 hy =>
        cases hy with
        | @cons y2 ys2 _ _ hv1 hy =>
        cases hy
        obtain ⟨b, rfl⟩ : ∃ b, y1 = .ref b := tkey_ref hk1 eq
        obtain ⟨T', a1, a2, a3, _, a5⟩ := ddP_rep (G := G) (v := y2) hk1 eq (Rep.sh hv1) hk em hs (by simp)
        have hT : T' = [] := by
          cases T' with
          | nil => rfl
          | cons z r => have := a5 z List.mem_cons_self; simp at this
        subst hT
        obtain ⟨es, e1, e2, e3, e4, e5⟩ := ih hps e a1 a2 a3
        refine ⟨(a, q, b, y2) :: es, by rw [e1]; rfl, fun e' he => ?_, e3, e4, e5⟩
        rcases List.mem_cons.mp he with rfl | he
        · exact ⟨sq, _, hk1, eq⟩
        · exact e2 e' he
      · cases e
    · cases e
theorem ents_read {pins : List (Addr × Obj)} {σ : L2.St} {s : Shared} (hG : G.K = X.K) (I : Inv X pins σ H s) : ∀ {es : List Ent}, (∀ e ∈ es, EntOk G H e) → ∃ qs : List (NestedKey × Addr × Value), Paired (fun (e : Ent) q => RelX e.2 q) es qs ∧ Paired (fun (e : Ent) q => s.heap.IsTuple e.1 #[.ref q.2.1, q.2.2]) es qs ∧ Paired (fun (e : Ent) (q : NestedKey × Addr × Value) => q.2.1 = e.2.2.1) es qs
  | [], _ => ⟨[], .nil, .nil, .nil⟩
  | e :: es, h => by
    obtain ⟨qs, p1, p2, p3⟩ := ents_read hG I (es := es) fun x hx => h x (List.mem_cons_of_mem _ hx)
    obtain ⟨its, rv, it, _⟩ := I.tuple ((hG ▸ (h e List.mem_cons_self).sq : SqN X.K H e.1 [.ref e.2.2.1, e.2.2.2])).t
    cases rv with
    | cons r1 rv =>
    cases rv with
    | @cons _ u _ _ r2 rv =>
    cases rv
    cases r1
    exact ⟨(e.2.1, e.2.2.1, u) :: qs, .cons ⟨rfl, rfl, r2⟩ p1, .cons it p2, .cons rfl p3⟩
theorem vals_refs : ∀ {as : List Addr} {us : List Value}, Vals (as.map V.ref) us → us = as.map Value.ref
  | [], _, h => by cases h; rfl
  | a :: as, _, h => by
    cases h with
    | cons r rs =>
      cases r
      rw [List.map_cons, vals_refs rs]
/-- dict(xs) -/
theorem v_dct (hG : G.K = X.K) (hw : G.w = X.w) (hc : X.calm = true) (hu : X.A.units + 65 < cLine) : CallR X (.type "dict") (r1 G oDct) := fun pins s σ H xs us Q I rx ⟨x, d, z, T, e, hx, ho, hn⟩ => by
  subst e
  unfold oDct at ho
  split at ho
  · rename_i l el
    split at ho
    · rename_i hl
      split at ho
      · rename_i q eq
        cases ho
        obtain ⟨a, ys, rfl, sq, hs⟩ := hx.seq el
        rw [Vals.ref1 rx]
        obtain ⟨ks', ds'⟩ := q
        obtain ⟨es, ey, eo, hk, em, hr⟩ := dct_fold (kvs := []) hs eq .nil rfl .nil
        obtain ⟨qs, p1, p2, p3⟩ := ents_read hG I eo
        obtain ⟨its, rv, hp, hz⟩ := I.list (hG ▸ sq : SqL X.K H a ys)
        have hh := I.ok.hd hc
        have le : es.length = l.length := by have := hs.len; rw [ey, List.length_map] at this; exact this
        have lq : es.length = qs.length := p1.length
        have ei : its = (es.map (·.1)).map Value.ref := by
          refine vals_refs ?_
          rw [List.map_map]
          have : ys = es.map (V.ref ∘ fun e => e.1) := ey
          rw [← this]; exact rv
        have pa := PairArg.list (prog := X.prog) (w := X.w) a its.toArray (fun j => ((es[j]?).map (·.1)).getD 0) (qs.map fun q => (Value.ref q.2.1, q.2.2))
        refine call_dict_pairsH (knd := nestedKind X.prog X.w) (ps := qs) pa hh ?_ ⟨hp, by simp [ei, lq], fun j k v hj => ?_⟩ ⟨by simp, fun j k v hj => ?_⟩ (fun h' ext x hx => ?_) (by simp; rw [sizeLine_eq]; omega) fun h' tk dd k2 => ?_
        · show X.A.units + 1 + 1 + 8 < cLine
          omega
        · rw [List.getElem?_map] at hj
          obtain ⟨q, hq, e⟩ := Option.map_eq_some_iff.mp hj
          cases e
          have hi : j < qs.length := (List.getElem?_eq_some_iff.mp hq).1
          have he : es[j]? = some es[j] := List.getElem?_eq_getElem (lq ▸ hi)
          have ht := paired_get p2 he hq
          refine ⟨?_, .inl ?_⟩
          · have hi' : j < es.length := lq ▸ hi
            subst ei
            simp [hi']
          · show s.heap.IsTuple (((es[j]?).map (·.1)).getD 0) _
            rw [he]; exact ht
        · have hj : (qs.map fun q => (Value.ref q.2.1, q.2.2))[j]? = some (k, v) := hj
          rw [List.getElem?_map] at hj
          obtain ⟨q, hq, e⟩ := Option.map_eq_some_iff.mp hj
          cases e
          exact ⟨q.1, q.2.1, by rw [hq], rfl⟩
        · obtain ⟨j, hj, ej⟩ := List.getElem_of_mem hx
          have hq : qs[j]? = some x := by rw [List.getElem?_eq_getElem hj, ej]
          have he : es[j]? = some es[j] := List.getElem?_eq_getElem (lq ▸ hj)
          obtain ⟨r1, r2, r3⟩ := paired_get p1 he hq
          obtain ⟨kd, hkd, ek⟩ := (eo _ (List.getElem_mem (lq ▸ hj))).k
          have I' : Inv X pins σ H { s with heap := h' } := I.kept (t' := s.toks) fun b o hb => ext b o (Nat.ne_of_lt (Heap.lt_size hb)) (fun z => nomatch z) hb
          have := tkey_is I' (hG ▸ hkd) ek
          rw [← r1, ← r2]
          exact this
        · obtain ⟨px, nx⟩ := all_put p1 .nil List.nodup_nil
          have na : ((s.heap.objs.size : Addr) == sysModules) = false := by
            have := I.big
            simp only [beq_eq_false_iff_ne, ne_eq]
            exact Nat.ne_of_gt this
          have hfresh := I.hok.fresh (Nat.le_refl s.heap.objs.size)
          obtain ⟨o, es', ep, hq, h2, h3, h4, _, h5⟩ := dd
          have hP : dtP X.w s.heap.objs.size (ddAll [] es) h' := ⟨by have := ddAll_len es []; rw [sizeLine_eq]; simp at this; omega, na, _, px, o, es', ep, hq, h2, h3, h4, h5⟩
          have ob : ObjOk X.prog X.w (upd H s.heap.objs.size (dtO X.w s.heap.objs.size (ddAll [] es))) h' s.heap.objs.size (dtO X.w s.heap.objs.size (ddAll [] es)) := ⟨hP, ⟨o, hq⟩, fun h1 h2 ⟨z1, z2, ys, y1, o1, es1, ep1, y2, y3⟩ st => ⟨z1, z2, ys, y1, o1, es1, ep1, st _ y2, y3⟩⟩
          have f : Frm [] H (upd H s.heap.objs.size (dtO X.w s.heap.objs.size (ddAll [] es))) := fun b u e _ => by rw [upd_ne (ne_of_none e hfresh)]; exact e
          refine ⟨.ref s.heap.objs.size, _, I.laid (t' := tk) (fun b o hb => k2 b o (fun z => nomatch z) hb) (Nat.le_refl _) ob, rfl, hn _ _ [s.heap.objs.size] (.dd (kvs := ddAll [] es) (by rw [hw]; exact upd_same) (DpFs.fr hk f mut_nil) em (Reps.fr hr f mut_nil fun _ _ z => nomatch z)) (by simp) (fun b hb => by rw [List.mem_singleton.mp hb]; exact hfresh) f⟩
      · cases ho
    · cases ho
  · cases ho
end
end Vs
/-! V6: the own syntax and its evaluator. -/
namespace Vs
open PySem PySem.Spec L2
open PyProof.Rows hiding St

inductive PK where
  | ix (n : Int)
  | key (k : Key)
def dkSet : List Key → List D → Key → D → List D
  | k :: ks, d :: ds, q, x => if k = q then x :: ds else d :: dkSet ks ds q x
  | _, ds, _, _ => ds
def getP : List PK → D → Option D
  | [], d => some d
  | .ix n :: p, .ls ds => match atI ds n with
    | some d => getP p d
    | none => none
  | .key k :: p, .dk ks ds => match dkGet ks ds k with
    | some d => getP p d
    | none => none
  | _, _ => none
def setAt (ds : List D) (n : Int) (d : D) : List D := match ixN ds.length n with
  | some j => ds.set j d
  | none => ds
def setP : List PK → D → D → D
  | [], _, x => x
  | .ix n :: p, .ls ds, x => match atI ds n with
    | some d => .ls (setAt ds n (setP p d x))
    | none => .ls ds
  | .key k :: p, .dk ks ds, x => match dkGet ks ds k with
    | some d => .dk ks (dkSet ks ds k (setP p d x))
    | none => .dk ks ds
  | _, d, _ => d

/-! ### operands -/
inductive Sop where
  | e (f : EF)
  | v (i : Nat)
  | p (i : Nat) (path : List PK)
inductive Ov where
  | d (d : D)
  | v (i : Nat)
  | p (i : Nat) (path : List PK) (root : D)
def runO : List Sop → Env → Res (List Ov × Env)
  | [], ρ => .ok ([], ρ)
  | .e f :: r, ρ => (f ρ).bind fun p => (runO r p.2).bind fun q => .ok (.d p.1 :: q.1, q.2)
  | .v i :: r, ρ => match ρ[i]? with
    | some (some _) => (runO r ρ).bind fun q => .ok (.v i :: q.1, q.2)
    | _ => .no
  | .p i path :: r, ρ => match ρ[i]? with
    | some (some d) => match getP path d with
      | some _ => (runO r (ρ.set i none)).bind fun q => .ok (.p i path d :: q.1, q.2)
      | none => .no
    | _ => .no
/-- the locked names are given back -/
def unlock : List Ov → Env → Option Env
  | [], ρ => some ρ
  | .d _ :: r, ρ => unlock r ρ
  | .v _ :: r, ρ => unlock r ρ
  | .p i _ d :: r, ρ => match unlock r ρ with
    | some ρ' => match ρ'[i]? with
      | some none => some (ρ'.set i (some d))
      | _ => none
    | none => none
/-- the operands' values, once all stand -/
def ovs : List Ov → Env → Option (List D)
  | [], _ => some []
  | .d d :: r, ρ => match ovs r ρ with
    | some l => some (d :: l)
    | none => none
  | .v i :: r, ρ => match ρ[i]?, ovs r ρ with
    | some (some d), some l => some (d :: l)
    | _, _ => none
  | .p _ path d :: r, ρ => match getP path d, ovs r ρ with
    | some x, some l => some (x :: l)
    | _, _ => none
/-- owned values alone -/
def ods : List Ov → Option (List D)
  | [] => some []
  | .d d :: r => match ods r with
    | some l => some (d :: l)
    | none => none
  | _ :: _ => none
/-- an operation that reads its operands and makes something new -/
def opE (o : List D → Option D) (ops : List Sop) : EF := fun ρ => (runO ops ρ).bind fun q => match ovs q.1 q.2 with
  | some ds => match o ds with
    | some d => match unlock q.1 q.2 with
      | some ρ' => .ok (d, ρ')
      | none => .no
    | none => .no
  | none => .no
def mkTup (ds : List D) : D := match unsh ds with
  | some l => .sh (.tuple l)
  | none => .tp ds
/-- a display -/
def dispE (mk : List D → D) (ops : List Sop) : EF := fun ρ => (runO ops ρ).bind fun q => match ods q.1 with
  | some ds => if ds.length ≤ 1000 then .ok (mk ds, q.2) else .no
  | none => .no

inductive Op where
  | add | sub | mul | fdiv | mod | pow | band | bor | shl | shr
  | neg
  | lt | le | gt | ge | eq | ne | isin | notin | is_ | isnot
  | ix | sl | slL | slH | slLH
  | len | abs | int | repr | list | tuple | sorted | sum | all | any
  | lrng | lrng2 | trng | trng2
  | mkd
  | rev
  | str
  | dctP
  | isi (t : Ty)
  deriving DecidableEq
def un1 (o : D → Option D) : List D → Option D
  | [a] => o a
  | _ => none
def bi2 (o : D → D → Option D) : List D → Option D
  | [a, b] => o a b
  | _ => none
def powOk (i j : Int) : Bool := decide (0 ≤ j) && decide (j ≤ 1000000) && small64b i
/-- the ints from a up to b -/
def rgL (a b : Int) : List PyData := (List.range (b - a).toNat).map fun k => .int (a + (k : Nat))
def rgOk (a b : Int) : Bool := decide (-16777216 < a) && decide (a < 16777216) && decide (-16777216 < b) && decide (b < 16777216) && decide (b - a ≤ 16777216)
def oRg1 (mk : List PyData → D) : D → Option D
  | .sh (.int n) => guardO (rgOk 0 n) (mk (rgL 0 n))
  | _ => none
def oRg2 (mk : List PyData → D) : D → D → Option D
  | .sh (.int a), .sh (.int b) => guardO (rgOk a b) (mk (rgL a b))
  | _, _ => none
/-- x[::-1] -/
def oRev (x : D) : Option D := match x.seq with
  | some (.lst, l) => some (DL l.reverse)
  | some (.tup, l) => some (DT l.reverse)
  | none => none
/-- {k: v} with a tuple as key -/
def oMkd (k d : D) : Option D := match k with
  | .sh kk => match tkey kk with
    | some _ => some (.dd [kk] [d])
    | none => none
  | _ => none
def opD : Op → List D → Option D
  | .add => bi2 oAdd
  | .sub => bi2 (oInt2 (fun i j => i - j) fun _ _ => true)
  | .mul => bi2 oMul
  | .fdiv => bi2 (oInt2 (fun i j => i / j) fun _ j => decide (0 < j) && decide (j < 1073741824))
  | .mod => bi2 (oInt2 (fun i j => i % j) fun _ j => decide (0 < j))
  | .pow => bi2 (oInt2 (fun i j => i ^ j.toNat) powOk)
  | .band => bi2 (oInt2 (fun i j => Builtin.bitAnd i j) fun _ _ => true)
  | .bor => bi2 (oInt2 (fun i j => Builtin.bitOr i j) fun _ _ => true)
  | .shl => bi2 (oInt2 (fun i j => i * 2 ^ j.toNat) powOk)
  | .shr => bi2 (oInt2 (fun i j => i / 2 ^ j.toNat) fun _ j => decide (0 ≤ j))
  | .neg => un1 oNeg
  | .lt => bi2 (oCmpI fun i j => decide (i < j))
  | .le => bi2 oLe
  | .gt => bi2 (oCmpI fun i j => decide (j < i))
  | .ge => bi2 (oCmpI fun i j => decide (j ≤ i))
  | .eq => bi2 (oEq false)
  | .ne => bi2 (oEq true)
  | .isin => bi2 (oIn false)
  | .notin => bi2 (oIn true)
  | .is_ => bi2 (oIs false)
  | .isnot => bi2 (oIs true)
  | .ix => bi2 oIx
  | .sl => un1 (oSl none none)
  | .slL => bi2 fun a b => match b with
    | .sh (.int lo) => oSl (some lo) none a
    | _ => none
  | .slH => bi2 fun a b => match b with
    | .sh (.int hi) => oSl none (some hi) a
    | _ => none
  | .slLH => fun
    | [a, .sh (.int lo), .sh (.int hi)] => oSl (some lo) (some hi) a
    | _ => none
  | .len => un1 oLen
  | .abs => un1 oAbs
  | .int => un1 oInt
  | .repr => un1 oRepr
  | .list => un1 oList
  | .tuple => un1 oTuple
  | .sorted => un1 oSorted
  | .sum => un1 oSum
  | .all => un1 oAll
  | .any => un1 oAny
  | .rev => un1 oRev
  | .str => un1 oStr
  | .dctP => un1 oDct
  | .lrng => un1 (oRg1 DL)
  | .lrng2 => bi2 (oRg2 DL)
  | .mkd => bi2 oMkd
  | .trng => un1 (oRg1 DT)
  | .trng2 => bi2 (oRg2 DT)
  | .isi t => un1 (oIsi t)

/-! ### targets, what is walked -/
inductive Tg where
  | nm (i : Nat)
  | tp (is : List Nat)
  | tn (i : Nat) (js : List Nat)
def Tg.isTp : Tg → Bool
  | .nm _ => false
  | _ => true
def Tg.sl : Tg → List Nat
  | .nm i => [i]
  | .tp is => is
  | .tn i js => i :: js
inductive ItK where
  | seq | rng | rng2 | enum | zip | rev | items
def setN (pr : List Nat) (i : Nat) (d : D) (ρ : Env) : Option Env := if pr.contains i then none else if i < ρ.length then some (ρ.set i (some d)) else none
def setAll (pr : List Nat) : List Nat → List D → Env → Option Env
  | [], [], ρ => some ρ
  | i :: is, d :: ds, ρ => match setN pr i d ρ with
    | some ρ' => setAll pr is ds ρ'
    | none => none
  | _, _, _ => none
def bindT (pr : List Nat) : Tg → D → Env → Option Env
  | .nm i, d, ρ => setN pr i d ρ
  | .tp is, .sh (.tuple l), ρ => setAll pr is (l.map .sh) ρ
  | .tp is, .tp ds, ρ => setAll pr is ds ρ
  | .tn i js, .sh (.tuple [a, .tuple l]), ρ => match setN pr i (.sh a) ρ with
    | some ρ' => setAll pr js (l.map .sh) ρ'
    | none => none
  | _, _, _ => none
def zipD : List PyData → List PyData → List PyData
  | a :: l, b :: m => .tuple [a, b] :: zipD l m
  | _, _ => []
def enumD : Int → List PyData → List PyData
  | i, a :: l => .tuple [.int i, a] :: enumD (i + 1) l
  | _, [] => []
def rngD (lo : Int) (n : Nat) : List PyData := (List.range n).map fun k => .int (lo + (k : Nat))
/-- the items of a dict of tuples -/
def itemsD : D → Option (List PyData)
  | .sh (.dict []) => some []
  | .fd ks ds => some (zipD ks ds)
  | _ => none
def itF : ItK → List D → Option (List PyData)
  | .items, [d] => itemsD d
  | .seq, [d] => match d.seq with
    | some (_, l) => some l
    | none => none
  | .rng, [.sh (.int n)] => if n < 16777216 ∧ -16777216 < n then some (rngD 0 n.toNat) else none
  | .rng2, [.sh (.int a), .sh (.int b)] => if (a < 16777216 ∧ -16777216 < a) ∧ (b < 16777216 ∧ -16777216 < b) then some (rngD a (b - a).toNat) else none
  | .enum, [d] => match d.seq with
    | some (_, l) => some (enumD 0 l)
    | none => none
  | .rev, [d] => match d.seq with
    | some (_, l) => some l.reverse
    | none => none
  | .zip, [d, e] => match d.seq, e.seq with
    | some (.lst, l), some (.lst, m) => some (zipD l m)
    | some (.tup, l), some (.tup, m) => some (zipD l m)
    | _, _ => none
  | _, _ => none

/-! ### methods that change a list -/
inductive Mo where
  | append | extend | pop | popAt | insert | cnt | idx
/-- count and index of an owned list of shared things: nothing is changed -/
def moCnt (ds : List D) : List D → Option (List D × D)
  | [.sh p] => match unsh ds with
    | some l => if SeqAt.shaped p && SeqAt.shaped (.list l) then some (ds, DI (l.countP fun y => PyData.eqv y p)) else none
    | none => none
  | _ => none
def moIdx (ds : List D) : List D → Option (List D × D)
  | [.sh p] => match unsh ds with
    | some l => if SeqAt.shaped p && SeqAt.shaped (.list l) then (match l.findIdx? fun y => PyData.eqv y p with
      | some j => some (ds, DI (j : Nat))
      | none => none) else none
    | none => none
  | _ => none
def moAppend (ds : List D) : List D → Option (List D × D)
  | [d] => if ds.length < 1000000 then some (ds ++ [d], .sh .none) else none
  | _ => none
def moExtend (ds : List D) : List D → Option (List D × D)
  | [.ls es] => if ds.length + es.length ≤ 1000000 then some (ds ++ es, .sh .none) else none
  | _ => none
def moPop (ds : List D) : List D → Option (List D × D)
  | [] => match ds.getLast? with
    | some d => some (ds.dropLast, d)
    | none => none
  | _ => none
def moPopAt (ds : List D) : List D → Option (List D × D)
  | [.sh (.int i)] => match ixN ds.length i with
    | some j => match ds[j]? with
      | some d => if ds.length < 1000000 then some (ds.eraseIdx j, d) else none
      | none => none
    | none => none
  | _ => none
def moInsert (ds : List D) : List D → Option (List D × D)
  | [.sh (.int i), d] => if ds.length < 1000000 ∧ 0 ≤ i ∧ i < 4611686018427387904 then some (ds.take i.toNat ++ [d] ++ ds.drop i.toNat, .sh .none) else none
  | _ => none
def mo : Mo → List D → List D → Option (List D × D)
  | .append => moAppend
  | .extend => moExtend
  | .pop => moPop
  | .popAt => moPopAt
  | .insert => moInsert
  | .cnt => moCnt
  | .idx => moIdx

/-! ### what a def computes -/
inductive FR where
  | ok (r : D) (outs : List D)
  | ex (x : Exc) (outs : List D)
  | no
structure Den where
  io : List Bool
  m : List D → FR
structure Gam where
  con : Str → Option PyData
  fn : Str → Option Den
  /-- own classes: methods, making, fields that are no attributes -/
  me : Str → Str → Option Den := fun _ _ => none
  ini : Str → Option Den := fun _ => none
  fld : Str → Str → Bool := fun _ _ => false
  /-- own exception classes: their fields -/
  xc : Str → Option (List Str) := fun _ => none
  /-- which is one of which -/
  xs : Str → Str → Option Bool := fun _ _ => none

inductive Ex where
  | lit (d : PyData)
  | rd (i : Nat)
  | mv (i : Nat)
  | vw (i : Nat) (path : List PK)
  | gl (x : Str)
  | tup (es : List Ex)
  | lst (es : List Ex)
  | op (o : Op) (as : List Ex)
  | chn (o o' : Op) (a b c : Ex)
  | bop (k : Bool) (es : List Ex)
  | not (a : Ex)
  | ite (c a b : Ex)
  | call (f : Str) (as bs : List Ex) (ks : List Str) (π : List Nat)
  | mut (m : Mo) (i : Nat) (path : List PK) (as : List Ex)
  | lc (own : List Nat) (t : Tg) (k : ItK) (as : List Ex) (ifs : List Ex) (e : Ex)
  | fz (a : Ex)
  | at (i : Nat) (path : List PK)
  | dct (ks : List Key) (es : List Ex)
  | tm (c : Bool) (i : Nat) (a : Ex)
  | new (c : Str) (as : List Ex)
  | mcl (c m : Str) (i : Nat) (as : List Ex)
  | fld (i : Nat) (x : Str)

/-- the values in a call's order put into the parameters' order -/
def perm {α : Type} (π : List Nat) (l : List α) : Option (List α) := match π with
  | [] => some []
  | j :: π => match l[j]?, perm π l with
    | some x, some r => some (x :: r)
    | _, _ => none
/-- the arguments' values: owned ones, and names that the callee may change -/
def argD : List Bool → List Ov → Env → Option (List D × Env)
  | [], [], ρ => some ([], ρ)
  | false :: io, .d d :: r, ρ => match argD io r ρ with
    | some (l, ρ') => some (d :: l, ρ')
    | none => none
  | true :: io, .v i :: r, ρ => match ρ[i]? with
    | some (some d) => match argD io r (ρ.set i none) with
      | some (l, ρ') => some (d :: l, ρ')
      | none => none
    | _ => none
  | _, _, _ => none
/-- the changed ones given back -/
def backD : List Bool → List Ov → List D → Env → Option Env
  | [], [], [], ρ => some ρ
  | false :: io, _ :: r, outs, ρ => backD io r outs ρ
  | true :: io, .v i :: r, d :: outs, ρ => match ρ[i]? with
    | some none => backD io r outs (ρ.set i (some d))
    | _ => none
  | _, _, _, _ => none
def Ov.isSh : Ov → Bool
  | .d (.sh _) => true
  | .v _ => true
  | _ => false
/-- the operands of a call in the parameters' order -/
def arr (ks : List Str) (π : List Nat) (os : List Ov) : Option (List Ov) := match ks with
  | [] => some os
  | _ => if os.all Ov.isSh then perm π os else none
def callD (dn : Den) (ks : List Str) (ops : List Sop) (π : List Nat) : EF := fun ρ => (runO ops ρ).bind fun q => match arr ks π q.1 with
  | some os => match argD dn.io os q.2 with
    | some (ds, ρ1) => match dn.m ds with
      | .ok r outs => match backD dn.io os outs ρ1 with
        | some ρ2 => .ok (r, ρ2)
        | none => .no
      | .ex x outs => match backD dn.io os outs ρ1 with
        | some ρ2 => .ex x ρ2
        | none => .no
      | .no => .no
    | none => .no
  | none => .no
def callE (dn : Option Den) (ks : List Str) (ops : List Sop) (π : List Nat) : EF := match dn with
  | some dn => callD dn ks ops π
  | none => fun _ => .no
def mutE (m : Mo) (i : Nat) (path : List PK) (ops : List Sop) : EF := fun ρ => match ρ[i]? with
  | some (some root) => match getP path root with
    | some (.ls _) => match path with
      | [] => (runO ops ρ).bind fun q => match ods q.1, q.2[i]? with
        | some as, some (some (.ls ds)) => match mo m ds as with
          | some (ds', r) => .ok (r, q.2.set i (some (.ls ds')))
          | none => .no
        | _, _ => .no
      | path => (runO ops (ρ.set i none)).bind fun q => match ods q.1, getP path root, q.2[i]? with
        | some as, some (.ls ds), some none => match mo m ds as with
          | some (ds', r) => .ok (r, q.2.set i (some (setP path root (.ls ds'))))
          | none => .no
        | _, _, _ => .no
    | _ => .no
  | _ => .no
def wipeE (ρ : Env) : List Nat → Env
  | [] => ρ
  | i :: is => (wipeE ρ is).set i none
/-- a comprehension's loop -/
def lcL (own : List Nat) (t : Tg) (test : Env → Res (Bool × Env)) (f : EF) : List PyData → Env → List D → Option (List D × Env)
  | [], ρ, acc => some (acc, ρ)
  | p :: ps, ρ, acc => match bindT [] t (.sh p) ρ with
    | none => none
    | some ρ1 => match test ρ1 with
      | .ok (true, ρ2) => match f ρ2 with
        | .ok (d, ρ3) => if acc.length < 1000000 then lcL own t test f ps (wipeE ρ3 own) (acc ++ [d]) else none
        | _ => none
      | .ok (false, ρ2) => lcL own t test f ps (wipeE ρ2 own) acc
      | _ => none
def lcE (own : List Nat) (t : Tg) (k : ItK) (ops : List Sop) (test : Env → Res (Bool × Env)) (f : EF) : EF := fun ρ => (runO ops ρ).bind fun q => match ovs q.1 [] with
  | some ds => match itF k ds with
    | some ps => match lcL own t test f ps (wipeE q.2 own) [] with
      | some z => match unlock q.1 z.2 with
        | some ρ' => .ok (.ls z.1, ρ')
        | none => .no
      | none => .no
    | none => .no
  | none => .no
mutual
/-- all is shared now -/
def D.fz : D → Option PyData
  | .sh d => some d
  | .tp ds => match D.fzs ds with
    | some l => some (.tuple l)
    | none => none
  | .ls ds => match D.fzs ds with
    | some l => some (.list l)
    | none => none
  | .dk [] [] => some (.dict [])
  | .dk [.inr x] [.sh (.int i)] => some (.dict [(.str x, .int i)])
  | _ => none
def D.fzs : List D → Option (List PyData)
  | [] => some []
  | d :: ds => match D.fz d, D.fzs ds with
    | some x, some l => some (x :: l)
    | _, _ => none
end
def boolE (f : EF) : Env → Res (Bool × Env) := fun ρ => (f ρ).bind fun q => match q.1 with
  | .sh (.bool b) => .ok (b, q.2)
  | _ => .no
def notE (f : EF) : EF := fun ρ => (f ρ).bind fun q => match q.1 with
  | .sh (.bool b) => .ok (DB (!b), q.2)
  | _ => .no
def iteE (c : Env → Res (Bool × Env)) (a b : EF) : EF := fun ρ => (c ρ).bind fun q => if q.1 = true then a q.2 else b q.2
def bopE (k : Bool) : List EF → EF
  | [] => fun _ => .no
  | [f] => f
  | f :: g :: r => fun ρ => (f ρ).bind fun q => match q.1 with
    | .sh (.bool b) => if b = k then bopE k (g :: r) q.2 else .ok (DB b, q.2)
    | _ => .no
/-- .. as a test: the last one a bool too -/
def bopT (k : Bool) : List (Env → Res (Bool × Env)) → Env → Res (Bool × Env)
  | [] => fun _ => .no
  | [f] => f
  | f :: g :: r => fun ρ => (f ρ).bind fun q => if q.1 = k then bopT k (g :: r) q.2 else .ok (q.1, q.2)
def chnE (o o' : List D → Option D) (a b c : EF) : EF := fun ρ => (runO [.e a, .e b] ρ).bind fun q => match ods q.1 with
  | some [x, y] => match o [x, y] with
    | some (.sh (.bool true)) => (c q.2).bind fun z => match o' [y, z.1] with
      | some d => .ok (d, z.2)
      | none => .no
    | some (.sh (.bool false)) => .ok (DB false, q.2)
    | _ => .no
  | _ => .no
def fzE (f : EF) : EF := fun ρ => (f ρ).bind fun q => match q.1.fz with
  | some d => .ok (.sh d, q.2)
  | none => .no
def noE : EF := fun _ => .no
/-- what stands at a place, shared -/
def atE (i : Nat) (path : List PK) : EF := fun ρ => match ρ[i]? with
  | some (some root) => match getP path root with
    | some (.sh d) => .ok (.sh d, ρ)
    | _ => .no
  | _ => .no
/-- a dict's display -/
def dctE (ks : List Key) (ops : List Sop) : EF := fun ρ => (runO ops ρ).bind fun q => match ods q.1 with
  | some ds => if ks.length = ds.length ∧ ks.Nodup then .ok (.dk ks ds, q.2) else .no
  | none => .no
/-- t.count(x), t.index(x), t a tuple by a name -/
def shTup : Option (Option D) → Option (List PyData)
  | some (some (.sh (.tuple l))) => some l
  | _ => none
def tmR (c : Bool) (l : List PyData) (q : D × Env) : Res (D × Env) := match q.1 with
  | .sh p => if (SeqAt.shaped p && SeqAt.shaped (.tuple l)) = true then (if c = true then .ok (DI (l.countP fun y => PyData.eqv y p : Nat), q.2) else match l.findIdx? fun y => PyData.eqv y p with
    | some j => .ok (DI (j : Nat), q.2)
    | none => .no) else .no
  | _ => .no
def tmE (c : Bool) (i : Nat) (f : EF) : EF := fun ρ => match shTup ρ[i]? with
  | some l => (f ρ).bind (tmR c l)
  | none => .no
/-- own classes: an instance made, a method called at a name, a field read -/
def newE (dn : Option Den) (c : Str) (ops : List Sop) : EF := match dn with
  | some dn => fun ρ => (runO ops ρ).bind fun q => match ods q.1 with
    | some ds => if dn.io = true :: ds.map (fun _ => false) then (match dn.m (.ob c [] [] :: ds) with
      | .ok (.sh .none) [r] => .ok (r, q.2)
      | _ => .no) else .no
    | none => .no
  | none => fun _ => .no
def obB (c m : Str) : Option (Option D) → Bool
  | some (some (.ob c' ns _)) => decide (c' = c) && !ns.contains m
  | _ => false
def mclE (dn : Option Den) (c m : Str) (i : Nat) (ops : List Sop) : EF := match dn with
  | some dn => fun ρ => if obB c m ρ[i]? = true then callD dn [] (.v i :: ops) [] ρ else .no
  | none => fun _ => .no
def obGet : List Str → List D → Str → Option D
  | n :: ns, d :: ds, x => if x = n then some d else obGet ns ds x
  | _, _, _ => none
def fldE (i : Nat) (x : Str) : EF := fun ρ => match ρ[i]? with
  | some (some (.ob _ ns ds)) => match obGet ns ds x with
    | some (.sh d) => .ok (.sh d, ρ)
    | _ => .no
  | _ => .no
def litE (d : PyData) : EF := fun ρ => .ok (.sh d, ρ)
def rdE (i : Nat) : EF := fun ρ => match ρ[i]? with
  | some (some (.sh d)) => .ok (.sh d, ρ)
  | _ => .no
def mvE (i : Nat) : EF := fun ρ => match ρ[i]? with
  | some (some d) => .ok (d, ρ.set i none)
  | _ => .no
def glE (o : Option PyData) : EF := match o with
  | some d => litE d
  | none => noE
def intE (f : EF) : EF := fun ρ => (f ρ).bind fun q => match q.1 with
  | .sh (.int i) => .ok (DI i, q.2)
  | _ => .no
/-- the bounds of a slice are looked at as they are made -/
def wrapO : Op → List Sop → List Sop
  | .slLH, [p, .e f, .e g] => [p, .e (intE f), .e (intE g)]
  | .slLH, _ => [.e noE]
  | _, l => l
abbrev TF := Env → Res (Bool × Env)
def ifT : List TF → TF
  | [] => fun ρ => .ok (true, ρ)
  | [c] => c
  | _ => fun _ => .no
mutual
def ev (Γ : Gam) : Ex → EF
  | .lit d => litE d
  | .rd i => rdE i
  | .mv i => mvE i
  | .vw _ _ => noE
  | .gl x => glE (Γ.con x)
  | .tup es => dispE mkTup (sops Γ es)
  | .lst es => dispE .ls (sops Γ es)
  | .op o as => opE (opD o) (wrapO o (sops Γ as))
  | .chn o o' a b c => chnE (opD o) (opD o') (ev Γ a) (ev Γ b) (ev Γ c)
  | .bop k es => bopE k (evs Γ es)
  | .not a => notE (ev Γ a)
  | .ite c a b => iteE (evT Γ c) (ev Γ a) (ev Γ b)
  | .call f as bs ks π => callE (Γ.fn f) ks (sops Γ as ++ sops Γ bs) π
  | .mut m i path as => mutE m i path (sops Γ as)
  | .lc own t k as ifs e => lcE own t k (lops Γ as) (ifT (evTs Γ ifs)) (ev Γ e)
  | .fz a => fzE (ev Γ a)
  | .at i p => atE i p
  | .dct ks es => dctE ks (sops Γ es)
  | .tm c i a => tmE c i (ev Γ a)
  | .new c as => newE (Γ.ini c) c (sops Γ as)
  | .mcl c m i as => mclE (Γ.me c m) c m i (sops Γ as)
  | .fld i x => fldE i x
def evT (Γ : Gam) : Ex → Env → Res (Bool × Env)
  | .bop k es => bopT k (evTs Γ es)
  | .not a => fun ρ => (evT Γ a ρ).bind fun q => .ok (!q.1, q.2)
  | .lit d => boolE (litE d)
  | .rd i => boolE (rdE i)
  | .op o as => boolE (opE (opD o) (wrapO o (sops Γ as)))
  | .chn o o' a b c => boolE (chnE (opD o) (opD o') (ev Γ a) (ev Γ b) (ev Γ c))
  | .call f as bs ks π => boolE (callE (Γ.fn f) ks (sops Γ as ++ sops Γ bs) π)
  | _ => fun _ => .no
def evs (Γ : Gam) : List Ex → List EF
  | [] => []
  | e :: es => ev Γ e :: evs Γ es
def evTs (Γ : Gam) : List Ex → List (Env → Res (Bool × Env))
  | [] => []
  | e :: es => evT Γ e :: evTs Γ es
def sops (Γ : Gam) : List Ex → List Sop
  | [] => []
  | .vw i [] :: es => .v i :: sops Γ es
  | .vw i p :: es => .p i p :: sops Γ es
  | e :: es => .e (ev Γ e) :: sops Γ es
/-- a loop's: locked -/
def lops (Γ : Gam) : List Ex → List Sop
  | [] => []
  | .vw i p :: es => .p i p :: lops Γ es
  | e :: es => .e (ev Γ e) :: lops Γ es
end
end Vs
/-! V7: operands run; what an operation, a display gives, as HandS readings. -/
namespace Vs
open PySem PySem.Spec L2
open PyProof.Rows hiding St

theorem nd_app {A B : List Addr} : (A ++ B).Nodup ↔ A.Nodup ∧ B.Nodup ∧ ∀ a ∈ A, a ∉ B := by
  rw [List.nodup_append]
  exact ⟨fun ⟨a, b, c⟩ => ⟨a, b, fun x h z => c x h x z rfl⟩, fun ⟨a, b, c⟩ => ⟨a, b, fun x h y k e => c x h (e ▸ k)⟩⟩

/-- from v along a path -/
inductive VAt (H : Hp) : V → List PK → V → Prop
  | nil {v : V} : VAt H v [] v
  | ix {a : Addr} {xs : List V} {n : Int} {u w : V} {p : List PK} : H a = some (.lst xs) → atI xs n = some u → VAt H u p w → VAt H (.ref a) (.ix n :: p) w
  | key {a : Addr} {kvs : List (Key × V)} {k : Key} {u w : V} {p : List PK} : H a = some (.dK kvs) → valV kvs k = some u → VAt H u p w → VAt H (.ref a) (.key k :: p) w
inductive RepO (G : Ga) (H : Hp) (σ : L2.St) : List V → List Ov → List Addr → Prop
  | nil : RepO G H σ [] [] []
  | d {v : V} {vs : List V} {d : D} {os : List Ov} {O T : List Addr} : Rep G H v d O → RepO G H σ vs os T → RepO G H σ (v :: vs) (.d d :: os) (O ++ T)
  | v {v : V} {vs : List V} {i : Nat} {os : List Ov} {T : List Addr} : σ[i]? = some (some v) → RepO G H σ vs os T → RepO G H σ (v :: vs) (.v i :: os) T
  | p {v v0 : V} {vs : List V} {i : Nat} {path : List PK} {root x : D} {os : List Ov} {T0 T : List Addr} : σ[i]? = some (some v0) → Rep G H v0 root T0 → VAt H v0 path v → getP path root = some x → RepO G H σ vs os T →
      RepO G H σ (v :: vs) (.p i path root :: os) (T0 ++ T)
def tPath (i : Nat) (path : List PK) : TE := fun σ H Q => ∃ v0 u, σ[i]? = some (some v0) ∧ VAt H v0 path u ∧ Q u H
def tO (G : Ga) (W : WX) : List Sop → TA
  | [] => tNil
  | .e f :: r => tCons (tE G W f) (tO G W r)
  | .v i :: r => tCons (tVar i) (tO G W r)
  | .p i path :: r => tCons (tPath i path) (tO G W r)
section
variable {G : Ga} {W : WX} {σ : L2.St} {H H' : Hp} {S : List Addr}
theorem atI_map {α β : Type} {xs : List α} {ys : List β} {i : Int} {y : β} (hl : xs.length = ys.length) (h : atI ys i = some y) : ∃ (j : Nat) (x : α), ys[j]? = some y ∧ xs[j]? = some x ∧ atI xs i = some x ∧ ixN ys.length i = some j := by
  unfold atI at h
  cases e : ixN ys.length i with
  | none => rw [e] at h; cases h
  | some j =>
    rw [e] at h
    have hj : j < ys.length := (List.getElem?_eq_some_iff.mp h).1
    have e' : ixN xs.length i = some j := by rw [hl]; exact e
    have hx : xs[j]? = some (xs[j]'(by omega)) := List.getElem?_eq_getElem _
    refine ⟨j, _, h, hx, ?_, rfl⟩
    unfold atI
    rw [e']
    exact hx
theorem dk_at : ∀ {kvs : List (Key × V)} {ds : List D} {T : List Addr} {k : Key} {d : D}, Reps G H (kvs.map (·.2)) ds T → dkGet (kvs.map (·.1)) ds k = some d → ∃ v T', valV kvs k = some v ∧ Rep G H v d T' ∧ ∀ a ∈ T', a ∈ T
  | [], ds, T, k, d, h, e => by simp [dkGet] at e
  | (q, v) :: kvs, ds, T, k, d, h, e => by
    cases h with
    | cons h hs =>
      simp only [List.map_cons, dkGet] at e
      by_cases hk : q = k
      · rw [if_pos hk] at e
        cases e
        exact ⟨v, _, valV_pos hk, h, fun a z => List.mem_append_left _ z⟩
      · rw [if_neg hk] at e
        obtain ⟨u, T', a, b, c⟩ := dk_at hs e
        exact ⟨u, T', by rw [valV_neg hk]; exact a, b, fun x z => List.mem_append_right _ (c x z)⟩
theorem Reps.getS : ∀ {vs : List V} {ds : List D} {O : List Addr} {i : Nat} {d : D}, Reps G H vs ds O → ds[i]? = some d → ∃ v T, vs[i]? = some v ∧ Rep G H v d T ∧ ∀ a ∈ T, a ∈ O
  | _, _, _, i, d, .nil, e => by simp at e
  | _, _, _, 0, d, .cons h hs, e => by simp at e; subst e; exact ⟨_, _, rfl, h, fun a z => List.mem_append_left _ z⟩
  | _, _, _, i + 1, d, .cons h hs, e => by
    obtain ⟨v, T, a, b, c⟩ := Reps.getS (i := i) hs (by simpa using e)
    exact ⟨v, T, by simpa using a, b, fun x z => List.mem_append_right _ (c x z)⟩
/-- a place within a tree -/
theorem Rep.place : ∀ {p : List PK} {v : V} {d x : D} {T : List Addr}, Rep G H v d T → getP p d = some x → ∃ u T', VAt H v p u ∧ Rep G H u x T' ∧ ∀ a ∈ T', a ∈ T
  | [], v, d, x, T, h, e => by
    unfold getP at e; cases e
    exact ⟨v, T, .nil, h, fun a z => z⟩
  | .ix n :: p, v, d, x, T, h, e => by
    cases h with
    | @ls a xs ds O q hs =>
      unfold getP at e
      split at e
      · rename_i y ey
        obtain ⟨j, u, e1, e2, e3, _⟩ := atI_map hs.len ey
        obtain ⟨v', T', a1, a2, a3⟩ := hs.getS e1
        rw [e2] at a1; cases a1
        obtain ⟨w, T2, b1, b2, b3⟩ := Rep.place a2 e
        exact ⟨w, T2, .ix q e3 b1, b2, fun z hz => List.mem_cons_of_mem _ (a3 z (b3 z hz))⟩
      · cases e
    | sh _ => simp [getP] at e
    | tp _ _ => simp [getP] at e
    | dk _ _ => simp [getP] at e
    | dd _ _ _ _ => simp [getP] at e
    | ob => simp [getP] at e
    | fn _ => simp [getP] at e
    | fd => simp [getP] at e
  | .key k :: p, v, d, x, T, h, e => by
    cases h with
    | dk q hs =>
      unfold getP at e
      split at e
      · rename_i y ey
        obtain ⟨u, T', e3, a2, a3⟩ := dk_at hs ey
        obtain ⟨w, T2, b1, b2, b3⟩ := Rep.place a2 e
        exact ⟨w, T2, .key q e3 b1, b2, fun z hz => List.mem_cons_of_mem _ (a3 z (b3 z hz))⟩
      · cases e
    | sh _ => simp [getP] at e
    | tp _ _ => simp [getP] at e
    | ls _ _ => simp [getP] at e
    | dd _ _ _ _ => simp [getP] at e
    | ob => simp [getP] at e
    | fn _ => simp [getP] at e
    | fd => simp [getP] at e
theorem VAt.inj {v u w : V} {p : List PK} (h : VAt H v p u) : VAt H v p w → u = w := by
  induction h with
  | nil => intro q; cases q; rfl
  | ix a b c ih =>
    intro q
    cases q with
    | ix a' b' c' =>
      rw [a] at a'; cases a'
      rw [b] at b'; cases b'
      exact ih c'
  | key a b c ih =>
    intro q
    cases q with
    | key a' b' c' =>
      rw [a] at a'; cases a'
      rw [b] at b'; cases b'
      exact ih c'
/-- .. stays while what is held stays -/
theorem VAt.fr {p : List PK} {v u : V} {d x : D} {T : List Addr} (h : VAt H v p u) (r : Rep G H v d T) (e : getP p d = some x) (f : Frm S H H') (m : MutA H S) (n : ∀ a ∈ T, a ∉ S) : VAt H' v p u := by
  obtain ⟨u', T', a, b, c⟩ := Rep.place (Rep.fr r f m n) e
  obtain ⟨u2, T2, a2, b2, c2⟩ := Rep.place r e
  have : ∀ {p : List PK} {v u : V} {d x : D} {T : List Addr}, VAt H v p u → Rep G H v d T → getP p d = some x → (∀ a ∈ T, a ∉ S) → VAt H' v p u := by
    intro p
    induction p with
    | nil => intro v u d x T h _ _ _; cases h; exact .nil
    | cons k p ih =>
      intro v u d x T h r e n
      cases h with
      | ix q1 q2 q3 =>
        cases r with
        | ls z hs =>
          rw [q1] at z; cases z
          unfold getP at e
          split at e
          · rename_i y ey
            obtain ⟨j, u', e1, e2, e3, _⟩ := atI_map hs.len ey
            rw [q2] at e3; cases e3
            obtain ⟨v', T', a1, a2, a3⟩ := hs.getS e1
            rw [e2] at a1; cases a1
            exact .ix (f _ _ q1 (n _ List.mem_cons_self)) q2 (ih q3 a2 e fun b hb => n b (List.mem_cons_of_mem _ (a3 b hb)))
          · cases e
        | sh _ => simp [getP] at e
        | tp _ _ => simp [getP] at e
        | dk _ _ => simp [getP] at e
        | dd _ _ _ _ => simp [getP] at e
        | ob => simp [getP] at e
        | fn _ => simp [getP] at e
        | fd => simp [getP] at e
      | key q1 q2 q3 =>
        cases r with
        | dk z hs =>
          rw [q1] at z; cases z
          unfold getP at e
          split at e
          · rename_i y ey
            obtain ⟨u', T', e3, a2, a3⟩ := dk_at hs ey
            rw [q2] at e3; cases e3
            exact .key (f _ _ q1 (n _ List.mem_cons_self)) q2 (ih q3 a2 e fun b hb => n b (List.mem_cons_of_mem _ (a3 b hb)))
          · cases e
        | sh _ => simp [getP] at e
        | tp _ _ => simp [getP] at e
        | ls _ _ => simp [getP] at e
        | dd _ _ _ _ => simp [getP] at e
        | ob => simp [getP] at e
        | fn _ => simp [getP] at e
        | fd => simp [getP] at e
  exact this h r e n
theorem RepO.fr : ∀ {vs : List V} {os : List Ov} {O : List Addr}, RepO G H σ vs os O → Frm S H H' → MutA H S → (∀ a ∈ O, a ∉ S) → RepO G H' σ vs os O
  | _, _, _, .nil, _, _, _ => .nil
  | _, _, _, .d h hs, f, m, n => .d (Rep.fr h f m fun a q => n a (List.mem_append_left _ q)) (RepO.fr hs f m fun a q => n a (List.mem_append_right _ q))
  | _, _, _, .v e hs, f, m, n => .v e (RepO.fr hs f m n)
  | _, _, _, .p e r va g hs, f, m, n => .p e (Rep.fr r f m fun a q => n a (List.mem_append_left _ q)) (va.fr r g f m fun a q => n a (List.mem_append_left _ q)) g (RepO.fr hs f m fun a q => n a (List.mem_append_right _ q))
theorem RepO.mut : ∀ {vs : List V} {os : List Ov} {O : List Addr}, RepO G H σ vs os O → MutA H O
  | _, _, _, .nil => fun _ q => nomatch q
  | _, _, _, .d h hs => MutA.app (Rep.mut h) (RepO.mut hs)
  | _, _, _, .v e hs => RepO.mut hs
  | _, _, _, .p e r _ _ hs => MutA.app (Rep.mut r) (RepO.mut hs)

/-- what follows when the operands stand -/
def OpsR (G : Ga) (W : WX) (ops : List Sop) (σ : L2.St) (H : Hp) (ρ : Env) (O : List Addr) (R : List V → Hp → Prop) : Prop :=
  match runO ops ρ with
  | .ok (os, ρ') => ∀ vs H' O' T, RepE G H' σ ρ' O' → RepO G H' σ vs os T → (T ++ O').Nodup → Go O H (T ++ O') H' → R vs H'
  | .ex x ρ' => ∀ cls dd H', ExR G O H ρ' x cls dd σ H' → W cls dd σ H'
  | .no => False
theorem Go.held {O T S1 : List Addr} {H1 : Hp} (g : Go O H S1 H1) : Go (T ++ O) H (T ++ S1) H1 := by
  refine ⟨fun a o e n => g.frm a o e fun q => n (List.mem_append_right _ q), fun a q => ?_⟩
  rcases List.mem_append.mp q with q | q
  · exact .inl (List.mem_append_left _ q)
  · exact (g.sub a q).imp (fun z => List.mem_append_right _ z) id
/-- the operands run, from the left -/
theorem run_ops : ∀ (ops : List Sop) {σ : L2.St} {H : Hp} {R : List V → Hp → Prop} (ρ : Env) (O : List Addr), RepE G H σ ρ O → O.Nodup → OpsR G W ops σ H ρ O R → tO G W ops σ H R
  | [], σ, H, R, ρ, O, rE, nd, h => h [] H O [] rE .nil nd Go.refl
  | .v i :: r, σ, H, R, ρ, O, rE, nd, h => by
    unfold OpsR runO at h
    cases e : ρ[i]? with
    | none => rw [e] at h; exact h.elim
    | some o =>
      cases o with
      | none => rw [e] at h; exact h.elim
      | some d =>
        rw [e] at h
        obtain ⟨v, _, _, ev, _⟩ := rE.out e
        refine ⟨v, ev, ?_⟩
        refine run_ops r ρ O rE nd ?_
        unfold OpsR
        have h : (match (runO r ρ).bind fun q => .ok (.v i :: q.1, q.2) with
          | .ok (os, ρ') => ∀ vs H' O' T, RepE G H' σ ρ' O' → RepO G H' σ vs os T → (T ++ O').Nodup → Go O H (T ++ O') H' → R vs H'
          | .ex x ρ' => ∀ cls dd H', ExR G O H ρ' x cls dd σ H' → W cls dd σ H'
          | .no => False) := h
        cases er : runO r ρ with
        | no => rw [er] at h; exact h.elim
        | ex x ρ' => rw [er] at h; exact h
        | ok q =>
          obtain ⟨os, ρ2⟩ := q
          rw [er] at h
          intro vs H2 O2 T2 rE2 rO2 nd2 go2
          exact h (v :: vs) H2 O2 T2 rE2 (.v ev rO2) nd2 go2
  | .p i path :: r, σ, H, R, ρ, O, rE, nd, h => by
    unfold OpsR runO at h
    cases e : ρ[i]? with
    | none => rw [e] at h; exact h.elim
    | some o =>
      cases o with
      | none => rw [e] at h; exact h.elim
      | some d =>
        simp only [e] at h
        cases eg : getP path d with
        | none => rw [eg] at h; exact h.elim
        | some x =>
        rw [eg] at h
        obtain ⟨v0, O1, O2, ev, rv, pm, rE'⟩ := rE.out e
        obtain ⟨u, T', va, _, _⟩ := rv.place eg
        refine ⟨v0, u, ev, va, ?_⟩
        have nd' := nd_app.mp (pm.nodup nd)
        refine run_ops r (ρ.set i none) O2 rE' nd'.2.1 ?_
        unfold OpsR
        have h : (match (runO r (ρ.set i none)).bind fun q => .ok (.p i path d :: q.1, q.2) with
          | .ok (os, ρ') => ∀ vs H' O' T, RepE G H' σ ρ' O' → RepO G H' σ vs os T → (T ++ O').Nodup → Go O H (T ++ O') H' → R vs H'
          | .ex x ρ' => ∀ cls dd H', ExR G O H ρ' x cls dd σ H' → W cls dd σ H'
          | .no => False) := h
        cases er : runO r (ρ.set i none) with
        | no => rw [er] at h; exact h.elim
        | ex x ρ' =>
          rw [er] at h
          intro cls dd H' ⟨O', a, b, c, e⟩
          exact h cls dd H' ⟨O', a, b, c.more fun x q => pm.mem_iff.mpr (List.mem_append_right _ q), e⟩
        | ok q =>
          obtain ⟨os, ρ2⟩ := q
          rw [er] at h
          intro vs H2 O3 T2 rE2 rO2 nd2 go2
          have m1 : MutA H O2 := rE'.mut
          have dis : ∀ a ∈ O1, a ∉ O2 := nd'.2.2
          have keep := go2.keep (T := O1) fun a q => ⟨dis a q, rv.mut.some a q⟩
          refine h (u :: vs) H2 O3 (O1 ++ T2) rE2 (.p ev (rv.fr go2.frm m1 dis) (va.fr rv eg go2.frm m1 dis) eg rO2) ?_ ?_
          · rw [List.append_assoc]
            exact nd_app.mpr ⟨nd'.1, nd2, keep⟩
          · rw [List.append_assoc]
            exact (go2.held (T := O1)).more fun x q => pm.mem_iff.mpr q
  | .e f :: r, σ, H, R, ρ, O, rE, nd, h => by
    unfold OpsR runO at h
    refine ⟨ρ, O, rE, nd, ?_⟩
    cases ef : f ρ with
    | no => rw [ef] at h; exact h.elim
    | ex x ρ' => rw [ef] at h; exact h
    | ok p =>
      obtain ⟨d, ρ1⟩ := p
      rw [ef] at h
      intro v H1 ⟨O1, T1, rE1, rv, nd1, go1⟩
      have nd1' := nd_app.mp nd1
      refine run_ops r ρ1 O1 rE1 nd1'.2.1 ?_
      unfold OpsR
      have h : (match (runO r ρ1).bind fun q => .ok (.d d :: q.1, q.2) with
        | .ok (os, ρ') => ∀ vs H' O' T, RepE G H' σ ρ' O' → RepO G H' σ vs os T → (T ++ O').Nodup → Go O H (T ++ O') H' → R vs H'
        | .ex x ρ' => ∀ cls dd H', ExR G O H ρ' x cls dd σ H' → W cls dd σ H'
        | .no => False) := h
      cases er : runO r ρ1 with
      | no => rw [er] at h; exact h.elim
      | ex x ρ' =>
        rw [er] at h
        intro cls dd H' ⟨O', a, b, c, e⟩
        exact h cls dd H' ⟨O', a, b, (go1.less fun x q => List.mem_append_right _ q).trans c, e⟩
      | ok q =>
        obtain ⟨os, ρ2⟩ := q
        rw [er] at h
        intro vs H2 O2 T2 rE2 rO2 nd2 go2
        have m1 : MutA H1 O1 := rE1.mut
        have dis : ∀ a ∈ T1, a ∉ O1 := nd1'.2.2
        have keep := go2.keep (T := T1) fun a q => ⟨dis a q, rv.mut.some a q⟩
        refine h (v :: vs) H2 O2 (T1 ++ T2) rE2 (.d (rv.fr go2.frm m1 dis) rO2) ?_ ?_
        · rw [List.append_assoc]
          exact nd_app.mpr ⟨nd1'.1, nd2, keep⟩
        · rw [List.append_assoc]
          exact go1.trans (go2.held (T := T1))
/-- the operands' values -/
theorem ovs_ok : ∀ {os : List Ov} {vs : List V} {T O : List Addr} {ρ : Env} {ds : List D}, RepO G H σ vs os T → RepE G H σ ρ O → ovs os ρ = some ds → RVs G H vs ds
  | _, _, _, _, _, _, .nil, _, e => by unfold ovs at e; cases e; exact .nil
  | _, _, _, _, ρ, _, .d (os := os) r hs, rE, e => by
    unfold ovs at e
    cases e2 : ovs os ρ with
    | none => rw [e2] at e; cases e
    | some l => rw [e2] at e; cases e; exact .cons r (ovs_ok hs rE e2)
  | _, _, _, _, ρ, _, .v (i := i) (os := os) q hs, rE, e => by
    unfold ovs at e
    split at e
    · rename_i d l e1 e2
      cases e
      obtain ⟨v, O1, O2, a, b, _⟩ := rE.out e1
      rw [q] at a; cases a
      exact .cons b (ovs_ok hs rE e2)
    · cases e
  | _, _, _, _, ρ, _, .p (os := os) q r va g hs, rE, e => by
    unfold ovs at e
    split at e
    · rename_i d l e1 e2
      cases e
      obtain ⟨u, T', a, b, _⟩ := r.place e1
      cases a.inj va
      exact .cons b (ovs_ok hs rE e2)
    · cases e
/-- .. and the names given back -/
theorem unlock_ok : ∀ {os : List Ov} {vs : List V} {T O : List Addr} {ρ ρ' : Env}, RepO G H σ vs os T → RepE G H σ ρ O → (T ++ O).Nodup → unlock os ρ = some ρ' → ∃ O', RepE G H σ ρ' O' ∧ O'.Nodup ∧ ∀ a ∈ O', a ∈ T ++ O
  | _, _, _, _, _, _, .nil, rE, nd, e => by unfold unlock at e; cases e; exact ⟨_, rE, nd, fun a q => q⟩
  | _, _, _, _, ρ, _, .d (os := os) r hs, rE, nd, e => by
    unfold unlock at e
    rw [List.append_assoc] at nd ⊢
    obtain ⟨O', a, b, c⟩ := unlock_ok hs rE (nd_app.mp nd).2.1 e
    exact ⟨O', a, b, fun x q => List.mem_append_right _ (c x q)⟩
  | _, _, _, _, ρ, _, .v (i := i) (os := os) q hs, rE, nd, e => by
    unfold unlock at e
    exact unlock_ok hs rE nd e
  | _, _, _, O, ρ, _, .p (os := os) (T0 := T0) (T := T) q r va g hs, rE, nd, e => by
    unfold unlock at e
    split at e
    · rename_i ρ1 e1
      split at e
      · rename_i en
        cases e
        rw [List.append_assoc] at nd ⊢
        have nd' := nd_app.mp nd
        obtain ⟨O', a, b, c⟩ := unlock_ok hs rE nd'.2.1 e1
        obtain ⟨O2, pm, r2⟩ := a.put en q r
        refine ⟨O2, r2, pm.nodup_iff.mpr (nd_app.mpr ⟨nd'.1, b, fun x hx z => nd'.2.2 x hx (c x z)⟩), fun x hx => ?_⟩
        rcases List.mem_append.mp (pm.mem_iff.mp hx) with z | z
        · exact List.mem_append_left _ z
        · exact List.mem_append_right _ (c x z)
      · cases e
    · cases e
/-- behind an operation: something new, the names as they were -/
theorem new_ev {O O2 : List Addr} {ρ : Env} {d : D} {Q : VK} {H2 : Hp} (rE : RepE G H2 σ ρ O2) (nd : O2.Nodup) (go : Go O H O2 H2) (h : ∀ v H', EvR G O σ H ρ d v H' → Q v H') : NewR G H2 d Q := fun v H' T r ndT new fr => by
  refine h v H' ⟨O2, T, rE.fr (S := []) fr mut_nil (fun a _ z => nomatch z), r, nd_app.mpr ⟨ndT, nd, fun a q z => ?_⟩, go.trans ⟨fun a o e n => fr a o e (fun z => nomatch z), fun a q => ?_⟩⟩
  · obtain ⟨o, e⟩ := rE.mut.some a z
    rw [new a q] at e; cases e
  · rcases List.mem_append.mp q with q | q
    · exact .inr (new a q)
    · exact .inl q
theorem op_logic {o : List D → Option D} {ops : List Sop} {Q : VK} (h : tE G W (opE o ops) σ H Q) : tO G W ops σ H fun vs H2 => ∃ ds d, RVs G H2 vs ds ∧ o ds = some d ∧ NewR G H2 d Q := by
  obtain ⟨ρ, O, rE, nd, h⟩ := h
  refine run_ops ops ρ O rE nd ?_
  unfold OpsR
  unfold opE at h
  cases er : runO ops ρ with
  | no => rw [er] at h; exact h.elim
  | ex x ρ' => rw [er] at h; exact h
  | ok q =>
    obtain ⟨os, ρ2⟩ := q
    rw [er] at h
    intro vs H2 O2 T rE2 rO nd2 go
    simp only [Res.bind] at h
    cases e1 : ovs os ρ2 with
    | none => rw [e1] at h; exact h.elim
    | some ds =>
      cases e2 : o ds with
      | none => simp only [e1, e2] at h
      | some d =>
        cases e3 : unlock os ρ2 with
        | none => simp only [e1, e2, e3] at h
        | some ρ' =>
          simp only [e1, e2, e3] at h
          obtain ⟨O', rE3, nd3, sub⟩ := unlock_ok rO rE2 nd2 e3
          exact ⟨ds, d, ovs_ok rO rE2 e1, e2, new_ev rE3 nd3 (go.less sub) h⟩
/-! ### displays -/
theorem ods_ok : ∀ {os : List Ov} {vs : List V} {T : List Addr} {ds : List D}, RepO G H σ vs os T → ods os = some ds → Reps G H vs ds T
  | _, _, _, _, .nil, e => by unfold ods at e; cases e; exact .nil
  | _, _, _, _, .d (os := os) r hs, e => by
    unfold ods at e
    cases e2 : ods os with
    | none => rw [e2] at e; cases e
    | some l => rw [e2] at e; cases e; exact .cons r (ods_ok hs e2)
  | _, _, _, _, .v _ _, e => by unfold ods at e; cases e
  | _, _, _, _, .p _ _ _ _ _, e => by unfold ods at e; cases e
theorem disp_logic {mk : List D → D} {ops : List Sop} {Q : VK} (h : tE G W (dispE mk ops) σ H Q) : tO G W ops σ H fun vs H2 => ∃ ds T O2 ρ, vs.length ≤ 1000 ∧ Reps G H2 vs ds T ∧ RepE G H2 σ ρ O2 ∧ (T ++ O2).Nodup ∧
    ∀ v H3 T3, Rep G H3 v (mk ds) T3 → RepE G H3 σ ρ O2 → (T3 ++ O2).Nodup → Go (T ++ O2) H2 (T3 ++ O2) H3 → Q v H3 := by
  obtain ⟨ρ, O, rE, nd, h⟩ := h
  refine run_ops ops ρ O rE nd ?_
  unfold OpsR
  unfold dispE at h
  cases er : runO ops ρ with
  | no => rw [er] at h; exact h.elim
  | ex x ρ' => rw [er] at h; exact h
  | ok q =>
    obtain ⟨os, ρ2⟩ := q
    rw [er] at h
    intro vs H2 O2 T rE2 rO nd2 go
    simp only [Res.bind] at h
    cases e1 : ods os with
    | none => rw [e1] at h; exact h.elim
    | some ds =>
      simp only [e1] at h
      by_cases hl : ds.length ≤ 1000
      · rw [if_pos hl] at h
        have rs := ods_ok rO e1
        exact ⟨ds, T, O2, ρ2, by rw [rs.len]; exact hl, rs, rE2, nd2, fun v H3 T3 r rE3 nd3 go3 => h v H3 ⟨O2, T3, rE3, r, nd3, go.trans go3⟩⟩
      · rw [if_neg hl] at h; exact h.elim
theorem Reps.mkTup {vs : List V} {ds : List D} {T : List Addr} {a : Addr} (h : Reps G H vs ds T) (q : SqN G.K H a vs) : Rep G H (.ref a) (mkTup ds) T := by
  unfold Vs.mkTup
  split
  · rename_i l e
    obtain ⟨a1, a2⟩ := h.of_unsh e
    rw [a2]
    exact .sh (.tup q a1)
  · exact .tp q h
end
end Vs
/-! V8: when a piece of the model's syntax is an instance of the own one (positions do not matter). -/
namespace Vs
open PySem PySem.Spec L2
open PyProof.Rows hiding St

/-- where a text stands: its scope, the names by slot, the built-in names that the module leaves alone -/
structure Sc where
  sc : Scope
  N : List Str
  bl : List Str
  pats : Str → List (Nat × List Str × List Nat)
def relB (scope sc : Scope) : Scope :=
  { scope with names := scope.names.map fun (n, k) => if (k == .free && sc.kind == .function && sc.names.lookup n == some .cell) then (n, .cell) else (n, k) }
def Sc.blk (S : Sc) (scope : Scope) : Sc := { S with sc := relB scope S.sc }
def plainB (x : Str) : Bool := !(x == ("__debug__" : Str)) && !(x == ("__classdict__" : Str)) && decide (x ≠ "__name__")
def visB (S : Sc) (i : Nat) (x : Str) : Bool := decide (S.N[i]? = some x) && plainB x && (match S.sc.names.lookup x with
  | some .local | some .cell | some .free => true
  | _ => false)
def glB (S : Sc) (x : Str) : Bool := plainB x && decide (S.sc.names.lookup x = some .globalImplicit)
def bltB (S : Sc) (x : Str) : Bool := glB S x && S.bl.contains x
def isD0 : PyData → Bool
  | .dict [] => true
  | _ => false
def litB : PyData → Const → Bool
  | .none, .none => true
  | .bool a, .bool b => a == b
  | .int a, .int b => decide (a = b)
  | .str a, .str b => decide (a = b)
  | _, _ => false
def notStar : PySem.Expr → Bool
  | .Starred _ _ => false
  | _ => true
def notSet : PySem.Expr → Bool
  | .Set _ _ _ => false
  | _ => true
def notSlice : PySem.Expr → Bool
  | .Slice _ _ _ _ => false
  | _ => true
def binOf : Op → Option Operator
  | .add => some .Add
  | .sub => some .Sub
  | .mul => some .Mult
  | .fdiv => some .FloorDiv
  | .mod => some .Mod
  | .pow => some .Pow
  | .band => some .BitAnd
  | .bor => some .BitOr
  | .shl => some .LShift
  | .shr => some .RShift
  | _ => none
def cmpOf : Op → Option CmpOp
  | .lt => some .Lt
  | .le => some .LtE
  | .gt => some .Gt
  | .ge => some .GtE
  | .eq => some .Eq
  | .ne => some .NotEq
  | .isin => some .In
  | .notin => some .NotIn
  | .is_ => some .Is
  | .isnot => some .IsNot
  | _ => none
def f1Of : Op → Option Str
  | .len => some "len"
  | .abs => some "abs"
  | .int => some "int"
  | .repr => some "repr"
  | .list => some "list"
  | .tuple => some "tuple"
  | .sorted => some "sorted"
  | .sum => some "sum"
  | .all => some "all"
  | .any => some "any"
  | .str => some "str"
  | .dctP => some "dict"
  | _ => none
def isRev : Op → Bool
  | .rev => true
  | _ => false
def isRg (k : Nat) (o : Op) : Bool := match o with
  | .lrng => k == 0
  | .trng => k == 1
  | .lrng2 => k == 2
  | .trng2 => k == 3
  | _ => false
/-- list(range(..)), tuple(range(..)) -/
def rgArgs (S : Sc) (o : Op) (f : Str) (a : PySem.Expr) : Option (List PySem.Expr) := match a with
  | .Call (.Name g _) [x] [] _ => if decide (g = "range") && bltB S "range" && ((decide (f = "list") && bltB S "list" && isRg 0 o) || (decide (f = "tuple") && bltB S "tuple" && isRg 1 o)) then some [x] else none
  | .Call (.Name g _) [x, y] [] _ => if decide (g = "range") && bltB S "range" && ((decide (f = "list") && bltB S "list" && isRg 2 o) || (decide (f = "tuple") && bltB S "tuple" && isRg 3 o)) then some [x, y] else none
  | _ => none
/-- the operands' texts -/
def opArgs (S : Sc) (o : Op) : PySem.Expr → Option (List PySem.Expr)
  | .BinOp a p b _ => if binOf o = some p then some [a, b] else none
  | .Compare a [p] [b] _ => if cmpOf o = some p && notSet b then some [a, b] else none
  | .UnaryOp .USub a _ => match o with
    | .neg => some [a]
    | _ => none
  | .Subscript a (.Slice none none none _) _ => match o with
    | .sl => some [a]
    | _ => none
  | .Subscript a (.Slice none none (some (.UnaryOp .USub (.Constant (.int i) _ _) _)) _) _ => if decide (i = 1) && isRev o then some [a] else none
  | .Subscript a (.Slice (some b) none none _) _ => match o with
    | .slL => some [a, b]
    | _ => none
  | .Subscript a (.Slice none (some b) none _) _ => match o with
    | .slH => some [a, b]
    | _ => none
  | .Subscript a (.Slice (some b) (some c) none _) _ => match o with
    | .slLH => some [a, b, c]
    | _ => none
  | .Subscript a b _ => match o with
    | .ix => if notSlice b then some [a, b] else none
    | _ => none
  | .Call (.Name f _) [a] [] _ => if f1Of o = some f && bltB S f then some [a] else rgArgs S o f a
  | .Call (.Name f _) [a, .Name t _] [] _ => match o with
    | .isi ty => if decide (f = "isinstance") && bltB S "isinstance" && bltB S t && decide (t = Str.ofString ty.nm) then some [a] else none
    | _ => none
  | _ => none
/-- x[k1][k2].., the last step first -/
def mPathR (S : Sc) (i : Nat) : List PK → PySem.Expr → Bool
  | [], .Name x _ => visB S i x
  | .ix n :: p, .Subscript e (.Constant (.int k) _ _) _ => decide (k = n) && mPathR S i p e
  | .key k :: p, .Subscript e (.Constant (.str x) _ _) _ => decide (k = .inr x) && mPathR S i p e
  | _, _ => false
def mName (S : Sc) (i : Nat) : PySem.Expr → Bool
  | .Name x _ => visB S i x
  | _ => false
/-- a name that may be stored in (fn: a cell made here) -/
def stB (S : Sc) (fn : Str → Bool) (i : Nat) (x : Str) : Bool := decide (S.N[i]? = some x) && (match S.sc.names.lookup x with
  | some .local => true
  | some .cell => fn x
  | _ => false)
def mNames (S : Sc) (fn : Str → Bool) : List Nat → List PySem.Expr → Bool
  | [], [] => true
  | i :: is, .Name x _ :: es => stB S fn i x && mNames S fn is es
  | _, _ => false
def mTg (S : Sc) (fn : Str → Bool) : Tg → PySem.Expr → Bool
  | .nm i, .Name x _ => stB S fn i x
  | .tp is, .Tuple es _ _ => mNames S fn is es
  | .tn i js, .Tuple [.Name x _, .Tuple es _ _] _ _ => stB S fn i x && mNames S fn js es
  | _, _ => false
def itArgs (S : Sc) : ItK → PySem.Expr → Option (List PySem.Expr)
  | .seq, e => some [e]
  | .rng, .Call (.Name f _) [a] [] _ => if decide (f = "range") && bltB S f then some [a] else none
  | .rng2, .Call (.Name f _) [a, b] [] _ => if decide (f = "range") && bltB S f then some [a, b] else none
  | .enum, .Call (.Name f _) [a] [] _ => if decide (f = "enumerate") && bltB S f then some [a] else none
  | .rev, .Call (.Name f _) [a] [] _ => if decide (f = "reversed") && bltB S f then some [a] else none
  | .zip, .Call (.Name f _) [a, b] [] _ => if decide (f = "zip") && bltB S f then some [a, b] else none
  | .items, .Call (.Attribute (.Name x p) name ap) [] [] cp => if decide (name = "items") && ap.endLine == cp.line then some [.Name x p] else none
  | _, _ => none
/-- an iterable that makes tuples wants a target of names -/
def itTup : ItK → Bool
  | .enum => true
  | .zip => true
  | .items => true
  | _ => false
def isTup : PySem.Expr → Bool
  | .Tuple _ _ _ => true
  | _ => false
def moName : Mo → Str
  | .append => "append"
  | .extend => "extend"
  | .pop => "pop"
  | .popAt => "pop"
  | .insert => "insert"
  | .cnt => "count"
  | .idx => "index"
def kwB : List Keyword → Option (List PySem.Expr)
  | [] => some []
  | ⟨_, v, _⟩ :: r => match kwB r with
    | some l => some (v :: l)
    | none => none
def kwN : List Keyword → List (Option Str)
  | [] => []
  | ⟨n, _, _⟩ :: r => n :: kwN r
def bopOf : Bool → BoolOp
  | true => .And
  | false => .Or
def ownOf (S : Sc) (own : List Nat) : List (Str × Nat) := own.map fun i => ((S.N[i]?).getD Str.empty, i)
def mKeys : List Key → List (Option PySem.Expr) → Bool
  | [], [] => true
  | k :: ks, some (.Constant (.str x) _ _) :: es => decide (k = .inr x) && mKeys ks es
  | k :: ks, some (.Constant (.int n) _ _) :: es => decide (k = .inl n) && mKeys ks es
  | _, _ => false
/-- {k: v} -/
def mkdArgs : Op → PySem.Expr → List PySem.Expr
  | .mkd, .Dict [some k] [v] _ => [k, v]
  | _, _ => []
theorem mkd_inv {o : Op} {x : PySem.Expr} (h : (!(mkdArgs o x).isEmpty) = true) : ∃ k v pos, o = .mkd ∧ x = .Dict [some k] [v] pos ∧ mkdArgs o x = [k, v] := by
  unfold mkdArgs at h ⊢
  split at h
  · exact ⟨_, _, _, rfl, rfl, rfl⟩
  · cases h
mutual
def mE (S : Sc) (e : Ex) (x : PySem.Expr) : Bool := match e with
  | .lit d => match x with
    | .Constant c _ _ => litB d c
    | .Dict [] [] _ => isD0 d
    | _ => false
  | .rd i => mName S i x
  | .mv i => mName S i x
  | .vw _ _ => false
  | .gl f => match x with
    | .Name y _ => decide (f = y) && glB S f
    | _ => false
  | .tup es => match x with
    | .Tuple xs _ _ => mEs S es xs
    | _ => false
  | .lst es => match x with
    | .List xs _ => mEs S es xs
    | _ => false
  | .op o as => match opArgs S o x with
    | some xs => mO S as xs
    | none => !(mkdArgs o x).isEmpty && mEs S as (mkdArgs o x)
  | .chn o o' a b c => match x with
    | .Compare x [p, p'] [y, z] _ => decide (cmpOf o = some p) && decide (cmpOf o' = some p') && notSet y && notSet z && mE S a x && mE S b y && mE S c z
    | _ => false
  | .bop k es => match x with
    | .BoolOp p xs _ => decide (bopOf k = p) && !xs.isEmpty && mEs S es xs
    | _ => false
  | .not a => match x with
    | .UnaryOp .Not x _ => mE S a x
    | _ => false
  | .ite c a b => match x with
    | .IfExp x y z _ => mE S c x && mE S a y && mE S b z
    | _ => false
  | .call f as bs ks π => match x with
    | .Call (.Name g _) xs kws _ => decide (f = g) && glB S f && mO S as xs && (match kwB kws with
      | some ys => mO S bs ys
      | none => false) && decide (kwN kws = ks.map some) && (S.pats f).contains (xs.length, ks, π) && (!ks.isEmpty || decide (π = List.range xs.length))
    | _ => false
  | .mut m i path as => match x with
    | .Call (.Attribute o name ap) xs [] cp => decide (name = moName m) && mPathR S i path.reverse o && mO S as xs && ap.endLine == cp.line && decide (xs.length < 20)
    | _ => false
  | .lc own t k as ifs e => match x with
    | .ListComp x [⟨tg, it, cs, 0⟩] scope _ => (match itArgs S k it with
      | some xs => mL S as xs
      | none => false) && (!itTup k || isTup tg) && blkC S.N S.sc scope (ownOf S own) && mTg (S.blk scope) (fun x => scope.names.lookup x == some .cell) t tg && t.sl.all own.contains && decide (cs.length ≤ 1) && mEs (S.blk scope) ifs cs && mE (S.blk scope) e x && notSet it
    | _ => false
  | .fz a => mE S a x
  | .at i p => mPathR S i p.reverse x
  | .dct ks es => match x with
    | .Dict keys vs _ => mKeys ks keys && decide (keys.length = vs.length) && decide (keys.length ≤ 15) && mEs S es vs
    | _ => false
  | .tm c i a => match x with
    | .Call (.Attribute o name ap) [e] [] cp => decide (name = (if c = true then "count" else "index")) && mName S i o && mE S a e && notStar e && ap.endLine == cp.line
    | _ => false
  | .new c as => match x with
    | .Call (.Name g _) xs [] _ => decide (c = g) && glB S c && !xs.isEmpty && mO S as xs
    | _ => false
  | .mcl c m i as => match x with
    | .Call (.Attribute (.Name y _) name ap) xs [] cp => decide (name = m) && visB S i y && !xs.isEmpty && mO S as xs && ap.endLine == cp.line && decide (xs.length < 20)
    | _ => false
  | .fld i n => match x with
    | .Attribute (.Name y _) name _ => decide (name = n) && visB S i y
    | _ => false
def mEs (S : Sc) : List Ex → List PySem.Expr → Bool
  | [], [] => true
  | e :: es, x :: xs => mE S e x && notStar x && mEs S es xs
  | _, _ => false
/-- operands -/
def mO (S : Sc) : List Ex → List PySem.Expr → Bool
  | [], [] => true
  | .vw i p :: es, x :: xs => mPathR S i p.reverse x && notStar x && mO S es xs
  | e :: es, x :: xs => mE S e x && notStar x && mO S es xs
  | _, _ => false
/-- a loop's operands -/
def mL (S : Sc) : List Ex → List PySem.Expr → Bool
  | [], [] => true
  | .vw i p :: es, x :: xs => mPathR S i p.reverse x && notStar x && mL S es xs
  | e :: es, x :: xs => mE S e x && notStar x && mL S es xs
  | _, _ => false
end
end Vs
/-! V9: the context; operands and operations of the model's syntax. -/
namespace Vs
open PySem PySem.Spec L2
open PyProof.Rows hiding St

def pick {α : Type} : List Bool → List α → List α
  | true :: io, v :: vs => v :: pick io vs
  | false :: io, _ :: vs => pick io vs
  | _, _ => []
/-- a def's promise: it computes what dn says -/
def spD (G : Ga) (dn : Den) : Sp := fun vs H Q E => vs.length = dn.io.length ∧ ∃ ds O, Reps G H vs ds O ∧ O.Nodup ∧
  match dn.m ds with
  | .ok r outs => ∀ v H' T O', Rep G H' v r T → Reps G H' (pick dn.io vs) outs O' → (T ++ O').Nodup → Go O H (T ++ O') H' → Q v H'
  | .ex x outs => ∀ cls dd H' O', Reps G H' (pick dn.io vs) outs O' → O'.Nodup → Go O H O' H' → XR G H' cls dd x → E cls dd H'
  | .no => False
/-- as FnOk, where no repr runs -/
structure FnG (P : Program) (w : World) (K : PySem.W.Frag) (mg : Str → Option Value) (base : Heap) (k : Nat) (f : Addr) (fd : FuncData) (ps : List Str) (sp : Sp) : Prop where
  len : ∀ vs H Q E, sp vs H Q E → vs.length = ps.length
  run : ∀ (A : Around) (outer : List PySem.Env) (s : Shared) (H : Hp) (args : Args) (us : List Value) (vs : List V) (Q : VK) (E : XK), Room k A → A.guards = some [] → Env0 P w K mg base A outer s H →
    BindsTo s fd args (ps.zip us) → Vals vs us → sp vs H Q E → codeAny (model P w) A (.call (.ref f) args) (CR (L2.CX P w) outer P w H s Q E) s
/-- how calls may bind: how many by place, the names of the others, where each parameter's value stands -/
abbrev Pat := Nat × List Str × List Nat
/-- dn' is told some more values (defaults) behind dn's -/
structure ExtOk (G : Ga) (dn dn' : Den) (ev : List V) (eu : List Value) (ed : List D) : Prop where
  rv : Vals ev eu
  rp : ∀ H, Reps G H ev ed []
  io : dn'.io = dn.io ++ List.replicate ed.length false
  m : ∀ ds, ds.length = dn.io.length → dn'.m (ds ++ ed) = dn.m ds
theorem ExtOk.refl {G : Ga} {dn : Den} : ExtOk G dn dn [] [] [] := ⟨.nil, fun _ => .nil, by simp, fun ds _ => by rw [List.append_nil]⟩
theorem pick_no : ∀ (n : Nat) (vs : List V), pick (List.replicate n false) vs = []
  | 0, _ => by simp [pick]
  | n + 1, [] => by simp [List.replicate, pick]
  | n + 1, v :: vs => by simp only [List.replicate, pick]; exact pick_no n vs
theorem pick_app : ∀ {io : List Bool} {vs ev : List V} {n : Nat}, vs.length = io.length → pick (io ++ List.replicate n false) (vs ++ ev) = pick io vs
  | [], [], ev, n, _ => by simp only [List.nil_append]; rw [pick_no]; simp [pick]
  | b :: io, v :: vs, ev, n, h => by
    have h2 : vs.length = io.length := by simpa using h
    have e := pick_app (ev := ev) (n := n) h2
    cases b <;> simp only [List.cons_append, pick, e]
  | [], _ :: _, _, _, h => by simp at h
  | _ :: _, [], _, _, h => by simp at h
theorem reps_app {G : Ga} {H : Hp} : ∀ {xs ys : List V} {ds es : List D} {T U : List Addr}, Reps G H xs ds T → Reps G H ys es U → Reps G H (xs ++ ys) (ds ++ es) (T ++ U)
  | _, _, _, _, _, _, .nil, q => q
  | _, _, _, _, _, _, .cons h hs, q => by rw [List.append_assoc]; exact .cons h (reps_app hs q)
theorem ExtOk.sp {G : Ga} {dn dn' : Den} {ev : List V} {eu : List Value} {ed : List D} (x : ExtOk G dn dn' ev eu ed) {vs : List V} {H : Hp} {Q : VK} {E : XK} (h : spD G dn vs H Q E) : spD G dn' (vs ++ ev) H Q E := by
  obtain ⟨hl, ds, O, r, nd, hm⟩ := h
  have hd : ds.length = dn.io.length := by rw [← Reps.len r, hl]
  have le : ev.length = ed.length := Reps.len (x.rp H)
  refine ⟨by rw [x.io, List.length_append, List.length_append, hl, List.length_replicate, le], ds ++ ed, O ++ [], reps_app r (x.rp H), by simpa using nd, ?_⟩
  rw [x.m ds hd, x.io, pick_app hl, List.append_nil]
  exact hm
structure FnCl (G : Ga) (X : Cx) (f : Str) (dn : Den) (pats : List Pat) : Prop where
  to : ∃ (a : Addr) (fd : FuncData) (ps : List Str) (k : Nat) (dn' : Den) (ev : List V) (eu : List Value) (ed : List D), X.mg f = some (.ref a) ∧ PySem.W.keepIn X.K (.ref a) = true ∧ Room k X.A ∧ FnG X.prog X.w X.K X.mg X.base k a fd ps (spD G dn') ∧ ExtOk G dn dn' ev eu ed ∧
    ∀ n ks π, (n, ks, π) ∈ pats → ∀ (s : Shared) (us ws zs : List Value), X.K.In s.heap → us.length = n → ws.length = ks.length → perm π (us ++ ws) = some zs → BindsTo s fd ⟨us, ks.zip ws⟩ (ps.zip (zs ++ eu))
/-- what is asked of a class whose instances are caught -/
structure ExcH (K : PySem.W.Frag) (C : Addr) : Prop where
  xf : XfC K C
  xi : PySem.W.findIn K (.ref C) "__class__" = some (some (.builtin "object.__class__")) ∧ PySem.W.specialIn K (.builtin "object.__class__") "__get__" = some (some (.builtin "getset_descriptor.__get__")) ∧ PySem.W.takesIn K (.builtin "object.__class__") = some true ∧ PySem.W.mroIn K C (.type "object") = some true
/-- of an own class: whether the one's instances are the other's -/
structure ExcS (K : PySem.W.Frag) (mg : Str → Option Value) (C : Addr) (c : Str) (b : Bool) : Prop where
  to : ∃ C', mg c = some (.ref C') ∧ (c == ("__debug__" : Str)) = false ∧ PySem.W.exmOne K (.ref C) (.ref C') = some b ∧ PySem.W.kitOne K (.ref C) (.ref C') = some b
/-- a method of an own class -/
structure MeCl (G : Ga) (P : Program) (w : World) (K : PySem.W.Frag) (mg : Str → Option Value) (base : Heap) (k : Nat) (c m : Str) (dn : Den) : Prop where
  to : ∃ (C f : Addr) (fd : FuncData) (ps : List Str), G.cl c = some C ∧ L2.Cls K C ∧ L2.Meth K C m f ∧ FnG P w K mg base k f fd ps (spD G dn) ∧ ∀ (s : Shared) (us : List Value), K.In s.heap → us.length = dn.io.length → BindsTo s fd ⟨us, []⟩ (ps.zip us)
/-- how an own class makes its instances -/
structure InCl (G : Ga) (P : Program) (w : World) (K : PySem.W.Frag) (mg : Str → Option Value) (base : Heap) (k : Nat) (c : Str) (dn : Den) : Prop where
  to : ∃ (C f : Addr) (fd : FuncData) (ps : List Str), G.cl c = some C ∧ L2.Cls K C ∧ L2.Mk K C f ∧ mg c = some (.ref C) ∧ FnG P w K mg base k f fd ps (spD G dn) ∧ ∀ (s : Shared) (us : List Value), K.In s.heap → us.length = dn.io.length → BindsTo s fd ⟨us, []⟩ (ps.zip us)
structure Ctx (G : Ga) (Γ : Gam) (S : Sc) (X : Cx) : Prop where
  hG : G.K = X.K
  hw : G.w = X.w
  sc : X.env.scope = S.sc
  hN : X.N = S.N
  nd : S.N.Nodup
  calm : X.calm = true
  gd : X.A.guards = some []
  un : X.A.units + 65 < cLine
  con : ∀ x p, Γ.con x = some p → ∃ u v, X.mg x = some u ∧ RelV v u ∧ ∀ H, DpF X.K H v p
  fn : ∀ f dn, Γ.fn f = some dn → FnCl G X f dn (S.pats f)
  bl : ∀ x, S.bl.contains x = true → X.mg x = none
  xc : ∀ c fs, Γ.xc c = some fs → ∃ C k, G.cl c = some C ∧ 1 ≤ k ∧ Room k X.A ∧ ExcG X.prog X.K X.mg c C fs ∧ ExcH X.K C ∧ ∀ f ∈ fs, PySem.W.findIn X.K (.ref C) f = some none
  xs : ∀ c c' b, Γ.xs c c' = some b → ∃ C, G.cl c = some C ∧ ExcH X.K C ∧ ExcS X.K X.mg C c' b
  me : ∀ c m dn, Γ.me c m = some dn → ∃ k, Room k X.A ∧ MeCl G X.prog X.w X.K X.mg X.base k c m dn
  ini : ∀ c dn, Γ.ini c = some dn → ∃ k, Room (k + 1) X.A ∧ InCl G X.prog X.w X.K X.mg X.base k c dn
  fld : ∀ c x, Γ.fld c x = true → ∀ C, G.cl c = some C → L2.NoAttr X.K C x

/-! ### operands in the model's syntax -/
def tS1 (G : Ga) (W : WX) : Sop → TE
  | .e f => tE G W f
  | .v i => tVar i
  | .p i path => tPath i path
theorem tO_cons {G : Ga} {W : WX} (o : Sop) (r : List Sop) : tO G W (o :: r) = tCons (tS1 G W o) (tO G W r) := by cases o <;> rfl
theorem tS1_mono {G : Ga} {W : WX} {o : Sop} {σ : L2.St} {H : Hp} {Q Q' : VK} (h : tS1 G W o σ H Q) (imp : ∀ v H', Q v H' → Q' v H') : tS1 G W o σ H Q' := by
  cases o with
  | e f =>
    obtain ⟨ρ, O, a, b, c⟩ := h
    refine ⟨ρ, O, a, b, ?_⟩
    cases ef : f ρ with
    | no => rw [ef] at c; exact c
    | ex x ρ' => rw [ef] at c; exact c
    | ok p => rw [ef] at c; exact fun v H' z => imp _ _ (c v H' z)
  | v i =>
    obtain ⟨v, a, b⟩ := h
    exact ⟨v, a, imp _ _ b⟩
  | p i path =>
    obtain ⟨v, u, a, b, c⟩ := h
    exact ⟨v, u, a, b, imp _ _ c⟩
inductive POs (X : Cx) (G : Ga) (W : WX) : List PySem.Expr → List Sop → Prop
  | nil : POs X G W [] []
  | cons {x : PySem.Expr} {xs : List PySem.Expr} {o : Sop} {os : List Sop} : PE X x (tS1 G W o) → notStar x = true → POs X G W xs os → POs X G W (x :: xs) (o :: os)
theorem star1 {x : PySem.Expr} {xs : List PySem.Expr} {env : PySem.Env} (h : notStar x = true) : starEach (x :: xs) env = (false, eval x env) :: starEach xs env := by
  cases x <;> first | rfl | cases h
section
variable {X : Cx} {G : Ga} {W : WX} {S : Sc} {Γ : Gam}
theorem POs.pa : ∀ {xs : List PySem.Expr} {os : List Sop}, POs X G W xs os → PA X xs (tO G W os)
  | _, _, .nil => pa_nil
  | _, _, .cons h n hs => by rw [tO_cons]; exact pa_cons h (POs.pa hs) (star1 n)
theorem POs.app : ∀ {xs ys : List PySem.Expr} {os ps : List Sop}, POs X G W xs os → POs X G W ys ps → POs X G W (xs ++ ys) (os ++ ps)
  | _, _, _, _, .nil, q => q
  | _, _, _, _, .cons h n hs, q => .cons h n (POs.app hs q)
theorem POs.plain : ∀ {xs : List PySem.Expr} {os : List Sop} (pos : Pos) (env : PySem.Env), POs X G W xs os → (backTo pos (starEach xs env)).any (·.1) = false
  | _, _, _, _, .nil => rfl
  | _, _, pos, env, .cons (xs := xs) h n hs => by
    rw [star1 n]
    show (false || (backTo pos (starEach xs env)).any (·.1)) = false
    rw [POs.plain pos env hs]; rfl
theorem pImp {e : PySem.Expr} {t t' : TE} (h : PE X e t) (i : ∀ σ H Q, t' σ H Q → t σ H Q) : PE X e t' := ⟨fun pins s σ H Q I q => h.run pins s σ H Q I (i σ H Q q)⟩
theorem ptImp {e : PySem.Expr} {t t' : TT} (h : PT X e t) (i : ∀ σ H Q, t' σ H Q → t σ H Q) : PT X e t' := ⟨fun pins s σ H Q I q => h.run pins s σ H Q I (i σ H Q q)⟩
theorem Ctx.vis (C : Ctx G Γ S X) {i : Nat} {x : Str} {pos : Pos} (h : visB S i x = true) : PE X (.Name x pos) (tVar i) := by
  unfold visB plainB at h
  simp only [Bool.and_eq_true, decide_eq_true_eq, Bool.not_eq_true'] at h
  obtain ⟨⟨h1, ⟨h2, h3⟩, h4⟩, h5⟩ := h
  refine pe_var (by rw [C.hN]; exact h1) ?_ h2 h3
  unfold Vis
  rw [C.sc]
  split at h5
  · exact .inl (by assumption)
  · exact .inr (.inl (by assumption))
  · exact .inr (.inr (by assumption))
  · cases h5
theorem Ctx.gl (C : Ctx G Γ S X) {x : Str} (h : glB S x = true) : Gl X x ∧ (x == ("__debug__" : Str)) = false ∧ x ≠ "__name__" := by
  unfold glB plainB at h
  simp only [Bool.and_eq_true, decide_eq_true_eq, Bool.not_eq_true'] at h
  refine ⟨?_, h.1.1.1, h.1.2⟩
  unfold Gl Env.kindOf
  rw [C.sc]; exact h.2
theorem Ctx.blt (C : Ctx G Γ S X) {x : Str} (h : bltB S x = true) : Gl X x ∧ (x == ("__debug__" : Str)) = false ∧ x ≠ "__name__" ∧ X.mg x = none := by
  unfold bltB at h
  rw [Bool.and_eq_true] at h
  obtain ⟨a, b, c⟩ := C.gl h.1
  exact ⟨a, b, c, C.bl x h.2⟩
/-- x[k1][k2].. -/
theorem VAt.unsnoc {H : Hp} : ∀ {p : List PK} {v w : V} {k : PK}, VAt H v (p ++ [k]) w → ∃ u, VAt H v p u ∧ VAt H u [k] w
  | [], v, w, k, h => ⟨v, .nil, h⟩
  | q :: p, v, w, k, h => by
    cases h with
    | ix q1 q2 q3 =>
      obtain ⟨u, z1, z2⟩ := VAt.unsnoc q3
      exact ⟨u, .ix q1 q2 z1, z2⟩
    | key q1 q2 q3 =>
      obtain ⟨u, z1, z2⟩ := VAt.unsnoc q3
      exact ⟨u, .key q1 q2 z1, z2⟩
theorem mPath_pe (C : Ctx G Γ S X) {i : Nat} : ∀ (p : List PK) {e : PySem.Expr}, mPathR S i p e = true → PE X e (tPath i p.reverse)
  | [], .Name x pos, h => pImp (C.vis h) fun σ H Q ⟨v, u, a, b, c⟩ => by cases b; exact ⟨v, a, c⟩
  | .ix n :: p, .Subscript e (.Constant (.int k) j q) pos, h => by
    unfold mPathR at h
    rw [Bool.and_eq_true, decide_eq_true_eq] at h
    obtain ⟨rfl, h⟩ := h
    have ih := mPath_pe C p h
    refine pImp (pe_ix ix_list ih pe_int fun _ _ => rfl) fun σ H Q ⟨v, u, a, b, c⟩ => ?_
    rw [List.reverse_cons] at b
    obtain ⟨x, z1, z2⟩ := b.unsnoc
    cases z2 with
    | ix z2 z3 z4 =>
      cases z4
      exact ⟨v, _, a, z1, _, _, k, u, rfl, rfl, SqL.of z2, z3, c⟩
  | .key k :: p, .Subscript e (.Constant (.str x) j q) pos, h => by
    unfold mPathR at h
    rw [Bool.and_eq_true, decide_eq_true_eq] at h
    obtain ⟨rfl, h⟩ := h
    have ih := mPath_pe C p h
    have un := C.un
    refine pImp (pe_dget (by omega) ih pe_str fun _ _ => rfl) fun σ H Q ⟨v, u, a, b, c⟩ => ?_
    rw [List.reverse_cons] at b
    obtain ⟨y, z1, z2⟩ := b.unsnoc
    cases z2 with
    | key z2 z3 z4 =>
      cases z4
      exact ⟨v, _, a, z1, _, u, rfl, by rw [← z3]; exact DGet.k (k := .inr x) z2, c⟩
  | [], .Subscript _ _ _, h => by unfold mPathR at h; cases h
theorem mView_pe (C : Ctx G Γ S X) {i : Nat} {p : List PK} {e : PySem.Expr} (h : mPathR S i p.reverse e = true) : PE X e (tPath i p) := by
  have := mPath_pe C p.reverse h
  rw [List.reverse_reverse] at this
  exact this
theorem mView_var (C : Ctx G Γ S X) {i : Nat} {e : PySem.Expr} (h : mPathR S i [] e = true) : PE X e (tVar i) := by
  unfold mPathR at h
  split at h
  all_goals first | contradiction | exact C.vis h
/-! ### operations -/
theorem one_logic {o : List D → Option D} {p : Sop} {f : D → Option D} (ho : ∀ ds, o ds = un1 f ds) {σ : L2.St} {H : Hp} {Q : VK} (h : tE G W (opE o [p]) σ H Q) : tS1 G W p σ H fun x H1 => r1 G f [x] H1 Q := by
  have z := op_logic h
  rw [tO_cons] at z
  refine tS1_mono z fun x H1 ⟨ds, d, rv, e, n⟩ => ?_
  obtain ⟨y, T, rfl, ry⟩ := rv.one
  rw [ho] at e
  exact ⟨x, y, d, T, rfl, ry, e, n⟩
theorem two_logic {o : List D → Option D} {p q : Sop} {f : D → D → Option D} (ho : ∀ ds, o ds = bi2 f ds) {σ : L2.St} {H : Hp} {Q : VK} (h : tE G W (opE o [p, q]) σ H Q) : tOp (r2 G f) (tS1 G W p) (tS1 G W q) σ H Q := by
  have z := op_logic h
  rw [tO_cons, tO_cons] at z
  refine tS1_mono z fun x H1 z => ?_
  refine tS1_mono z fun y H2 ⟨ds, d, rv, e, n⟩ => ?_
  obtain ⟨a, b, T, T', rfl, ra, rb⟩ := rv.two
  rw [ho] at e
  exact ⟨a, b, d, T, T', ra, rb, e, n⟩
theorem un_neg' : UnR X (unaryOp .USub) (fun x H Q => r1 G oNeg [x] H Q) := fun pins s σ H x v Q I rx ⟨y, d, z, T, e, ry, ho, hn⟩ => by
  cases e
  unfold oNeg at ho
  split at ho
  · cases ho
    exact un_neg pins s σ H x v Q I rx ⟨_, ry.int_of, hn.int⟩
  · cases ho
theorem powOk_c {i j : Int} (h : powOk i j = true) : CPow i j := by
  unfold powOk small64b at h
  simp only [Bool.and_eq_true, decide_eq_true_eq] at h
  exact ⟨h.1.1, h.1.2, by omega⟩
theorem bin_ok (C : Ctx G Γ S X) {o : Op} {p : Operator} (h : binOf o = some p) : ∃ f, (∀ ds, opD o ds = bi2 f ds) ∧ OpR X (binaryOp p) (r2 G f) := by
  cases o <;> cases h
  · exact ⟨_, fun _ => rfl, v_add C.hG⟩
  · exact ⟨_, fun _ => rfl, v_int20 op_sub⟩
  · exact ⟨_, fun _ => rfl, v_mul C.hG⟩
  · exact ⟨_, fun _ => rfl, v_int2 op_fdiv fun i j h => by simp only [Bool.and_eq_true, decide_eq_true_eq] at h; exact h⟩
  · exact ⟨_, fun _ => rfl, v_int2 op_mod fun i j h => of_decide_eq_true h⟩
  · exact ⟨_, fun _ => rfl, v_int2 op_pow fun i j h => powOk_c h⟩
  · exact ⟨_, fun _ => rfl, v_int20 op_and⟩
  · exact ⟨_, fun _ => rfl, v_int20 op_or⟩
  · exact ⟨_, fun _ => rfl, v_int2 op_shl fun i j h => powOk_c h⟩
  · exact ⟨_, fun _ => rfl, v_int2 op_shr fun i j h => of_decide_eq_true h⟩
theorem cmp_ok (C : Ctx G Γ S X) {o : Op} {p : CmpOp} (h : cmpOf o = some p) : ∃ f, (∀ ds, opD o ds = bi2 f ds) ∧ OpR X (compareOp p) (r2 G f) := by
  have u := C.un
  cases o <;> cases h
  · exact ⟨_, fun _ => rfl, v_cmpI op_lt⟩
  · exact ⟨_, fun _ => rfl, v_le C.hG (by omega)⟩
  · exact ⟨_, fun _ => rfl, v_cmpI op_gt⟩
  · exact ⟨_, fun _ => rfl, v_cmpI op_ge⟩
  · exact ⟨_, fun _ => rfl, v_eq C.hG (by omega)⟩
  · exact ⟨_, fun _ => rfl, v_ne C.hG (by omega)⟩
  · exact ⟨_, fun _ => rfl, v_in C.hG C.hw u⟩
  · exact ⟨_, fun _ => rfl, v_notin C.hG C.hw u⟩
  · exact ⟨_, fun _ => rfl, v_is⟩
  · exact ⟨_, fun _ => rfl, v_isnot⟩
/-- the built-in functions of one argument -/
theorem f1_ok (C : Ctx G Γ S X) {o : Op} {x : Str} (h : f1Of o = some x) : ∃ f, (∀ ds, opD o ds = un1 f ds) ∧ ((∃ id, bootBuiltins x = some (.builtin id) ∧ CallR X (.builtin id) (r1 G f)) ∨ ∃ T, bootBuiltins x = some (.type T) ∧ CallR X (.type T) (r1 G f)) := by
  have u := C.un
  cases o <;> cases h
  · exact ⟨_, fun _ => rfl, .inl ⟨_, by decide +kernel, v_len C.hG C.hw⟩⟩
  · exact ⟨_, fun _ => rfl, .inl ⟨_, by decide +kernel, v_abs⟩⟩
  · exact ⟨_, fun _ => rfl, .inr ⟨_, by decide +kernel, v_int⟩⟩
  · exact ⟨_, fun _ => rfl, .inl ⟨_, by decide +kernel, v_repr C.hG C.gd (by omega)⟩⟩
  · exact ⟨_, fun _ => rfl, .inr ⟨_, by decide +kernel, v_list C.hG C.hw C.calm⟩⟩
  · exact ⟨_, fun _ => rfl, .inr ⟨_, by decide +kernel, v_tuple C.hG⟩⟩
  · exact ⟨_, fun _ => rfl, .inl ⟨_, by decide +kernel, v_sorted C.hG C.hw C.calm (by omega)⟩⟩
  · exact ⟨_, fun _ => rfl, .inl ⟨_, by decide +kernel, v_sum C.hG C.calm⟩⟩
  · exact ⟨_, fun _ => rfl, .inl ⟨_, by decide +kernel, v_all C.hG C.calm⟩⟩
  · exact ⟨_, fun _ => rfl, .inl ⟨_, by decide +kernel, v_any C.hG C.calm⟩⟩
  · exact ⟨_, fun _ => rfl, .inr ⟨_, by decide +kernel, v_str⟩⟩
  · exact ⟨_, fun _ => rfl, .inr ⟨_, by decide +kernel, v_dct C.hG C.hw C.calm (by omega)⟩⟩
theorem nobeh {op : CmpOp} {b : PySem.Expr} (h : notSet b = true) : behindInMarks op b = false := by
  cases b <;> first | rfl | cases h
theorem ty_boot (t : Ty) : bootBuiltins (Str.ofString t.nm) = some (.type t.nm) := by cases t <;> decide +kernel
end
end Vs
/-! VR: x[::-1] of a tuple. -/
namespace Vs
open PySem PySem.Spec L2
open PyProof.Rows hiding St
theorem adj_rev (n : Nat) : Builtin.Slice.sliceAdjust none none (-1) (n : Int) = ((n : Int) - 1, -1) := by
  unfold Builtin.Slice.sliceAdjust
  simp
theorem places_rev (n : Nat) : Builtin.Slice.slicePlaces ((n : Int) - 1) (-1) (-1) = n := by
  unfold Builtin.Slice.slicePlaces
  simp
  omega
theorem fmap_congr {α β : Type} {f g : α → Option β} : ∀ {l : List α}, (∀ a ∈ l, f a = g a) → l.filterMap f = l.filterMap g
  | [], _ => rfl
  | a :: l, h => by
    rw [List.filterMap_cons, List.filterMap_cons, h a List.mem_cons_self, fmap_congr fun b hb => h b (List.mem_cons_of_mem _ hb)]
theorem pick_rev (xs : Array Value) : ((List.range xs.size).filterMap fun (k : Nat) => xs[((xs.size : Int) - 1 + (k : Int) * -1).toNat]?).toArray = xs.toList.reverse.toArray := by
  have h := PySem.W.krv_all xs
  have e : ((List.range xs.size).filterMap fun (k : Nat) => xs[((xs.size : Int) - 1 + (k : Int) * -1).toNat]?) = ((List.range xs.size).map fun k => xs.size - 1 - k).filterMap (xs[·]?) := by
    rw [List.filterMap_map]
    refine fmap_congr fun k hk => ?_
    have h1 := List.mem_range.mp hk
    have h2 : ((xs.size : Int) - 1 + (k : Int) * -1).toNat = xs.size - 1 - k := by omega
    rw [h2]
    rfl
  rw [e, PySem.W.krv_range, List.filterMap_reverse, h]
section
variable {prog : Program} {w : World} {A : Around} {E : Value → Shared → Prop} {s : Shared}
theorem applied_rev {sl : Addr} {vs : Value} {n : Nat} {Q : Int × Int × Nat → Shared → Prop} (hs : s.heap.IsSliceOf sl .none .none vs) (ps : IsPart vs (some (-1)))
    (h : Q ((n : Int) - 1, -1, n) s) : wpAny (model prog w) A (Builtin.Slice.sliceApplied (.ref sl) (pure (n : Int))) Q E s := by
  obtain ⟨os, hos, hcs, hds⟩ := id hs
  unfold Builtin.Slice.sliceApplied Builtin.Slice.sliceFields
  refine wpAny_bind (wpAny_bind (wpAny_field hos hds (x := .none) rfl (wpAny_bind (wpAny_field hos hds (x := .none) rfl (wpAny_bind (wpAny_field hos hds (x := vs) rfl (wpAny_pure ?_)))))))
  refine wpAny_bind (HT.slicePart_ ps ?_)
  show wpAny _ _ (if ((-1 : Int) == 0) = true then _ else _) _ _ s
  rw [if_neg (by decide)]
  refine wpAny_bind (HT.slicePart_ .none (wpAny_bind (HT.slicePart_ .none (wpAny_bind (wpAny_pure ?_)))))
  show wpAny _ _ (match Builtin.Slice.sliceAdjust none none (-1) (n : Int) with | (lo, hi) => pure (lo, (-1 : Int), Builtin.Slice.slicePlaces lo hi (-1))) _ _ s
  rw [adj_rev n]
  show wpAny _ _ (pure ((n : Int) - 1, (-1 : Int), Builtin.Slice.slicePlaces ((n : Int) - 1) (-1) (-1))) _ _ s
  rw [places_rev]
  exact wpAny_pure h
theorem item_rev {t sl : Addr} {items : Array Value} {vs : Value} {Q : Value → Shared → Prop} (ht : IsTup s.heap t items) (hs : s.heap.IsSliceOf sl .none .none vs) (ps : IsPart vs (some (-1)))
    (h : Q (.ref s.heap.objs.size) { s with heap := s.heap.push { cls := .type "tuple", data := .seq items.toList.reverse.toArray } })
    (hsz : items.size ≤ sizeLine) : wpAny (model prog w) A (getItem (.ref t) (.ref sl)) Q E s := by
  have ok : sizeOk (.seq items.toList.reverse.toArray) := by
    show items.toList.reverse.toArray.size ≤ sizeLine
    rw [List.size_toArray, List.length_reverse, Array.length_toList]
    exact hsz
  obtain ⟨os, hos, hcs, hds⟩ := id hs
  have hT : s.TypeIs (.ref sl) "slice" := ⟨os, hos, hcs⟩
  unfold getItem
  try with_reducible refine wpAny_holding ?_
  first | refine wpAny_bind (wpAny_pure ?_) | skip
  refine wpAny_bind (wpAny_sequenceKey ht.typeIs (by decide) ?_)
  refine wpAny_bind (wpAny_callSpecial?_slot (name := Str.ofString "__getitem__") ht.typeIs PyProof.Rows.slot_tuple_getitem (wpAny_call_entry PyProof.Rows.slot_tuple_getitem ht.typeIs PyProof.Rows.entry_tuple_getitem ?_ (PyProof.Rows.args_tuple_getitem _ _)))
  show wpAny _ _ (Builtin.Tuple.tupleItemsOf (.ref t) >>= _) _ _ s
  refine wpAny_bind (tupleItemsOf_ ht ?_)
  refine wpAny_bind (wpAny_typeOf hT ?_)
  rw [if_pos (by decide)]
  refine wpAny_bind (applied_rev hs ps ?_)
  show wpAny _ _ (if (((items.size : Int) - 1) == 0 && (-1 : Int) == 1 && items.size == items.size) = true then _ else _) _ _ s
  rw [if_neg (by
    intro q
    rw [Bool.and_eq_true, Bool.and_eq_true] at q
    exact absurd q.1.2 (by decide)), pick_rev]
  first
    | exact wpAny_bind (m := Builtin.Tuple.tupleExact _) (wpAny_newObj_type (wpAny_pure ⟨_, rfl, wpAny_pure h⟩) ok)
    | exact wpAny_bind (m := Builtin.Tuple.tupleExact _) (wpAny_newObj_type (wpAny_bind (wpAny_pure (wpAny_pure ⟨_, rfl, wpAny_pure h⟩))) ok)
    | exact wpAny_bind (wpAny_bind (m := Builtin.Tuple.tupleExact _) (wpAny_newObj_type (wpAny_pure (wpAny_pure ⟨_, rfl, wpAny_pure h⟩)) ok))
    | exact wpAny_bind (wpAny_bind (m := Builtin.Tuple.tupleExact _) (wpAny_newObj_type (wpAny_pure ⟨_, rfl, wpAny_pure h⟩) ok))
end
section
variable {X : Cx} {G : Ga}
def tRev (K : PySem.W.Frag) (te : TE) : TE := fun σ H Q => te σ H fun x H1 => ∃ a xs, x = .ref a ∧ ((SqL K H1 a xs ∧ ∀ p, H1 p = none → Q (.ref p) (upd H1 p (.lst xs.reverse))) ∨ (SqT K H1 a xs ∧ NewT H1 xs.reverse Q))
/-- x[::-1], a list or a tuple -/
theorem pe_rev {e : PySem.Expr} {te : TE} {k : Nat} {p1 p2 p3 pos : Pos} (he : PE X e te) : PE X (.Subscript e (.Slice none none (some (.UnaryOp .USub (.Constant (.int 1) k p1) p2)) p3) pos) (tRev X.K te) := by
  refine ⟨fun pins s σ H Q I h => ?_⟩
  refine Subscript_ (thn (he.run pins s σ H _ I h) fun v s1 ⟨x, H1, I1, r1, a, xs, ex, q⟩ => ?_)
  subst ex
  cases r1
  have step : PO X (some (.UnaryOp .USub (.Constant (.int 1) k p1) p2)) (tPart (tUn (rU fun i => .int (-i)) (tC (.int 1)))) := po_some (pe_un un_neg pe_int)
  refine wpAny_Slice (thn (po_none.run pins s1 σ H1 (fun o H2 => o = none ∧ H2 = H1) I1 ⟨rfl, rfl⟩) fun vl s2 ⟨l, H2, I2, pl, el, e2⟩ => ?_)
  cases el
  cases e2
  refine thn (po_none.run pins s2 σ H1 (fun o H3 => o = none ∧ H3 = H1) I2 ⟨rfl, rfl⟩) fun vu s3 ⟨u, H3, I3, pu, eu, e3⟩ => ?_
  cases eu
  cases e3
  refine thn (step.run pins s3 σ H1 (fun o H4 => o = some (-1) ∧ H4 = H1) I3 ⟨1, rfl, -1, rfl, rfl, rfl⟩) fun vs s4 ⟨o, H4, I4, ps, eo, e4⟩ => ?_
  cases eo
  cases e4
  cases pl
  cases pu
  have J : Inv X pins σ H1 { s4 with heap := s4.heap.push { cls := .type "slice", data := .fields #[.none, .none, vs] } } := I4.kept (t' := s4.toks) fun b ob z => Heap.get?_push_of_some _ z
  have sl := Heap.IsSliceOf.new s4.heap .none .none vs
  show wpAny (model X.prog X.w) X.A (subscriptTail e (.Slice none none (some (.UnaryOp .USub (.Constant (.int 1) k p1) p2)) p3) (.ref a) (.ref s4.heap.objs.size)) (EP X pins σ Q) X.xe { s4 with heap := s4.heap.push { cls := .type "slice", data := .fields #[.none, .none, vs] } }
  rcases q with ⟨hx, q⟩ | ⟨hx, q⟩
  · obtain ⟨its, r, ht, hz⟩ := J.list hx
    have hl := r.length
    refine tail_any (ops := [.ref a, .ref s4.heap.objs.size]) ht.isList.typeIs PySem.slot_list_getitem.lookup ?_ (by with_unfolding_all rfl)
    refine wpAny_getItem_list_slice ht.isList sl .none .none ps (by decide) ?_ (by rw [List.size_toArray]; omega)
    rw [PySem.W.krv_pick]
    exact ⟨.ref _, _, J.laid (t' := s4.toks) (o := .lst xs.reverse) (fun b ob z => Heap.get?_push_of_some _ z) (Nat.le_refl _) ⟨by rw [List.length_reverse]; exact hz, _, 0, r.reverse, Heap.get?_push_size _ rfl⟩, rfl, q _ (J.hok.fresh (Nat.le_refl _))⟩
  · obtain ⟨its, r, ht, hz⟩ := J.tuple hx
    have hl := r.length
    refine tail_any (ops := [.ref a, .ref s4.heap.objs.size]) ht.typeIs PyProof.Rows.slot_tuple_getitem.lookup ?_ (by with_unfolding_all rfl)
    refine item_rev ht sl ps ?_ (by rw [List.size_toArray]; omega)
    exact laidT (t := s4.toks) J r.reverse (by rw [List.length_reverse]; exact hz) q
end
end Vs
/-! V10: operations, displays, tests: from the model's syntax to what the evaluator says. -/
namespace Vs
open PySem PySem.Spec L2
open PyProof.Rows hiding St
section
variable {X : Cx} {G : Ga} {W : WX} {S : Sc} {Γ : Gam}
theorem notSlice_ix {b : PySem.Expr} (h : notSlice b = true) : PlainIx b := by
  cases b <;> first | (intro o i; rfl) | cases h
theorem wrap1 {o : Op} {p : Sop} (h : o ≠ .slLH) : wrapO o [p] = [p] := by cases o <;> first | rfl | exact absurd rfl h
theorem wrap2 {o : Op} {p q : Sop} (h : o ≠ .slLH) : wrapO o [p, q] = [p, q] := by cases o <;> first | rfl | exact absurd rfl h
theorem pe_false {e : PySem.Expr} {f : EF} (h : ∀ ρ, f ρ = .no) : PE X e (tE G W f) := ⟨fun pins s σ H Q I ⟨ρ, O, _, _, z⟩ => by rw [h ρ] at z; exact z.elim⟩
theorem intE_logic {f : EF} {σ : L2.St} {H : Hp} {Q : VK} (h : tE G W (intE f) σ H Q) : tE G W f σ H fun x H1 => ∃ i, x = .int i ∧ Q x H1 := by
  obtain ⟨ρ, O, a, b, h⟩ := h
  refine ⟨ρ, O, a, b, ?_⟩
  unfold intE at h
  cases ef : f ρ with
  | no => rw [ef] at h; exact h
  | ex x ρ' => rw [ef] at h; exact h
  | ok q =>
    obtain ⟨d, ρ'⟩ := q
    rw [ef] at h
    simp only [Res.bind] at h
    split at h
    · rename_i e
      split at e
      · rename_i i
        cases e
        intro v H' ⟨O', T, k1, k2, k3, k4⟩
        exact ⟨i, k2.int_of, h v H' ⟨O', T, k1, k2, k3, k4⟩⟩
      · cases e
    · rename_i e; split at e <;> cases e
    · exact h.elim
theorem isRev_is {o : Op} (h : isRev o = true) : o = .rev := by cases o <;> first | rfl | (simp [isRev] at h)
theorem DpFs.revs : ∀ {vs : List V} {l : List PyData}, DpFs G.K H vs l → DpFs G.K H vs.reverse l.reverse := fun h => h.rev
theorem rev_ok (C : Ctx G Γ S X) {a : PySem.Expr} {op : Sop} {k : Nat} {p1 p2 p3 pos : Pos} (ha : PE X a (tS1 G W op)) : PE X (.Subscript a (.Slice none none (some (.UnaryOp .USub (.Constant (.int 1) k p1) p2)) p3) pos) (tE G W (opE (opD .rev) (wrapO .rev [op]))) := by
  refine pImp (pe_rev ha) fun σ H Q z => ?_
  refine tS1_mono (one_logic (f := oRev) (fun _ => rfl) z) fun x H1 ⟨y, d, w, T, e, ry, ho, hn⟩ => ?_
  cases e
  unfold oRev at ho
  split at ho
  · rename_i l el
    cases ho
    obtain ⟨b, xs, rfl, sq, m⟩ := ry.seq el
    exact ⟨b, xs, rfl, .inl ⟨C.hG ▸ sq, fun q hq => hn.lst m.rev hq⟩⟩
  · rename_i l el
    cases ho
    obtain ⟨b, xs, rfl, sq, m⟩ := ry.seq el
    exact ⟨b, xs, rfl, .inr ⟨C.hG ▸ sq, fun q o hq ho => hn.tup m.rev hq ho⟩⟩
  · cases ho
theorem isRg0 {o : Op} (h : isRg 0 o = true) : o = .lrng := by cases o <;> first | rfl | (simp [isRg] at h)
theorem isRg1 {o : Op} (h : isRg 1 o = true) : o = .trng := by cases o <;> first | rfl | (simp [isRg] at h)
theorem isRg2 {o : Op} (h : isRg 2 o = true) : o = .lrng2 := by cases o <;> first | rfl | (simp [isRg] at h)
theorem isRg3 {o : Op} (h : isRg 3 o = true) : o = .trng2 := by cases o <;> first | rfl | (simp [isRg] at h)
theorem rg_rel {a b : Int} : DpFs G.K H (rgV a b) (rgL a b) := by
  unfold rgV rgL
  generalize List.range (b - a).toNat = l
  induction l with
  | nil => exact .nil
  | cons k l ih => exact .cons (.int _) ih
theorem rgOk_is {a b : Int} (h : rgOk a b = true) : RgOk a b := by
  unfold rgOk at h
  simp only [Bool.and_eq_true, decide_eq_true_eq] at h
  exact ⟨by omega, by omega, by omega, by omega, by omega⟩
theorem rg_ok (C : Ctx G Γ S X) {o : Op} {f : Str} {a : PySem.Expr} {xs : List PySem.Expr} {ops : List Sop} {p pos : Pos} (h : rgArgs S o f a = some xs) (ps : POs X G W xs ops) : PE X (.Call (.Name f p) [a] [] pos) (tE G W (opE (opD o) (wrapO o ops))) := by
  unfold rgArgs at h
  split at h
  · split at h
    · rename_i hc
      cases h
      simp only [Bool.and_eq_true, Bool.or_eq_true, decide_eq_true_eq] at hc
      obtain ⟨⟨rfl, hr⟩, hc⟩ := hc
      obtain ⟨r1, r2, r3, r4⟩ := C.blt hr
      cases ps with
      | cons pa na ps =>
      cases ps
      rcases hc with ⟨⟨rfl, hf⟩, ho⟩ | ⟨⟨rfl, hf⟩, ho⟩
      · obtain ⟨g1, g2, g3, g4⟩ := C.blt hf
        cases isRg0 ho
        refine pImp (pe_listRg C.calm g1 g4 (prg_1 r1 r4 pa (star1 na)) (star1 rfl)) fun σ H Q z => ?_
        refine tS1_mono (one_logic (f := oRg1 DL) (fun _ => rfl) z) fun x H1 ⟨y, d, w, T, e, ry, ho, hn⟩ => ?_
        cases e
        unfold oRg1 at ho
        split at ho
        · obtain ⟨k1, rfl⟩ := guardO_some ho
          exact ⟨_, ry.int_of, rgOk_is k1, fun q hq => hn.lst rg_rel hq⟩
        · cases ho
      · obtain ⟨g1, g2, g3, g4⟩ := C.blt hf
        cases isRg1 ho
        refine pImp (pe_tupRgN C.calm g1 g4 (prg_1 r1 r4 pa (star1 na)) (star1 rfl)) fun σ H Q z => ?_
        refine tS1_mono (one_logic (f := oRg1 DT) (fun _ => rfl) z) fun x H1 ⟨y, d, w, T, e, ry, ho, hn⟩ => ?_
        cases e
        unfold oRg1 at ho
        split at ho
        · obtain ⟨k1, rfl⟩ := guardO_some ho
          exact ⟨_, ry.int_of, rgOk_is k1, fun q o hq ho => hn.tup rg_rel hq ho⟩
        · cases ho
    · cases h
  · split at h
    · rename_i hc
      cases h
      simp only [Bool.and_eq_true, Bool.or_eq_true, decide_eq_true_eq] at hc
      obtain ⟨⟨rfl, hr⟩, hc⟩ := hc
      obtain ⟨r1, r2, r3, r4⟩ := C.blt hr
      cases ps with
      | cons pa na ps =>
      cases ps with
      | cons pb nb ps =>
      cases ps
      rcases hc with ⟨⟨rfl, hf⟩, ho⟩ | ⟨⟨rfl, hf⟩, ho⟩
      · obtain ⟨g1, g2, g3, g4⟩ := C.blt hf
        cases isRg2 ho
        refine pImp (pe_listRg C.calm g1 g4 (prg_2 r1 r4 pa pb (star1 na) (star1 nb) (POs.plain _ _ (.cons pb nb .nil))) (star1 rfl)) fun σ H Q z => ?_
        refine tS1_mono (two_logic (f := oRg2 DL) (fun _ => rfl) z) fun x H1 z => tS1_mono z fun x2 H2 ⟨y, y2, d, T, T2, ry, ry2, ho, hn⟩ => ?_
        unfold oRg2 at ho
        split at ho
        · obtain ⟨k1, rfl⟩ := guardO_some ho
          exact ⟨_, _, ry.int_of, ry2.int_of, rgOk_is k1, fun q hq => hn.lst rg_rel hq⟩
        · cases ho
      · obtain ⟨g1, g2, g3, g4⟩ := C.blt hf
        cases isRg3 ho
        refine pImp (pe_tupRgN C.calm g1 g4 (prg_2 r1 r4 pa pb (star1 na) (star1 nb) (POs.plain _ _ (.cons pb nb .nil))) (star1 rfl)) fun σ H Q z => ?_
        refine tS1_mono (two_logic (f := oRg2 DT) (fun _ => rfl) z) fun x H1 z => tS1_mono z fun x2 H2 ⟨y, y2, d, T, T2, ry, ry2, ho, hn⟩ => ?_
        unfold oRg2 at ho
        split at ho
        · obtain ⟨k1, rfl⟩ := guardO_some ho
          exact ⟨_, _, ry.int_of, ry2.int_of, rgOk_is k1, fun q o hq ho => hn.tup rg_rel hq ho⟩
        · cases ho
    · cases h
  · cases h
theorem op_ok (C : Ctx G Γ S X) {o : Op} {e : PySem.Expr} {xs : List PySem.Expr} {ops : List Sop} (h : opArgs S o e = some xs) (ps : POs X G W xs ops) : PE X e (tE G W (opE (opD o) (wrapO o ops))) := by
  unfold opArgs at h
  split at h
  · split at h
    · cases h
      obtain ⟨f, hf, hr⟩ := bin_ok C (by assumption)
      cases ps with | cons ha na ps => cases ps with | cons hb nb ps => cases ps; exact pImp (pe_op hr ha hb) fun σ H Q z => two_logic hf (by rw [wrap2 (by intro z; subst z; simp_all [binOf, cmpOf, f1Of])] at z; exact z)
    · cases h
  · split at h
    · cases h
      rename_i hc
      rw [Bool.and_eq_true, decide_eq_true_eq] at hc
      obtain ⟨f, hf, hr⟩ := cmp_ok C hc.1
      cases ps with | cons ha na ps => cases ps with | cons hb nb ps => cases ps; exact pImp (pe_cmpR hr ha hb (nobeh hc.2)) fun σ H Q z => two_logic hf (by rw [wrap2 (by intro z; subst z; simp_all [binOf, cmpOf, f1Of])] at z; exact z)
    · cases h
  · split at h
    · cases h
      cases ps with | cons ha na ps => cases ps; exact pImp (pe_un un_neg' ha) fun σ H Q z => one_logic (fun _ => rfl) z
    · cases h
  · split at h
    · cases h
      cases ps with | cons ha na ps => cases ps; exact pImp (pe_slice (v_sl C.hG) ha po_none po_none) fun σ H Q z => tS1_mono (one_logic (f := oSl none none) (fun _ => rfl) z) fun x H1 ⟨y, d, w, T, e, ry, ho, hn⟩ => by cases e; exact ⟨d, w, T, ry, ho, hn⟩
    · cases h
  · split at h
    · rename_i hc
      cases h
      rw [Bool.and_eq_true, decide_eq_true_eq] at hc
      obtain ⟨rfl, ho⟩ := hc
      cases isRev_is ho
      cases ps with | cons ha na ps => cases ps; exact rev_ok C ha
    · cases h
  · split at h
    · cases h
      cases ps with
      | cons ha na ps =>
        cases ps with
        | cons hb nb ps =>
          cases ps
          refine pImp (pe_slice (v_sl C.hG) ha (po_some hb) po_none) fun σ H Q z => ?_
          have z := op_logic z
          rw [wrap2 (by intro z; cases z)] at z
          rw [tO_cons, tO_cons] at z
          refine tS1_mono z fun x H1 z => tS1_mono z fun y H2 ⟨ds, d, rv, ho, hn⟩ => ?_
          obtain ⟨a, b, T, T', rfl, ra, rb⟩ := rv.two
          unfold opD bi2 at ho
          simp only at ho
          split at ho
          · exact ⟨_, rb.int_of, a, d, T, ra, ho, hn⟩
          · cases ho
    · cases h
  · split at h
    · cases h
      cases ps with
      | cons ha na ps =>
        cases ps with
        | cons hb nb ps =>
          cases ps
          refine pImp (pe_slice (v_sl C.hG) ha po_none (po_some hb)) fun σ H Q z => ?_
          have z := op_logic z
          rw [wrap2 (by intro z; cases z)] at z
          rw [tO_cons, tO_cons] at z
          refine tS1_mono z fun x H1 z => tS1_mono z fun y H2 ⟨ds, d, rv, ho, hn⟩ => ?_
          obtain ⟨a, b, T, T', rfl, ra, rb⟩ := rv.two
          unfold opD bi2 at ho
          simp only at ho
          split at ho
          · exact ⟨_, rb.int_of, a, d, T, ra, ho, hn⟩
          · cases ho
    · cases h
  · split at h
    · cases h
      cases ps with
      | cons ha na ps =>
        cases ps with
        | cons hb nb ps =>
          cases ps with
          | cons hc nc ps =>
            cases ps
            rename_i p q r
            cases q with
            | v i => exact pe_false fun ρ => rfl
            | p i path => exact pe_false fun ρ => rfl
            | e f =>
              cases r with
              | v i => exact pe_false fun ρ => rfl
              | p i path => exact pe_false fun ρ => rfl
              | e g =>
                refine pImp (pe_slice (v_sl C.hG) ha (po_some hb) (po_some hc)) fun σ H Q z => ?_
                have z := op_logic z
                unfold wrapO at z
                simp only at z
                rw [tO_cons, tO_cons, tO_cons] at z
                refine tS1_mono z fun x H1 z => ?_
                refine tS1_mono (o := .e f) (intE_logic z) fun y H2 ⟨i, e1, z⟩ => ⟨i, e1, ?_⟩
                refine tS1_mono (o := .e g) (intE_logic z) fun y' H3 ⟨j, e2, ds, d, rv, ho, hn⟩ => ⟨j, e2, ?_⟩
                subst e1 e2
                cases rv with
                | cons ra rv =>
                  cases rv with
                  | cons rb rv =>
                    cases rv with
                    | cons rc rv =>
                      cases rv
                      unfold opD at ho
                      simp only at ho
                      split at ho
                      · rename_i e
                        cases e
                        have k1 := rb.int_of
                        have k2 := rc.int_of
                        cases k1; cases k2
                        exact ⟨_, d, _, ra, ho, hn⟩
                      · cases ho
    · cases h
  · split at h
    · split at h
      · cases h
        cases ps with | cons ha na ps => cases ps with | cons hb nb ps => cases ps; exact pImp (pe_ix (v_ix C.hG C.hw C.un) ha hb (notSlice_ix (by assumption))) fun σ H Q z => two_logic (fun _ => rfl) z
      · cases h
    · cases h
  · split at h
    · cases h
      rename_i hc
      rw [Bool.and_eq_true, decide_eq_true_eq] at hc
      obtain ⟨g1, g2, g3, g4⟩ := C.blt hc.2
      cases ps with
      | cons ha na ps =>
        cases ps
        obtain ⟨f, hf, hr⟩ := f1_ok C hc.1
        have hp : PA X [_] (tO G W [_]) := POs.pa (.cons ha na .nil)
        rcases hr with ⟨id, hb, hr⟩ | ⟨T, hb, hr⟩
        · refine pImp (pe_callB hr g1 g4 hb hp g3 g2 (star1 na) (by rfl)) fun σ H Q z => ?_
          rw [wrap1 (by intro z; subst z; simp_all [f1Of])] at z
          have z := one_logic hf z
          rw [tO_cons]
          exact z
        · refine pImp (pe_callTy hr g1 g4 hb hp g3 g2 (star1 na) (by rfl)) fun σ H Q z => ?_
          rw [wrap1 (by intro z; subst z; simp_all [f1Of])] at z
          have z := one_logic hf z
          rw [tO_cons]
          exact z
    · exact rg_ok C h ps
  · split at h
    · split at h
      · cases h
        rename_i t _ ty hc
        simp only [Bool.and_eq_true, decide_eq_true_eq] at hc
        obtain ⟨⟨⟨rfl, c2⟩, c3⟩, c4⟩ := hc
        obtain ⟨g1, g2, g3, g4⟩ := C.blt c2
        obtain ⟨k1, k2, k3, k4⟩ := C.blt c3
        subst c4
        cases ps with
        | cons ha na ps =>
          cases ps
          refine pImp (pe_callB (v_isi C.hG ty) g1 g4 (by decide +kernel) (pa_cons ha (pa_cons (pe_bltn (v := .ty ty.nm) k1 k4 (ty_boot ty) rfl k3 k2) pa_nil (star1 rfl)) (star1 na)) g3 g2 (star1 na) (by rfl)) fun σ H Q z => ?_
          refine tS1_mono (one_logic (f := oIsi ty) (fun _ => rfl) z) fun x H1 ⟨y, d, w, T, e, ry, ho, hn⟩ => ?_
          cases e
          exact ⟨x, d, w, T, rfl, ry, ho, hn⟩
      · cases h
    · cases h
  · cases h
end
end Vs
/-! V11: displays, and, or, not, tests. -/
namespace Vs
open PySem PySem.Spec L2
open PyProof.Rows hiding St
/-- what is to follow an evaluation's outcome -/
def Cont (G : Ga) (W : WX) (O : List Addr) (σ : L2.St) (H : Hp) (r : Res (D × Env)) (Q : VK) : Prop := match r with
  | .ok (d, ρ') => ∀ v H', EvR G O σ H ρ' d v H' → Q v H'
  | .ex x ρ' => ∀ cls dd H', ExR G O H ρ' x cls dd σ H' → W cls dd σ H'
  | .no => False
def TsR (G : Ga) (O : List Addr) (σ : L2.St) (H : Hp) (ρ' : Env) (H' : Hp) : Prop := ∃ O', RepE G H' σ ρ' O' ∧ O'.Nodup ∧ Go O H O' H'
def ContT (G : Ga) (W : WX) (O : List Addr) (σ : L2.St) (H : Hp) (r : Res (Bool × Env)) (Q : Bool → Hp → Prop) : Prop := match r with
  | .ok (b, ρ') => ∀ H', TsR G O σ H ρ' H' → Q b H'
  | .ex x ρ' => ∀ cls dd H', ExR G O H ρ' x cls dd σ H' → W cls dd σ H'
  | .no => False
def tT (G : Ga) (W : WX) (f : TF) : TT := fun σ H Q => ∃ ρ O, RepE G H σ ρ O ∧ O.Nodup ∧ ContT G W O σ H (f ρ) Q
section
variable {X : Cx} {G : Ga} {W : WX} {S : Sc} {Γ : Gam} {σ : L2.St} {H : Hp}
theorem tE_iff {f : EF} {Q : VK} : tE G W f σ H Q ↔ ∃ ρ O, RepE G H σ ρ O ∧ O.Nodup ∧ Cont G W O σ H (f ρ) Q := Iff.rfl
theorem ExR.more {O S1 : List Addr} {H1 H' : Hp} {ρ : Env} {x : Exc} {cls : Value} {dd : Option Addr} (go : Go O H S1 H1) (h : ExR G S1 H1 ρ x cls dd σ H') : ExR G O H ρ x cls dd σ H' := by
  obtain ⟨O', a, b, c, e⟩ := h
  exact ⟨O', a, b, go.trans c, e⟩
theorem EvR.more {O S1 : List Addr} {H1 H' : Hp} {ρ : Env} {d : D} {v : V} (go : Go O H S1 H1) (h : EvR G S1 σ H1 ρ d v H') : EvR G O σ H ρ d v H' := by
  obtain ⟨O', T, a, b, c, e⟩ := h
  exact ⟨O', T, a, b, c, go.trans e⟩
theorem TsR.more {O S1 : List Addr} {H1 H' : Hp} {ρ : Env} (go : Go O H S1 H1) (h : TsR G S1 σ H1 ρ H') : TsR G O σ H ρ H' := by
  obtain ⟨O', a, b, e⟩ := h
  exact ⟨O', a, b, go.trans e⟩
theorem Cont.more {O S1 : List Addr} {H1 : Hp} {r : Res (D × Env)} {Q : VK} (go : Go O H S1 H1) (h : Cont G W O σ H r Q) : Cont G W S1 σ H1 r Q := by
  cases r with
  | no => exact h
  | ex x ρ' => exact fun cls dd H' z => h cls dd H' (z.more go)
  | ok p => obtain ⟨d, ρ'⟩ := p; exact fun v H' z => h v H' (z.more go)
theorem ContT.more {O S1 : List Addr} {H1 : Hp} {r : Res (Bool × Env)} {Q : Bool → Hp → Prop} (go : Go O H S1 H1) (h : ContT G W O σ H r Q) : ContT G W S1 σ H1 r Q := by
  cases r with
  | no => exact h
  | ex x ρ' => exact fun cls dd H' z => h cls dd H' (z.more go)
  | ok p => obtain ⟨d, ρ'⟩ := p; exact fun H' z => h H' (z.more go)
/-- one evaluation ahead of another -/
theorem bindE {f : EF} {g : D × Env → Res (D × Env)} {Q : VK} (h : tE G W (fun ρ => (f ρ).bind g) σ H Q) :
    tE G W f σ H fun v H1 => ∃ ρ1 d O1 T, RepE G H1 σ ρ1 O1 ∧ Rep G H1 v d T ∧ (T ++ O1).Nodup ∧ Cont G W (T ++ O1) σ H1 (g (d, ρ1)) Q := by
  obtain ⟨ρ, O, a, b, h⟩ := tE_iff.mp h
  refine tE_iff.mpr ⟨ρ, O, a, b, ?_⟩
  cases ef : f ρ with
  | no => rw [ef] at h; exact h
  | ex x ρ' => rw [ef] at h; exact h
  | ok p =>
    obtain ⟨d, ρ1⟩ := p
    rw [ef] at h
    intro v H1 ⟨O1, T, rE, rv, nd, go⟩
    exact ⟨ρ1, d, O1, T, rE, rv, nd, Cont.more go h⟩
theorem bindET {f : EF} {g : D × Env → Res (Bool × Env)} {Q : Bool → Hp → Prop} (h : tT G W (fun ρ => (f ρ).bind g) σ H Q) :
    tE G W f σ H fun v H1 => ∃ ρ1 d O1 T, RepE G H1 σ ρ1 O1 ∧ Rep G H1 v d T ∧ (T ++ O1).Nodup ∧ ContT G W (T ++ O1) σ H1 (g (d, ρ1)) Q := by
  obtain ⟨ρ, O, a, b, h⟩ := h
  have h : ContT G W O σ H ((f ρ).bind g) Q := h
  refine tE_iff.mpr ⟨ρ, O, a, b, ?_⟩
  cases ef : f ρ with
  | no => rw [ef] at h; exact h
  | ex x ρ' => rw [ef] at h; exact h
  | ok p =>
    obtain ⟨d, ρ1⟩ := p
    rw [ef] at h
    intro v H1 ⟨O1, T, rE, rv, nd, go⟩
    exact ⟨ρ1, d, O1, T, rE, rv, nd, ContT.more go h⟩
theorem bindTE {f : TF} {g : Bool × Env → Res (D × Env)} {Q : VK} (h : tE G W (fun ρ => (f ρ).bind g) σ H Q) :
    tT G W f σ H fun b H1 => ∃ ρ1 O1, RepE G H1 σ ρ1 O1 ∧ O1.Nodup ∧ Cont G W O1 σ H1 (g (b, ρ1)) Q := by
  obtain ⟨ρ, O, a, b, h⟩ := tE_iff.mp h
  refine ⟨ρ, O, a, b, ?_⟩
  cases ef : f ρ with
  | no => rw [ef] at h; exact h
  | ex x ρ' => rw [ef] at h; exact h
  | ok p =>
    obtain ⟨d, ρ1⟩ := p
    rw [ef] at h
    intro H1 ⟨O1, rE, nd, go⟩
    exact ⟨ρ1, O1, rE, nd, Cont.more go h⟩
theorem bindTT {f : TF} {g : Bool × Env → Res (Bool × Env)} {Q : Bool → Hp → Prop} (h : tT G W (fun ρ => (f ρ).bind g) σ H Q) :
    tT G W f σ H fun b H1 => ∃ ρ1 O1, RepE G H1 σ ρ1 O1 ∧ O1.Nodup ∧ ContT G W O1 σ H1 (g (b, ρ1)) Q := by
  obtain ⟨ρ, O, a, b, h⟩ := h
  have h : ContT G W O σ H ((f ρ).bind g) Q := h
  refine ⟨ρ, O, a, b, ?_⟩
  cases ef : f ρ with
  | no => rw [ef] at h; exact h
  | ex x ρ' => rw [ef] at h; exact h
  | ok p =>
    obtain ⟨d, ρ1⟩ := p
    rw [ef] at h
    intro H1 ⟨O1, rE, nd, go⟩
    exact ⟨ρ1, O1, rE, nd, ContT.more go h⟩
theorem tT_mono {f : TF} {Q Q' : Bool → Hp → Prop} (h : tT G W f σ H Q) (imp : ∀ b H', Q b H' → Q' b H') : tT G W f σ H Q' := by
  obtain ⟨ρ, O, a, b, h⟩ := h
  refine ⟨ρ, O, a, b, ?_⟩
  cases ef : f ρ with
  | no => rw [ef] at h; exact h
  | ex x ρ' => rw [ef] at h; exact h
  | ok p => rw [ef] at h; exact fun H' z => imp _ _ (h H' z)
theorem tE_mono {f : EF} {Q Q' : VK} (h : tE G W f σ H Q) (imp : ∀ v H', Q v H' → Q' v H') : tE G W f σ H Q' := tS1_mono (o := .e f) h imp
theorem tO_mono : ∀ {ops : List Sop} {σ : L2.St} {H : Hp} {R R' : List V → Hp → Prop}, tO G W ops σ H R → (∀ vs H', R vs H' → R' vs H') → tO G W ops σ H R'
  | [], _, _, _, _, h, i => i _ _ h
  | o :: r, _, _, _, _, h, i => by
    rw [tO_cons] at h ⊢
    exact tS1_mono h fun x H1 z => tO_mono z fun xs H2 q => i _ _ q
/-- nothing owned: the value is a bool -/
theorem Cont.nil {O1 T : List Addr} {r : Res (D × Env)} {Q : VK} (h : Cont G W (T ++ O1) σ H r Q) : Cont G W O1 σ H r Q :=
  Cont.more (S1 := O1) (O := T ++ O1) ⟨fun _ _ e _ => e, fun a q => .inl (List.mem_append_right _ q)⟩ h
theorem ContT.nil {O1 T : List Addr} {r : Res (Bool × Env)} {Q : Bool → Hp → Prop} (h : ContT G W (T ++ O1) σ H r Q) : ContT G W O1 σ H r Q :=
  ContT.more (S1 := O1) (O := T ++ O1) ⟨fun _ _ e _ => e, fun a q => .inl (List.mem_append_right _ q)⟩ h
/-- an outcome that is a value of no parts -/
theorem Cont.now {O : List Addr} {d : D} {ρ : Env} {Q : VK} (h : Cont G W O σ H (.ok (d, ρ)) Q) (rE : RepE G H σ ρ O) (nd : O.Nodup) {v : V} (r : Rep G H v d []) : Q v H :=
  h v H ⟨O, [], rE, r, nd, Go.refl⟩
theorem ContT.now {O : List Addr} {b : Bool} {ρ : Env} {Q : Bool → Hp → Prop} (h : ContT G W O σ H (.ok (b, ρ)) Q) (rE : RepE G H σ ρ O) (nd : O.Nodup) : Q b H :=
  h H ⟨O, rE, nd, Go.refl⟩
/-! ### displays -/
theorem tup_ok {xs : List PySem.Expr} {ops : List Sop} {k : Nat} {pos : Pos} (ps : POs X G W xs ops) : PE X (.Tuple xs k pos) (tE G W (dispE mkTup ops)) := by
  refine pImp (pe_tupN ps.pa) fun σ H Q h => ?_
  refine tO_mono (disp_logic h) fun vs H2 ⟨ds, T, O2, ρ, hl, rs, rE, nd, q⟩ => ⟨Nat.le_trans hl (by rw [sizeLine_eq]; decide), fun p o hp ho => ?_⟩
  have f := frm_new (o := .frz o (.tup vs)) hp
  refine q (.ref p) _ T (Reps.mkTup (rs.fr (S := []) f mut_nil (fun _ _ z => nomatch z)) (SqN.of upd_same ho)) (rE.fr (S := []) f mut_nil (fun _ _ z => nomatch z)) nd ⟨fun a o e _ => f a o e (fun z => nomatch z), fun a z => .inl z⟩
theorem lst_ok {xs : List PySem.Expr} {ops : List Sop} {pos : Pos} (ps : POs X G W xs ops) : PE X (.List xs pos) (tE G W (dispE .ls ops)) := by
  refine pImp (pe_lst ps.pa) fun σ H Q h => ?_
  refine tO_mono (disp_logic h) fun vs H2 ⟨ds, T, O2, ρ, hl, rs, rE, nd, q⟩ => ⟨Nat.le_trans hl (by rw [sizeLine_eq]; decide), fun p hp => ?_⟩
  have f := frm_new (o := .lst vs) hp
  refine q (.ref p) _ (p :: T) (.ls upd_same (rs.fr (S := []) f mut_nil fun _ _ z => nomatch z)) (rE.fr (S := []) f mut_nil fun _ _ z => nomatch z) ?_ (Go.new hp)
  rw [List.cons_append]
  refine List.nodup_cons.mpr ⟨fun z => ?_, nd⟩
  obtain ⟨o, e⟩ := (MutA.app rs.mut rE.mut).some p z
  rw [hp] at e; cases e
/-! ### not, and, or -/
theorem not_ok {x : PySem.Expr} {f : EF} {pos : Pos} (h : PE X x (tE G W f)) : PE X (.UnaryOp .Not x pos) (tE G W (notE f)) := by
  refine pImp (pe_not h) fun σ H Q z => ?_
  refine tE_mono (bindE z) fun v H1 ⟨ρ1, d, O1, T, rE, rv, nd, c⟩ => ?_
  simp only at c
  split at c
  · exact ⟨_, rv.bl_of, Cont.now c.nil rE (nd_app.mp nd).2.1 (.sh (.bl _))⟩
  · exact c.elim
inductive PEs (X : Cx) (G : Ga) (W : WX) : List PySem.Expr → List EF → Prop
  | nil : PEs X G W [] []
  | cons {x : PySem.Expr} {xs : List PySem.Expr} {f : EF} {fs : List EF} : PE X x (tE G W f) → PEs X G W xs fs → PEs X G W (x :: xs) (f :: fs)
inductive PTss (X : Cx) (G : Ga) (W : WX) : List PySem.Expr → List TF → Prop
  | nil : PTss X G W [] []
  | cons {x : PySem.Expr} {xs : List PySem.Expr} {f : TF} {fs : List TF} : PT X x (tT G W f) → PTss X G W xs fs → PTss X G W (x :: xs) (f :: fs)
theorem bop_logic {k : Bool} {f g : EF} {r : List EF} {Q : VK} (h : tE G W (bopE k (f :: g :: r)) σ H Q) : tE G W f σ H fun x H1 => ∃ c, x = .bl c ∧ if c = k then tE G W (bopE k (g :: r)) σ H1 Q else Q (.bl c) H1 := by
  refine tE_mono (bindE h) fun v H1 ⟨ρ1, d, O1, T, rE, rv, nd, c⟩ => ?_
  simp only at c
  split at c
  · rename_i b
    refine ⟨b, rv.bl_of, ?_⟩
    split
    · rename_i e
      rw [if_pos e] at c
      exact tE_iff.mpr ⟨ρ1, O1, rE, (nd_app.mp nd).2.1, c.nil⟩
    · rename_i e
      rw [if_neg e] at c
      exact Cont.now c.nil rE (nd_app.mp nd).2.1 (.sh (.bl _))
  · exact c.elim
theorem bop_ok {k : Bool} {pos : Pos} : ∀ {xs : List PySem.Expr} {fs : List EF}, PEs X G W xs fs → PE X (.BoolOp (bopOf k) xs pos) (tE G W (bopE k fs))
  | _, _, .nil => ⟨fun pins s σ H Q I ⟨ρ, O, _, _, z⟩ => z.elim⟩
  | _, _, .cons h .nil => pe_one h
  | _, _, .cons h (.cons h2 hs) => by
    have ih := bop_ok (k := k) (pos := pos) (.cons h2 hs)
    cases k with
    | true =>
      refine pImp (pe_and h ih) fun σ H Q z => tE_mono (bop_logic z) fun v H1 ⟨c, e, z⟩ => ⟨c, e, ?_⟩
      cases c with
      | true => exact z
      | false => exact z
    | false =>
      refine pImp (pe_or h ih) fun σ H Q z => tE_mono (bop_logic z) fun v H1 ⟨c, e, z⟩ => ⟨c, e, ?_⟩
      cases c with
      | true => exact z
      | false => exact z
theorem bopT_logic {k : Bool} {f g : TF} {r : List TF} {Q : Bool → Hp → Prop} (h : tT G W (bopT k (f :: g :: r)) σ H Q) : tT G W f σ H fun c H1 => if c = k then tT G W (bopT k (g :: r)) σ H1 Q else Q c H1 := by
  refine tT_mono (bindTT h) fun c H1 ⟨ρ1, O1, rE, nd, z⟩ => ?_
  simp only at z
  split
  · rename_i e
    rw [if_pos e] at z
    exact ⟨ρ1, O1, rE, nd, z⟩
  · rename_i e
    rw [if_neg e] at z
    exact z.now rE nd
theorem bopT_ok {k : Bool} {pos : Pos} : ∀ {xs : List PySem.Expr} {fs : List TF}, PTss X G W xs fs → xs ≠ [] → PW X (.BoolOp (bopOf k) xs pos) (tT G W (bopT k fs))
  | _, _, .nil, n => absurd rfl n
  | _, _, .cons h .nil, _ => by
    cases k with
    | true => exact pw_and1 h
    | false => exact pw_or1 h
  | _, _, .cons h (.cons h2 hs), _ => by
    have ih := bopT_ok (k := k) (pos := pos) (.cons h2 hs) (by simp)
    cases k with
    | true =>
      refine ⟨fun wh pins s σ H Q I z => (pw_and h ih).run wh pins s σ H Q I ?_⟩
      refine tT_mono (bopT_logic z) fun c H1 z => ?_
      cases c with
      | true => exact z
      | false => exact z
    | false =>
      refine ⟨fun wh pins s σ H Q I z => (pw_or h ih).run wh pins s σ H Q I ?_⟩
      refine tT_mono (bopT_logic z) fun c H1 z => ?_
      cases c with
      | true => exact z
      | false => exact z
theorem notT_ok {x : PySem.Expr} {f : TF} {pos : Pos} (h : PT X x (tT G W f)) : PT X (.UnaryOp .Not x pos) (tT G W fun ρ => (f ρ).bind fun q => .ok (!q.1, q.2)) :=
  ptImp (pt_not h) fun σ H Q z => tT_mono (bindTT z) fun b H1 ⟨ρ1, O1, rE, nd, c⟩ => c.now rE nd
/-! ### a if c else b -/
theorem ite_ok {c a b : PySem.Expr} {fc : TF} {fa fb : EF} {pos : Pos} (hc : PT X c (tT G W fc)) (ha : PE X a (tE G W fa)) (hb : PE X b (tE G W fb)) : PE X (.IfExp c a b pos) (tE G W (iteE fc fa fb)) := by
  refine pImp (pe_ifExp hc ha hb) fun σ H Q z => tT_mono (bindTE z) fun t H1 ⟨ρ1, O1, rE, nd, k⟩ => ?_
  cases t with
  | true => exact ⟨ρ1, O1, rE, nd, k⟩
  | false => exact ⟨ρ1, O1, rE, nd, k⟩
/-! ### an expression as a test -/
def simpleT : PySem.Expr → Bool
  | .UnaryOp .Not _ _ => false
  | .BoolOp _ _ _ => false
  | .IfExp _ _ _ _ => false
  | .Compare _ _ _ _ => false
  | _ => true
theorem simple_is {e : PySem.Expr} {env : PySem.Env} (h : simpleT e = true) (whole : Sem Value) : isTrue e env whole = (do let v ← whole; standAt e.pos; holding [v] (truthy v)) := by
  cases e with
  | UnaryOp op x pos => cases op <;> first | rfl | cases h
  | BoolOp _ _ _ => cases h
  | IfExp _ _ _ _ => cases h
  | Compare _ _ _ _ => cases h
  | _ => rfl
theorem boolE_logic {f : EF} {Q : Bool → Hp → Prop} (h : tT G W (boolE f) σ H Q) : tE G W f σ H fun x H1 => ∃ c, x = .bl c ∧ Q c H1 := by
  refine tE_mono (bindET h) fun v H1 ⟨ρ1, d, O1, T, rE, rv, nd, c⟩ => ?_
  simp only at c
  split at c
  · exact ⟨_, rv.bl_of, c.nil.now rE (nd_app.mp nd).2.1⟩
  · exact c.elim
theorem val_okT {e : PySem.Expr} {f : EF} (h : PE X e (tE G W f)) (s : simpleT e = true) : PT X e (tT G W (boolE f)) :=
  ptImp (pt_val h (simple_is s)) fun σ H Q z => boolE_logic z
theorem op_okT (C : Ctx G Γ S X) {o : Op} {e : PySem.Expr} {xs : List PySem.Expr} {ops : List Sop} (h : opArgs S o e = some xs) (ps : POs X G W xs ops) : PT X e (tT G W (boolE (opE (opD o) (wrapO o ops)))) := by
  by_cases s : simpleT e = true
  · exact val_okT (op_ok C h ps) s
  · unfold opArgs at h
    split at h <;> first | exact absurd rfl s | skip
    rotate_left
    · cases h
    split at h
    · cases h
      rename_i hc
      rw [Bool.and_eq_true, decide_eq_true_eq] at hc
      obtain ⟨f, hf, hr⟩ := cmp_ok C hc.1
      cases ps with
      | cons ha na ps =>
        cases ps with
        | cons hb nb ps =>
          cases ps
          exact ptImp (pt_cmpR hr ha hb (nobeh hc.2)) fun σ H Q z => by
            have z := boolE_logic z
            rw [wrap2 (by intro z; subst z; simp_all [cmpOf])] at z
            exact two_logic hf z
    · cases h
end
end Vs
/-! V12: calls of the program's own defs. -/
namespace Vs
open PySem PySem.Spec L2
open PyProof.Rows hiding St
section
variable {X : Cx} {G : Ga} {W : WX} {S : Sc} {Γ : Gam} {σ : L2.St} {H H' : Hp}
theorem tO_app : ∀ {a b : List Sop} {σ : L2.St} {H : Hp} {R : List V → Hp → Prop}, tO G W (a ++ b) σ H R → tO G W a σ H fun xs H1 => tO G W b σ H1 fun ys H2 => R (xs ++ ys) H2
  | [], _, _, _, _, h => h
  | o :: a, _, _, _, _, h => by
    rw [List.cons_append, tO_cons] at h
    rw [tO_cons]
    exact tS1_mono h fun x H1 z => tO_app (R := fun xs H2 => _) z
theorem RepO.len : ∀ {vs : List V} {os : List Ov} {T : List Addr}, RepO G H σ vs os T → vs.length = os.length
  | _, _, _, .nil => rfl
  | _, _, _, .d _ hs => congrArg (· + 1) (RepO.len hs)
  | _, _, _, .v _ hs => congrArg (· + 1) (RepO.len hs)
  | _, _, _, .p _ _ _ _ hs => congrArg (· + 1) (RepO.len hs)
/-- arguments that own nothing, one by one -/
def Sh1 (G : Ga) (H : Hp) (σ : L2.St) (v : V) (o : Ov) : Prop := (∃ d, o = .d (.sh d) ∧ DpF G.K H v d) ∨ ∃ i, o = .v i ∧ σ[i]? = some (some v)
theorem RepO.at_sh : ∀ {vs : List V} {os : List Ov} {T : List Addr} {j : Nat} {o : Ov}, RepO G H σ vs os T → os.all Ov.isSh = true → os[j]? = some o → ∃ v, vs[j]? = some v ∧ Sh1 G H σ v o
  | _, _, _, j, o, .nil, _, e => by simp at e
  | _, _, _, 0, o, .d r hs, a, e => by
    simp at e; subst e
    cases r with
    | sh r => exact ⟨_, rfl, .inl ⟨_, rfl, r⟩⟩
    | tp _ _ => simp [Ov.isSh] at a
    | ls _ _ => simp [Ov.isSh] at a
    | dk _ _ => simp [Ov.isSh] at a
    | dd _ _ => simp [Ov.isSh] at a
    | ob => simp [Ov.isSh] at a
    | fn _ => simp [Ov.isSh] at a
    | fd => simp [Ov.isSh] at a
  | _, _, _, 0, o, .v q hs, a, e => by simp at e; subst e; exact ⟨_, rfl, .inr ⟨_, rfl, q⟩⟩
  | _, _, _, 0, o, .p _ _ _ _ _, a, e => by simp [Ov.isSh] at a
  | _, _, _, j + 1, o, .d r hs, a, e => by
    rw [List.all_cons, Bool.and_eq_true] at a
    obtain ⟨v, x, y⟩ := RepO.at_sh (j := j) hs a.2 (by simpa using e)
    exact ⟨v, by simpa using x, y⟩
  | _, _, _, j + 1, o, .v r hs, a, e => by
    rw [List.all_cons, Bool.and_eq_true] at a
    obtain ⟨v, x, y⟩ := RepO.at_sh (j := j) hs a.2 (by simpa using e)
    exact ⟨v, by simpa using x, y⟩
  | _, _, _, j + 1, o, .p _ _ _ _ hs, a, e => by
    rw [List.all_cons, Bool.and_eq_true] at a
    obtain ⟨v, x, y⟩ := RepO.at_sh (j := j) hs a.2 (by simpa using e)
    exact ⟨v, by simpa using x, y⟩
theorem RepO.cons1 {v : V} {vs : List V} {o : Ov} {os : List Ov} (h : Sh1 G H σ v o) (hs : RepO G H σ vs os []) : RepO G H σ (v :: vs) (o :: os) [] := by
  rcases h with ⟨d, rfl, r⟩ | ⟨i, rfl, q⟩
  · exact .d (O := []) (.sh r) hs
  · exact .v q hs
theorem perm_ok : ∀ {π : List Nat} {vs : List V} {os os' : List Ov} {T : List Addr}, RepO G H σ vs os T → os.all Ov.isSh = true → perm π os = some os' → ∃ vs', perm π vs = some vs' ∧ RepO G H σ vs' os' []
  | [], _, _, _, _, _, _, e => by unfold perm at e; cases e; exact ⟨[], rfl, .nil⟩
  | j :: π, vs, os, _, _, r, a, e => by
    unfold perm at e
    split at e
    · rename_i o os2 e1 e2
      cases e
      obtain ⟨v, x, y⟩ := r.at_sh a e1
      obtain ⟨vs', p, q⟩ := perm_ok r a e2
      refine ⟨v :: vs', ?_, RepO.cons1 y q⟩
      unfold perm
      rw [x, p]
    · cases e
theorem perm_val {π : List Nat} : ∀ {vs : List V} {us : List Value} {vs' : List V}, Vals vs us → perm π vs = some vs' → ∃ us', perm π us = some us' ∧ Vals vs' us' := by
  induction π with
  | nil => intro vs us vs' _ e; unfold perm at e; cases e; exact ⟨[], rfl, .nil⟩
  | cons j π ih =>
    intro vs us vs' r e
    unfold perm at e
    split at e
    · rename_i x l e1 e2
      cases e
      obtain ⟨u, h1, h2⟩ := r.get e1
      obtain ⟨us', p, q⟩ := ih r e2
      refine ⟨u :: us', ?_, .cons h2 q⟩
      unfold perm
      rw [h1, p]
    · cases e
theorem perm_off {α : Type} : ∀ (l m : List α), perm ((List.range l.length).map (· + m.length)) (m ++ l) = some l
  | [], _ => rfl
  | x :: l, m => by
    have ih := perm_off l (m ++ [x])
    rw [List.length_cons, List.range_succ_eq_map, List.map_cons, List.map_map]
    unfold perm
    rw [List.length_append, List.append_assoc] at ih
    simp only [List.length_singleton, List.singleton_append] at ih
    have e : ((List.range l.length).map ((fun x => x + m.length) ∘ Nat.succ)) = (List.range l.length).map (· + (m.length + 1)) := by
      refine List.map_congr_left fun a _ => ?_
      show a + 1 + m.length = a + (m.length + 1)
      omega
    rw [e, ih]
    simp
theorem perm_id {α : Type} (l : List α) : perm (List.range l.length) l = some l := by
  have := perm_off l []
  simpa using this
/-- the arguments' values -/
theorem argD_ok : ∀ {io : List Bool} {vs : List V} {os : List Ov} {T O : List Addr} {ρ ρ1 : Env} {ds : List D}, RepO G H σ vs os T → RepE G H σ ρ O → (T ++ O).Nodup → argD io os ρ = some (ds, ρ1) →
    ∃ A O1, Reps G H vs ds A ∧ RepE G H σ ρ1 O1 ∧ (A ++ O1).Nodup ∧ ∀ a ∈ A ++ O1, a ∈ T ++ O
  | [], _, _, _, _, ρ, _, _, .nil, rE, nd, e => by unfold argD at e; cases e; exact ⟨[], _, .nil, rE, nd, fun a q => q⟩
  | false :: io, _, _, _, O, ρ, _, _, .d (d := d) (os := os) (O := T0) (T := T) r hs, rE, nd, e => by
    unfold argD at e
    split at e
    · rename_i l ρ' e1
      cases e
      rw [List.append_assoc] at nd
      have nd' := nd_app.mp nd
      obtain ⟨A, O1, a1, a2, a3, a4⟩ := argD_ok hs rE nd'.2.1 e1
      refine ⟨T0 ++ A, O1, .cons r a1, a2, ?_, fun x q => ?_⟩
      · rw [List.append_assoc]
        exact nd_app.mpr ⟨nd'.1, a3, fun x hx z => nd'.2.2 x hx (a4 x z)⟩
      · rw [List.append_assoc] at q ⊢
        rcases List.mem_append.mp q with q | q
        · exact List.mem_append_left _ q
        · exact List.mem_append_right _ (a4 x q)
    · cases e
  | true :: io, _, _, _, O, ρ, _, _, .v (i := i) (os := os) (T := T) q hs, rE, nd, e => by
    unfold argD at e
    split at e
    · rename_i d e0
      split at e
      · rename_i l ρ' e1
        cases e
        obtain ⟨v, O1, O2, b1, b2, b3, b4⟩ := rE.out e0
        rw [q] at b1; cases b1
        have p2 : (T ++ O).Perm (O1 ++ (T ++ O2)) := (List.Perm.append_left T b3).trans (by rw [← List.append_assoc, ← List.append_assoc]; exact List.Perm.append_right O2 List.perm_append_comm)
        have nd' := nd_app.mp (p2.nodup nd)
        obtain ⟨A, O3, a1, a2, a3, a4⟩ := argD_ok hs b4 nd'.2.1 e1
        refine ⟨O1 ++ A, O3, .cons b2 a1, a2, ?_, fun x hx => p2.mem_iff.mpr ?_⟩
        · rw [List.append_assoc]
          exact nd_app.mpr ⟨nd'.1, a3, fun x hx z => nd'.2.2 x hx (a4 x z)⟩
        · rw [List.append_assoc] at hx
          rcases List.mem_append.mp hx with z | z
          · exact List.mem_append_left _ z
          · exact List.mem_append_right _ (a4 x z)
      · cases e
    · cases e
  | true :: _, _, _, _, _, _, _, _, .d _ _, _, _, e => by simp [argD] at e
  | false :: _, _, _, _, _, _, _, _, .v _ _, _, _, e => by simp [argD] at e
  | io, _, _, _, _, _, _, _, .p _ _ _ _ _, _, _, e => by
    cases io with
    | nil => simp [argD] at e
    | cons b io => cases b <;> simp [argD] at e
  | [], _, _, _, _, _, _, _, .d _ _, _, _, e => by simp [argD] at e
  | [], _, _, _, _, _, _, _, .v _ _, _, _, e => by simp [argD] at e
  | b :: _, _, _, _, _, _, _, _, .nil, _, _, e => by cases b <;> simp [argD] at e
/-- .. given back: in another heap -/
theorem backD_ok : ∀ {io : List Bool} {vs : List V} {os : List Ov} {T O A : List Addr} {ρ ρ2 : Env} {outs : List D}, RepO G H σ vs os T → RepE G H' σ ρ O → Reps G H' (pick io vs) outs A → (A ++ O).Nodup → backD io os outs ρ = some ρ2 →
    ∃ O2, RepE G H' σ ρ2 O2 ∧ O2.Nodup ∧ ∀ a ∈ O2, a ∈ A ++ O
  | [], _, _, _, _, _, ρ, _, outs, .nil, rE, rs, nd, e => by
    cases outs with
    | nil =>
      unfold backD at e; cases e
      exact ⟨_, rE, (nd_app.mp nd).2.1, fun a q => List.mem_append_right _ q⟩
    | cons _ _ => simp [backD] at e
  | false :: io, _, _, _, _, _, ρ, _, outs, .d r hs, rE, rs, nd, e => by unfold backD at e; exact backD_ok hs rE rs nd e
  | false :: io, _, _, _, _, _, ρ, _, outs, .v r hs, rE, rs, nd, e => by unfold backD at e; exact backD_ok hs rE rs nd e
  | false :: io, _, _, _, _, _, ρ, _, outs, .p _ _ _ _ hs, rE, rs, nd, e => by unfold backD at e; exact backD_ok hs rE rs nd e
  | true :: io, _, _, _, O, _, ρ, _, outs, .v (v := v) (vs := vs) (i := i) q hs, rE, rs, nd, e => by
    cases outs with
    | nil => simp [backD] at e
    | cons d outs =>
      unfold backD at e
      split at e
      · rename_i e0
        cases rs with
        | @cons v vs d ds O1 A' r rs =>
          rw [List.append_assoc] at nd
          have nd' := nd_app.mp nd
          obtain ⟨O2, pm, rE2⟩ := rE.put e0 q r
          have p2 : (O1 ++ (A' ++ O)).Perm (A' ++ O2) := by
            refine List.Perm.trans ?_ (List.Perm.append_left A' pm.symm)
            rw [← List.append_assoc, ← List.append_assoc]
            exact List.Perm.append_right O List.perm_append_comm
          obtain ⟨O3, b1, b2, b3⟩ := backD_ok hs rE2 rs (p2.nodup nd) e
          refine ⟨O3, b1, b2, fun a z => ?_⟩
          rw [List.append_assoc]
          exact p2.mem_iff.mpr (b3 a z)
      · cases e
  | true :: _, _, _, _, _, _, _, _, outs, .d _ _, _, _, _, e => by cases outs <;> simp [backD] at e
  | true :: _, _, _, _, _, _, _, _, outs, .p _ _ _ _ _, _, _, _, e => by cases outs <;> simp [backD] at e
  | [], _, _, _, _, _, _, _, outs, .d _ _, _, _, _, e => by cases outs <;> simp [backD] at e
  | [], _, _, _, _, _, _, _, outs, .v _ _, _, _, _, e => by cases outs <;> simp [backD] at e
  | [], _, _, _, _, _, _, _, outs, .p _ _ _ _ _, _, _, _, e => by cases outs <;> simp [backD] at e
  | b :: _, _, _, _, _, _, _, _, outs, .nil, _, _, _, e => by cases b <;> cases outs <;> simp [backD] at e
theorem argD_len : ∀ {io : List Bool} {os : List Ov} {ρ ρ1 : Env} {ds : List D}, argD io os ρ = some (ds, ρ1) → io.length = os.length
  | [], [], _, _, _, _ => rfl
  | [], _ :: _, _, _, _, e => by simp [argD] at e
  | b :: _, [], _, _, _, e => by cases b <;> simp [argD] at e
  | false :: io, .d d :: os, ρ, _, _, e => by
    unfold argD at e
    split at e
    · exact congrArg (· + 1) (argD_len (by assumption))
    · cases e
  | true :: io, .v i :: os, ρ, _, _, e => by
    unfold argD at e
    split at e
    · split at e
      · exact congrArg (· + 1) (argD_len (by assumption))
      · cases e
    · cases e
  | false :: _, .v _ :: _, _, _, _, e => by simp [argD] at e
  | false :: _, .p _ _ _ :: _, _, _, _, e => by simp [argD] at e
  | true :: _, .d _ :: _, _, _, _, e => by simp [argD] at e
  | true :: _, .p _ _ _ :: _, _, _, _, e => by simp [argD] at e

theorem call_logic {dn : Den} {ks : List Str} {ops : List Sop} {π : List Nat} {Q : VK} (h : tE G W (callD dn ks ops π) σ H Q) :
    tO G W ops σ H fun vs H2 => ∃ zs, (match ks with | [] => zs = vs | _ => perm π vs = some zs) ∧ spD G dn zs H2 Q fun cls d H' => W cls d σ H' := by
  obtain ⟨ρ, O, rE, nd, h⟩ := tE_iff.mp h
  refine run_ops ops ρ O rE nd ?_
  unfold OpsR
  unfold callD at h
  cases er : runO ops ρ with
  | no => rw [er] at h; exact h.elim
  | ex x ρ' => rw [er] at h; exact h
  | ok q =>
    obtain ⟨os, ρ2⟩ := q
    rw [er] at h
    intro vs H2 O2 T rE2 rO nd2 go
    simp only [Res.bind] at h
    cases e1 : arr ks π os with
    | none => rw [e1] at h; exact h.elim
    | some os' =>
      simp only [e1] at h
      have hz : ∃ zs T', (match ks with | [] => zs = vs | _ => perm π vs = some zs) ∧ RepO G H2 σ zs os' T' ∧ (T' ++ O2).Nodup ∧ ∀ a ∈ T' ++ O2, a ∈ T ++ O2 := by
        unfold arr at e1
        split at e1
        · cases e1
          exact ⟨vs, T, rfl, rO, nd2, fun a z => z⟩
        · rename_i hne
          split at e1
          · rename_i ha
            obtain ⟨zs, p, r⟩ := perm_ok rO ha e1
            refine ⟨zs, [], ?_, r, (nd_app.mp nd2).2.1, fun a z => List.mem_append_right _ z⟩
            cases ks with
            | nil => exact absurd rfl hne
            | cons _ _ => exact p
          · cases e1
      obtain ⟨zs, T', hz, rO', nd', sub⟩ := hz
      cases e2 : argD dn.io os' ρ2 with
      | none => rw [e2] at h; exact h.elim
      | some p =>
        obtain ⟨ds, ρ1⟩ := p
        simp only [e2] at h
        obtain ⟨A, O1, rA, rE1, nd1, sub1⟩ := argD_ok rO' rE2 nd' e2
        refine ⟨zs, hz, by rw [argD_len e2, rO'.len], ds, A, rA, (nd_app.mp nd1).1, ?_⟩
        have go1 : Go O H (A ++ O1) H2 := go.less fun a z => sub a (sub1 a z)
        have nd1' := nd_app.mp nd1
        -- the names that were not handed over stay
        have stay : ∀ {S1 : List Addr} {H' : Hp}, Go A H2 S1 H' → RepE G H' σ ρ1 O1 ∧ (∀ a ∈ O1, a ∉ S1) := fun g =>
          ⟨rE1.fr g.frm rA.mut fun a z q => nd1'.2.2 a q z, g.keep fun a z => ⟨fun q => nd1'.2.2 a q z, rE1.mut.some a z⟩⟩
        have goH : ∀ {S1 : List Addr} {H' : Hp}, Go A H2 S1 H' → Go (A ++ O1) H2 (S1 ++ O1) H' := fun g =>
          ⟨fun a o e n => g.frm a o e fun q => n (List.mem_append_left _ q), fun a q => (List.mem_append.mp q).elim (fun z => (g.sub a z).imp (fun y => List.mem_append_left _ y) id) fun z => .inl (List.mem_append_right _ z)⟩
        cases e3 : dn.m ds with
        | no => simp only [e3] at h; exact h
        | ok r outs =>
          simp only [e3] at h
          intro v H' Tr Oo rv rs nd3 g
          obtain ⟨rE', dis⟩ := stay g
          have nd3' := nd_app.mp nd3
          cases e4 : backD dn.io os' outs ρ1 with
          | none => simp only [e4] at h; exact h.elim
          | some ρ3 =>
            simp only [e4] at h
            obtain ⟨O3, b1, b2, b3⟩ := backD_ok rO' rE' rs (nd_app.mpr ⟨nd3'.2.1, nd1'.2.1, fun a z q => dis a q (List.mem_append_right _ z)⟩) e4
            refine h v H' ⟨O3, Tr, b1, rv, nd_app.mpr ⟨nd3'.1, b2, fun a z q => ?_⟩, (go1.trans (goH g)).less fun a z => ?_⟩
            · rcases List.mem_append.mp (b3 a q) with y | y
              · exact nd3'.2.2 a z y
              · exact dis a y (List.mem_append_left _ z)
            · rw [List.append_assoc]
              rcases List.mem_append.mp z with z | z
              · exact List.mem_append_left _ z
              · exact List.mem_append_right _ (b3 a z)
        | ex x outs =>
          simp only [e3] at h
          intro cls dd H' Oo rs nd3 g hx
          obtain ⟨rE', dis⟩ := stay g
          cases e4 : backD dn.io os' outs ρ1 with
          | none => simp only [e4] at h; exact h.elim
          | some ρ3 =>
            simp only [e4] at h
            obtain ⟨O3, b1, b2, b3⟩ := backD_ok rO' rE' rs (nd_app.mpr ⟨nd3, nd1'.2.1, fun a z q => dis a q z⟩) e4
            exact h cls dd H' ⟨O3, b1, b2, (go1.trans (goH g)).less fun a z => b3 a z, hx⟩
/-! ### the call itself -/
theorem kw_all : ∀ {kws : List Keyword} {ks : List Str} (pos : Pos) (env : PySem.Env), kwN kws = ks.map some → (backToKw pos (keywordEach kws env)).all (·.1.isSome) = true ∧ (backToKw pos (keywordEach kws env)).filterMap (·.1) = ks ∧
    (backToKw pos (keywordEach kws env)).any (·.1.isNone) = false
  | [], [], _, _, _ => ⟨rfl, rfl, rfl⟩
  | [], _ :: _, _, _, h => by simp [kwN] at h
  | ⟨n, v, p⟩ :: kws, [], _, _, h => by simp [kwN] at h
  | ⟨n, v, p⟩ :: kws, k :: ks, pos, env, h => by
    simp only [kwN, List.map_cons, List.cons.injEq] at h
    obtain ⟨rfl, h⟩ := h
    obtain ⟨a, b, c⟩ := kw_all pos env h
    refine ⟨?_, ?_, ?_⟩
    · show (true && (backToKw pos (keywordEach kws env)).all (·.1.isSome)) = true
      rw [a]; rfl
    · show k :: (backToKw pos (keywordEach kws env)).filterMap (·.1) = k :: ks
      rw [b]
    · show (false || (backToKw pos (keywordEach kws env)).any (·.1.isNone)) = false
      rw [c]; rfl
theorem kw_pk : ∀ {kws : List Keyword} {ys : List PySem.Expr} {ops : List Sop}, kwB kws = some ys → POs X G W ys ops → L2.PK X kws (tO G W ops)
  | [], _, _, e, ps => by
    unfold kwB at e; cases e
    cases ps; exact pk_nil
  | ⟨n, v, p⟩ :: kws, _, _, e, ps => by
    unfold kwB at e
    split at e
    · rename_i l e2
      cases e
      cases ps with
      | cons h _ hs => rw [tO_cons]; exact pk_cons h (kw_pk e2 hs)
    · cases e
theorem tO_len : ∀ {ops : List Sop} {σ : L2.St} {H : Hp} {R : List V → Hp → Prop}, tO G W ops σ H R → tO G W ops σ H fun vs H' => vs.length = ops.length ∧ R vs H'
  | [], _, _, _, h => ⟨rfl, h⟩
  | o :: r, _, _, _, h => by
    rw [tO_cons] at h ⊢
    refine tS1_mono h fun x H1 z => tO_mono (tO_len (R := fun xs H2 => _) z) fun xs H2 ⟨a, b⟩ => ⟨?_, b⟩
    rw [List.length_cons, a, List.length_cons]
theorem POs.len : ∀ {xs : List PySem.Expr} {os : List Sop}, POs X G W xs os → xs.length = os.length
  | _, _, .nil => rfl
  | _, _, .cons _ _ hs => congrArg (· + 1) (POs.len hs)
theorem kwB_len : ∀ {kws : List Keyword} {ys : List PySem.Expr}, kwB kws = some ys → ys.length = kws.length
  | [], _, e => by unfold kwB at e; cases e; rfl
  | ⟨n, v, p⟩ :: kws, _, e => by
    unfold kwB at e
    split at e
    · rename_i l e2
      cases e
      exact congrArg (· + 1) (kwB_len e2)
    · cases e
theorem kwN_len : ∀ (kws : List Keyword), (kwN kws).length = kws.length
  | [] => rfl
  | ⟨n, v, p⟩ :: kws => congrArg (· + 1) (kwN_len kws)
theorem call_ok (C : Ctx G Γ S X) (tk : Takes X W) {f : Str} {xs ys : List PySem.Expr} {kws : List Keyword} {ks : List Str} {π : List Nat} {opsA opsB : List Sop} {p pos : Pos} (hg : glB S f = true) (psA : POs X G W xs opsA) (hk : kwB kws = some ys)
    (psB : POs X G W ys opsB) (hn : kwN kws = ks.map some) (hp : (S.pats f).contains (xs.length, ks, π) = true) (hid : ks = [] → π = List.range xs.length) : PE X (.Call (.Name f p) xs kws pos) (tE G W (callE (Γ.fn f) ks (opsA ++ opsB) π)) := by
  cases ef : Γ.fn f with
  | none => exact pe_false fun ρ => rfl
  | some dn =>
    obtain ⟨a, fd, ps, k, dn', ev, eu, ed, hm, hkp, hr, F, hx, hb⟩ := (C.fn f dn ef).to
    obtain ⟨g1, g2, _⟩ := C.gl hg
    refine ⟨fun pins s σ H Q I h => ?_⟩
    have h := tO_len (tO_mono (tO_app (call_logic h)) fun vs H1 z => tO_len z)
    obtain ⟨k1, k2, k3⟩ := kw_all pos X.env hn
    -- the callee runs
    have run : ∀ {s2 : Shared} {H2 : Hp} {us ws : List Value} {vs ws' : List V}, Inv X pins σ H2 s2 → Vals vs us → Vals ws' ws → us.length = xs.length → ws.length = ks.length →
        (∃ zs, (match ks with | [] => zs = vs ++ ws' | _ => perm π (vs ++ ws') = some zs) ∧ spD G dn zs H2 Q fun cls d H' => W cls d σ H') →
        wpAny (model X.prog X.w) X.A (call (.ref a) us (ks.zip ws)) (EP X pins σ Q) X.xe s2 := by
      intro s2 H2 us ws vs ws' I2 rv rw' lu lw ⟨zs, hz, hs⟩
      have hz2 : perm π (vs ++ ws') = some zs := by
        cases ks with
        | nil =>
          have e : ws' = [] := List.eq_nil_of_length_eq_zero (by rw [rw'.length, lw]; rfl)
          subst e
          rw [List.append_nil] at hz ⊢
          subst hz
          rw [hid rfl, ← lu, ← rv.length]
          exact perm_id zs
        | cons _ _ => exact hz
      obtain ⟨us', pz, rz⟩ := perm_val (rv.append rw') hz2
      have hb' := hb xs.length ks π (by simpa using hp) s2 us ws us' I2.kIn lu lw pz
      refine wpAny_call (codeAny_mono (F.run X.A X.stack s2 H2 ⟨us, ks.zip ws⟩ (us' ++ eu) (zs ++ ev) Q _ hr C.gd I2.env0 hb' (rz.append hx.rv) (hx.sp hs)) fun r s' hq => ?_)
      cases r with
      | error e => exact tk e s' (XE.of_call I2 (fun _ _ _ z => z) hq)
      | ok fl =>
        cases fl with
        | ret u => exact I2.after hq
        | next => exact False.elim hq
        | brk => exact False.elim hq
        | cont => exact False.elim hq
    refine wpAny_Call_Name_kw (ld_glob I g1 hm ?_ g2)
    have lk : opsB.length = ks.length := by
      rw [← psB.len, kwB_len hk]
      have := congrArg List.length hn
      rw [List.length_map] at this
      rw [← this, kwN_len]
    cases kws with
    | nil =>
      have e0 : ks = [] := by
        cases ks with
        | nil => rfl
        | cons _ _ => simp [kwN] at hn
      subst e0
      unfold kwB at hk; cases hk
      cases psB
      cases xs with
      | nil =>
        cases psA
        exact PySem.W.callWith_K0 I.kIn hkp (run (us := []) (ws := []) I .nil .nil rfl rfl h.2.2)
      | cons x xs =>
        have hx : notStar x = true := by cases psA; assumption
        have pl := psA
        cases pl with
        | cons _ _ pl =>
          refine PySem.W.callWith_K (h₀ := X.base) I.ok.mod.kin hkp (thn (psA.pa.run pos pins s σ H _ I h) fun us s1 ⟨vs, H1, I1, r, q⟩ => ⟨I1.kIn, ?_⟩) (star1 hx) (pl.plain pos X.env)
          exact run (us := us) (ws := []) I1 r .nil (by rw [← r.length, q.1, ← psA.len]) rfl q.2.2
    | cons kw kws =>
      cases xs with
      | nil =>
        cases psA
        refine PySem.W.callWith_KW0 (h₀ := X.base) I.ok.mod.kin hkp k1 (thn ((kw_pk hk psB).run pos pins s σ H _ I h.2) fun ws s1 ⟨zs, H1, I1, r, q⟩ => ⟨I1.kIn, ?_⟩) (by show (false || (backToKw pos (keywordEach (kw :: kws) X.env)).any (·.1.isNone)) = false; rw [k3]; rfl)
        rw [k2]
        exact run (us := []) I1 .nil r rfl (by rw [← r.length, q.1, lk]) q.2
      | cons x xs =>
        have hx : notStar x = true := by cases psA; assumption
        refine PySem.W.callWith_KW (h₀ := X.base) I.ok.mod.kin hkp k1 (thn (psA.pa.run pos pins s σ H _ I h) fun us s1 ⟨vs, H1, I1, r, q⟩ => ?_) (by rw [psA.plain pos X.env, k3]; rfl) (star1 hx)
        refine thn ((kw_pk hk psB).run pos pins s1 σ H1 _ I1 q.2) fun ws s2 ⟨zs, H2, I2, rz, q2⟩ => ⟨I2.kIn, ?_⟩
        rw [k2]
        exact run (us := us) I2 r rz (by rw [← r.length, q.1, ← psA.len]) (by rw [← rz.length, q2.1, lk]) q2.2
end
end Vs
/-! V13: methods that change a list; freezing. -/
namespace Vs
open PySem PySem.Spec L2
open PyProof.Rows hiding St
section
variable {X : Cx} {G : Ga} {W : WX} {S : Sc} {Γ : Gam} {σ : L2.St} {H H' : Hp}
/-- one item of a list of values -/
theorem Reps.split : ∀ {us : List V} {es : List D} {T : List Addr} {j : Nat} {y : D}, Reps G H us es T → es[j]? = some y → ∃ u Tj R, us[j]? = some u ∧ Rep G H u y Tj ∧ T.Perm (Tj ++ R) ∧
    ∀ {H3 : Hp} {S : List Addr} {y' : D} {Tj' : List Addr}, Frm S H H3 → MutA H S → (∀ a ∈ R, a ∉ S) → Rep G H3 u y' Tj' → ∃ T', Reps G H3 us (es.set j y') T' ∧ T'.Perm (Tj' ++ R)
  | _, _, _, j, y, .nil, e => by simp at e
  | _, _, _, 0, y, .cons (O := O) (O' := O') h hs, e => by
    simp at e; subst e
    exact ⟨_, O, O', rfl, h, .refl _, fun f m n r => ⟨_, .cons r (hs.fr f m n), .refl _⟩⟩
  | _, _, _, j + 1, y, .cons (O := O) (O' := O') h hs, e => by
    obtain ⟨u, Tj, R, a, b, c, k⟩ := Reps.split (j := j) hs (by simpa using e)
    refine ⟨u, Tj, O ++ R, by simpa using a, b, ?_, fun f m n r => ?_⟩
    · exact (List.Perm.append_left O c).trans (by rw [← List.append_assoc, ← List.append_assoc]; exact List.Perm.append_right R List.perm_append_comm)
    · obtain ⟨T', x, p⟩ := k f m (fun a q => n a (List.mem_append_right _ q)) r
      refine ⟨_, .cons (h.fr f m fun a q => n a (List.mem_append_left _ q)) x, ?_⟩
      exact (List.Perm.append_left O p).trans (by rw [← List.append_assoc, ← List.append_assoc]; exact List.Perm.append_right R List.perm_append_comm)
theorem dk_split : ∀ {kvs : List (Key × V)} {es : List D} {T : List Addr} {k : Key} {y : D}, Reps G H (kvs.map (·.2)) es T → dkGet (kvs.map (·.1)) es k = some y → ∃ u Tj R, valV kvs k = some u ∧ Rep G H u y Tj ∧ T.Perm (Tj ++ R) ∧
    ∀ {H3 : Hp} {S : List Addr} {y' : D} {Tj' : List Addr}, Frm S H H3 → MutA H S → (∀ a ∈ R, a ∉ S) → Rep G H3 u y' Tj' → ∃ T', Reps G H3 (kvs.map (·.2)) (dkSet (kvs.map (·.1)) es k y') T' ∧ T'.Perm (Tj' ++ R)
  | [], es, T, k, y, h, e => by simp [dkGet] at e
  | (q, v) :: kvs, es, T, k, y, hh, e => by
   cases hh with
   | @cons _ _ d ds O O' h hs =>
    simp only [List.map_cons, dkGet] at e
    by_cases hk : q = k
    · rw [if_pos hk] at e
      cases e
      refine ⟨v, O, O', valV_pos hk, h, .refl _, fun f m n r => ⟨_, ?_, .refl _⟩⟩
      simp only [List.map_cons, dkSet, if_pos hk]
      exact .cons r (hs.fr f m n)
    · rw [if_neg hk] at e
      obtain ⟨u, Tj, R, a, b, c, g⟩ := dk_split hs e
      refine ⟨u, Tj, O ++ R, by rw [valV_neg hk]; exact a, b, ?_, fun f m n r => ?_⟩
      · exact (List.Perm.append_left O c).trans (by rw [← List.append_assoc, ← List.append_assoc]; exact List.Perm.append_right R List.perm_append_comm)
      · obtain ⟨T', x, p⟩ := g f m (fun a q => n a (List.mem_append_right _ q)) r
        refine ⟨O ++ T', ?_, ?_⟩
        · simp only [List.map_cons, dkSet, if_neg hk]
          exact .cons (h.fr f m fun a q => n a (List.mem_append_left _ q)) x
        · exact (List.Perm.append_left O p).trans (by rw [← List.append_assoc, ← List.append_assoc]; exact List.Perm.append_right R List.perm_append_comm)
/-- a list within a tree, and the tree with another list in its place -/
theorem Rep.focus : ∀ {p : List PK} {v : V} {d : D} {ds : List D} {T0 : List Addr}, Rep G H v d T0 → getP p d = some (.ls ds) → T0.Nodup → ∃ l xs T R, VAt H v p (.ref l) ∧ H l = some (.lst xs) ∧ Reps G H xs ds T ∧ T0.Perm ((l :: T) ++ R) ∧
    ∀ {H3 : Hp} {xs' : List V} {ds' : List D} {T' : List Addr}, Frm [l] H H3 → H3 l = some (.lst xs') → Reps G H3 xs' ds' T' → ∃ T0', Rep G H3 v (setP p d (.ls ds')) T0' ∧ T0'.Perm ((l :: T') ++ R)
  | [], v, d, ds, T0, h, e, nd => by
    unfold getP at e; cases e
    cases h with
    | @ls a xs _ O q hs =>
      exact ⟨a, xs, O, [], .nil, q, hs, by simp, fun f e r => ⟨_, .ls e r, by simp⟩⟩
  | .ix n :: p, v, d, ds, T0, h, e, nd => by
    cases h with
    | @ls a xs es O q hs =>
      unfold getP at e
      split at e
      · rename_i y ey
        obtain ⟨j, u, e1, e2, e3, e4⟩ := atI_map hs.len ey
        obtain ⟨u', Tj, R, a1, a2, a3, a4⟩ := hs.split e1
        rw [e2] at a1; cases a1
        have nd2 := List.nodup_cons.mp nd
        have nd3 := nd_app.mp (a3.nodup nd2.2)
        obtain ⟨l, zs, T, R2, b1, b2, b3, b4, b5⟩ := Rep.focus a2 e nd3.1
        have hl : l ∈ Tj := b4.mem_iff.mpr (by simp)
        have hla : a ≠ l := fun z => nd2.1 (a3.mem_iff.mpr (List.mem_append_left _ (z ▸ hl)))
        have p1 : (a :: O).Perm ((l :: T) ++ (a :: (R2 ++ R))) := by
          refine List.Perm.trans (List.Perm.cons a (a3.trans (List.Perm.append_right R b4))) ?_
          rw [List.append_assoc]
          exact List.perm_middle.symm
        refine ⟨l, zs, T, a :: (R2 ++ R), .ix q e3 b1, b2, b3, p1, fun {H3 xs' ds' T'} f e r => ?_⟩
        obtain ⟨Tj', c1, c2⟩ := b5 f e r
        have ml : MutA H [l] := fun b hb => by
          have : b = l := by simpa using hb
          subst this; rw [b2]; trivial
        obtain ⟨T2, d1, d2⟩ := a4 f ml (fun b hb z => by
          have : b = l := by simpa using z
          subst this; exact nd3.2.2 _ hl hb) c1
        refine ⟨a :: T2, ?_, ?_⟩
        · unfold setP
          rw [ey]
          simp only
          unfold setAt
          rw [e4]
          exact .ls (f _ _ q fun z => by
            have : a = l := by simpa using z
            exact hla this) d1
        · refine List.Perm.trans (List.Perm.cons a (d2.trans (List.Perm.append_right R c2))) ?_
          rw [List.append_assoc]
          exact List.perm_middle.symm
      · cases e
    | sh _ => simp [getP] at e
    | tp _ _ => simp [getP] at e
    | dk _ _ => simp [getP] at e
    | dd _ _ _ _ => simp [getP] at e
    | ob => simp [getP] at e
    | fn _ => simp [getP] at e
    | fd => simp [getP] at e
  | .key k :: p, v, d, ds, T0, h, e, nd => by
    cases h with
    | @dk a kvs es O q hs =>
      unfold getP at e
      split at e
      · rename_i y ey
        obtain ⟨u', Tj, R, a1, a2, a3, a4⟩ := dk_split hs ey
        have nd2 := List.nodup_cons.mp nd
        have nd3 := nd_app.mp (a3.nodup nd2.2)
        obtain ⟨l, zs, T, R2, b1, b2, b3, b4, b5⟩ := Rep.focus a2 e nd3.1
        have hl : l ∈ Tj := b4.mem_iff.mpr (by simp)
        have hla : a ≠ l := fun z => nd2.1 (a3.mem_iff.mpr (List.mem_append_left _ (z ▸ hl)))
        have p1 : (a :: O).Perm ((l :: T) ++ (a :: (R2 ++ R))) := by
          refine List.Perm.trans (List.Perm.cons a (a3.trans (List.Perm.append_right R b4))) ?_
          rw [List.append_assoc]
          exact List.perm_middle.symm
        refine ⟨l, zs, T, a :: (R2 ++ R), .key q a1 b1, b2, b3, p1, fun {H3 xs' ds' T'} f e r => ?_⟩
        obtain ⟨Tj', c1, c2⟩ := b5 f e r
        have ml : MutA H [l] := fun b hb => by
          have : b = l := by simpa using hb
          subst this; rw [b2]; trivial
        obtain ⟨T2, d1, d2⟩ := a4 f ml (fun b hb z => by
          have : b = l := by simpa using z
          subst this; exact nd3.2.2 _ hl hb) c1
        refine ⟨a :: T2, ?_, ?_⟩
        · unfold setP
          rw [ey]
          simp only
          exact .dk (f _ _ q fun z => by
            have : a = l := by simpa using z
            exact hla this) d1
        · refine List.Perm.trans (List.Perm.cons a (d2.trans (List.Perm.append_right R c2))) ?_
          rw [List.append_assoc]
          exact List.perm_middle.symm
      · cases e
    | sh _ => simp [getP] at e
    | tp _ _ => simp [getP] at e
    | ls _ _ => simp [getP] at e
    | dd _ _ _ _ => simp [getP] at e
    | ob => simp [getP] at e
    | fn _ => simp [getP] at e
    | fd => simp [getP] at e
/-- any place within a tree, and the tree with another value of the same kind of reference in its place -/
theorem Rep.focusG : ∀ {p : List PK} {v : V} {d y : D} {T0 : List Addr}, Rep G H v d T0 → getP p d = some y → T0.Nodup → ∃ u T R, VAt H v p u ∧ Rep G H u y T ∧ T0.Perm (T ++ R) ∧
    ∀ {H3 : Hp} {A : List Addr} {y' : D} {T' : List Addr}, Frm A H H3 → MutA H A → (∀ a ∈ A, a ∉ R) → Rep G H3 u y' T' → ∃ T0', Rep G H3 v (setP p d y') T0' ∧ T0'.Perm (T' ++ R)
  | [], v, d, y, T0, h, e, nd => by
    unfold getP at e; cases e
    exact ⟨v, T0, [], .nil, h, by simp, fun f m n r => ⟨_, r, by simp⟩⟩
  | .ix n :: p, v, d, y, T0, h, e, nd => by
    cases h with
    | @ls a xs es O q hs =>
      unfold getP at e
      split at e
      · rename_i z ez
        obtain ⟨j, u, e1, e2, e3, e4⟩ := atI_map hs.len ez
        obtain ⟨u', Tj, R, a1, a2, a3, a4⟩ := hs.split e1
        rw [e2] at a1; cases a1
        have nd2 := List.nodup_cons.mp nd
        have nd3 := nd_app.mp (a3.nodup nd2.2)
        obtain ⟨w, T, R2, b1, b3, b4, b5⟩ := Rep.focusG a2 e nd3.1
        have p1 : ∀ (T Tj : List Addr) (O : List Addr), O.Perm (Tj ++ R) → Tj.Perm (T ++ R2) → (a :: O).Perm (T ++ (a :: (R2 ++ R))) := fun T Tj O h1 h2 => by
          refine List.Perm.trans (List.Perm.cons a (h1.trans (List.Perm.append_right R h2))) ?_
          rw [List.append_assoc]
          exact List.perm_middle.symm
        refine ⟨w, T, a :: (R2 ++ R), .ix q e3 b1, b3, p1 T Tj O a3 b4, fun {H3 A y' T'} f m n r => ?_⟩
        obtain ⟨Tj', c1, c2⟩ := b5 f m (fun b hb z => n b hb (List.mem_cons_of_mem _ (List.mem_append_left _ z))) r
        obtain ⟨T2, d1, d2⟩ := a4 f m (fun b hb z => n b z (List.mem_cons_of_mem _ (List.mem_append_right _ hb))) c1
        refine ⟨a :: T2, ?_, p1 T' Tj' T2 d2 c2⟩
        unfold setP
        rw [ez]
        simp only
        unfold setAt
        rw [e4]
        exact .ls (f _ _ q fun z => n a z List.mem_cons_self) d1
      · cases e
    | sh _ => simp [getP] at e
    | tp _ _ => simp [getP] at e
    | dk _ _ => simp [getP] at e
    | dd _ _ _ _ => simp [getP] at e
    | ob => simp [getP] at e
    | fn _ => simp [getP] at e
    | fd => simp [getP] at e
  | .key k :: p, v, d, y, T0, h, e, nd => by
    cases h with
    | @dk a kvs es O q hs =>
      unfold getP at e
      split at e
      · rename_i z ez
        obtain ⟨u', Tj, R, a1, a2, a3, a4⟩ := dk_split hs ez
        have nd2 := List.nodup_cons.mp nd
        have nd3 := nd_app.mp (a3.nodup nd2.2)
        obtain ⟨w, T, R2, b1, b3, b4, b5⟩ := Rep.focusG a2 e nd3.1
        have p1 : ∀ (T Tj : List Addr) (O : List Addr), O.Perm (Tj ++ R) → Tj.Perm (T ++ R2) → (a :: O).Perm (T ++ (a :: (R2 ++ R))) := fun T Tj O h1 h2 => by
          refine List.Perm.trans (List.Perm.cons a (h1.trans (List.Perm.append_right R h2))) ?_
          rw [List.append_assoc]
          exact List.perm_middle.symm
        refine ⟨w, T, a :: (R2 ++ R), .key q a1 b1, b3, p1 T Tj O a3 b4, fun {H3 A y' T'} f m n r => ?_⟩
        obtain ⟨Tj', c1, c2⟩ := b5 f m (fun b hb z => n b hb (List.mem_cons_of_mem _ (List.mem_append_left _ z))) r
        obtain ⟨T2, d1, d2⟩ := a4 f m (fun b hb z => n b z (List.mem_cons_of_mem _ (List.mem_append_right _ hb))) c1
        refine ⟨a :: T2, ?_, p1 T' Tj' T2 d2 c2⟩
        unfold setP
        rw [ez]
        simp only
        exact .dk (f _ _ q fun z => n a z List.mem_cons_self) d1
      · cases e
    | sh _ => simp [getP] at e
    | tp _ _ => simp [getP] at e
    | ls _ _ => simp [getP] at e
    | dd _ _ _ _ => simp [getP] at e
    | ob => simp [getP] at e
    | fn _ => simp [getP] at e
    | fd => simp [getP] at e
/-- what a method's rule is asked: the list at l, its items, the arguments -/
def MutQ (G : Ga) (m : Mo) (l : Addr) (vs : List V) (H2 : Hp) (Q : VK) : Prop := ∃ xs ds as T A ds' r, H2 l = some (.lst xs) ∧ Reps G H2 xs ds T ∧ Reps G H2 vs as A ∧ (T ++ A).Nodup ∧ l ∉ T ++ A ∧ mo m ds as = some (ds', r) ∧
  ∀ xs' v T' Tr H3, H3 l = some (.lst xs') → Frm [l] H2 H3 → Reps G H3 xs' ds' T' → Rep G H3 v r Tr → (Tr ++ T').Nodup → (∀ a ∈ Tr ++ T', a ∈ T ++ A) → Q v H3
/-- the last step, for a root that stands aside -/
theorem mut_fin {m : Mo} {i : Nat} {path : List PK} {root : D} {ds as ds' : List D} {r : D} {v0 : V} {vs : List V} {T0 A O O' : List Addr} {ρ : Env} {H2 : Hp} {Q : VK} (rv : Rep G H2 v0 root T0) (eg : getP path root = some (.ls ds)) (ra : Reps G H2 vs as A)
    (rE : RepE G H2 σ ρ O') (nd : (T0 ++ (A ++ O')).Nodup) (hn : ρ[i]? = some none) (hσ : σ[i]? = some (some v0)) (em : mo m ds as = some (ds', r)) (go : Go O H (T0 ++ (A ++ O')) H2)
    (h : ∀ v H3, EvR G O σ H (ρ.set i (some (setP path root (.ls ds')))) r v H3 → Q v H3) {l : Addr} (hv : VAt H2 v0 path (.ref l)) : MutQ G m l vs H2 Q := by
  have nd1 := nd_app.mp nd
  obtain ⟨l', xs, T, R, b1, b2, b3, b4, b5⟩ := rv.focus eg nd1.1
  cases b1.inj hv
  have nd2 := nd_app.mp (b4.nodup nd1.1)
  have nd3 := List.nodup_cons.mp nd2.1
  have nd4 := nd_app.mp nd1.2.1
  have inT0 : ∀ {a : Addr}, a ∈ l :: T ∨ a ∈ R → a ∈ T0 := fun {a} z => b4.mem_iff.mpr (by rcases z with z | z; exact List.mem_append_left _ z; exact List.mem_append_right _ z)
  refine ⟨xs, ds, as, T, A, ds', r, b2, b3, ra, nd_app.mpr ⟨nd3.2, nd4.1, fun a x y => nd1.2.2 a (inT0 (.inl (List.mem_cons_of_mem _ x))) (List.mem_append_left _ y)⟩, fun z => ?_, em, fun xs' v T' Tr H3 e f rs rr ndr sub => ?_⟩
  · rcases List.mem_append.mp z with z | z
    · exact nd3.1 z
    · exact nd1.2.2 l (inT0 (.inl List.mem_cons_self)) (List.mem_append_left _ z)
  · obtain ⟨T0', c1, c2⟩ := b5 f e rs
    have ml : MutA H2 [l] := fun b hb => by
      have : b = l := by simpa using hb
      subst this; rw [b2]; trivial
    have dO : ∀ a ∈ O', a ∉ [l] := fun a ha z => by
      have : a = l := by simpa using z
      subst this
      exact nd1.2.2 _ (inT0 (.inl List.mem_cons_self)) (List.mem_append_right _ ha)
    obtain ⟨O2, pm, rE2⟩ := (rE.fr f ml dO).put hn hσ c1
    have ndr' := nd_app.mp ndr
    -- where the parts come from
    have fromTA : ∀ {a : Addr}, a ∈ T ++ A → a ∉ R ∧ a ∉ O' ∧ a ≠ l := fun {a} z => by
      rcases List.mem_append.mp z with z | z
      · exact ⟨fun y => nd2.2.2 a (List.mem_cons_of_mem _ z) y, fun y => nd1.2.2 a (inT0 (.inl (List.mem_cons_of_mem _ z))) (List.mem_append_right _ y), fun y => nd3.1 (y ▸ z)⟩
      · exact ⟨fun y => nd1.2.2 a (inT0 (.inr y)) (List.mem_append_left _ z), fun y => nd4.2.2 a z y, fun y => nd1.2.2 l (inT0 (.inl List.mem_cons_self)) (List.mem_append_left _ (y ▸ z))⟩
    have ndT0' : T0'.Nodup := c2.nodup_iff.mpr (nd_app.mpr ⟨List.nodup_cons.mpr ⟨fun z => (fromTA (sub l (List.mem_append_right _ z))).2.2 rfl, ndr'.2.1⟩, nd2.2.1, fun a z y => by
      rcases List.mem_cons.mp z with rfl | z
      · exact nd2.2.2 _ List.mem_cons_self y
      · exact (fromTA (sub a (List.mem_append_right _ z))).1 y⟩)
    have inT0' : ∀ {a : Addr}, a ∈ T0' → a = l ∨ a ∈ T' ∨ a ∈ R := fun {a} z => by
      rcases List.mem_append.mp (c2.mem_iff.mp z) with z | z
      · rcases List.mem_cons.mp z with z | z
        · exact .inl z
        · exact .inr (.inl z)
      · exact .inr (.inr z)
    have dT0O : ∀ {a : Addr}, a ∈ T0' → a ∉ O' := fun {a} z y => by
      rcases inT0' z with z | z | z
      · subst z; exact nd1.2.2 _ (inT0 (.inl List.mem_cons_self)) (List.mem_append_right _ y)
      · exact (fromTA (sub a (List.mem_append_right _ z))).2.1 y
      · exact nd1.2.2 a (inT0 (.inr z)) (List.mem_append_right _ y)
    refine h v H3 ⟨O2, Tr, rE2, rr, nd_app.mpr ⟨ndr'.1, pm.nodup_iff.mpr (nd_app.mpr ⟨ndT0', nd4.2.1, fun a z y => dT0O z y⟩), fun a z y => ?_⟩, go.trans ⟨fun a o ea n => f a o ea fun z => n ?_, fun a z => .inl ?_⟩⟩
    · have k := fromTA (sub a (List.mem_append_left _ z))
      rcases List.mem_append.mp (pm.mem_iff.mp y) with y | y
      · rcases inT0' y with y | y | y
        · exact k.2.2 y
        · exact ndr'.2.2 a z y
        · exact k.1 y
      · exact k.2.1 y
    · have : a = l := by simpa using z
      subst this
      exact List.mem_append_left _ (inT0 (.inl List.mem_cons_self))
    · have back : ∀ {a : Addr}, a ∈ T ++ A → a ∈ T0 ++ (A ++ O') := fun {a} z => by
        rcases List.mem_append.mp z with z | z
        · exact List.mem_append_left _ (inT0 (.inl (List.mem_cons_of_mem _ z)))
        · exact List.mem_append_right _ (List.mem_append_left _ z)
      rcases List.mem_append.mp z with z | z
      · exact back (sub a (List.mem_append_left _ z))
      · rcases List.mem_append.mp (pm.mem_iff.mp z) with z | z
        · rcases inT0' z with z | z | z
          · subst z; exact List.mem_append_left _ (inT0 (.inl List.mem_cons_self))
          · exact back (sub a (List.mem_append_right _ z))
          · exact List.mem_append_left _ (inT0 (.inr z))
        · exact List.mem_append_right _ (List.mem_append_right _ z)
theorem mut_logic {m : Mo} {i : Nat} {path : List PK} {ops : List Sop} {Q : VK} (h : tE G W (mutE m i path ops) σ H Q) :
    tPath i path σ H fun x H1 => ∃ l, x = .ref l ∧ (∃ xs, H1 l = some (.lst xs)) ∧ tO G W ops σ H1 fun vs H2 => MutQ G m l vs H2 Q := by
  obtain ⟨ρ, O, rE, nd, h⟩ := tE_iff.mp h
  unfold mutE at h
  cases e0 : ρ[i]? with
  | none => simp only [e0] at h; exact h.elim
  | some o =>
  cases o with
  | none => simp only [e0] at h; exact h.elim
  | some root =>
  simp only [e0] at h
  cases eg : getP path root with
  | none => simp only [eg] at h; exact h.elim
  | some y =>
  cases y with
  | ls ds0 =>
    obtain ⟨v0, O1, O2, hσ, rv, pm, rE'⟩ := rE.out e0
    have nd' := nd_app.mp (pm.nodup nd)
    obtain ⟨l, xs, _, _, b1, b2, _⟩ := rv.focus eg nd'.1
    refine ⟨v0, .ref l, hσ, b1, l, rfl, ⟨xs, b2⟩, ?_⟩
    cases path with
    | nil =>
      cases b1
      simp only [eg] at h
      refine run_ops ops ρ O rE nd ?_
      unfold OpsR
      cases er : runO ops ρ with
      | no => rw [er] at h; exact h.elim
      | ex x ρ' => rw [er] at h; exact h
      | ok q =>
        obtain ⟨os, ρ2⟩ := q
        rw [er] at h
        intro vs H2 O3 A rE2 rO nd2 go
        simp only [Res.bind] at h
        cases e1 : ods os with
        | none => simp only [e1] at h; exact h.elim
        | some as =>
          cases e2 : ρ2[i]? with
          | none => simp only [e1, e2] at h; exact h.elim
          | some o =>
          cases o with
          | none => simp only [e1, e2] at h; exact h.elim
          | some z =>
          cases z with
          | ls ds =>
            simp only [e1, e2] at h
            cases em : mo m ds as with
            | none => simp only [em] at h; exact h.elim
            | some p =>
              obtain ⟨ds', r⟩ := p
              simp only [em] at h
              obtain ⟨v1, T0, O4, c1, c2, c3, c4⟩ := rE2.out e2
              rw [hσ] at c1; cases c1
              have p2 : (A ++ O3).Perm (T0 ++ (A ++ O4)) := (List.Perm.append_left A c3).trans (by rw [← List.append_assoc, ← List.append_assoc]; exact List.Perm.append_right O4 List.perm_append_comm)
              have hi : i < ρ2.length := (List.getElem?_eq_some_iff.mp e2).1
              refine mut_fin (path := []) (root := .ls ds) c2 rfl (ods_ok rO e1) c4 (p2.nodup nd2) (by rw [List.getElem?_set_self hi]) hσ em (go.less fun a z => p2.mem_iff.mpr z) (fun v H3 e => h v H3 ?_) .nil
              simpa [setP] using e
          | sh _ => simp only [e1, e2] at h; exact h.elim
          | tp _ => simp only [e1, e2] at h; exact h.elim
          | dk _ _ => simp only [e1, e2] at h; exact h.elim
          | dd _ _ => simp only [e1, e2] at h; exact h.elim
          | ob => simp only [e1, e2] at h; exact h.elim
          | fn _ => simp only [e1, e2] at h; exact h.elim
          | fd => simp only [e1, e2] at h; exact h.elim
    | cons k path =>
      simp only [eg] at h
      refine run_ops ops (ρ.set i none) O2 rE' nd'.2.1 ?_
      unfold OpsR
      cases er : runO ops (ρ.set i none) with
      | no => rw [er] at h; exact h.elim
      | ex x ρ' =>
        rw [er] at h
        intro cls dd H' ⟨O', a, b, c, e⟩
        exact h cls dd H' ⟨O', a, b, c.more fun x q => pm.mem_iff.mpr (List.mem_append_right _ q), e⟩
      | ok q =>
        obtain ⟨os, ρ2⟩ := q
        rw [er] at h
        intro vs H2 O3 A rE2 rO nd2 go
        simp only [Res.bind] at h
        cases e1 : ods os with
        | none => simp only [e1] at h; exact h.elim
        | some as =>
          cases e2 : ρ2[i]? with
          | none => simp only [e1, e2] at h; exact h.elim
          | some o =>
          cases o with
          | some _ => simp only [e1, e2] at h; exact h.elim
          | none =>
            simp only [e1, e2] at h
            cases em : mo m ds0 as with
            | none => simp only [em] at h; exact h.elim
            | some p =>
              obtain ⟨ds', r⟩ := p
              simp only [em] at h
              have m1 : MutA H O2 := rE'.mut
              have keep := go.keep (T := O1) fun a q => ⟨nd'.2.2 a q, rv.mut.some a q⟩
              exact mut_fin (rv.fr go.frm m1 nd'.2.2) eg (ods_ok rO e1) rE2 (nd_app.mpr ⟨nd'.1, nd2, keep⟩) e2 hσ em ((go.held (T := O1)).more fun a q => pm.mem_iff.mpr q) h (b1.fr rv eg go.frm m1 nd'.2.2)
  | sh _ => simp only [eg] at h; exact h.elim
  | tp _ => simp only [eg] at h; exact h.elim
  | dk _ _ => simp only [eg] at h; exact h.elim
  | dd _ _ => simp only [eg] at h; exact h.elim
  | ob => simp only [eg] at h; exact h.elim
  | fn _ => simp only [eg] at h; exact h.elim
  | fd => simp only [eg] at h; exact h.elim
end
end Vs
/-! V14: the methods; names, constants; freezing; chains. -/
namespace Vs
open PySem PySem.Spec L2
open PyProof.Rows hiding St
section
variable {X : Cx} {G : Ga} {W : WX} {S : Sc} {Γ : Gam} {σ : L2.St} {H H' : Hp}
theorem Reps.app : ∀ {xs ys : List V} {ds es : List D} {T U : List Addr}, Reps G H xs ds T → Reps G H ys es U → Reps G H (xs ++ ys) (ds ++ es) (T ++ U)
  | _, _, _, _, _, _, .nil, q => q
  | _, _, _, _, _, _, .cons h hs, q => by
    rw [List.append_assoc]
    exact .cons h (Reps.app hs q)
theorem Reps.erase : ∀ {xs : List V} {ds : List D} {T : List Addr} {j : Nat} {d : D}, Reps G H xs ds T → ds[j]? = some d → ∃ y T1 T2, xs[j]? = some y ∧ Reps G H (xs.eraseIdx j) (ds.eraseIdx j) T1 ∧ Rep G H y d T2 ∧ T.Perm (T2 ++ T1)
  | _, _, _, j, d, .nil, e => by simp at e
  | _, _, _, 0, d, .cons h hs, e => by simp at e; subst e; exact ⟨_, _, _, rfl, hs, h, .refl _⟩
  | _, _, _, j + 1, d, .cons (O := O) h hs, e => by
    obtain ⟨y, T1, T2, a, b, c, p⟩ := Reps.erase (j := j) hs (by simpa using e)
    refine ⟨y, O ++ T1, T2, by simpa using a, by simpa using Reps.cons h b, c, ?_⟩
    exact (List.Perm.append_left O p).trans (by rw [← List.append_assoc, ← List.append_assoc]; exact List.Perm.append_right T1 List.perm_append_comm)
theorem erase_last {α : Type} : ∀ (l : List α), l.eraseIdx (l.length - 1) = l.dropLast
  | [] => rfl
  | [_] => rfl
  | a :: b :: l => by
    have := erase_last (b :: l)
    simp only [List.length_cons, Nat.add_sub_cancel] at this ⊢
    rw [List.eraseIdx_cons_succ, this]
    rfl
theorem last_at {α : Type} {l : List α} {d : α} (h : l.getLast? = some d) : l[l.length - 1]? = some d := by
  rw [← h, List.getLast?_eq_getElem?]
theorem small_line {n : Nat} (h : n ≤ 1000000) : n ≤ sizeLine := Nat.le_trans h (by rw [sizeLine_eq]; decide)
theorem frm_upd {l : Addr} {o : HO} : Frm [l] H (upd H l o) := fun b u e n => by rw [upd_ne (fun z : b = l => n (by rw [z]; simp))]; exact e
theorem MutQ.append {l : Addr} {vs : List V} {Q : VK} (h : MutQ G .append l vs H Q) : rAppend (.ref l) vs H Q := by
  obtain ⟨xs, ds, as, T, A, ds', r, hl, rs, ra, nd, nl, em, k⟩ := h
  replace em : moAppend ds as = some (ds', r) := em
  unfold moAppend at em
  split at em
  rotate_left
  · cases em
  split at em
  · cases em
    cases ra with
    | @cons y _ _ _ B _ r1 r2 =>
      cases r2
      rw [List.append_nil] at nd nl k
      have ml : MutA H [l] := fun b hb => by
        have : b = l := by simpa using hb
        subst this; rw [hl]; trivial
      have f := frm_upd (H := H) (l := l) (o := .lst (xs ++ [y]))
      have dis : ∀ a ∈ T ++ B, a ∉ [l] := fun a ha z => by
        have : a = l := by simpa using z
        exact nl (this ▸ ha)
      refine ⟨l, xs, y, rfl, rfl, hl, Nat.lt_of_lt_of_le (by rw [rs.len]; assumption) (small_line (Nat.le_refl _)), ?_⟩
      have r3 := ((rs.fr f ml fun a z => dis a (List.mem_append_left _ z)).app (.cons (r1.fr f ml fun a z => dis a (List.mem_append_right _ z)) .nil))
      rw [List.append_nil] at r3
      exact k _ .non (T ++ B) [] _ upd_same f r3 (.sh .non) nd fun a z => z
  · cases em
theorem MutQ.extend {l : Addr} {vs : List V} {Q : VK} (h : MutQ G .extend l vs H Q) : rExtend (.ref l) vs H Q := by
  obtain ⟨xs, ds, as, T, A, ds', r, hl, rs, ra, nd, nl, em, k⟩ := h
  replace em : moExtend ds as = some (ds', r) := em
  unfold moExtend at em
  split at em
  rotate_left
  · cases em
  split at em
  · cases em
    rename_i hz
    cases ra with
    | @cons y _ _ _ B _ r1 r2 =>
      cases r2
      rw [List.append_nil] at nd nl k
      cases r1 with
      | @ls b zs _ U hb rz =>
        have ml : MutA H [l] := fun b hb => by
          have : b = l := by simpa using hb
          subst this; rw [hl]; trivial
        have f := frm_upd (H := H) (l := l) (o := .lst (xs ++ zs))
        have dis : ∀ a ∈ T ++ b :: U, a ∉ [l] := fun a ha z => by
          have : a = l := by simpa using z
          exact nl (this ▸ ha)
        refine ⟨l, b, xs, zs, rfl, rfl, hl, hb, small_line (by rw [rs.len, rz.len]; exact hz), ?_⟩
        have nd' := nd_app.mp nd
        refine k _ .non (T ++ U) [] _ upd_same f ((rs.fr f ml fun a z => dis a (List.mem_append_left _ z)).app (rz.fr f ml fun a z => dis a (List.mem_append_right _ (List.mem_cons_of_mem _ z)))) (.sh .non) ?_ fun a z => ?_
        · rw [List.nil_append]
          exact nd_app.mpr ⟨nd'.1, (List.nodup_cons.mp nd'.2.1).2, fun a z y => nd'.2.2 a z (List.mem_cons_of_mem _ y)⟩
        · rw [List.nil_append] at z
          rcases List.mem_append.mp z with z | z
          · exact List.mem_append_left _ z
          · exact List.mem_append_right _ (List.mem_cons_of_mem _ z)
  · cases em
theorem mut_take {l : Addr} {xs : List V} {ds : List D} {T : List Addr} {j : Nat} {d : D} {Q : VK} (hl : H l = some (.lst xs)) (rs : Reps G H xs ds T) (nd : T.Nodup) (nl : l ∉ T) (ej : ds[j]? = some d)
    (k : ∀ xs' v T' Tr H3, H3 l = some (.lst xs') → Frm [l] H H3 → Reps G H3 xs' (ds.eraseIdx j) T' → Rep G H3 v d Tr → (Tr ++ T').Nodup → (∀ a ∈ Tr ++ T', a ∈ T) → Q v H3) : ∃ y, xs[j]? = some y ∧ Q y (upd H l (.lst (xs.eraseIdx j))) := by
  obtain ⟨y, T1, T2, a, b, c, p⟩ := rs.erase ej
  have ml : MutA H [l] := fun b hb => by
    have : b = l := by simpa using hb
    subst this; rw [hl]; trivial
  have f := frm_upd (H := H) (l := l) (o := .lst (xs.eraseIdx j))
  have dis : ∀ a ∈ T2 ++ T1, a ∉ [l] := fun a ha z => by
    have : a = l := by simpa using z
    exact nl (p.mem_iff.mpr (this ▸ ha))
  exact ⟨y, a, k _ y T1 T2 _ upd_same f (b.fr f ml fun a z => dis a (List.mem_append_right _ z)) (c.fr f ml fun a z => dis a (List.mem_append_left _ z)) (p.nodup nd) fun a z => p.mem_iff.mpr z⟩
theorem MutQ.pop {l : Addr} {vs : List V} {Q : VK} (h : MutQ G .pop l vs H Q) : rPop (.ref l) vs H Q := by
  obtain ⟨xs, ds, as, T, A, ds', r, hl, rs, ra, nd, nl, em, k⟩ := h
  replace em : moPop ds as = some (ds', r) := em
  unfold moPop at em
  split at em
  rotate_left
  · cases em
  split at em
  · cases em
    rename_i e
    cases ra
    rw [List.append_nil] at nd nl k
    rw [← erase_last] at k
    obtain ⟨y, e1, q⟩ := mut_take hl rs nd nl (last_at e) k
    rw [← rs.len] at e1 q
    rw [erase_last] at q
    exact ⟨l, xs, y, rfl, rfl, hl, e1, q⟩
  · cases em
theorem MutQ.popAt {l : Addr} {vs : List V} {Q : VK} (h : MutQ G .popAt l vs H Q) : rPopAt (.ref l) vs H Q := by
  obtain ⟨xs, ds, as, T, A, ds', r, hl, rs, ra, nd, nl, em, k⟩ := h
  replace em : moPopAt ds as = some (ds', r) := em
  unfold moPopAt at em
  split at em
  rotate_left
  · cases em
  rename_i i
  split at em
  · rename_i j ej
    split at em
    · rename_i d ed
      split at em
      · rename_i hz
        cases em
        cases ra with
        | cons r1 r2 =>
          cases r2
          cases r1 with
          | sh r1 =>
            cases r1
            simp only [List.append_nil] at nd nl k
            obtain ⟨y, e1, q⟩ := mut_take hl rs nd nl ed k
            obtain ⟨s1, s2, s3, s4⟩ := ixN_seq ej
            exact ⟨l, xs, i, j, y, rfl, rfl, hl, by omega, by omega, by rw [rs.len]; exact s1, e1, q⟩
      · cases em
    · cases em
  · cases em
theorem Reps.cutAt : ∀ {xs : List V} {ds : List D} {T : List Addr} (n : Nat), Reps G H xs ds T → ∃ T1 T2, Reps G H (xs.take n) (ds.take n) T1 ∧ Reps G H (xs.drop n) (ds.drop n) T2 ∧ T = T1 ++ T2
  | _, _, T, 0, h => ⟨[], T, .nil, h, rfl⟩
  | _, _, _, n + 1, .nil => ⟨[], [], .nil, .nil, rfl⟩
  | _, _, _, n + 1, .cons (O := O) h hs => by
    obtain ⟨T1, T2, a, b, c⟩ := Reps.cutAt n hs
    exact ⟨O ++ T1, T2, .cons h a, b, by rw [c, List.append_assoc]⟩
theorem MutQ.insert {l : Addr} {vs : List V} {Q : VK} (h : MutQ G .insert l vs H Q) : ∃ (l' : Addr) (xs : List V) (i : Int) (y : V), V.ref l = .ref l' ∧ vs = [.int i, y] ∧ H l' = some (.lst xs) ∧ xs.length < sizeLine ∧ 0 ≤ i ∧ i < 2 ^ 63 ∧
    Q .non (upd H l' (.lst (xs.take i.toNat ++ [y] ++ xs.drop i.toNat))) := by
  obtain ⟨xs, ds, as, T, A, ds', r, hl, rs, ra, nd, nl, em, k⟩ := h
  replace em : moInsert ds as = some (ds', r) := em
  unfold moInsert at em
  split at em
  rotate_left
  · cases em
  rename_i i d
  split at em
  · cases em
    rename_i hz
    cases ra with
    | cons r0 ra =>
      cases ra with
      | @cons y _ _ _ B _ r1 r2 =>
        cases r2
        cases r0 with
        | sh r0 =>
          cases r0
          simp only [List.nil_append, List.append_nil] at nd nl k
          obtain ⟨T1, T2, c1, c2, rfl⟩ := rs.cutAt i.toNat
          have ml : MutA H [l] := fun b hb => by
            have : b = l := by simpa using hb
            subst this; rw [hl]; trivial
          have f := frm_upd (H := H) (l := l) (o := .lst (xs.take i.toNat ++ [y] ++ xs.drop i.toNat))
          have dis : ∀ a ∈ T1 ++ T2 ++ B, a ∉ [l] := fun a ha z => by
            have : a = l := by simpa using z
            exact nl (this ▸ ha)
          refine ⟨l, xs, i, y, rfl, rfl, hl, Nat.lt_of_lt_of_le (by rw [rs.len]; exact hz.1) (small_line (Nat.le_refl _)), hz.2.1, by omega, ?_⟩
          have r3 := ((c1.fr f ml fun a z => dis a (List.mem_append_left _ (List.mem_append_left _ z))).app (.cons (r1.fr f ml fun a z => dis a (List.mem_append_right _ z)) .nil)).app (c2.fr f ml fun a z => dis a (List.mem_append_left _ (List.mem_append_right _ z)))
          rw [List.append_nil] at r3
          have pm : (T1 ++ T2 ++ B).Perm (T1 ++ B ++ T2) := by
            rw [List.append_assoc, List.append_assoc]
            exact List.Perm.append_left T1 List.perm_append_comm
          exact k _ .non (T1 ++ B ++ T2) [] _ upd_same f r3 (.sh .non) (pm.nodup nd) fun a z => pm.mem_iff.mpr z
  · cases em
theorem unsh_eq0 : ∀ {ds : List D} {l : List PyData}, unsh ds = some l → ds = l.map .sh
  | [], l, h => by simp [unsh] at h; simp [h]
  | .sh d :: r, l, h => by
    unfold unsh at h
    split at h
    · rename_i m e
      cases h
      rw [unsh_eq0 e]; rfl
    · cases h
  | .tp _ :: _, l, h => by simp [unsh] at h
  | .ls _ :: _, l, h => by simp [unsh] at h
  | .dk _ _ :: _, l, h => by simp [unsh] at h
  | .ob _ _ _ :: _, l, h => by simp [unsh] at h
  | .fn _ :: _, l, h => by simp [unsh] at h
  | .fd _ _ :: _, l, h => by simp [unsh] at h
theorem MutQ.same {m : Mo} {l : Addr} {vs : List V} {Q : VK} (h : MutQ G m l vs H Q) (k : ∀ ds p r ds', mo m ds [.sh p] = some (ds', r) → ds' = ds ∧ ∃ l i, unsh ds = some l ∧ r = DI i) (hm : ∀ ds as ds' r, mo m ds as = some (ds', r) → ∃ p, as = [.sh p]) :
    ∃ xs ds y p l' i, vs = [y] ∧ H l = some (.lst xs) ∧ mo m ds [.sh p] = some (ds, DI i) ∧ unsh ds = some l' ∧ ((PyData.list l').hasDict = false → Dp G.K H (.ref l) (.list l')) ∧ (p.hasDict = false → Dp G.K H y p) ∧ Q (.int i) H := by
  obtain ⟨xs, ds, as, T, A, ds', r, hl, rs, ra, nd, nl, em, q⟩ := h
  obtain ⟨p, rfl⟩ := hm _ _ _ _ em
  obtain ⟨rfl, l', i, hu, rfl⟩ := k _ _ _ _ em
  cases ra with
  | @cons y _ _ _ B _ r1 r2 =>
    cases r2
    cases r1 with
    | sh r1 =>
      have rl : Rep G H (.ref l) (.ls ds') (l :: T) := .ls hl rs
      refine ⟨xs, ds', y, p, l', i, rfl, hl, em, hu, rl.dp (by rw [unsh_eq0 hu]; simp [D.py]), (Rep.sh r1 : Rep G H y (.sh p) []).dp rfl, ?_⟩
      exact q xs (.int i) T [] H hl (fun _ _ e _ => e) rs (.sh (.int i)) (by simpa using nd) fun a z => by simpa using z
def rCountD (K : PySem.W.Frag) : V → List V → Hp → VK → Prop := fun x xs H Q => ∃ (a : Addr) (y : V) (d : PyData) (ds : List PyData), x = V.ref a ∧ xs = [y] ∧ Dp K H (V.ref a) (.list ds) ∧ Dp K H y d ∧
  SeqAt.shaped (.list ds) = true ∧ SeqAt.shaped d = true ∧ Q (.int (ds.countP fun z => PyData.eqv z d : Nat)) H
theorem mt_countD (hu : X.A.units + 65 < cLine) : MtR X "list.count" (rCountD X.K) := by
  intro pins s σ H x xs v us Q I rx rxs h
  obtain ⟨a, y, d, ds, rfl, rfl, hl, hy, sl, sd, q⟩ := h
  cases rx
  cases rxs with
  | cons ry rt =>
    rename_i uy ut
    cases rt
    obtain ⟨bs, r1⟩ := Dp.reads I d y uy hy ry
    have hxs : PyData.canLayAll0 ds = true := SeqAt.canLay_of_shaped sl
    have hroom : X.A.units + 1 + min (PyData.depthAll ds) d.depth < cLine := room_in_shaped sd hu
    cases hl with
    | lst hs ha =>
      obtain ⟨its, rv, ⟨⟨cls, dd, data, sls⟩, n, ho, hc, hdn, hdt⟩, hlen⟩ := I.list hs
      simp only at hc hdt
      subst hc hdt
      obtain ⟨as, h4⟩ := Dp.readsAll I ds _ its ha rv
      have hmap : its.map (SeqAt.readOf s.heap) = ds := SeqAt.readsAll_map ds its as hxs h4
      have ec : its.toArray.toList.countP (fun u => PyData.eqv (SeqAt.readOf s.heap u) d) = ds.countP fun z => PyData.eqv z d := by
        rw [← hmap, List.countP_map]; rfl
      refine call_meets PySem.F.slot_list_count ⟨_, ho, rfl⟩ PySem.F.entry_list_count (PySem.F.args_list_count_2 _ _)
        (SeqAt.list_countAt a its.toArray n dd sls uy (fun u => PyData.eqv (SeqAt.readOf s.heap u) d)) ⟨ho, SeqAt.items_eqAt (vs := its.toArray) (show ReadsAll s.heap its.toArray.toList ds as from h4) r1 hxs (SeqAt.canLay_of_shaped sd) hroom, ?_⟩
      refine ⟨.int (ds.countP fun z => PyData.eqv z d : Nat), H, I.tok _, ⟨s.toks, ?_⟩, q⟩
      rw [ec]
theorem MutQ.cnt {l : Addr} {vs : List V} {Q : VK} (h : MutQ G .cnt l vs H Q) : rCountD G.K (.ref l) vs H Q := by
  obtain ⟨xs, ds, y, p, l', i, rfl, hl, em, hu, d1, d2, q⟩ := h.same (fun ds p r ds' e => by
    replace e : moCnt ds [.sh p] = some (ds', r) := e
    simp only [moCnt] at e
    split at e
    · split at e
      · cases e
        exact ⟨rfl, _, _, by assumption, rfl⟩
      · cases e
    · cases e) fun ds as ds' r e => by
    replace e : moCnt ds as = some (ds', r) := e
    unfold moCnt at e
    split at e
    · exact ⟨_, rfl⟩
    · cases e
  replace em : moCnt ds [.sh p] = some (ds, DI i) := em
  simp only [moCnt, hu] at em
  split at em
  · rename_i c
    rw [Bool.and_eq_true] at c
    simp only [Option.some.injEq, Prod.mk.injEq, D.sh.injEq, PyData.int.injEq, true_and] at em
    subst em
    exact ⟨l, y, p, l', rfl, rfl, d1 (nd_shaped c.2), d2 (nd_shaped c.1), c.2, c.1, q⟩
  · cases em
theorem MutQ.idx {l : Addr} {vs : List V} {Q : VK} (h : MutQ G .idx l vs H Q) : rIndexD G.K (.ref l) vs H Q := by
  obtain ⟨xs, ds, y, p, l', i, rfl, hl, em, hu, d1, d2, q⟩ := h.same (fun ds p r ds' e => by
    replace e : moIdx ds [.sh p] = some (ds', r) := e
    simp only [moIdx] at e
    split at e
    · split at e
      · split at e
        · cases e
          exact ⟨rfl, _, _, by assumption, rfl⟩
        · cases e
      · cases e
    · cases e) fun ds as ds' r e => by
    replace e : moIdx ds as = some (ds', r) := e
    unfold moIdx at e
    split at e
    · exact ⟨_, rfl⟩
    · cases e
  replace em : moIdx ds [.sh p] = some (ds, DI i) := em
  simp only [moIdx, hu] at em
  split at em
  · rename_i c
    rw [Bool.and_eq_true] at c
    split at em
    · rename_i j ej
      simp only [Option.some.injEq, Prod.mk.injEq, D.sh.injEq, PyData.int.injEq, true_and] at em
      subst em
      obtain ⟨h1, h2, h3⟩ := List.findIdx?_eq_some_iff_getElem.mp ej
      refine ⟨l, y, p, l', j, l'[j], rfl, rfl, d1 (nd_shaped c.2), d2 (nd_shaped c.1), c.2, c.1, List.getElem?_eq_getElem h1, h2, fun m z' hm hz => ?_, q⟩
      have h4 := h3 m hm
      have : m < l'.length := by omega
      rw [List.getElem?_eq_getElem this] at hz
      cases hz
      simpa using h4
    · cases em
  · cases em
theorem mut_none {m : Mo} {l : Addr} {vs : List V} {Q : VK} (h : ∀ ds as, mo m ds as = none) : ¬ MutQ G m l vs H Q := fun ⟨_, ds, as, _, _, _, _, _, _, _, _, _, em, _⟩ => by rw [h] at em; cases em
theorem base_of {o : PySem.Expr} {i : Nat} {p : List PK} {name : Str} {env : PySem.Env} (h : mPathR S i p o = true) : attributeBase o name env (eval o env) = eval o env := by
  unfold mPathR at h
  split at h
  all_goals first | contradiction | rfl
theorem few_of {xs : List PySem.Expr} {ops : List Sop} (ps : POs X G W xs ops) (h : xs.length < 20) (cp : Pos) : ((backTo cp (starEach xs X.env)).all (fun x => !x.1) && (backToKw cp (keywordEach [] X.env)).all (fun x => x.1.isSome)
      && decide (xs.length + ([] : List Keyword).length + (if ([] : List Keyword).isEmpty then 0 else 1) < 30)) = true := by
  have h1 : (backTo cp (starEach xs X.env)).all (fun x => !x.1) = true := by
    have h2 := ps.plain cp X.env
    rw [List.all_eq_not_any_not]
    simpa using h2
  rw [h1]
  simp only [keywordEach, backToKw, List.map_nil, List.all_nil, Bool.true_and, List.length_nil, List.isEmpty_nil]
  have : xs.length + 0 + 0 < 30 := by omega
  simpa using this
theorem tyL {l : Addr} {xs : List V} {H1 : Hp} (h : H1 l = some (.lst xs)) : tyV X.K "list" (.ref l) H1 := .inl ⟨rfl, xs, SqL.of h⟩
theorem mut_ok (C : Ctx G Γ S X) {m : Mo} {i : Nat} {path : List PK} {o : PySem.Expr} {name : Str} {xs : List PySem.Expr} {ops : List Sop} {ap cp : Pos} (hn : name = moName m) (ho : mPathR S i path.reverse o = true) (ps : POs X G W xs ops)
    (hl : (ap.endLine == cp.line) = true) (hz : xs.length < 20) : PE X (.Call (.Attribute o name ap) xs [] cp) (tE G W (mutE m i path ops)) := by
  subst hn
  have po := mView_pe C ho
  have hb : ∀ nm, attributeBase o nm X.env (eval o X.env) = eval o X.env := fun nm => base_of ho
  have lg : ∀ {σ : L2.St} {H : Hp} {Q : VK}, tE G W (mutE m i path ops) σ H Q → tPath i path σ H fun x H1 => ∃ l, x = .ref l ∧ (∃ xs, H1 l = some (.lst xs)) ∧ tO G W ops σ H1 fun vs H2 => MutQ G m l vs H2 Q := fun h => mut_logic h
  have mono : ∀ {σ : L2.St} {H : Hp} {Q Q' : VK}, tPath i path σ H Q → (∀ v H', Q v H' → Q' v H') → tPath i path σ H Q' := fun h k => tS1_mono (o := .p i path) (G := G) (W := W) h k
  cases xs with
  | nil =>
    cases ps
    cases m with
    | pop => exact pImp (pe_bm0 PySem.F.plainAttrs_list PySem.F.slot_list_pop PySem.F.type_list_pop mt_pop po (hb _) hl) fun σ H Q h => mono (lg h) fun x H1 ⟨l, e, ⟨xs, e2⟩, z⟩ => by subst e; exact ⟨tyL e2, MutQ.pop z⟩
    | append => exact ⟨fun pins s σ H Q I h => by obtain ⟨v0, u, _, _, l, _, _, z⟩ := lg h; exact (by have := MutQ.append z; obtain ⟨_, _, _, _, e, _⟩ := this; cases e)⟩
    | extend => exact ⟨fun pins s σ H Q I h => by obtain ⟨v0, u, _, _, l, _, _, z⟩ := lg h; exact (by have := MutQ.extend z; obtain ⟨_, _, _, _, _, e, _⟩ := this; cases e)⟩
    | popAt => exact ⟨fun pins s σ H Q I h => by obtain ⟨v0, u, _, _, l, _, _, z⟩ := lg h; exact (by have := MutQ.popAt z; obtain ⟨_, _, _, _, _, _, e, _⟩ := this; cases e)⟩
    | insert => exact ⟨fun pins s σ H Q I h => by obtain ⟨v0, u, _, _, l, _, _, z⟩ := lg h; exact (by have := MutQ.insert z; obtain ⟨_, _, _, _, _, e, _⟩ := this; cases e)⟩
    | cnt => exact ⟨fun pins s σ H Q I h => by obtain ⟨v0, u, _, _, l, _, _, z⟩ := lg h; exact (by have := MutQ.cnt z; obtain ⟨_, _, _, _, _, e, _⟩ := this; cases e)⟩
    | idx => exact ⟨fun pins s σ H Q I h => by obtain ⟨v0, u, _, _, l, _, _, z⟩ := lg h; exact (by have := MutQ.idx z; obtain ⟨_, _, _, _, _, _, _, e, _⟩ := this; cases e)⟩
  | cons x xs =>
    have hx : notStar x = true := by cases ps; assumption
    have few := few_of ps hz cp
    have pl : (backTo cp (starEach xs X.env)).any (·.1) = false := by
      cases ps with | cons _ _ ps => exact ps.plain cp X.env
    cases m with
    | append => exact pImp (pe_bm PySem.F.plainAttrs_list PySem.F.slot_list_append PySem.F.type_list_append mt_append po ps.pa (hb _) few hl (star1 hx) pl) fun σ H Q h => mono (lg h) fun y H1 ⟨l, e, ⟨zs, e2⟩, z⟩ => by subst e; exact ⟨tyL e2, tO_mono z fun vs H2 q => MutQ.append q⟩
    | extend => exact pImp (pe_bm PySem.F.plainAttrs_list PySem.F.slot_list_extend PySem.F.type_list_extend mt_extend po ps.pa (hb _) few hl (star1 hx) pl) fun σ H Q h => mono (lg h) fun y H1 ⟨l, e, ⟨zs, e2⟩, z⟩ => by subst e; exact ⟨tyL e2, tO_mono z fun vs H2 q => MutQ.extend q⟩
    | popAt => exact pImp (pe_bm PySem.F.plainAttrs_list PySem.F.slot_list_pop PySem.F.type_list_pop mt_popAt po ps.pa (hb _) few hl (star1 hx) pl) fun σ H Q h => mono (lg h) fun y H1 ⟨l, e, ⟨zs, e2⟩, z⟩ => by subst e; exact ⟨tyL e2, tO_mono z fun vs H2 q => MutQ.popAt q⟩
    | pop => exact pImp (pe_bm PySem.F.plainAttrs_list PySem.F.slot_list_pop PySem.F.type_list_pop mt_pop po ps.pa (hb _) few hl (star1 hx) pl) fun σ H Q h => mono (lg h) fun y H1 ⟨l, e, ⟨zs, e2⟩, z⟩ => by subst e; exact ⟨tyL e2, tO_mono z fun vs H2 q => MutQ.pop q⟩
    | cnt => exact pImp (pe_bm PySem.F.plainAttrs_list PySem.F.slot_list_count PySem.F.type_list_count (mt_countD (by have := C.un; omega)) po ps.pa (hb _) few hl (star1 hx) pl) fun σ H Q h => mono (lg h) fun y H1 ⟨l, e, ⟨zs, e2⟩, z⟩ => by subst e; exact ⟨tyL e2, tO_mono z fun vs H2 q => C.hG ▸ MutQ.cnt q⟩
    | idx => exact pImp (pe_bm PySem.F.plainAttrs_list PySem.F.slot_list_index PySem.F.type_list_index (mt_indexD (by have := C.un; omega)) po ps.pa (hb _) few hl (star1 hx) pl) fun σ H Q h => mono (lg h) fun y H1 ⟨l, e, ⟨zs, e2⟩, z⟩ => by subst e; exact ⟨tyL e2, tO_mono z fun vs H2 q => C.hG ▸ MutQ.idx q⟩
    | insert => exact pImp (pe_bm PySem.F.plainAttrs_list PySem.F.slot_list_insert PySem.F.type_list_insert mt_insert po ps.pa (hb _) few hl (star1 hx) pl) fun σ H Q h => mono (lg h) fun y H1 ⟨l, e, ⟨zs, e2⟩, z⟩ => by subst e; exact ⟨tyL e2, tO_mono z fun vs H2 q => MutQ.insert q⟩
end
end Vs
/-! VB: instances of own classes: made, their methods called, their fields read. -/
namespace Vs
open PySem PySem.Spec L2
open PyProof.Rows hiding St
section
variable {X : Cx} {G : Ga} {W : WX} {S : Sc} {Γ : Gam} {σ : L2.St} {H H' : Hp}
/-- a promise is called -/
theorem run_fnG {k : Nat} {f : Addr} {fd : FuncData} {ps : List Str} {sp : Sp} {pins : List (Addr × Obj)} {s : Shared} {Q : VK} {us : List Value} {vs : List V} (tk : Takes X W) (gd : X.A.guards = some [])
    (F : FnG X.prog X.w X.K X.mg X.base k f fd ps sp) (hr : Room k X.A) (hb : BindsTo s fd ⟨us, []⟩ (ps.zip us)) (I : Inv X pins σ H s) (r : Vals vs us) (h : sp vs H Q fun cls d H' => W cls d σ H') :
    wpAny (model X.prog X.w) X.A (call (.ref f) us) (EP X pins σ Q) X.xe s := by
  refine wpAny_call (codeAny_mono (F.run X.A X.stack s H ⟨us, []⟩ us vs Q _ hr gd I.env0 hb r h) fun r s' hq => ?_)
  cases r with
  | error e => exact tk e s' (XE.of_call I (fun _ _ _ z => z) hq)
  | ok fl =>
    cases fl with
    | ret u => exact I.after hq
    | next => exact False.elim hq
    | brk => exact False.elim hq
    | cont => exact False.elim hq
/-- an instance is made -/
theorem run_makeG {k : Nat} {f C : Addr} {fd : FuncData} {ps : List Str} {sp : Sp} {pins : List (Addr × Obj)} {s : Shared} {Q : VK} {us : List Value} {vs : List V} (gd : X.A.guards = some []) (M : Mk X.K C f)
    (F : FnG X.prog X.w X.K X.mg X.base k f fd ps sp) (hr : Room (k + 1) X.A) (hb : ∀ (s : Shared) (x : Value), X.K.In s.heap → BindsTo s fd ⟨x :: us, []⟩ (ps.zip (x :: us))) (I : Inv X pins σ H s) (r : Vals vs us)
    (h : ∀ x dx, H x = none → H dx = none → dx ≠ x → sp (.ref x :: vs) (upd (upd H dx (.own x)) x (.ins C dx [])) (fun v H2 => v = .non ∧ Q (.ref x) H2) fun _ _ _ => False) :
    wpAny (model X.prog X.w) X.A (call (.ref C) us) (EP X pins σ Q) X.xe s := by
  have hq := h (s.heap.objs.size + 1) s.heap.objs.size (I.hok.fresh (Nat.le_succ _)) (I.hok.fresh (Nat.le_refl _)) (Nat.ne_of_lt (Nat.lt_succ_self _))
  have I2 := I.made (C := C)
  refine wpAny_call (make_map I.kIn M.makes M.init (beq_iff_eq.mp M.fn) (codeAny_mono (F.run (X.A.under (.builtin "type.__call__" ⟨.ref C :: us, []⟩)) X.stack _ _ ⟨.ref (s.heap.objs.size + 1) :: us, []⟩ (.ref (s.heap.objs.size + 1) :: us) (.ref (s.heap.objs.size + 1) :: vs) _ _ (hr.make C us []) ?_ (I2.env0.make C us []) (hb _ _ I2.kIn) (.cons rfl r) hq) fun r s' hq' => ?_))
  · exact gd
  · cases r with
    | error e =>
      obtain ⟨_, _, _, _, _, _, _, _, _, _, _, _, z⟩ := hq'
      exact z.elim
    | ok fl =>
      cases fl with
      | ret u =>
        obtain ⟨v, H', I3, rv, ev, q3⟩ := I2.after hq'
        subst ev
        exact ⟨rv, .ref _, H', I3, rfl, q3⟩
      | next => exact False.elim hq'
      | brk => exact False.elim hq'
      | cont => exact False.elim hq'
/-! ### made -/
theorem pick_false : ∀ (l : List D) (vs : List V), pick (l.map fun _ => false) vs = []
  | [], _ => rfl
  | _ :: l, [] => rfl
  | _ :: l, v :: vs => pick_false l vs
theorem new_logic {dn : Den} {c : Str} {C : Addr} {ops : List Sop} {Q : VK} (hC : G.cl c = some C) (cls : L2.Cls G.K C) (h : tE G W (newE (some dn) c ops) σ H Q) : tO G W ops σ H fun vs H1 => vs.length + 1 = dn.io.length ∧ ∀ x dx, H1 x = none → H1 dx = none → dx ≠ x →
    spD G dn (.ref x :: vs) (upd (upd H1 dx (.own x)) x (.ins C dx [])) (fun v H2 => v = .non ∧ Q (.ref x) H2) fun _ _ _ => False := by
  obtain ⟨ρ, O, rE, nd, h⟩ := tE_iff.mp h
  refine run_ops ops ρ O rE nd ?_
  unfold OpsR
  unfold newE at h
  cases er : runO ops ρ with
  | no => simp only [er, Res.bind] at h; exact h.elim
  | ex x ρ' => simp only [er, Res.bind] at h; exact h
  | ok q =>
    obtain ⟨os, ρ2⟩ := q
    simp only [er, Res.bind] at h
    intro vs H2 O2 T rE2 rO nd2 go
    cases e1 : ods os with
    | none => simp only [e1] at h; exact h.elim
    | some ds =>
      simp only [e1] at h
      have rs := ods_ok rO e1
      split at h
      · rename_i hio
        have hl : vs.length + 1 = dn.io.length := by rw [hio, List.length_cons, List.length_map, rs.len]
        refine ⟨hl, fun x dx hx hdx hne => ?_⟩
        have f1 : Frm [] H2 (upd H2 dx (.own x)) := fun b u e _ => by rw [upd_ne (ne_of_none e hdx)]; exact e
        have hx' : upd H2 dx (.own x) x = none := by rw [upd_ne (Ne.symm hne)]; exact hx
        have f2 : Frm [] (upd H2 dx (.own x)) (upd (upd H2 dx (.own x)) x (.ins C dx [])) := fun b u e _ => by rw [upd_ne (ne_of_none e hx')]; exact e
        have f : Frm [] H2 (upd (upd H2 dx (.own x)) x (.ins C dx [])) := fun b u e n => f2 b u (f1 b u e n) n
        have nd2' := nd_app.mp nd2
        have old : ∀ a ∈ T ++ O2, a ≠ x := fun a q e => by
          obtain ⟨o, eo⟩ := (MutA.app rO.mut rE2.mut).some a q
          rw [e, hx] at eo; cases eo
        have rx : Rep G (upd (upd H2 dx (.own x)) x (.ins C dx [])) (.ref x) (.ob c [] []) [x] := .ob (fs := []) upd_same hC ⟨cls, fun _ z => nomatch z⟩ .nil
        have rs3 := rs.fr (S := []) f mut_nil fun _ _ z => nomatch z
        have rE3 := rE2.fr (S := []) f mut_nil fun _ _ z => nomatch z
        have ndx : ([x] ++ T).Nodup := nd_app.mpr ⟨by simp, nd2'.1, fun a q z => old a (List.mem_append_left _ z) (List.mem_singleton.mp q)⟩
        refine ⟨by rw [List.length_cons]; exact hl, .ob c [] [] :: ds, [x] ++ T, .cons rx rs3, ndx, ?_⟩
        split at h
        · rename_i r em
          rw [em]
          intro v H' T' O' rv ro nd3 g
          cases rv with
          | sh rv =>
          cases rv
          rw [hio] at ro
          have ep : pick (true :: ds.map fun _ => false) (.ref x :: vs) = [.ref x] := by
            show V.ref x :: pick _ vs = _
            rw [pick_false]
          rw [ep] at ro
          cases ro with
          | @cons _ _ _ _ O1 O1' rr rn =>
          cases rn
          rw [List.append_nil, List.nil_append] at nd3 g
          have m3 : MutA (upd (upd H2 dx (.own x)) x (.ins C dx [])) ([x] ++ T) := MutA.app (fun a q => by rw [List.mem_singleton.mp q, upd_same]; trivial) (fun a q => by
            obtain ⟨o, eo⟩ := rO.mut.some a q
            have := rO.mut a q
            rw [f a o eo (fun z => nomatch z)]
            rw [eo] at this
            exact this)
          have dis : ∀ a ∈ O2, a ∉ [x] ++ T := fun a q z => by
            rcases List.mem_append.mp z with z | z
            · exact old a (List.mem_append_right _ q) (List.mem_singleton.mp z)
            · exact nd2'.2.2 a z q
          have kp := g.keep fun a (q : a ∈ O2) => ⟨dis a q, (rE3.mut).some a q⟩
          refine ⟨rfl, h (.ref x) H' ⟨O2, O1, rE3.fr g.frm m3 dis, rr, nd_app.mpr ⟨nd3, nd2'.2.1, fun a q z => kp a z q⟩, ⟨fun a o ea na => ?_, fun a q => ?_⟩⟩⟩
          · have e2 := go.frm a o ea na
            refine g.frm a o (f a o e2 fun z => nomatch z) fun z => ?_
            rcases List.mem_append.mp z with z | z
            · rw [List.mem_singleton.mp z, hx] at e2; cases e2
            · rcases go.sub a (List.mem_append_left _ z) with y | y
              · exact na y
              · rw [ea] at y; cases y
          · rcases List.mem_append.mp q with q | q
            · have none_of : H2 a = none → a ∈ O ∨ H a = none := fun e => by
                cases eh : H a with
                | none => exact .inr rfl
                | some o =>
                  refine .inl (Classical.byContradiction fun n => ?_)
                  rw [go.frm a o eh n] at e; cases e
              rcases g.sub a q with z | z
              · rcases List.mem_append.mp z with z | z
                · rw [List.mem_singleton.mp z]; rw [List.mem_singleton.mp z] at none_of; exact none_of hx
                · exact go.sub a (List.mem_append_left _ z)
              · refine none_of ?_
                cases e2 : H2 a with
                | none => rfl
                | some o => rw [f a o e2 (fun z => nomatch z)] at z; cases z
            · exact go.sub a (List.mem_append_right _ q)
        · exact h.elim
      · exact h.elim
theorem new_ok (C : Ctx G Γ S X) {c : Str} {x : PySem.Expr} {xs : List PySem.Expr} {ops : List Sop} {p pos : Pos} (hg : glB S c = true) (ps : POs X G W (x :: xs) ops) : PE X (.Call (.Name c p) (x :: xs) [] pos) (tE G W (newE (Γ.ini c) c ops)) := by
  cases ef : Γ.ini c with
  | none => exact pe_false fun ρ => rfl
  | some dn =>
    obtain ⟨k, hr, ic⟩ := C.ini c dn ef
    obtain ⟨Ca, f, fd, ps', hC, hcls, M, hm, F, hb⟩ := ic.to
    obtain ⟨g1, g2, _⟩ := C.gl hg
    have hx : notStar x = true := by cases ps; assumption
    have pl := ps
    cases pl with
    | cons _ _ pl =>
    refine ⟨fun pins s σ H Q I h => ?_⟩
    have h := new_logic hC (C.hG ▸ hcls) h
    refine wpAny_Call_Name_kw (ld_glob I g1 hm ?_ g2)
    refine PySem.W.callWith_K (h₀ := X.base) I.ok.mod.kin M.kp (thn (ps.pa.run pos pins s σ H _ I h) fun us s1 ⟨vs, H1, I1, r, hl, q⟩ => ⟨I1.kIn, ?_⟩) (star1 hx) (pl.plain pos X.env)
    exact run_makeG C.gd M F hr (fun s y hk => hb s (y :: us) hk (by rw [List.length_cons, ← r.length, hl])) I1 r fun x' dx h1 h2 h3 => q x' dx h1 h2 h3
/-! ### a method called -/
theorem obB_inv {c m : Str} {o : Option (Option D)} (h : obB c m o = true) : ∃ ns ds, o = some (some (.ob c ns ds)) ∧ ns.contains m = false := by
  unfold obB at h
  split at h
  · rw [Bool.and_eq_true, decide_eq_true_eq, Bool.not_eq_true'] at h
    obtain ⟨rfl, h⟩ := h
    exact ⟨_, _, rfl, h⟩
  · cases h
theorem lookup_none {m : Str} : ∀ {fs : List (Str × V)}, (fs.map (·.1)).contains m = false → fs.lookup m = none
  | [], _ => rfl
  | (n, v) :: fs, h => by
    simp only [List.map_cons, List.contains_cons, Bool.or_eq_false_iff] at h
    rw [List.lookup_cons, h.1]
    exact lookup_none h.2
theorem eval_mcall {y m : Str} {p ap pos : Pos} {xs : List PySem.Expr} {env : PySem.Env} (few : methodCallForm (xs.length + ([] : List Keyword).length) (backTo pos (starEach xs env)) (backToKw pos (keywordEach [] env)) = true) (hl : (ap.endLine == pos.line) = true) :
    eval (.Call (.Attribute (.Name y p) m ap) xs [] pos) env = (do
      let ov ← eval (.Name y p) env
      standAt ap.atName
      let __x ← holding [ov] (getMethod ov m (do
        let __do_lift ← importBound (.Name y p) env
        pure (__do_lift.getD true)))
      match __x with
        | (f, first) => callWith pos f first (backTo pos (starEach xs env)) (backToKw pos (keywordEach [] env))) := by
  rw [arm_eval_Call]
  unfold methodCall
  simp only [few, calleeOf, methodCallPos, if_true, hl, Bool.not_true, Bool.false_or, pure_bind]
  rfl
theorem mcl_ok (C : Ctx G Γ S X) (tk : Takes X W) {c m y : Str} {i : Nat} {x : PySem.Expr} {xs : List PySem.Expr} {ops : List Sop} {p ap pos : Pos} (hv : visB S i y = true) (ps : POs X G W (x :: xs) ops) (hl : (ap.endLine == pos.line) = true) (hz : (x :: xs).length < 20) : PE X (.Call (.Attribute (.Name y p) m ap) (x :: xs) [] pos) (tE G W (mclE (Γ.me c m) c m i ops)) := by
  cases ef : Γ.me c m with
  | none => exact pe_false fun ρ => rfl
  | some dn =>
    obtain ⟨k, hr, mc⟩ := C.me c m dn ef
    obtain ⟨Ca, f, fd, ps', hC, hcls, hm, F, hb⟩ := mc.to
    have hx : notStar x = true := by cases ps; assumption
    have few := few_of ps hz pos
    have pl := ps
    cases pl with
    | cons _ _ pl =>
    refine ⟨fun pins s σ H Q I h => ?_⟩
    obtain ⟨ρ, O, rE, nd, h⟩ := tE_iff.mp h
    unfold mclE at h
    dsimp only at h
    split at h
    · rename_i hob
      obtain ⟨ns, ds, eo, hn⟩ := obB_inv hob
      obtain ⟨v, O1, O2, hσ, rv, _, _⟩ := rE.out eo
      have hc := call_logic (tE_iff.mpr ⟨ρ, O, rE, nd, h⟩)
      rw [tO_cons] at hc
      have hc : ∃ v', σ[i]? = some (some v') ∧ tO G W _ σ H fun vs H2 => ∃ zs, zs = v' :: vs ∧ spD G dn zs H2 Q fun cls d H' => W cls d σ H' := hc
      obtain ⟨v', hσ', hc⟩ := hc
      rw [hσ] at hσ'
      cases hσ'
      cases rv with
      | @ob a C' dx c' fs ds' O' ha hcl oc hs =>
      have hc := tO_len hc
      rw [hC] at hcl
      cases hcl
      refine PySem.W.methodCall_KW (thn ((C.vis hv).run pins s σ H (fun x H1 => x = .ref a ∧ H1 = H) I ⟨_, hσ, rfl, rfl⟩) fun u s1 ⟨x1, H1, I1, rx, e1, e2⟩ => ?_) (eval_mcall few hl)
      subst e1 e2
      cases rx
      refine getmeth_ok I1 ha hcls hm (lookup_none hn) ?_
      refine PySem.W.callWith_K (h₀ := X.base) I.ok.mod.kin hm.kp (thn (ps.pa.run pos pins s1 σ _ _ I1 hc) fun us s2 ⟨vs, H2, I2, r, hl, zs, ez, q⟩ => ⟨I2.kIn, ?_⟩) (star1 hx) (pl.plain pos X.env)
      have ez : zs = .ref a :: vs := ez
      subst ez
      have lz := q.1
      have r' : Vals (V.ref a :: vs) (Value.ref a :: us) := .cons rfl r
      refine run_fnG tk C.gd F hr (hb s2 (.ref a :: us) I2.kIn ?_) I2 r' q
      rw [List.length_cons, ← r.length, ← lz, List.length_cons]
    · exact h.elim
/-! ### a field read -/
theorem ob_look : ∀ {fs : List (Str × V)} {ds : List D} {T : List Addr} {x : Str} {d : PyData}, Reps G H (fs.map (·.2)) ds T → obGet (fs.map (·.1)) ds x = some (.sh d) → ∃ v, fs.lookup x = some v ∧ DpF G.K H v d
  | [], ds, T, x, d, h, e => by cases h; cases e
  | (n, v) :: fs, ds, T, x, d, h, e => by
    simp only [List.map_cons] at h e
    cases h with
    | @cons _ _ e0 ds _ _ r rs =>
    unfold obGet at e
    by_cases hx : x = n
    · rw [if_pos hx] at e
      cases e
      exact ⟨v, by subst hx; simp, r.sh_of⟩
    · rw [if_neg hx] at e
      obtain ⟨v', e1, e2⟩ := ob_look rs e
      refine ⟨v', ?_, e2⟩
      rw [List.lookup_cons]
      have : (x == n) = false := by simpa using hx
      rw [this]
      exact e1
theorem fld_ok (C : Ctx G Γ S X) {i : Nat} {x y : Str} {p pos : Pos} (hv : visB S i y = true) : PE X (.Attribute (.Name y p) x pos) (tE G W (fldE i x)) := by
  refine pImp (pe_fld (C.vis hv) rfl) fun σ H Q h => ?_
  obtain ⟨ρ, O, rE, nd, h⟩ := tE_iff.mp h
  unfold fldE at h
  split at h
  · rename_i c ns ds eo
    split at h
    · rename_i d eg
      obtain ⟨v, O1, O2, hσ, rv, _, _⟩ := rE.out eo
      cases rv with
      | @ob a C' dx c' fs ds' O' ha hcl oc hs =>
      obtain ⟨u, eu, du⟩ := ob_look hs eg
      have hin : x ∈ fs.map (·.1) := by
        have : ∀ {fs : List (Str × V)}, fs.lookup x = some u → x ∈ fs.map (·.1) := by
          intro fs
          induction fs with
          | nil => intro e; cases e
          | cons z fs ih =>
            intro e
            obtain ⟨n, w⟩ := z
            rw [List.lookup_cons] at e
            by_cases hx : x = n
            · subst hx; exact List.mem_cons_self
            · have : (x == n) = false := by simpa using hx
              rw [this] at e
              exact List.mem_cons_of_mem _ (ih e)
        exact this eu
      exact ⟨_, hσ, a, C', dx, fs, u, rfl, ha, C.hG ▸ oc.1, C.hG ▸ oc.2 x hin, eu, h u H ⟨O, [], rE, .sh du, nd, Go.refl⟩⟩
    · exact h.elim
  · exact h.elim
end
end Vs
/-! V15: names and constants, freezing, chains, targets. -/
namespace Vs
open PySem PySem.Spec L2
open PyProof.Rows hiding St
section
variable {X : Cx} {G : Ga} {W : WX} {S : Sc} {Γ : Gam} {σ : L2.St} {H H' : Hp}
theorem lit_ok {d : PyData} {c : Const} {k : Nat} {pos : Pos} (h : litB d c = true) : PE X (.Constant c k pos) (tE G W (litE d)) := by
  unfold litB at h
  split at h
  · exact pImp pe_non fun σ H Q ⟨ρ, O, a, b, z⟩ => z _ _ ⟨O, [], a, .sh .non, b, Go.refl⟩
  · have e := eq_of_beq h
    subst e
    exact pImp pe_bl fun σ H Q ⟨ρ, O, a, b, z⟩ => z _ _ ⟨O, [], a, .sh (.bl _), b, Go.refl⟩
  · have e := of_decide_eq_true h
    subst e
    exact pImp pe_int fun σ H Q ⟨ρ, O, a, b, z⟩ => z _ _ ⟨O, [], a, .sh (.int _), b, Go.refl⟩
  · have e := of_decide_eq_true h
    subst e
    exact pImp pe_str fun σ H Q ⟨ρ, O, a, b, z⟩ => z _ _ ⟨O, [], a, .sh (.str _), b, Go.refl⟩
  · cases h
theorem mName_pe (C : Ctx G Γ S X) {i : Nat} {e : PySem.Expr} (h : mName S i e = true) : PE X e (tVar i) := by
  unfold mName at h
  split at h
  · exact C.vis h
  · cases h
theorem rd_ok (C : Ctx G Γ S X) {i : Nat} {e : PySem.Expr} (h : mName S i e = true) : PE X e (tE G W (rdE i)) := pImp (mName_pe C h) fun σ H Q ⟨ρ, O, a, b, z⟩ => by
  unfold rdE at z
  cases e1 : ρ[i]? with
  | none => rw [e1] at z; exact z.elim
  | some o =>
  cases o with
  | none => rw [e1] at z; exact z.elim
  | some d =>
  obtain ⟨v, O1, O2, c1, c2, c3, c4⟩ := a.out e1
  cases d with
  | sh d =>
    rw [e1] at z
    exact ⟨v, c1, z _ _ ⟨O, [], a, .sh c2.sh_of, b, Go.refl⟩⟩
  | tp _ => rw [e1] at z; exact z.elim
  | ls _ => rw [e1] at z; exact z.elim
  | dk _ _ => rw [e1] at z; exact z.elim
  | dd _ _ => rw [e1] at z; exact z.elim
  | ob => rw [e1] at z; exact z.elim
  | fn _ => rw [e1] at z; exact z.elim
  | fd => rw [e1] at z; exact z.elim
theorem mv_ok (C : Ctx G Γ S X) {i : Nat} {e : PySem.Expr} (h : mName S i e = true) : PE X e (tE G W (mvE i)) := pImp (mName_pe C h) fun σ H Q ⟨ρ, O, a, b, z⟩ => by
  unfold mvE at z
  cases e1 : ρ[i]? with
  | none => rw [e1] at z; exact z.elim
  | some o =>
  cases o with
  | none => rw [e1] at z; exact z.elim
  | some d =>
    obtain ⟨v, O1, O2, c1, c2, c3, c4⟩ := a.out e1
    rw [e1] at z
    exact ⟨v, c1, z _ _ ⟨O2, O1, c4, c2, c3.nodup b, Go.refl.less fun x q => c3.mem_iff.mpr q⟩⟩
theorem gl_ok (C : Ctx G Γ S X) {x : Str} {pos : Pos} (h : glB S x = true) : PE X (.Name x pos) (tE G W (glE (Γ.con x))) := by
  cases e : Γ.con x with
  | none => exact pe_false fun ρ => rfl
  | some d =>
    obtain ⟨g1, g2, _⟩ := C.gl h
    obtain ⟨u, v, a, b, c⟩ := C.con x d e
    exact pImp (pe_glob g1 a b g2) fun σ H Q ⟨ρ, O, k1, k2, z⟩ => z _ _ ⟨O, [], k1, .sh (by rw [C.hG]; exact c H), k2, Go.refl⟩
/-! ### what stands at a place; displays of dicts -/
theorem at_ok (C : Ctx G Γ S X) {i : Nat} {p : List PK} {e : PySem.Expr} (h : mPathR S i p.reverse e = true) : PE X e (tE G W (atE i p)) := pImp (mView_pe C h) fun σ H Q ⟨ρ, O, a, b, z⟩ => by
  unfold atE at z
  cases e1 : ρ[i]? with
  | none => simp only [e1] at z
  | some o =>
  cases o with
  | none => simp only [e1] at z
  | some root =>
  simp only [e1] at z
  cases e2 : getP p root with
  | none => simp only [e2] at z
  | some y =>
  cases y with
  | sh d =>
    simp only [e2] at z
    obtain ⟨v0, O1, O2, c1, c2, c3, c4⟩ := a.out e1
    obtain ⟨u, T, d1, d2, _⟩ := c2.place e2
    cases d2 with
    | sh d2 => exact ⟨v0, u, c1, d1, z _ _ ⟨O, [], a, .sh d2, b, Go.refl⟩⟩
  | tp _ => simp only [e2] at z
  | ls _ => simp only [e2] at z
  | dk _ _ => simp only [e2] at z
  | dd _ _ => simp only [e2] at z
  | ob => simp only [e2] at z
  | fn _ => simp only [e2] at z
  | fd => simp only [e2] at z
/-- the pairs of a display: constant keys -/
def kTr (G : Ga) (W : WX) : List Key → List Sop → List (TE × TE)
  | k :: ks, o :: os => (tC (kV k), tS1 G W o) :: kTr G W ks os
  | _, _ => []
theorem kTr_logic : ∀ {ks : List Key} {ops : List Sop} {σ : L2.St} {H : Hp} {R : List (V × V) → Hp → Prop}, ks.length = ops.length → tO G W ops σ H (fun vs H' => ∀ kvs : List (Key × V), kvs.map (·.1) = ks → kvs.map (·.2) = vs → R (kvs.map fun kv => (kV kv.1, kv.2)) H') → tPairs (kTr G W ks ops) σ H R
  | [], [], _, _, _, _, h => h [] rfl rfl
  | k :: ks, o :: os, σ, H, R, hl, h => by
    rw [tO_cons] at h
    refine tS1_mono h fun x H1 z => ?_
    refine kTr_logic (by simpa using hl) (tO_mono z fun vs H2 z kvs e1 e2 => ?_)
    exact z ((k, x) :: kvs) (by simp [e1]) (by simp [e2])
  | [], _ :: _, _, _, _, hl, _ => by simp at hl
  | _ :: _, [], _, _, _, hl, _ => by simp at hl
theorem kTr_pps {ops : List Sop} {pos : Pos} : ∀ {ks : List Key} {keys : List (Option PySem.Expr)} {vs : List PySem.Expr} {ops : List Sop}, mKeys ks keys = true → keys.length = vs.length → POs X G W vs ops → PPs X pos keys vs (kTr G W ks ops)
  | [], [], [], _, _, _, .nil => pps_nil
  | k :: ks, some (.Constant (.str x) _ _) :: keys, v :: vs, _, h, hl, .cons hv n hs => by
    unfold mKeys at h
    rw [Bool.and_eq_true, decide_eq_true_eq] at h
    obtain ⟨rfl, h⟩ := h
    exact pps_cons pe_str hv (kTr_pps (ops := []) h (by simpa using hl) hs)
  | k :: ks, some (.Constant (.int x) _ _) :: keys, v :: vs, _, h, hl, .cons hv n hs => by
    unfold mKeys at h
    rw [Bool.and_eq_true, decide_eq_true_eq] at h
    obtain ⟨rfl, h⟩ := h
    exact pps_cons pe_int hv (kTr_pps (ops := []) h (by simpa using hl) hs)
  | [], _ :: _, _, _, h, _, _ => by unfold mKeys at h; cases h
  | [], [], _ :: _, _, _, hl, _ => by simp at hl
  | _ :: _, [], _, _, h, _, _ => by unfold mKeys at h; cases h
  | _ :: _, _ :: _, [], _, _, hl, _ => by simp at hl
theorem mKeys_some : ∀ {ks : List Key} {keys : List (Option PySem.Expr)}, mKeys ks keys = true → keys.all (·.isSome) = true ∧ ks.length = keys.length
  | [], [], _ => ⟨rfl, rfl⟩
  | k :: ks, some (.Constant (.str x) _ _) :: keys, h => by
    unfold mKeys at h
    rw [Bool.and_eq_true] at h
    obtain ⟨a, b⟩ := mKeys_some h.2
    exact ⟨by simpa using a, by simp [b]⟩
  | k :: ks, some (.Constant (.int x) _ _) :: keys, h => by
    unfold mKeys at h
    rw [Bool.and_eq_true] at h
    obtain ⟨a, b⟩ := mKeys_some h.2
    exact ⟨by simpa using a, by simp [b]⟩
  | [], _ :: _, h => by unfold mKeys at h; cases h
  | _ :: _, [], h => by unfold mKeys at h; cases h
theorem merge_id : ∀ (kvs acc : List (Key × V)), (acc.map (·.1) ++ kvs.map (·.1)).Nodup → mergeK acc kvs = acc ++ kvs
  | [], acc, _ => by simp [mergeK]
  | (k, v) :: kvs, acc, h => by
    have hk : (acc.any fun kv => decide (kv.1 = k)) = false := by
      rw [Bool.eq_false_iff]
      intro z
      rw [List.any_eq_true] at z
      obtain ⟨p, hp, e⟩ := z
      rw [decide_eq_true_eq] at e
      rw [List.nodup_append] at h
      exact h.2.2 k (List.mem_map.mpr ⟨p, hp, e⟩) k (by simp) rfl
    have e : putK acc k v = acc ++ [(k, v)] := by unfold putK; rw [if_neg (by rw [hk]; simp)]
    show mergeK (putK acc k v) kvs = _
    rw [e, merge_id kvs (acc ++ [(k, v)]) (by simpa using h)]
    simp
theorem dct0_ok {pos : Pos} : PE X (.Dict [] [] pos) (tE G W (dctE [] [])) := pImp pe_dnewK fun σ H Q h p hp => by
  obtain ⟨ρ, O, rE, nd, h⟩ := h
  have h : ∀ v H', EvR G O σ H ρ (.dk [] []) v H' → Q v H' := h
  exact (new_ev rE nd Go.refl h) (.ref p) _ [p] (.dk (kvs := []) upd_same .nil) (by simp) (fun a q => by rw [List.mem_singleton] at q; rw [q]; exact hp) (frm_new hp)
theorem dct_ok {keys : List (Option PySem.Expr)} {vs : List PySem.Expr} {ks : List Key} {ops : List Sop} {pos : Pos} (hk : mKeys ks keys = true) (hl : keys.length = vs.length) (h0 : ks ≠ []) (h15 : keys.length ≤ 15) (ps : POs X G W vs ops) :
    PE X (.Dict keys vs pos) (tE G W (dctE ks ops)) := by
  obtain ⟨ha, hkl⟩ := mKeys_some hk
  have hol : ks.length = ops.length := by
    rw [hkl, hl]
    clear hk h15 hl hkl h0 ha
    induction ps with
    | nil => rfl
    | cons _ _ _ ih => simp [ih]
  refine pImp (pe_disp (kTr_pps (ops := []) hk hl ps) ha hl (fun z => h0 (by cases ks; rfl; rw [z] at hkl; simp at hkl)) h15) fun σ H Q h p hp => ?_
  refine kTr_logic hol ?_
  obtain ⟨ρ, O, rE, nd, h⟩ := h
  have f0 := frm_new (o := .dK []) hp
  have rE0 := rE.fr (S := []) f0 mut_nil fun _ _ z => nomatch z
  have hpO : p ∉ O := fun z => by
    obtain ⟨o, e⟩ := rE.mut.some p z
    rw [hp] at e; cases e
  refine run_ops ops ρ O rE0 nd ?_
  unfold OpsR
  unfold dctE at h
  cases er : runO ops ρ with
  | no => rw [er] at h; exact h.elim
  | ex x ρ' =>
    rw [er] at h
    intro cls dd H' ⟨O', a, b, c, e⟩
    exact h cls dd H' ⟨O', a, b, ⟨fun y o ey n => c.frm y o (f0 y o ey fun z => nomatch z) n, fun y q => (c.sub y q).imp id fun z => by
      by_cases hy : y = p
      · subst hy; exact hp
      · rw [upd_ne hy] at z; exact z⟩, e⟩
  | ok q =>
    obtain ⟨os, ρ2⟩ := q
    rw [er] at h
    intro us H2 O2 T rE2 rO nd2 go kvs k1 k2
    simp only [Res.bind] at h
    cases e1 : ods os with
    | none => simp only [e1] at h
    | some ds =>
      simp only [e1] at h
      by_cases hc : ks.length = ds.length ∧ ks.Nodup
      · rw [if_pos hc] at h
        have rs := ods_ok rO e1
        have hp2 : H2 p = some (.dK []) := go.frm p _ upd_same hpO
        have go' : Go O H (T ++ O2) H2 := ⟨fun y o ey n => go.frm y o (f0 y o ey fun z => nomatch z) n, fun y q => (go.sub y q).imp id fun z => by
          by_cases hy : y = p
          · subst hy; exact hp
          · rw [upd_ne hy] at z; exact z⟩
        have hn : p ∉ T ++ O2 := fun z => by
          rcases go.sub p z with y | y
          · exact hpO y
          · rw [upd_same] at y; cases y
        have em : mergeK [] kvs = kvs := by
          have := merge_id kvs [] (by rw [k1]; simpa using hc.2)
          simpa using this
        refine ⟨hp2, kvs, rfl, ?_, ?_⟩
        · have : kvs.length = ks.length := by rw [← k1]; simp
          omega
        · rw [em]
          subst k1 k2
          have fp : Frm [p] H2 (upd H2 p (.dK kvs)) := fun b u e n => by rw [upd_ne (fun q : b = p => n (by rw [q]; simp))]; exact e
          have mp : MutA H2 [p] := fun a q => by rw [List.mem_singleton] at q; subst q; rw [hp2]; trivial
          refine h _ _ ⟨O2, p :: T, rE2.fr fp mp (fun a q z => hn (List.mem_append_right _ (by rw [List.mem_singleton] at z; exact z ▸ q))), .dk upd_same (rs.fr fp mp fun a q z => hn (List.mem_append_left _ (by rw [List.mem_singleton] at z; exact z ▸ q))), ?_, ?_⟩
          · rw [List.cons_append]; exact List.nodup_cons.mpr ⟨hn, nd2⟩
          · refine ⟨fun y o ey n => ?_, fun y q => ?_⟩
            · rw [upd_ne (fun z : y = p => by rw [z, hp] at ey; cases ey)]
              exact go'.frm y o ey n
            · rcases List.mem_cons.mp q with rfl | q
              · exact .inr hp
              · exact go'.sub y q
      · rw [if_neg hc] at h; exact h.elim
/-! ### freezing -/
theorem freeze_all {pins : List (Addr × Obj)} {s : Shared} : ∀ (A : List Addr) {H : Hp}, Inv X pins σ H s → A.Nodup → (∀ a ∈ A, ∃ u, H a = some u ∧ Mut (some u)) → ∃ H2, Inv X pins σ H2 s ∧ (∀ b, b ∉ A → H2 b = H b) ∧ ∀ a ∈ A, ∀ u, H a = some u → ∃ o, H2 a = some (.frz o u)
  | [], H, I, _, _ => ⟨H, I, fun _ _ => rfl, fun _ q => nomatch q⟩
  | a :: A, H, I, nd, h => by
    obtain ⟨xs, hx, hm⟩ := h a List.mem_cons_self
    have nd' := List.nodup_cons.mp nd
    obtain ⟨o, I1⟩ := Inv.lock I hx hm
    obtain ⟨H2, I2, k1, k2⟩ := freeze_all A I1 nd'.2 fun b hb => by
      obtain ⟨ys, hy, hm2⟩ := h b (List.mem_cons_of_mem _ hb)
      exact ⟨ys, by rw [upd_ne (fun z : b = a => nd'.1 (z ▸ hb))]; exact hy, hm2⟩
    refine ⟨H2, I2, fun b hb => ?_, fun b hb u hu => ?_⟩
    · rw [List.mem_cons, not_or] at hb
      rw [k1 b hb.2, upd_ne hb.1]
    · rcases List.mem_cons.mp hb with rfl | hb
      · rw [hx] at hu; cases hu
        exact ⟨o, by rw [k1 _ nd'.1, upd_same]⟩
      · exact k2 b hb u (by rw [upd_ne (fun z : b = a => nd'.1 (z ▸ hb))]; exact hu)
theorem dk_one {H : Hp} {kvs : List (Key × V)} {ds : List D} {O : List Addr} {p : PyData} (hne : kvs ≠ []) (hs : Reps G H (kvs.map (·.2)) ds O) (e : D.fz (.dk (kvs.map (·.1)) ds) = some p) : ∃ (y : Str) (i : Int), kvs = [(.inr y, .int i)] ∧ p = .dict [(.str y, .int i)] ∧ O = [] := by
  match kvs, hne, hs, e with
  | [(.inr y, v)], _, hs, e =>
    cases hs with
    | @cons _ _ d _ O1 _ rv rs =>
      cases rs
      cases d with
      | sh q =>
        cases q with
        | int i =>
          have e : some (PyData.dict [(.str y, .int i)]) = some p := e
          cases e
          cases rv with
          | sh h =>
            cases h
            exact ⟨y, i, rfl, rfl, rfl⟩
        | _ => cases e
      | _ => cases e
  | [(.inl y, v)], _, hs, e => cases ds <;> cases e
  | (k1, v1) :: (k2, v2) :: r, _, hs, e => cases k1 <;> cases ds <;> cases e
mutual
theorem Rep.lsts : ∀ {v : V} {d : D} {T : List Addr} {p : PyData}, Rep G H v d T → d.fz = some p → ∀ a ∈ T, ∃ u, H a = some u ∧ Mut (some u)
  | _, _, _, _, .sh _, _, a, q => nomatch q
  | _, _, _, _, .tp (ds := ds) _ hs, e, a, q => by
    unfold D.fz at e
    cases e2 : D.fzs ds with
    | none => rw [e2] at e; cases e
    | some l => exact Reps.lsts hs e2 a q
  | _, _, _, _, .ls (ds := ds) h hs, e, a, q => by
    unfold D.fz at e
    cases e2 : D.fzs ds with
    | none => rw [e2] at e; cases e
    | some l =>
      rcases List.mem_cons.mp q with rfl | q
      · exact ⟨_, h, trivial⟩
      · exact Reps.lsts hs e2 a q
  | _, _, _, _, .dk (kvs := kvs) h hs, e, a, q => by
    cases kvs with
    | nil =>
      cases hs
      rcases List.mem_cons.mp q with rfl | q
      · exact ⟨_, h, trivial⟩
      · cases q
    | cons x r =>
      obtain ⟨_, _, _, _, eT⟩ := dk_one (kvs := x :: r) (by simp) hs e
      rw [eT] at q
      rcases List.mem_cons.mp q with rfl | q
      · exact ⟨_, h, trivial⟩
      · cases q
  | _, _, _, _, .ob _ _ _ _, e, _, _ => by unfold D.fz at e; cases e
  | _, _, _, _, .fn _, e, _, _ => by unfold D.fz at e; cases e
  | _, _, _, _, .fd _ _ _ _, e, _, _ => by unfold D.fz at e; cases e
theorem Reps.lsts : ∀ {vs : List V} {ds : List D} {T : List Addr} {l : List PyData}, Reps G H vs ds T → D.fzs ds = some l → ∀ a ∈ T, ∃ u, H a = some u ∧ Mut (some u)
  | _, _, _, _, .nil, _, a, q => nomatch q
  | _, _, _, _, .cons (d := d) (ds := ds) h hs, e, a, q => by
    unfold D.fzs at e
    cases e1 : D.fz d with
    | none => rw [e1] at e; cases e
    | some x =>
      cases e2 : D.fzs ds with
      | none => rw [e1, e2] at e; cases e
      | some m =>
        rcases List.mem_append.mp q with q | q
        · exact Rep.lsts h e1 a q
        · exact Reps.lsts hs e2 a q
end
mutual
theorem Rep.frozen {A : List Addr} (k1 : Frm A H H') (m : MutA H A) (k2 : ∀ a ∈ A, ∀ u, H a = some u → ∃ o, H' a = some (.frz o u)) : ∀ {v : V} {d : D} {T : List Addr} {p : PyData}, Rep G H v d T → d.fz = some p → (∀ a ∈ T, a ∈ A) → DpF G.K H' v p
  | _, _, _, _, .sh h, e, _ => by unfold D.fz at e; cases e; exact h.fr k1 m
  | _, _, _, _, .tp (ds := ds) h hs, e, n => by
    unfold D.fz at e
    cases e2 : D.fzs ds with
    | none => rw [e2] at e; cases e
    | some l => rw [e2] at e; cases e; exact .tup (SqN.fr (G := G) h k1 m) (Reps.frozen k1 m k2 hs e2 n)
  | _, _, _, _, .ls (ds := ds) h hs, e, n => by
    unfold D.fz at e
    cases e2 : D.fzs ds with
    | none => rw [e2] at e; cases e
    | some l => rw [e2] at e; cases e; exact .lst (.inl (k2 _ (n _ List.mem_cons_self) _ h)) (Reps.frozen k1 m k2 hs e2 fun a q => n a (List.mem_cons_of_mem _ q))
  | _, _, _, _, .dk (kvs := kvs) h hs, e, n => by
    cases kvs with
    | nil =>
      cases hs
      simp only [List.map_nil] at e
      unfold D.fz at e
      cases e
      obtain ⟨o, q⟩ := k2 _ (n _ List.mem_cons_self) _ h
      exact .dct q
    | cons x r =>
      obtain ⟨y, i, e1, e2, _⟩ := dk_one (kvs := x :: r) (by simp) hs e
      subst e2
      obtain ⟨o, q⟩ := k2 _ (n _ List.mem_cons_self) _ h
      rw [e1] at q
      exact .dc1 q
  | _, _, _, _, .ob _ _ _ _, e, _ => by unfold D.fz at e; cases e
  | _, _, _, _, .fn _, e, _ => by unfold D.fz at e; cases e
  | _, _, _, _, .fd _ _ _ _, e, _ => by unfold D.fz at e; cases e
theorem Reps.frozen {A : List Addr} (k1 : Frm A H H') (m : MutA H A) (k2 : ∀ a ∈ A, ∀ u, H a = some u → ∃ o, H' a = some (.frz o u)) : ∀ {vs : List V} {ds : List D} {T : List Addr} {l : List PyData}, Reps G H vs ds T → D.fzs ds = some l → (∀ a ∈ T, a ∈ A) → DpFs G.K H' vs l
  | _, _, _, _, .nil, e, _ => by unfold D.fzs at e; cases e; exact .nil
  | _, _, _, _, .cons (d := d) (ds := ds) h hs, e, n => by
    unfold D.fzs at e
    cases e1 : D.fz d with
    | none => rw [e1] at e; cases e
    | some x =>
      cases e2 : D.fzs ds with
      | none => rw [e1, e2] at e; cases e
      | some l =>
        rw [e1, e2] at e; cases e
        exact .cons (Rep.frozen k1 m k2 h e1 fun a q => n a (List.mem_append_left _ q)) (Reps.frozen k1 m k2 hs e2 fun a q => n a (List.mem_append_right _ q))
end
theorem fz_ok {e : PySem.Expr} {f : EF} (h : PE X e (tE G W f)) : PE X e (tE G W (fzE f)) := ⟨fun pins s σ H Q I z => by
  refine thn (h.run pins s σ H _ I (bindE z)) fun u s1 ⟨v, H1, I1, r1, ρ1, d, O1, T, rE, rv, nd, c⟩ => ?_
  cases ed : d.fz with
  | none => simp only [ed] at c; exact c.elim
  | some p =>
    simp only [ed] at c
    have nd' := nd_app.mp nd
    obtain ⟨H2, I2, k1, k2⟩ := freeze_all T I1 nd'.1 (rv.lsts ed)
    have f : Frm T H1 H2 := fun a o e n => by rw [k1 a n]; exact e
    have m := rv.mut
    refine ⟨v, H2, I2, r1, c v H2 ⟨O1, [], rE.fr f m (fun a q z => nd'.2.2 a z q), .sh (rv.frozen f m k2 ed fun a q => q), nd'.2.1, ⟨fun a o e n => f a o e fun q => n (List.mem_append_left _ q), fun a q => .inl (List.mem_append_right _ q)⟩⟩⟩⟩
/-! ### chains -/
theorem chn_logic {o o' : Op} {f f' : D → D → Option D} (h1 : ∀ ds, opD o ds = bi2 f ds) (h2 : ∀ ds, opD o' ds = bi2 f' ds) {a b c : EF} {Q : VK} (h : tE G W (chnE (opD o) (opD o') a b c) σ H Q) :
    tChain (r2 G f) (r2 G f') (tE G W a) (tE G W b) (tE G W c) σ H Q := by
  obtain ⟨ρ, O, rE, nd, h⟩ := tE_iff.mp h
  have main : tO G W [.e a, .e b] σ H fun vs H2 => ∃ x y, vs = [x, y] ∧ r2 G f x y H2 fun z H3 => ∃ k, z = .bl k ∧ (if k = true then tE G W c σ H3 fun w' H4 => r2 G f' y w' H4 Q else Q (.bl false) H3) := by
    refine run_ops _ ρ O rE nd ?_
    unfold OpsR
    unfold chnE at h
    cases er : runO [.e a, .e b] ρ with
    | no => rw [er] at h; exact h.elim
    | ex x ρ' => rw [er] at h; exact h
    | ok q =>
      obtain ⟨os, ρ2⟩ := q
      rw [er] at h
      intro vs H2 O2 T rE2 rO nd2 go
      simp only [Res.bind] at h
      cases e1 : ods os with
      | none => simp only [e1] at h; exact h.elim
      | some ds =>
      have rs := ods_ok rO e1
      simp only [e1] at h
      split at h
      · rename_i dx dy e2
        cases e2
        cases rs with
        | @cons x _ _ _ Tx _ rx rs =>
          cases rs with
          | @cons y _ _ _ Ty _ ry rs =>
            cases rs
            rw [List.append_nil] at nd2 go
            have nd3 := nd_app.mp nd2
            split at h
            · rename_i e3
              rw [h1] at e3
              refine ⟨x, y, rfl, dx, dy, _, Tx, Ty, rx, ry, e3, fun z H3 T3 rz ndz new f3 => ?_⟩
              cases rz with
              | sh rz =>
                cases rz
                refine ⟨true, rfl, ?_⟩
                rw [if_pos rfl]
                have rE3 := rE2.fr (S := []) f3 mut_nil fun _ _ z => nomatch z
                have ry3 := ry.fr (S := []) f3 mut_nil fun _ _ z => nomatch z
                refine tE_iff.mpr ⟨ρ2, O2, rE3, nd3.2.1, ?_⟩
                have go3 : Go O H (Tx ++ Ty ++ O2) H3 := go.trans ⟨fun a o e n => f3 a o e (fun z => nomatch z), fun a q => .inl q⟩
                cases ec : c ρ2 with
                | no => rw [ec] at h; exact h.elim
                | ex x ρ' =>
                  rw [ec] at h
                  intro cls dd H' z
                  exact h cls dd H' (z.more (go3.less fun a q => List.mem_append_right _ q))
                | ok q =>
                  obtain ⟨dw, ρ3⟩ := q
                  rw [ec] at h
                  simp only at h
                  intro w H4 ⟨O4, T4, k1, k2, k3, k4⟩
                  cases e4 : opD o' [dy, dw] with
                  | none => simp only [e4] at h; exact h.elim
                  | some d =>
                    simp only [e4] at h
                    have dis : ∀ a ∈ Ty, a ∉ O2 := fun a q z => nd3.2.2 a (List.mem_append_right _ q) z
                    rw [h2] at e4
                    refine ⟨dy, dw, d, Ty, T4, ry3.fr k4.frm rE3.mut dis, k2, e4, ?_⟩
                    exact new_ev (O := O) (H := H) k1 (nd_app.mp k3).2.1 ((go3.less fun a q => List.mem_append_right _ q).trans (k4.less fun a q => List.mem_append_right _ q)) h
            · rename_i e3
              rw [h1] at e3
              refine ⟨x, y, rfl, dx, dy, _, Tx, Ty, rx, ry, e3, fun z H3 T3 rz ndz new f3 => ?_⟩
              cases rz with
              | sh rz =>
                cases rz
                refine ⟨false, rfl, ?_⟩
                rw [if_neg Bool.false_ne_true]
                exact h _ _ ⟨O2, [], rE2.fr (S := []) f3 mut_nil (fun _ _ z => nomatch z), .sh (.bl false), nd3.2.1, (go.trans ⟨fun a o e n => f3 a o e (fun z => nomatch z), fun a q => .inl q⟩).less fun a q => List.mem_append_right _ q⟩
            · exact h.elim
      · exact h.elim
  rw [tO_cons, tO_cons] at main
  refine tS1_mono main fun x H1 z => tS1_mono z fun y H2 ⟨x', y', e, z⟩ => ?_
  cases e
  exact z
theorem chn_ok (C : Ctx G Γ S X) {o o' : Op} {p p' : CmpOp} {x y z : PySem.Expr} {a b c : EF} {pos : Pos} (e1 : cmpOf o = some p) (e2 : cmpOf o' = some p') (n : notSet z = true) (ha : PE X x (tE G W a)) (hb : PE X y (tE G W b)) (hc : PE X z (tE G W c)) :
    PE X (.Compare x [p, p'] [y, z] pos) (tE G W (chnE (opD o) (opD o') a b c)) := by
  obtain ⟨f, h1, r⟩ := cmp_ok C e1
  obtain ⟨f', h2, r'⟩ := cmp_ok C e2
  exact pImp (pe_chain r r' ha hb hc (by unfold lastMarks lastMarks; exact nobeh n)) fun σ H Q h => chn_logic h1 h2 h
theorem chn_okT (C : Ctx G Γ S X) {o o' : Op} {p p' : CmpOp} {x y z : PySem.Expr} {a b c : EF} {pos : Pos} (e1 : cmpOf o = some p) (e2 : cmpOf o' = some p') (n : notSet z = true) (ha : PE X x (tE G W a)) (hb : PE X y (tE G W b)) (hc : PE X z (tE G W c)) :
    PT X (.Compare x [p, p'] [y, z] pos) (tT G W (boolE (chnE (opD o) (opD o') a b c))) := by
  obtain ⟨f, h1, r⟩ := cmp_ok C e1
  obtain ⟨f', h2, r'⟩ := cmp_ok C e2
  exact ptImp (pt_chain r r' ha hb hc (by unfold lastMarks lastMarks; exact nobeh n)) fun σ H Q h => chn_logic h1 h2 (boolE_logic h)
theorem isD0_eq {d : PyData} (h : isD0 d = true) : d = .dict [] := by
  unfold isD0 at h
  split at h
  · rfl
  · cases h
/-- a dict that has nothing, made shared at once -/
theorem lit0_ok {pos : Pos} : PE X (.Dict [] [] pos) (tE G W (litE (.dict []))) := by
  have h := fz_ok (dct0_ok (X := X) (G := G) (W := W) (pos := pos))
  have e : fzE (dctE [] []) = litE (.dict []) := rfl
  rw [e] at h
  exact h
end
end Vs
/-! VI: t.index(x), t.count(x), t a tuple by a name. -/
namespace Vs
open PySem PySem.Spec L2
open PyProof.Rows hiding St
section
variable {X : Cx} {G : Ga} {W : WX} {S : Sc} {Γ : Gam}
def rTupC (K : PySem.W.Frag) : V → List V → Hp → VK → Prop := fun x xs H Q => ∃ (a : Addr) (vs : List V) (y : V) (p : PyData) (l : List PyData), x = .ref a ∧ xs = [y] ∧ SqT K H a vs ∧ DpAll K H vs l ∧ Dp K H y p ∧
  SeqAt.shaped (.tuple l) = true ∧ SeqAt.shaped p = true ∧ Q (.int (l.countP fun z => PyData.eqv z p : Nat)) H
def rTupI (K : PySem.W.Frag) : V → List V → Hp → VK → Prop := fun x xs H Q => ∃ (a : Addr) (vs : List V) (y : V) (p : PyData) (l : List PyData) (j : Nat), x = .ref a ∧ xs = [y] ∧ SqT K H a vs ∧ DpAll K H vs l ∧ Dp K H y p ∧
  SeqAt.shaped (.tuple l) = true ∧ SeqAt.shaped p = true ∧ (l.findIdx? fun z => PyData.eqv z p) = some j ∧ Q (.int (j : Nat)) H
theorem mt_tupC (hu : X.A.units + 65 < cLine) : MtR X "tuple.count" (rTupC X.K) := by
  intro pins s σ H x xs v us Q I rx rxs h
  obtain ⟨a, vs, y, p, l, rfl, rfl, hs, hl, hy, sl, sp, q⟩ := h
  cases rx
  obtain ⟨uy, rfl, ry⟩ := vals1 rxs
  obtain ⟨bs, ry⟩ := Dp.reads I p y uy hy ry
  obtain ⟨its, rv, ⟨⟨cl, dd, dt, sls⟩, ho, hc, n, hd⟩, _⟩ := I.tuple hs
  simp only at hc hd
  subst hc hd
  obtain ⟨as, rl⟩ := Dp.readsAll I l _ its hl rv
  have cl := SeqAt.canLay_of_shaped sl
  have same := SeqAt.readsAll_map l its as cl rl
  have tot : its.toArray.toList.countP (fun u => PyData.eqv (SeqAt.readOf s.heap u) p) = l.countP fun z => PyData.eqv z p := by
    conv => rhs; rw [← same, List.countP_map]
    rfl
  refine call_meets PySem.F.slot_tuple_count ⟨_, ho, rfl⟩ PySem.F.entry_tuple_count (PySem.F.args_tuple_count_2 _ _) (SeqAt.tuple_countAt a its.toArray n dd sls uy fun u => PyData.eqv (SeqAt.readOf s.heap u) p)
    ⟨ho, SeqAt.items_eqAt (vs := its.toArray) (show ReadsAll s.heap its.toArray.toList l as from rl) ry cl (SeqAt.canLay_of_shaped sp) (room_in_shaped sp hu), .int (l.countP fun z => PyData.eqv z p : Nat), H, I.tok _, ⟨s.toks, ?_⟩, q⟩
  rw [tot]
theorem mt_tupI (hu : X.A.units + 65 < cLine) : MtR X "tuple.index" (rTupI X.K) := by
  intro pins s σ H x xs v us Q I rx rxs h
  obtain ⟨a, vs, y, p, l, j, rfl, rfl, hs, hl, hy, sl, sp, ej, q⟩ := h
  cases rx
  obtain ⟨uy, rfl, ry⟩ := vals1 rxs
  obtain ⟨bs, ry⟩ := Dp.reads I p y uy hy ry
  obtain ⟨its, rv, ⟨⟨cl, dd, dt, sls⟩, ho, hc, n, hd⟩, _⟩ := I.tuple hs
  simp only at hc hd
  subst hc hd
  obtain ⟨as, rl⟩ := Dp.readsAll I l _ its hl rv
  have cl := SeqAt.canLay_of_shaped sl
  have same := SeqAt.readsAll_map l its as cl rl
  obtain ⟨h1, h2, h3⟩ := List.findIdx?_eq_some_iff_getElem.mp ej
  have len : its.length = l.length := by rw [← same, List.length_map]
  have look : ∀ (m : Nat) (hm : m < its.toArray.size), PyData.eqv (SeqAt.readOf s.heap its.toArray[m]) p = PyData.eqv (l[m]'(by rw [← len]; simpa using hm)) p := fun m hm => by
    have hm' : m < its.length := by simpa using hm
    have e : l[m]? = some (SeqAt.readOf s.heap its[m]) := by rw [← same, List.getElem?_map, List.getElem?_eq_getElem hm']; rfl
    have e2 := (List.getElem?_eq_some_iff.mp e).2
    rw [e2]
    simp
  have hj : j < its.toArray.size := by rw [List.size_toArray, len]; exact h1
  refine call_meets PySem.F.slot_tuple_index ⟨_, ho, rfl⟩ PySem.F.entry_tuple_index (PySem.F.args_tuple_index_2 _ _) (_root_.TI.tuple_indexAt a its.toArray n dd sls uy (fun u => PyData.eqv (SeqAt.readOf s.heap u) p) j hj ((look j hj).trans h2) fun m hm lt => ?_)
    ⟨ho, SeqAt.items_eqAt (vs := its.toArray) (show ReadsAll s.heap its.toArray.toList l as from rl) ry cl (SeqAt.canLay_of_shaped sp) (room_in_shaped sp hu), .int (j : Nat), H, I.tok _, ⟨s.toks, rfl⟩, q⟩
  show PyData.eqv (SeqAt.readOf s.heap its.toArray[m]) p = false
  rw [look m hm]
  simpa using h3 m lt
def tyTup (K : PySem.W.Frag) (x : V) (H : Hp) : Prop := ∃ a xs, x = .ref a ∧ SqN K H a xs
theorem ty_tup : TyOk X "tuple" (tyTup X.K) := by
  intro pins σ H s x v I r h
  obtain ⟨a, xs, rfl, h⟩ := h
  cases r
  obtain ⟨its, _, ⟨o, ho, hc, _⟩, _⟩ := I.tuple h.t
  refine ⟨⟨o, ho, hc⟩, fun b e => ?_⟩
  cases e
  rcases h with ⟨o', h, e⟩ | ⟨o', its', n', h, _, e, _⟩
  · exact ⟨o', (show ObjOk X.prog X.w H s.heap a (.frz o' (.tup xs)) from I.hok a _ h).1, e⟩
  · exact ⟨o', I.kIn a o' h, e⟩
theorem shTup_some {o : Option (Option D)} {l : List PyData} (h : shTup o = some l) : o = some (some (.sh (.tuple l))) := by
  unfold shTup at h
  split at h
  · cases h; rfl
  · cases h
/-- what it gives -/
theorem tm_logic {c : Bool} {i : Nat} {op : Sop} {f : EF} {σ : L2.St} {H : Hp} {Q : VK} (hop : op = .e f) (h : tE G W (tmE c i f) σ H Q) : tVar i σ H fun x H1 => tyTup G.K x H1 ∧ tO G W [op] σ H1 fun vs H2 => if c = true then rTupC G.K x vs H2 Q else rTupI G.K x vs H2 Q := by
  subst hop
  obtain ⟨ρ, O, rE, nd, h⟩ := h
  unfold tmE at h
  cases e1 : shTup ρ[i]? with
  | none => simp only [e1] at h
  | some l =>
  simp only [e1] at h
  obtain ⟨v0, O1, O2, e2, r0, pm, _⟩ := rE.out (shTup_some e1)
  obtain ⟨a, xs, rfl, hN, hl⟩ := r0.tupN_of
  refine ⟨.ref a, e2, ⟨a, xs, rfl, hN⟩, run_ops [.e f] ρ O rE nd ?_⟩
  unfold OpsR runO
  cases ef : f ρ with
  | no => rw [ef] at h; exact h.elim
  | ex x ρ' => rw [ef] at h; exact h
  | ok q =>
    obtain ⟨d, ρ2⟩ := q
    rw [ef] at h
    simp only [Res.bind, runO] at h ⊢
    intro vs H2 O' T rE2 rO nd2 go
    have m := rE.mut
    cases rO with
    | @d v _ _ _ P T r rO =>
      cases rO
      cases d with
      | sh p =>
        cases r with
        | sh r =>
        simp only [tmR] at h
        have hs2 := SqN.fr hN go.frm m
        have hl2 := DpFs.fr hl go.frm m
        have fin : ∀ i : Nat, (∀ v' H', EvR G O σ H ρ2 (DI i) v' H' → Q v' H') → Q (.int i) H2 := fun i z => z _ _ ⟨O', [], rE2, .sh (.int i), by simpa using nd2, by simpa using go⟩
        by_cases hc : (SeqAt.shaped p && SeqAt.shaped (.tuple l)) = true
        · rw [if_pos hc] at h
          rw [Bool.and_eq_true] at hc
          cases c with
          | true =>
            rw [if_pos rfl] at h
            exact ⟨a, xs, v, p, l, rfl, rfl, hs2.t, hl2.dp (by simpa [PyData.hasDict] using nd_shaped hc.2), r.dp (nd_shaped hc.1), hc.2, hc.1, fin _ h⟩
          | false =>
            rw [if_neg (by decide)] at h
            cases ej : l.findIdx? fun y => PyData.eqv y p with
            | none => simp only [ej] at h
            | some j =>
              simp only [ej] at h
              exact ⟨a, xs, v, p, l, j, rfl, rfl, hs2.t, hl2.dp (by simpa [PyData.hasDict] using nd_shaped hc.2), r.dp (nd_shaped hc.1), hc.2, hc.1, ej, fin _ h⟩
        · rw [if_neg hc] at h; exact h.elim
      | tp _ => exact h.elim
      | ls _ => exact h.elim
      | dk _ _ => exact h.elim
      | dd _ _ => exact h.elim
      | ob => exact h.elim
      | fn _ => exact h.elim
      | fd => exact h.elim
theorem tm_ok (C : Ctx G Γ S X) {c : Bool} {i : Nat} {o e : PySem.Expr} {f : EF} {name : Str} {ap cp : Pos} (hn : name = (if c = true then "count" else "index")) (ho : mName S i o = true) (he : PE X e (tE G W f)) (hs : notStar e = true) (hl : (ap.endLine == cp.line) = true) :
    PE X (.Call (.Attribute o name ap) [e] [] cp) (tE G W (tmE c i f)) := by
  subst hn
  unfold mName at ho
  split at ho
  · have ps : POs X G W [e] [.e f] := .cons he hs .nil
    have few := few_of ps (by simp) cp
    have un := C.un
    have pl : (backTo cp (starEach [] X.env)).any (·.1) = false := rfl
    cases c with
    | true =>
      exact pImp (pe_mG (ty_tup (X := X)) PySem.F.plainAttrs_tuple PySem.F.slot_tuple_count PySem.F.type_tuple_count (mt_tupC (by omega)) (C.vis ho) ps.pa rfl few hl (star1 hs) pl) fun σ H Q h => by
        obtain ⟨v, e1, t, z⟩ := tm_logic (c := true) rfl h
        exact ⟨v, e1, C.hG ▸ t, tO_mono z fun vs H2 q => C.hG ▸ q⟩
    | false =>
      exact pImp (pe_mG (ty_tup (X := X)) PySem.F.plainAttrs_tuple PySem.F.slot_tuple_index PySem.F.type_tuple_index (mt_tupI (by omega)) (C.vis ho) ps.pa rfl few hl (star1 hs) pl) fun σ H Q h => by
        obtain ⟨v, e1, t, z⟩ := tm_logic (c := false) rfl h
        exact ⟨v, e1, C.hG ▸ t, tO_mono z fun vs H2 q => C.hG ▸ q⟩
  · cases ho
end
end Vs
/-! VM: {k: v} with a tuple as key. -/
namespace Vs
open PySem PySem.Spec L2
open PyProof.Rows hiding St
section
variable {X : Cx} {G : Ga} {W : WX}
theorem dict_pairsO {prog : Program} {w : World} {K : Type} [DecidableEq K] {knd : HeapKind prog w K} {A : Around} {E : Value → Shared → Prop} {s : Shared} {env : PySem.Env} {keys : List (Option PySem.Expr)} {values : List PySem.Expr} {pos : Pos} {pairs : List (Sem Value × Sem Value)} {Q : Value → Shared → Prop} (hu : knd.room A)
    (hshape : (evalEachOpt keys env).zip ((evalEach values env).map fun v => do let x ← v; standAt pos; pure x) = pairs.map fun p => (some p.1, p.2)) (h0 : pairs ≠ []) (hlen : pairs.length ≤ 15)
    (h : wpAny (model prog w) A (evalPairs pairs) (fun vs s₁ => ∃ ps, CarriesH knd s₁.heap vs ps ∧ s₁.heap.DictOfH knd s.heap.objs.size [] ∧
      ∀ h' tk, h'.DictOfH knd s.heap.objs.size (storedAllH [] ps) → Heap.SameBut s.heap.objs.size s₁.heap h' → Q (.ref s.heap.objs.size) { s₁ with heap := h', toks := tk }) E
      { s with heap := s.heap.push { cls := .type "dict", data := .dict #[] } }) :
    wpAny (model prog w) A (eval (.Dict keys values pos) env) Q E s := by
  rw [arm_eval_Dict, hshape, dictDisplay_pairs pairs h0 (by omega)]
  exact wpAny_bind (wpAny_standAt (wpAny_bind (wpAny_subDictH (knd := knd) (Q := fun d s' => wpAny (model prog w) A (pure (Value.ref d)) Q E s') hu hlen
    (wpAny_mono h (fun vs s₁ h₁ => by obtain ⟨ps, hc, hm, hq⟩ := h₁; exact ⟨ps, hc, hm, fun h' tk a b => wpAny_pure (hq h' tk a b)⟩) fun _ _ e => e))))
theorem vv_one {x y : V} {ws : List (Value × Value)} (r : VV [(x, y)] ws) : ∃ a b, ws = [(a, b)] ∧ RelV x a ∧ RelV y b := by
  cases r with
  | @cons p q ps qs h t =>
    cases t
    obtain ⟨a, b⟩ := q
    exact ⟨a, b, rfl, h.1, h.2⟩
/-- {k: v}; the new dict stands empty while the pair is made -/
def tDispN (X : Cx) (tk tv : TE) : TE := fun σ H Q => ∀ p, H p = none → tk σ (upd H p (.dK [])) fun x H1 => tv σ H1 fun y H2 => H2 p = some (.dK []) ∧ ∃ b k d, x = .ref b ∧ DpF X.K H2 (.ref b) d ∧ tkey d = some k ∧ Q (.ref p) (upd H2 p (dtO X.w p [(k, b, y)]))
theorem pe_dispN (hu : X.A.units + 65 < cLine) {k v : PySem.Expr} {pos : Pos} {tk tv : TE} (hk : PE X k tk) (hv : PE X v tv) : PE X (.Dict [some k] [v] pos) (tDispN X tk tv) := by
  refine ⟨fun pins s σ H Q I q => ?_⟩
  have hn := I.hok.fresh (Nat.le_refl s.heap.objs.size)
  have I1 := I.laid (a := s.heap.objs.size) (o := .dK []) (h' := s.heap.push { cls := .type "dict", data := .dict #[] }) (t' := s.toks) (fun _ _ q => Heap.get?_push_of_some _ q) (Nat.le_refl _) (dk_empty s.heap I.big)
  have hroom : (nestedKind X.prog X.w).room X.A := by
    show X.A.units + 8 < cLine
    omega
  refine dict_pairsO (knd := nestedKind X.prog X.w) (pairs := pairTrees [some k] [v] X.env pos) hroom (zip_pairTrees [some k] [v] X.env pos rfl rfl) (by simp [pairTrees]) (by simp [pairTrees]) ?_
  refine thn ((pps_cons hk hv pps_nil).run pins _ σ _ (fun ps H2 => match ps with
    | [(x, y)] => H2 s.heap.objs.size = some (.dK []) ∧ ∃ b k d, x = .ref b ∧ DpF X.K H2 (.ref b) d ∧ tkey d = some k ∧ Q (.ref s.heap.objs.size) (upd H2 s.heap.objs.size (dtO X.w s.heap.objs.size [(k, b, y)]))
    | _ => False) I1 (q _ hn)) fun ws s2 ⟨ps, H2, I2, rel, z⟩ => ?_
  match ps, rel, z with
  | [(x, y)], rel, z =>
    obtain ⟨e, b, kk, d, ex, hd, ek, q2⟩ := z
    obtain ⟨wk, wv, rfl, r1, r2⟩ := vv_one rel
    subst ex
    obtain rfl : wk = Value.ref b := r1
    obtain ⟨_, na, xs, p0, dd⟩ := (DDat.emp e : DDat X H2 s.heap.objs.size []).rd I2
    cases p0
    refine ⟨[(kk, b, wv)], ⟨rfl, rfl, tkey_is I2 hd ek, trivial⟩, dd, fun h' tk dd' hs => ?_⟩
    have es : storedAllH [] [(kk, b, wv)] = [(kk, b, wv)] := rfl
    rw [es] at dd'
    obtain ⟨o, es, ep, hq, h2, h3, h4, _, h5⟩ := dd'
    have hP : dtP X.w s.heap.objs.size [(kk, b, y)] h' := ⟨by rw [sizeLine_eq]; simp, na, [(kk, b, wv)], .cons ⟨rfl, rfl, r2⟩ .nil, o, es, ep, hq, h2, h3, h4, h5⟩
    have ob : ObjOk X.prog X.w (upd H2 s.heap.objs.size (dtO X.w s.heap.objs.size [(kk, b, y)])) h' s.heap.objs.size (dtO X.w s.heap.objs.size [(kk, b, y)]) := ⟨hP, ⟨o, hq⟩, fun h1 h2 ⟨z1, z2, ys, y1, o1, es1, ep1, y2, y3⟩ st => ⟨z1, z2, ys, y1, o1, es1, ep1, st _ y2, y3⟩⟩
    exact ⟨.ref s.heap.objs.size, _, d_write I2 (by rw [e]; exact True.intro) hs ⟨o, hq⟩ ob, rfl, q2⟩
  | [], _, z => exact z.elim
  | _ :: _ :: _, _, z => exact z.elim
theorem run2 {f g : EF} {ρ ρ2 : Env} {os : List Ov} (h : runO [.e f, .e g] ρ = .ok (os, ρ2)) : ∃ a b, os = [.d a, .d b] := by
  unfold runO at h
  cases ef : f ρ with
  | ok q =>
    rw [ef] at h
    have h : ((runO [.e g] q.2).bind fun z => Res.ok (Ov.d q.1 :: z.1, z.2)) = .ok (os, ρ2) := h
    unfold runO at h
    cases eg : g q.2 with
    | ok z =>
      rw [eg] at h
      have h : Res.ok ([Ov.d q.1, Ov.d z.1], z.2) = Res.ok (os, ρ2) := h
      cases h
      exact ⟨_, _, rfl⟩
    | ex x r => rw [eg] at h; cases h
    | no => rw [eg] at h; cases h
  | ex x r => rw [ef] at h; cases h
  | no => rw [ef] at h; cases h
theorem mkd_ok (hG : G.K = X.K) (hw : G.w = X.w) (hu : X.A.units + 65 < cLine) {k v : PySem.Expr} {pos : Pos} {f g : EF} (ha : PE X k (tE G W f)) (hb : PE X v (tE G W g)) : PE X (.Dict [some k] [v] pos) (tE G W (opE (bi2 oMkd) [.e f, .e g])) := by
  refine pImp (pe_dispN hu ha hb) fun σ H Q h p hp => ?_
  have goal : tO G W [.e f, .e g] σ (upd H p (.dK [])) (fun vs H2 => match vs with
    | [x, y] => H2 p = some (.dK []) ∧ ∃ b k d, x = .ref b ∧ DpF X.K H2 (.ref b) d ∧ tkey d = some k ∧ Q (.ref p) (upd H2 p (dtO X.w p [(k, b, y)]))
    | _ => False) := by
    obtain ⟨ρ, O, rE, nd, h⟩ := h
    have f0 := frm_new (o := .dK []) hp
    have rE0 := rE.fr (S := []) f0 mut_nil fun _ _ z => nomatch z
    have hpO : p ∉ O := fun z => by
      obtain ⟨o, e⟩ := rE.mut.some p z
      rw [hp] at e; cases e
    refine run_ops [.e f, .e g] ρ O rE0 nd ?_
    unfold OpsR
    unfold opE at h
    cases er : runO [.e f, .e g] ρ with
    | no => rw [er] at h; exact h.elim
    | ex x ρ' =>
      rw [er] at h
      intro cls dd H' ⟨O', a, b, c, e⟩
      exact h cls dd H' ⟨O', a, b, ⟨fun y o ey n => c.frm y o (f0 y o ey fun z => nomatch z) n, fun y q => (c.sub y q).imp id fun z => by
        by_cases hy : y = p
        · subst hy; exact hp
        · rw [upd_ne hy] at z; exact z⟩, e⟩
    | ok q =>
      obtain ⟨os, ρ2⟩ := q
      obtain ⟨a, b, rfl⟩ := run2 er
      rw [er] at h
      intro us H2 O2 T rE2 rO nd2 go
      cases rO with
      | @d x us1 _ _ T1 _ ra rs =>
        cases rs with
        | @d y us2 _ _ T2 _ rb rs2 =>
          cases rs2
          simp only [Res.bind] at h
          have e1 : ovs [Ov.d a, .d b] ρ2 = some [a, b] := rfl
          have e3 : unlock [Ov.d a, .d b] ρ2 = some ρ2 := rfl
          cases e2 : bi2 oMkd [a, b] with
          | none => simp only [e1, e2] at h
          | some d =>
            simp only [e1, e2, e3] at h
            unfold bi2 oMkd at e2
            dsimp only at e2
            split at e2
            · rename_i kk
              split at e2
              · rename_i nk ek
                cases e2
                obtain ⟨hk, t1⟩ : DpF G.K H2 x kk ∧ T1 = [] := by cases ra with | sh h => exact ⟨h, rfl⟩
                subst t1
                have hk0 := hk
                rw [hG] at hk
                obtain ⟨bb, ex⟩ := tkey_ref hk ek
                subst ex
                have go' : Go O H (([] ++ (T2 ++ [])) ++ O2) H2 := ⟨fun y o ey n => go.frm y o (f0 y o ey fun z => nomatch z) n, fun y q => (go.sub y q).imp id fun z => by
                  by_cases hy : y = p
                  · subst hy; exact hp
                  · rw [upd_ne hy] at z; exact z⟩
                have hp2 : H2 p = some (.dK []) := go.frm p _ upd_same hpO
                have hn : p ∉ ([] ++ (T2 ++ [])) ++ O2 := fun z => by
                  rcases go.sub p z with y | y
                  · exact hpO y
                  · rw [upd_same] at y; cases y
                simp only [List.nil_append, List.append_nil] at go' hn nd2
                refine ⟨hp2, bb, nk, kk, rfl, hk, ek, ?_⟩
                have fp : Frm [p] H2 (upd H2 p (dtO X.w p [(nk, bb, y)])) := fun b u e n => by rw [upd_ne (fun q : b = p => n (by rw [q]; simp))]; exact e
                have mp : MutA H2 [p] := fun a q => by rw [List.mem_singleton] at q; subst q; rw [hp2]; trivial
                have hk' : DpFs G.K (upd H2 p (dtO X.w p [(nk, bb, y)])) [.ref bb] [kk] := by
                  exact .cons (DpF.fr hk0 fp mp) .nil
                have rb' : Reps G (upd H2 p (dtO X.w p [(nk, bb, y)])) [y] [b] (T2 ++ []) := .cons (rb.fr fp mp fun a q z => hn (List.mem_append_left _ (by rw [List.mem_singleton] at z; exact z ▸ q))) .nil
                rw [List.append_nil] at rb'
                refine h _ _ ⟨O2, p :: T2, rE2.fr fp mp (fun a q z => hn (List.mem_append_right _ (by rw [List.mem_singleton] at z; exact z ▸ q))), .dd (kvs := [(nk, bb, y)]) (by rw [hw]; exact upd_same) hk' (by simp [ek]) rb', ?_, ?_⟩
                · rw [List.cons_append]; exact List.nodup_cons.mpr ⟨hn, nd2⟩
                · refine ⟨fun y o ey n => ?_, fun y q => ?_⟩
                  · rw [upd_ne (fun z : y = p => by rw [z, hp] at ey; cases ey)]
                    exact go'.frm y o ey n
                  · rcases List.mem_cons.mp q with rfl | q
                    · exact .inr hp
                    · exact go'.sub y q
              · cases e2
            · cases e2
  exact goal
end
end Vs
/-! V16: targets; what is walked. -/
namespace Vs
open PySem PySem.Spec L2
open PyProof.Rows hiding St
def gNames : List Nat → TGs
  | [] => gNil
  | i :: is => gCons (gName i) (gNames is)
def gT (K : PySem.W.Frag) : Tg → TG
  | .nm i => gName i
  | .tp is => gTup K is.length (gNames is)
  | .tn i js => gTup K 2 (gCons (gName i) (gCons (gTup K js.length (gNames js)) gNil))
section
variable {X : Cx} {G : Ga} {W : WX} {S : Sc} {Γ : Gam} {σ : L2.St} {H H' : Hp}
theorem RepE.setv {ρ : Env} {O T : List Addr} {i : Nat} {v : V} {d : D} (rE : RepE G H σ ρ O) (r : Rep G H v d T) (nd : (T ++ O).Nodup) (hi : i < ρ.length) :
    ∃ O', RepE G H (σ.set i (some v)) (ρ.set i (some d)) O' ∧ O'.Nodup ∧ (∀ a ∈ O', a ∈ T ++ O) := by
  obtain ⟨O2, sb, r2⟩ := rE.drop i
  have e1 : (ρ.set i none)[i]? = some none := by simp [hi]
  have r3 := r2.any i (some v) e1
  have hs : i < σ.length := by rw [← rE.len]; exact hi
  obtain ⟨O3, pm, r4⟩ := r3.put e1 (by simp [hs]) r
  rw [List.set_set] at r4
  have nd' := nd_app.mp nd
  refine ⟨O3, r4, pm.nodup_iff.mpr (nd_app.mpr ⟨nd'.1, sb.nodup nd'.2.1, fun a q z => nd'.2.2 a q (sb.subset z)⟩), fun a q => ?_⟩
  rcases List.mem_append.mp (pm.mem_iff.mp q) with z | z
  · exact List.mem_append_left _ z
  · exact List.mem_append_right _ (sb.subset z)
/-- the slots' values differ at these alone -/
structure Dif (sl pr : List Nat) (σ σ' : L2.St) : Prop where
  len : σ'.length = σ.length
  out : ∀ j, j ∉ sl → σ'[j]? = σ[j]?
  pr : ∀ j, j ∈ pr → σ'[j]? = σ[j]?
theorem setN_logic {pr : List Nat} {i : Nat} {v : V} {d : D} {ρ ρ' : Env} {O T : List Addr} (rE : RepE G H σ ρ O) (r : Rep G H v d T) (nd : (T ++ O).Nodup) (h : setN pr i d ρ = some ρ') :
    (∃ O', RepE G H (σ.set i (some v)) ρ' O' ∧ O'.Nodup ∧ (∀ a ∈ O', a ∈ T ++ O)) ∧ Dif [i] pr σ (σ.set i (some v)) ∧ i ∉ pr := by
  unfold setN at h
  split at h
  · cases h
  · rename_i np
    split at h
    · rename_i hi
      cases h
      refine ⟨rE.setv r nd hi, ⟨by simp, fun j n => ?_, fun j n => ?_⟩, ?_⟩
      · rw [List.getElem?_set_ne]; intro e; subst e; exact n List.mem_cons_self
      · rw [List.getElem?_set_ne]; intro e; subst e; exact np (by simpa using n)
      · intro z; exact np (by simpa using z)
    · cases h
theorem setAll_logic {pr : List Nat} : ∀ {is : List Nat} {ds : List D} {vs : List V} {ρ ρ' : Env} {O T : List Addr} {σ : L2.St} {Q : L2.St → Hp → Prop}, RepE G H σ ρ O → Reps G H vs ds T → (T ++ O).Nodup → setAll pr is ds ρ = some ρ' →
    (∀ σ' O', RepE G H σ' ρ' O' → O'.Nodup → (∀ a ∈ O', a ∈ T ++ O) → Dif is pr σ σ' → Q σ' H) → vs.length = is.length ∧ gNames is vs σ H Q
  | [], _, _, ρ, ρ', O, _, σ, Q, rE, .nil, nd, h, k => by
    unfold setAll at h; cases h
    exact ⟨rfl, rfl, k σ O rE nd (fun a q => q) ⟨rfl, fun _ _ => rfl, fun _ _ => rfl⟩⟩
  | i :: is, _, _, ρ, ρ', O, _, σ, Q, rE, .cons (O := T1) (O' := T2) r rs, nd, h, k => by
    unfold setAll at h
    split at h
    · rename_i ρ1 e1
      rw [List.append_assoc] at nd
      have nd' := nd_app.mp nd
      have nd2 := nd_app.mp nd'.2.1
      obtain ⟨⟨O1, rE1, n1, s1⟩, dif, _⟩ := setN_logic rE r (nd_app.mpr ⟨nd'.1, nd2.2.1, fun a q z => nd'.2.2 a q (List.mem_append_right _ z)⟩) e1
      have nd3 : (T2 ++ O1).Nodup := nd_app.mpr ⟨nd2.1, n1, fun a q z => by
        rcases List.mem_append.mp (s1 a z) with y | y
        · exact nd'.2.2 a y (List.mem_append_left _ q)
        · exact nd2.2.2 a q y⟩
      obtain ⟨l, g⟩ := setAll_logic (pr := pr) (Q := Q) rE1 rs nd3 h fun σ' O' rE' n' s' d' => by
        refine k σ' O' rE' n' (fun a q => ?_) ⟨by rw [d'.len, dif.len], fun j n => ?_, fun j n => by rw [d'.pr j n, dif.pr j n]⟩
        · rcases List.mem_append.mp (s' a q) with y | y
          · exact List.mem_append_left _ (List.mem_append_right _ y)
          · rcases List.mem_append.mp (s1 a y) with y | y
            · exact List.mem_append_left _ (List.mem_append_left _ y)
            · exact List.mem_append_right _ y
        · rw [List.mem_cons, not_or] at n
          rw [d'.out j n.2, dif.out j (by simpa using n.1)]
      exact ⟨by simp [l], _, _, rfl, g⟩
    · cases h
  | [], _, _, _, _, _, _, _, _, _, .cons _ _, _, h, _ => by unfold setAll at h; cases h
  | _ :: _, _, _, _, _, _, _, _, _, _, .nil, _, h, _ => by unfold setAll at h; cases h
theorem bind_tn {pr : List Nat} {i : Nat} {js : List Nat} {d : D} {ρ ρ' : Env} (h : bindT pr (.tn i js) d ρ = some ρ') : ∃ p l, d = .sh (.tuple [p, .tuple l]) ∧ ∃ ρ1, setN pr i (.sh p) ρ = some ρ1 ∧ setAll pr js (l.map .sh) ρ1 = some ρ' := by
  unfold bindT at h
  split at h
  · rename_i e; cases e
  · rename_i e; cases e
  · rename_i e; cases e
  · rename_i e
    cases e
    split at h
    · rename_i ρ1 e
      exact ⟨_, _, rfl, ρ1, e, h⟩
    · cases h
  · cases h
theorem pair_in {K : PySem.W.Frag} {pr : List Nat} {i : Nat} {js : List Nat} {a : Addr} {x y : V} {p : PyData} {l : List PyData} {ρ ρ1 ρ' : Env} {O : List Addr} {σ : L2.St} {Q : L2.St → Hp → Prop} (hK : K = G.K) (rE : RepE G H σ ρ O) (nd : O.Nodup) (q : SqT K H a [x, y]) (hx : DpF G.K H x p) (hy : DpF G.K H y (.tuple l)) (h1 : setN pr i (.sh p) ρ = some ρ1) (h2 : setAll pr js (l.map .sh) ρ1 = some ρ')
    (k : ∀ σ' O', RepE G H σ' ρ' O' → O'.Nodup → (∀ a ∈ O', a ∈ O) → Dif (i :: js) pr σ σ' → Q σ' H) : gTup K 2 (gCons (gName i) (gCons (gTup K js.length (gNames js)) gNil)) (.ref a) σ H Q := by
  subst hK
  obtain ⟨⟨O1, e1, n1, s1⟩, dif, np⟩ := setN_logic rE (.sh hx) (by simpa using nd) h1
  cases hy with
  | @tup b xs ds qb hs =>
    obtain ⟨c1, c2⟩ := setAll_logic (Q := fun σ' H' => gNil [] σ' H' Q) e1 (Reps.to_sh hs) (by simpa using n1) h2 fun σ' O' rE' n' s' d' => by
      refine ⟨rfl, ?_⟩
      refine k σ' O' rE' n' (fun z q => ?_) ⟨by rw [d'.len, dif.len], fun j n => ?_, fun j n => by rw [d'.pr j n, dif.pr j n]⟩
      · have := s' z q
        rw [List.nil_append] at this
        have := s1 z this
        simpa using this
      · rw [List.mem_cons, not_or] at n
        rw [d'.out j n.2, dif.out j (by simpa using n.1)]
    exact ⟨_, _, rfl, q, rfl, _, _, rfl, _, _, rfl, ⟨b, xs, rfl, qb.t, c1, c2⟩⟩
theorem bind_logic {pr : List Nat} {t : Tg} {d : D} {v : V} {ρ ρ' : Env} {O T : List Addr} {Q : L2.St → Hp → Prop} (rE : RepE G H σ ρ O) (r : Rep G H v d T) (nd : (T ++ O).Nodup) (h : bindT pr t d ρ = some ρ')
    (k : ∀ σ' O', RepE G H σ' ρ' O' → O'.Nodup → (∀ a ∈ O', a ∈ T ++ O) → Dif t.sl pr σ σ' → Q σ' H) : gT G.K t v σ H Q := by
  cases t with
  | nm i =>
    obtain ⟨⟨O1, a, b, c⟩, dif, _⟩ := setN_logic rE r nd h
    exact k _ O1 a b c dif
  | tp is =>
    cases r with
    | sh r =>
      cases r with
      | tup q hs =>
        obtain ⟨a, b⟩ := setAll_logic (Q := Q) rE (Reps.to_sh hs) nd (show setAll pr is _ ρ = some ρ' from h) k
        exact ⟨_, _, rfl, q.t, a, b⟩
      | non => cases h
      | bl _ => cases h
      | int _ => cases h
      | str _ => cases h
      | lst _ _ => cases h
      | dct _ => cases h
      | dc1 _ => cases h
    | tp q hs =>
      obtain ⟨a, b⟩ := setAll_logic (Q := Q) rE hs nd (show setAll pr is _ ρ = some ρ' from h) k
      exact ⟨_, _, rfl, q.t, a, b⟩
    | ls _ _ => cases h
    | dk _ _ => cases h
    | dd _ _ _ _ => cases h
    | ob => cases h
    | fn _ => cases h
    | fd => cases h
  | tn i js =>
    obtain ⟨p, l, rfl, ρ1, h1, h2⟩ := bind_tn h
    cases r with
    | sh r =>
      cases r with
      | tup q hs =>
        cases hs with
        | cons hx hs =>
          cases hs with
          | cons hy hs =>
            cases hs
            exact pair_in rfl rE (by simpa using nd) q.t hx hy h1 h2 fun σ' O' a b c d => k σ' O' a b (fun z q => by simpa using c z q) d
theorem st_pg (C : Ctx G Γ S X) {fn : Str → Bool} (hf : ∀ x, fn x = true → X.fn x = true) {i : Nat} {x : Str} {pos : Pos} (h : stB S fn i x = true) : PG X (.Name x pos) (gName i) := by
  unfold stB at h
  rw [Bool.and_eq_true, decide_eq_true_eq] at h
  obtain ⟨h1, h2⟩ := h
  have nd : X.N.Nodup := by rw [C.hN]; exact C.nd
  split at h2
  · rename_i e
    exact pg_name nd (by rw [C.hN]; exact h1) (by unfold L2.Loc; rw [C.sc]; exact .inl e) (.inr (by rw [C.sc]; exact e))
  · rename_i e
    exact pg_name nd (by rw [C.hN]; exact h1) (by unfold L2.Loc; rw [C.sc]; exact .inr e) (.inl (hf x h2))
  · cases h2
theorem names_pg (C : Ctx G Γ S X) {fn : Str → Bool} (hf : ∀ x, fn x = true → X.fn x = true) : ∀ {is : List Nat} {es : List PySem.Expr}, mNames S fn is es = true → PGs X es (gNames is) ∧ (assignEach es X.env).length = is.length ∧ (assignEach es X.env).findIdx? (·.1) = none
  | [], [], _ => ⟨pgs_nil, rfl, rfl⟩
  | i :: is, .Name x p :: es, h => by
    unfold mNames at h
    rw [Bool.and_eq_true] at h
    obtain ⟨a, b, c⟩ := names_pg C hf h.2
    refine ⟨pgs_cons (st_pg C hf h.1) a rfl, ?_, ?_⟩
    · show ((false, assign (.Name x p) X.env) :: assignEach es X.env).length = _
      simp [b]
    · show ((false, assign (.Name x p) X.env) :: assignEach es X.env).findIdx? _ = _
      rw [List.findIdx?_cons, if_neg (by simp), c]; rfl
  | [], _ :: _, h => by unfold mNames at h; cases h
  | _ :: _, [], h => by unfold mNames at h; cases h
theorem tg_pg (C : Ctx G Γ S X) {fn : Str → Bool} (hf : ∀ x, fn x = true → X.fn x = true) {t : Tg} {e : PySem.Expr} (h : mTg S fn t e = true) : PG X e (gT G.K t) := by
  unfold mTg at h
  split at h
  · exact st_pg C hf h
  · obtain ⟨a, b, c⟩ := names_pg C hf h
    have := pg_tup (pos := by assumption) (k := by assumption) C.calm a b c
    rw [← C.hG] at this
    exact this
  · rename_i i js x q0 es k1 q1 k2 q2
    rw [Bool.and_eq_true] at h
    obtain ⟨a, b, c⟩ := names_pg C hf h.2
    have p1 := pg_tup (pos := q1) (k := k1) C.calm a b c
    show PG X _ (gTup G.K 2 (gCons _ (gCons (gTup G.K _ _) gNil)))
    rw [C.hG]
    exact pg_tup (n := 2) C.calm (pgs_cons (st_pg C hf h.1) (pgs_cons p1 pgs_nil rfl) rfl)
  · cases h
/-- a target for pairs is one of names -/
theorem tgB_tp {fn : Str → Bool} {k : ItK} {t : Tg} {tg : PySem.Expr} (h : mTg S fn t tg = true) (hk : (!itTup k || isTup tg) = true) : itTup k = true → t.isTp = true := fun e => by
  rw [e] at hk
  cases t with
  | tp is => rfl
  | tn i js => rfl
  | nm i =>
    cases tg <;> first | (simp [isTup] at hk; done) | (unfold mTg at h; cases h; done)
/-! ### what is walked -/
/-- an item that a walk gives; a pair that it makes (b) is unpacked at once -/
def DpW (G : Ga) (b : Bool) (H : Hp) (x : V) (p : PyData) : Prop := DpF G.K H x p ∨ (b = true ∧ ∃ a xs l, x = .ref a ∧ p = .tuple l ∧ SqT G.K H a xs ∧ DpFs G.K H xs l)
def YD (G : Ga) (b : Bool) (ps : List PyData) : Nat → Hp → V → Hp → Prop := fun i H x H' => Frm [] H H' ∧ ∃ p, ps[i]? = some p ∧ DpW G b H' x p
theorem bindW_logic {b : Bool} {pr : List Nat} {t : Tg} {p : PyData} {v : V} {ρ ρ' : Env} {O : List Addr} {Q : L2.St → Hp → Prop} (hb : b = true → t.isTp = true) (rE : RepE G H σ ρ O) (r : DpW G b H v p) (nd : O.Nodup) (h : bindT pr t (.sh p) ρ = some ρ')
    (k : ∀ σ' O', RepE G H σ' ρ' O' → O'.Nodup → (∀ a ∈ O', a ∈ [] ++ O) → Dif t.sl pr σ σ' → Q σ' H) : gT G.K t v σ H Q := by
  rcases r with r | ⟨e, a, xs, l, rfl, rfl, q, hs⟩
  · exact bind_logic rE (.sh r) nd h k
  · cases t with
    | nm i => exact nomatch hb e
    | tp is =>
      obtain ⟨c, d⟩ := setAll_logic (Q := Q) rE (Reps.to_sh hs) nd (show setAll pr is _ ρ = some ρ' from h) k
      exact ⟨_, _, rfl, q, c, d⟩
    | tn i js =>
      obtain ⟨p, l, e2, ρ1, h1, h2⟩ := bind_tn h
      cases e2
      cases hs with
      | cons hx hs =>
        cases hs with
        | cons hy hs =>
          cases hs
          exact pair_in rfl rE nd q hx hy h1 h2 fun σ' O' a b c d => k σ' O' a b (fun z q => by simpa using c z q) d
/-- what nobody writes stays -/
def FzK (H H' : Hp) : Prop := ∀ a o u, H a = some (.frz o u) → H' a = some (.frz o u)
theorem FzK.of {S S' : List Addr} (g : Go S H S' H') (m : MutA H S) : FzK H H' := fun a o u e => g.frm a _ e fun q => by have z := m a q; rw [e] at z; exact z
def itR (G : Ga) (k : ItK) : List V → Hp → (It → Hp → Prop) → Prop := fun vs H R => ∃ ds ps, RVs G H vs ds ∧ itF k ds = some ps ∧ ∀ J H2, Frm [] H H2 → Walk J ps.length (fun H' => RVs G H' vs ds ∧ FzK H2 H') (YD G (itTup k) ps) → R J H2
theorem Walk.strong {J : It} {n : Nat} {P Q : Hp → Prop} {Y : Nat → Hp → V → Hp → Prop} (w : Walk J n P Y) (h : ∀ H, Q H → P H) : Walk J n Q Y := ⟨fun i H hi q => w.1 i H hi (h H q), fun H q => w.2 H (h H q), fun i H x H' hi q y => w.3 i H x H' hi (h H q) y⟩
theorem itK {ps : List PyData} {vs : List V} {ds : List D} {b : Bool} {R : It → Hp → Prop} {J : It} (k : ∀ J H2, Frm [] H H2 → Walk J ps.length (fun H' => RVs G H' vs ds ∧ FzK H2 H') (YD G b ps) → R J H2) (w : Walk J ps.length (fun H => RVs G H vs ds) (YD G b ps)) : R J H := k J H (fun _ _ e _ => e) (Walk.strong w fun _ q => q.1)
def tI (G : Ga) (W : WX) (k : ItK) (ops : List Sop) : TI := fun σ H R => tO G W ops σ H fun vs H1 => itR G k vs H1 R
theorem piImp {tg it : PySem.Expr} {w w' : TI} (h : PI X tg it w) (i : ∀ σ H R, w' σ H R → w σ H R) : PI X tg it w' := ⟨fun pins s σ H R I q => h.run pins s σ H R I (i σ H R q)⟩
theorem frm_nil : Frm [] H H := fun _ _ e _ => e
theorem rng_get {lo : Int} {n i : Nat} (h : i < n) : (rngD lo n)[i]? = some (.int (lo + (i : Nat))) := by
  unfold rngD
  simp [h]
theorem rng_len {lo : Int} {n : Nat} : (rngD lo n).length = n := by unfold rngD; simp
theorem enum_len : ∀ {l : List PyData} {i : Int}, (enumD i l).length = l.length
  | [], _ => rfl
  | _ :: l, i => congrArg (· + 1) enum_len
theorem enum_get : ∀ {l : List PyData} {i : Int} {k : Nat} {p : PyData}, l[k]? = some p → (enumD i l)[k]? = some (.tuple [.int (i + (k : Nat)), p])
  | [], _, k, _, h => by simp at h
  | _ :: l, i, 0, _, h => by simp at h; subst h; simp [enumD]
  | _ :: l, i, k + 1, p, h => by
    have := enum_get (l := l) (i := i + 1) (k := k) (by simpa using h)
    simp only [enumD, List.getElem?_cons_succ, this]
    congr 4
    omega
theorem zip_len : ∀ {l m : List PyData}, (zipD l m).length = min l.length m.length
  | [], _ => by unfold zipD; simp
  | _ :: _, [] => by unfold zipD; simp
  | _ :: l, _ :: m => by
    unfold zipD
    simp only [List.length_cons, zip_len]
    omega
theorem zip_get : ∀ {l m : List PyData} {k : Nat} {p q : PyData}, l[k]? = some p → m[k]? = some q → (zipD l m)[k]? = some (.tuple [p, q])
  | [], _, k, _, _, h, _ => by simp at h
  | _ :: _, [], k, _, _, _, h => by simp at h
  | _ :: l, _ :: m, 0, _, _, h, h' => by simp at h h'; subst h h'; simp [zipD]
  | _ :: l, _ :: m, k + 1, p, q, h, h' => by
    simp only [zipD, List.getElem?_cons_succ]
    exact zip_get (by simpa using h) (by simpa using h')
theorem RVs.seq1 {v : V} {d : D} {k : SK} {l : List PyData} (h : RVs G H [v] [d]) (e : d.seq = some (k, l)) : ∃ a xs, v = .ref a ∧ SqK G.K H a xs k ∧ DpFs G.K H xs l := by
  cases h with
  | cons r _ => exact r.seq e
theorem RVs.seq2 {v : V} {d e : D} {vs : List V} {ds : List D} {k : SK} {l : List PyData} (h : RVs G H (v :: vs) (e :: ds)) (q : e.seq = some (k, l)) : ∃ a xs, v = .ref a ∧ SqK G.K H a xs k ∧ DpFs G.K H xs l := by
  cases h with
  | cons r _ => exact r.seq q
/-- a new pair of shared things -/
theorem YD.pair {ps : List PyData} {i : Nat} {T : Addr} {x y : V} {p q : PyData} (hT : H T = none) (hx : DpF G.K H x p) (hy : DpF G.K H y q) (e : ps[i]? = some (.tuple [p, q])) : YD G true ps i H (.ref T) (upd H T (.tup [x, y])) :=
  ⟨frm_new hT, _, e, .inr ⟨rfl, T, _, _, rfl, rfl, SqT.of upd_same, .cons (hx.fr (frm_new hT) mut_nil) (.cons (hy.fr (frm_new hT) mut_nil) .nil)⟩⟩
theorem walkL {b : Bool} {a : Addr} {d : D} {l : List PyData} (e : d.seq = some (.lst, l)) : Walk (Itl G.K a) l.length (fun H => RVs G H [.ref a] [d]) (YD G b l) := by
  refine ⟨fun i H hi q => ?_, fun H q => ?_, fun i H x H' hi q y => ?_⟩
  · obtain ⟨b, xs, e1, s, m⟩ := q.seq1 e
    cases e1
    obtain ⟨v, ev, _⟩ := m.get (List.getElem?_eq_getElem hi)
    exact ⟨xs, v, s, ev⟩
  · obtain ⟨b, xs, e1, s, m⟩ := q.seq1 e
    cases e1
    exact ⟨xs, s, Nat.le_of_eq m.len⟩
  · obtain ⟨b, xs, e1, s, m⟩ := q.seq1 e
    cases e1
    obtain ⟨v, ev, dv⟩ := m.get (List.getElem?_eq_getElem hi)
    obtain ⟨rfl, y⟩ := y
    have := y xs s
    rw [ev] at this; cases this
    exact ⟨frm_nil, _, List.getElem?_eq_getElem hi, .inl dv⟩
theorem walkT {b : Bool} {a : Addr} {d : D} {l : List PyData} (e : d.seq = some (.tup, l)) : Walk (Itt G.K a) l.length (fun H => RVs G H [.ref a] [d]) (YD G b l) := by
  refine ⟨fun i H hi q => ?_, fun H q => ?_, fun i H x H' hi q y => ?_⟩
  · obtain ⟨b, xs, e1, s, m⟩ := q.seq1 e
    cases e1
    obtain ⟨v, ev, _⟩ := m.get (List.getElem?_eq_getElem hi)
    exact ⟨xs, v, s, ev⟩
  · obtain ⟨b, xs, e1, s, m⟩ := q.seq1 e
    cases e1
    exact ⟨xs, s, Nat.le_of_eq m.len⟩
  · obtain ⟨b, xs, e1, s, m⟩ := q.seq1 e
    cases e1
    obtain ⟨v, ev, dv⟩ := m.get (List.getElem?_eq_getElem hi)
    obtain ⟨rfl, y⟩ := y
    have := y xs s
    rw [ev] at this; cases this
    exact ⟨frm_nil, _, List.getElem?_eq_getElem hi, .inl dv⟩
theorem walkR {b : Bool} {lo : Int} {n : Nat} {vs : List V} {ds : List D} : Walk (Itr lo n) (rngD lo n).length (fun H => RVs G H vs ds) (YD G b (rngD lo n)) := by
  refine ⟨fun i H hi q => ?_, fun H q => ?_, fun i H x H' hi q y => ?_⟩
  · rw [rng_len] at hi; exact hi
  · show n ≤ _; rw [rng_len]; exact Nat.le_refl _
  · obtain ⟨rfl, rfl⟩ := y
    rw [rng_len] at hi
    exact ⟨frm_nil, _, rng_get hi, .inl (.int _)⟩
theorem pi_seq (C : Ctx G Γ S X) {tg x : PySem.Expr} {op : Sop} (h : PE X x (tS1 G W op)) : PI X tg x (tI G W .seq [op]) := by
  refine ⟨fun pins s σ H R I z => ?_⟩
  unfold tI at z
  rw [tO_cons] at z
  refine thn (h.run pins s σ H _ I z) fun u s1 ⟨v, H1, I1, r1, ds, ps, rv, e, k⟩ => ?_
  obtain ⟨d, T, rfl, r⟩ := rv.one
  simp only [itF] at e
  cases e1 : d.seq with
  | none => rw [e1] at e; cases e
  | some q =>
    obtain ⟨kk, l⟩ := q
    rw [e1] at e; cases e
    obtain ⟨a, xs, rfl, sq, _⟩ := r.seq e1
    cases r1
    cases kk with
    | lst =>
      obtain ⟨its, rv, p, hz⟩ := I1.list (C.hG ▸ sq)
      refine wpAny_pyIter_list p.isList ?_
      refine ⟨s1.heap.objs.size, [s1.heap.objs.size], _, _, H1, rfl, I1.kept (t' := s1.toks) fun b o e => Heap.get?_push_of_some _ e, turn_list a _, ⟨_, Heap.get?_push_size _ rfl, rfl, rfl⟩, fun b hb => ?_, C.hG ▸ itK k (walkL e1)⟩
      have e : b = s1.heap.objs.size := by simpa using hb
      subst e
      exact I1.fpOk (Nat.le_refl _) (I1.hok.fresh (Nat.le_refl _))
    | tup =>
      obtain ⟨its, rv, p, hz⟩ := I1.tuple (C.hG ▸ sq)
      refine wpAny_pyIter_tuple (show s1.heap.IsTuple a its.toArray from p) ?_
      refine ⟨s1.heap.objs.size, [s1.heap.objs.size], _, _, H1, rfl, I1.kept (t' := s1.toks) fun b o e => Heap.get?_push_of_some _ e, turn_tuple a _, ⟨_, Heap.get?_push_size _ rfl, rfl, rfl⟩, fun b hb => ?_, C.hG ▸ itK k (walkT e1)⟩
      have e : b = s1.heap.objs.size := by simpa using hb
      subst e
      exact I1.fpOk (Nat.le_refl _) (I1.hok.fresh (Nat.le_refl _))
theorem rng_inv {e : PySem.Expr} {xs : List PySem.Expr} (h : itArgs S .rng e = some xs) : ∃ f p a pos, e = .Call (.Name f p) [a] [] pos ∧ f = "range" ∧ xs = [a] ∧ bltB S "range" = true := by
  unfold itArgs at h
  split at h
  all_goals first | contradiction | skip
  all_goals (split at h <;> try contradiction)
  rename_i hh
  rw [Bool.and_eq_true, decide_eq_true_eq] at hh
  obtain ⟨rfl, hb⟩ := hh
  cases h
  exact ⟨_, _, _, _, rfl, rfl, rfl, hb⟩
theorem rng2_inv {e : PySem.Expr} {xs : List PySem.Expr} (h : itArgs S .rng2 e = some xs) : ∃ f p a b pos, e = .Call (.Name f p) [a, b] [] pos ∧ f = "range" ∧ xs = [a, b] ∧ bltB S "range" = true := by
  unfold itArgs at h
  split at h
  all_goals first | contradiction | skip
  all_goals (split at h <;> try contradiction)
  rename_i hh
  rw [Bool.and_eq_true, decide_eq_true_eq] at hh
  obtain ⟨rfl, hb⟩ := hh
  cases h
  exact ⟨_, _, _, _, _, rfl, rfl, rfl, hb⟩
theorem enum_inv {e : PySem.Expr} {xs : List PySem.Expr} (h : itArgs S .enum e = some xs) : ∃ f p a pos, e = .Call (.Name f p) [a] [] pos ∧ f = "enumerate" ∧ xs = [a] ∧ bltB S "enumerate" = true := by
  unfold itArgs at h
  split at h
  all_goals first | contradiction | skip
  all_goals (split at h <;> try contradiction)
  rename_i hh
  rw [Bool.and_eq_true, decide_eq_true_eq] at hh
  obtain ⟨rfl, hb⟩ := hh
  cases h
  exact ⟨_, _, _, _, rfl, rfl, rfl, hb⟩
theorem rev_inv {e : PySem.Expr} {xs : List PySem.Expr} (h : itArgs S .rev e = some xs) : ∃ f p a pos, e = .Call (.Name f p) [a] [] pos ∧ f = "reversed" ∧ xs = [a] ∧ bltB S "reversed" = true := by
  unfold itArgs at h
  split at h
  all_goals first | contradiction | skip
  all_goals (split at h <;> try contradiction)
  rename_i hh
  rw [Bool.and_eq_true, decide_eq_true_eq] at hh
  obtain ⟨rfl, hb⟩ := hh
  cases h
  exact ⟨_, _, _, _, rfl, rfl, rfl, hb⟩
theorem itF_rev {ds : List D} {ps : List PyData} (h : itF .rev ds = some ps) : ∃ d k l, ds = [d] ∧ d.seq = some (k, l) ∧ ps = l.reverse := by
  unfold itF at h
  split at h
  all_goals first | contradiction | skip
  split at h
  · rename_i hh; cases h; exact ⟨_, _, _, rfl, hh, rfl⟩
  · cases h
theorem rev_get {α : Type} {l : List α} {i : Nat} (h : i < l.length) : l.reverse[i]? = l[l.length - 1 - i]? := List.getElem?_reverse h
theorem walkVL {b : Bool} {a : Addr} {d : D} {l : List PyData} (e : d.seq = some (.lst, l)) : Walk (Itv G.K a l.length) l.reverse.length (fun H => RVs G H [.ref a] [d]) (YD G b l.reverse) := by
  rw [List.length_reverse]
  refine ⟨fun i H hi q => ?_, fun H q => Nat.le_refl _, fun i H x H' hi q y => ?_⟩
  all_goals (obtain ⟨b, xs, e1, s, m⟩ := q.seq1 e; cases e1; have hj : l.length - 1 - i < l.length := by omega)
  · obtain ⟨v, ev, _⟩ := m.get (List.getElem?_eq_getElem hj)
    exact ⟨hi, xs, v, s, ev⟩
  · obtain ⟨v, ev, dv⟩ := m.get (List.getElem?_eq_getElem hj)
    obtain ⟨rfl, y⟩ := y
    have := y xs s
    rw [ev] at this; cases this
    exact ⟨frm_nil, _, by rw [rev_get hi]; exact List.getElem?_eq_getElem hj, .inl dv⟩
theorem walkVT {b : Bool} {a : Addr} {d : D} {l : List PyData} (e : d.seq = some (.tup, l)) : Walk (RT.ItvT G.K a l.length) l.reverse.length (fun H => RVs G H [.ref a] [d]) (YD G b l.reverse) := by
  rw [List.length_reverse]
  refine ⟨fun i H hi q => ?_, fun H q => Nat.le_refl _, fun i H x H' hi q y => ?_⟩
  all_goals (obtain ⟨b, xs, e1, s, m⟩ := q.seq1 e; cases e1; have hj : l.length - 1 - i < l.length := by omega)
  · obtain ⟨v, ev, _⟩ := m.get (List.getElem?_eq_getElem hj)
    exact ⟨hi, xs, v, s, ev⟩
  · obtain ⟨v, ev, dv⟩ := m.get (List.getElem?_eq_getElem hj)
    obtain ⟨rfl, y⟩ := y
    have := y xs s
    rw [ev] at this; cases this
    exact ⟨frm_nil, _, by rw [rev_get hi]; exact List.getElem?_eq_getElem hj, .inl dv⟩
theorem zip_inv {e : PySem.Expr} {xs : List PySem.Expr} (h : itArgs S .zip e = some xs) : ∃ f p a b pos, e = .Call (.Name f p) [a, b] [] pos ∧ f = "zip" ∧ xs = [a, b] ∧ bltB S "zip" = true := by
  unfold itArgs at h
  split at h
  all_goals first | contradiction | skip
  all_goals (split at h <;> try contradiction)
  rename_i hh
  rw [Bool.and_eq_true, decide_eq_true_eq] at hh
  obtain ⟨rfl, hb⟩ := hh
  cases h
  exact ⟨_, _, _, _, _, rfl, rfl, rfl, hb⟩
theorem itF_rng {ds : List D} {ps : List PyData} (h : itF .rng ds = some ps) : ∃ n : Int, ds = [.sh (.int n)] ∧ n < 16777216 ∧ -16777216 < n ∧ ps = rngD 0 n.toNat := by
  unfold itF at h
  split at h
  all_goals first | contradiction | skip
  split at h
  · rename_i hh; cases h; exact ⟨_, rfl, hh.1, hh.2, rfl⟩
  · cases h
theorem itF_rng2 {ds : List D} {ps : List PyData} (h : itF .rng2 ds = some ps) : ∃ a b : Int, ds = [.sh (.int a), .sh (.int b)] ∧ (a < 16777216 ∧ -16777216 < a) ∧ (b < 16777216 ∧ -16777216 < b) ∧ ps = rngD a (b - a).toNat := by
  unfold itF at h
  split at h
  all_goals first | contradiction | skip
  split at h
  · rename_i hh; cases h; exact ⟨_, _, rfl, hh.1, hh.2, rfl⟩
  · cases h
theorem itF_enum {ds : List D} {ps : List PyData} (h : itF .enum ds = some ps) : ∃ d k l, ds = [d] ∧ d.seq = some (k, l) ∧ ps = enumD 0 l := by
  unfold itF at h
  split at h
  all_goals first | contradiction | skip
  split at h
  · rename_i hh; cases h; exact ⟨_, _, _, rfl, hh, rfl⟩
  · cases h
theorem itF_zip {ds : List D} {ps : List PyData} (h : itF .zip ds = some ps) : ∃ d e l m k, ds = [d, e] ∧ d.seq = some (k, l) ∧ e.seq = some (k, m) ∧ ps = zipD l m := by
  unfold itF at h
  split at h
  all_goals first | contradiction | skip
  split at h
  · rename_i h1 h2; cases h; exact ⟨_, _, _, _, _, rfl, h1, h2, rfl⟩
  · rename_i h1 h2; cases h; exact ⟨_, _, _, _, _, rfl, h1, h2, rfl⟩
  · cases h
theorem walkE {a : Addr} {d : D} {l : List PyData} (e : d.seq = some (.lst, l)) : Walk (Ite G.K a) (enumD 0 l).length (fun H => RVs G H [.ref a] [d]) (YD G true (enumD 0 l)) := by
  refine ⟨fun i H hi q => ?_, fun H q => ?_, fun i H x H' hi q y => ?_⟩
  all_goals (obtain ⟨b, xs, e1, s, m⟩ := q.seq1 e; cases e1)
  · rw [enum_len] at hi
    obtain ⟨v, ev, _⟩ := m.get (List.getElem?_eq_getElem hi)
    exact ⟨xs, v, s, ev⟩
  · exact ⟨xs, s, Nat.le_of_eq (by rw [enum_len]; exact m.len)⟩
  · rw [enum_len] at hi
    obtain ⟨v, ev, dv⟩ := m.get (List.getElem?_eq_getElem hi)
    obtain ⟨T, x', h1, h2, h3, h4⟩ := y
    have := h4 xs s
    rw [ev] at this; cases this
    subst h1 h3
    exact YD.pair h2 (.int _) dv (by rw [enum_get (List.getElem?_eq_getElem hi)]; simp)
theorem walkET {a : Addr} {d : D} {l : List PyData} (e : d.seq = some (.tup, l)) : Walk (IteT G.K a) (enumD 0 l).length (fun H => RVs G H [.ref a] [d]) (YD G true (enumD 0 l)) := by
  refine ⟨fun i H hi q => ?_, fun H q => ?_, fun i H x H' hi q y => ?_⟩
  all_goals (obtain ⟨b, xs, e1, s, m⟩ := q.seq1 e; cases e1)
  · rw [enum_len] at hi
    obtain ⟨v, ev, _⟩ := m.get (List.getElem?_eq_getElem hi)
    exact ⟨xs, v, s, ev⟩
  · exact ⟨xs, s, Nat.le_of_eq (by rw [enum_len]; exact m.len)⟩
  · rw [enum_len] at hi
    obtain ⟨v, ev, dv⟩ := m.get (List.getElem?_eq_getElem hi)
    obtain ⟨T, x', h1, h2, h3, h4⟩ := y
    have := h4 xs s
    rw [ev] at this; cases this
    subst h1 h3
    exact YD.pair h2 (.int _) dv (by rw [enum_get (List.getElem?_eq_getElem hi)]; simp)
theorem RVs.pair {v u : V} {d e : D} (h : RVs G H [v, u] [d, e]) : ∃ T T', Rep G H v d T ∧ Rep G H u e T' := by
  cases h with | cons a b => cases b with | cons c f => exact ⟨_, _, a, c⟩
theorem walkZ {a b : Addr} {d e : D} {l m : List PyData} (h1 : d.seq = some (.lst, l)) (h2 : e.seq = some (.lst, m)) : Walk (Itz G.K a b) (zipD l m).length (fun H => RVs G H [.ref a, .ref b] [d, e]) (YD G true (zipD l m)) := by
  refine ⟨fun i H hi q => ?_, fun H q => ?_, fun i H x H' hi q y => ?_⟩
  all_goals (obtain ⟨_, _, r1, r2⟩ := q.pair; obtain ⟨b1, xs, e1, s, n⟩ := r1.seq h1; obtain ⟨b2, ys, e2, s', n'⟩ := r2.seq h2; cases e1; cases e2)
  · rw [zip_len] at hi
    obtain ⟨v, ev, _⟩ := n.get (List.getElem?_eq_getElem (i := i) (by omega))
    obtain ⟨u, eu, _⟩ := n'.get (List.getElem?_eq_getElem (i := i) (by omega))
    exact ⟨xs, ys, v, u, s, s', ev, eu⟩
  · refine ⟨xs, ys, s, s', ?_⟩
    rw [zip_len, n.len, n'.len]; omega
  · rw [zip_len] at hi
    have el := List.getElem?_eq_getElem (l := l) (i := i) (by omega)
    have em := List.getElem?_eq_getElem (l := m) (i := i) (by omega)
    obtain ⟨v, ev, dv⟩ := n.get el
    obtain ⟨u, eu, du⟩ := n'.get em
    obtain ⟨T, x', y', z1, z2, z3, z4, z5⟩ := y
    have t1 := z4 xs s
    have t2 := z5 ys s'
    rw [ev] at t1; cases t1
    rw [eu] at t2; cases t2
    subst z1 z3
    exact YD.pair z2 dv du (zip_get el em)
theorem walkZT {a b : Addr} {d e : D} {l m : List PyData} (h1 : d.seq = some (.tup, l)) (h2 : e.seq = some (.tup, m)) : Walk (RZ.ItzT G.K a b) (zipD l m).length (fun H => RVs G H [.ref a, .ref b] [d, e]) (YD G true (zipD l m)) := by
  refine ⟨fun i H hi q => ?_, fun H q => ?_, fun i H x H' hi q y => ?_⟩
  all_goals (obtain ⟨_, _, r1, r2⟩ := q.pair; obtain ⟨b1, xs, e1, s, n⟩ := r1.seq h1; obtain ⟨b2, ys, e2, s', n'⟩ := r2.seq h2; cases e1; cases e2)
  · rw [zip_len] at hi
    obtain ⟨v, ev, _⟩ := n.get (List.getElem?_eq_getElem (i := i) (by omega))
    obtain ⟨u, eu, _⟩ := n'.get (List.getElem?_eq_getElem (i := i) (by omega))
    exact ⟨xs, ys, v, u, s, s', ev, eu⟩
  · refine ⟨xs, ys, s, s', ?_⟩
    rw [zip_len, n.len, n'.len]; omega
  · rw [zip_len] at hi
    have el := List.getElem?_eq_getElem (l := l) (i := i) (by omega)
    have em := List.getElem?_eq_getElem (l := m) (i := i) (by omega)
    obtain ⟨v, ev, dv⟩ := n.get el
    obtain ⟨u, eu, du⟩ := n'.get em
    obtain ⟨T, x', y', z1, z2, z3, z4, z5⟩ := y
    have t1 := z4 xs s
    have t2 := z5 ys s'
    rw [ev] at t1; cases t1
    rw [eu] at t2; cases t2
    subst z1 z3
    exact YD.pair z2 dv du (zip_get el em)
theorem RVs.len : ∀ {vs : List V} {ds : List D}, RVs G H vs ds → vs.length = ds.length
  | _, _, .nil => rfl
  | _, _, .cons _ h => congrArg (· + 1) (RVs.len h)
theorem items_inv {e : PySem.Expr} {xs : List PySem.Expr} (h : itArgs S .items e = some xs) : ∃ x p ap cp, e = .Call (.Attribute (.Name x p) "items" ap) [] [] cp ∧ xs = [.Name x p] ∧ (ap.endLine == cp.line) = true := by
  unfold itArgs at h
  split at h
  all_goals first | contradiction | skip
  all_goals (split at h <;> try contradiction)
  rename_i hh
  rw [Bool.and_eq_true, decide_eq_true_eq] at hh
  obtain ⟨rfl, hb⟩ := hh
  cases h
  exact ⟨_, _, _, _, rfl, rfl, hb⟩
theorem itF_items {ds : List D} {ps : List PyData} (h : itF .items ds = some ps) : ∃ d, ds = [d] ∧ itemsD d = some ps := by
  unfold itF at h
  split at h
  all_goals first | contradiction | skip
  exact ⟨_, rfl, h⟩
/-- what the items are of -/
def FzI (G : Ga) (H : Hp) (a : Addr) (o : Obj) (kvs : KAV) (ps : List PyData) : Prop := FzD G.w H a o kvs ∧ ∃ ks ds, DpFs G.K H (kvs.map fun x => .ref x.2.1) ks ∧ DpFs G.K H (kvs.map (·.2.2)) ds ∧ ps = zipD ks ds
theorem items_of {v : V} {d : D} {T : List Addr} {ps : List PyData} (r : Rep G H v d T) (e : itemsD d = some ps) : ∃ a o kvs, v = .ref a ∧ FzI G H a o kvs ps := by
  unfold itemsD at e
  split at e
  · cases e
    cases r with
    | sh r =>
      cases r with
      | dct h => exact ⟨_, _, [], rfl, .inr ⟨rfl, h⟩, [], [], .nil, .nil, rfl⟩
  · cases e
    cases r with
    | fd h hk em hs => exact ⟨_, _, _, rfl, .inl h, _, _, hk, hs, rfl⟩
  · cases e
mutual
theorem DpF.fz : ∀ {v : V} {d : PyData}, DpF G.K H v d → FzK H H' → DpF G.K H' v d
  | _, _, .non, _ => .non
  | _, _, .bl b, _ => .bl b
  | _, _, .int i, _ => .int i
  | _, _, .str x, _ => .str x
  | _, _, .lst h hs, f => .lst (h.imp (fun ⟨o, e⟩ => ⟨o, f _ _ _ e⟩) id) (DpFs.fz hs f)
  | _, _, .tup h hs, f => .tup (h.imp (fun ⟨o, e, z⟩ => ⟨o, f _ _ _ e, z⟩) id) (DpFs.fz hs f)
  | _, _, .dct h, f => .dct (f _ _ _ h)
  | _, _, .dc1 h, f => .dc1 (f _ _ _ h)
theorem DpFs.fz : ∀ {vs : List V} {ds : List PyData}, DpFs G.K H vs ds → FzK H H' → DpFs G.K H' vs ds
  | _, _, .nil, _ => .nil
  | _, _, .cons h hs, f => .cons (DpF.fz h f) (DpFs.fz hs f)
end
theorem FzI.fz {a : Addr} {o : Obj} {kvs : KAV} {ps : List PyData} (h : FzI G H a o kvs ps) (f : FzK H H') : FzI G H' a o kvs ps := by
  obtain ⟨hz, ks, ds, h1, h2, e⟩ := h
  refine ⟨?_, ks, ds, h1.fz f, h2.fz f, e⟩
  rcases hz with hz | ⟨ek, hz⟩
  · exact .inl (f _ _ _ hz)
  · exact .inr ⟨ek, f _ _ _ hz⟩
theorem dtO_inj {w : World} {a : Addr} {o : Obj} {kvs : KAV} {H : Hp} (h : FzD w H a o kvs) : ∃ u, H a = some u := by
  rcases h with h | ⟨_, h⟩ <;> exact ⟨_, h⟩
theorem FzD.fr {w : World} {a : Addr} {o : Obj} {kvs : KAV} (h : FzD w H a o kvs) (f : Frm [] H H') : FzD w H' a o kvs := by
  rcases h with h | ⟨e, h⟩
  · exact .inl (f _ _ h fun z => nomatch z)
  · exact .inr ⟨e, f _ _ h fun z => nomatch z⟩
theorem walkF {P : Hp → Prop} {a : Addr} {o : Obj} {kvs : KAV} {ps : List PyData} (hd : ∀ H, P H → FzI G H a o kvs ps) : Walk (ItF G.w a o kvs) ps.length P (YD G true ps) := by
  have hl : ∀ H, P H → ps.length = kvs.length := fun H q => by
    obtain ⟨_, ks, ds, h1, h2, rfl⟩ := hd H q
    have e1 := h1.len
    have e2 := h2.len
    rw [zip_len]
    simp only [List.length_map] at e1 e2
    omega
  refine ⟨fun i H hi q => ?_, fun H q => ?_, fun i H x H' hi q y => ?_⟩
  · exact ⟨(hd H q).1, by rw [← hl H q]; exact hi⟩
  · exact ⟨(hd H q).1, by rw [← hl H q]; exact Nat.le_refl _⟩
  · obtain ⟨P, e, ee, rfl, hP, rfl⟩ := y
    have hk := hl H q
    obtain ⟨_, ks, ds, h1, h2, rfl⟩ := hd H q
    have e1 := h1.len
    have e2 := h2.len
    simp only [List.length_map] at e1 e2
    have i1 : i < ks.length := by omega
    have i2 : i < ds.length := by omega
    obtain ⟨v1, x1, d1⟩ := h1.get (List.getElem?_eq_getElem i1)
    obtain ⟨v2, x2, d2⟩ := h2.get (List.getElem?_eq_getElem i2)
    rw [List.getElem?_map, ee] at x1 x2
    cases x1
    cases x2
    exact YD.pair hP d1 d2 (zip_get (List.getElem?_eq_getElem i1) (List.getElem?_eq_getElem i2))
theorem pi_ok (C : Ctx G Γ S X) {k : ItK} {tg e : PySem.Expr} {xs : List PySem.Expr} {ops : List Sop} (h : itArgs S k e = some xs) (ps : POs X G W xs ops) (ht : itTup k = true → isTup tg = true) : PI X tg e (tI G W k ops) := by
  cases k with
  | seq =>
    cases h
    cases ps with
    | cons a n r => cases r; exact pi_seq C a
  | rng =>
    obtain ⟨f, p, a, pos, rfl, rfl, rfl, hb⟩ := rng_inv h
    obtain ⟨g1, g2, g3, g4⟩ := C.blt hb
    cases ps with
    | cons pa n r =>
    cases r
    refine piImp (pi_range1 g1 g4 (POs.pa (.cons pa n .nil)) (star1 n)) fun σ H R z => tO_mono z fun vs H1 ⟨ds, ps, rv, e, k⟩ => ?_
    obtain ⟨j, rfl, j1, j2, rfl⟩ := itF_rng e
    obtain ⟨v, T, rfl, r⟩ := rv.of1
    cases r.int_of
    exact ⟨j, rfl, by omega, by omega, itK k walkR⟩
  | rng2 =>
    obtain ⟨f, p, a, b, pos, rfl, rfl, rfl, hb⟩ := rng2_inv h
    obtain ⟨g1, g2, g3, g4⟩ := C.blt hb
    cases ps with
    | cons pa n r =>
    cases r with
    | cons pb n' r =>
    cases r
    refine piImp (pi_range2 g1 g4 (POs.pa (.cons pa n (.cons pb n' .nil))) (by rw [star1 n, star1 n']; rfl) (star1 n')) fun σ H R z => tO_mono z fun vs H1 ⟨ds, ps, rv, e, k⟩ => ?_
    obtain ⟨i, j, rfl, j1, j2, rfl⟩ := itF_rng2 e
    obtain ⟨v, u, T, T', rfl, r, r'⟩ := rv.of2
    cases r.int_of
    cases r'.int_of
    exact ⟨i, j, rfl, ⟨by omega, by omega, by omega, by omega⟩, itK k walkR⟩
  | enum =>
    obtain ⟨f, p, a, pos, rfl, rfl, rfl, hb⟩ := enum_inv h
    obtain ⟨g1, g2, g3, g4⟩ := C.blt hb
    cases ps with
    | cons pa n r =>
    cases r
    have ht := ht rfl
    unfold isTup at ht
    split at ht
    · refine piImp (pi_enumA g1 g4 (POs.pa (.cons pa n .nil)) (star1 n)) fun σ H R z => tO_mono z fun vs H1 ⟨ds, ps, rv, e, k⟩ => ?_
      obtain ⟨d, kk, l, rfl, e1, rfl⟩ := itF_enum e
      obtain ⟨v, T, rfl, r⟩ := rv.of1
      obtain ⟨b, xs, rfl, s, m⟩ := r.seq e1
      cases kk with
      | lst => exact ⟨b, xs, rfl, .inl ⟨C.hG ▸ s, C.hG ▸ itK k (walkE e1)⟩⟩
      | tup => exact ⟨b, xs, rfl, .inr ⟨C.hG ▸ s, C.hG ▸ itK k (walkET e1)⟩⟩
    · cases ht
  | rev =>
    obtain ⟨f, p, a, pos, rfl, rfl, rfl, hb⟩ := rev_inv h
    obtain ⟨g1, g2, g3, g4⟩ := C.blt hb
    cases ps with
    | cons pa n r =>
    cases r
    refine piImp (RT.pi_revA g1 g4 pa (star1 n)) fun σ H R z => ?_
    unfold tI at z
    rw [tO_cons] at z
    refine tS1_mono z fun v H1 ⟨ds, ps, rv, e, k⟩ => ?_
    obtain ⟨d, kk, l, rfl, e1, rfl⟩ := itF_rev e
    obtain ⟨_, T, e2, r⟩ := rv.of1
    cases e2
    obtain ⟨b, xs, rfl, s, m⟩ := r.seq e1
    have hl : xs.length = l.length := m.len
    cases kk with
    | lst => exact ⟨b, xs, rfl, .inl ⟨C.hG ▸ s, hl ▸ C.hG ▸ itK k (walkVL e1)⟩⟩
    | tup => exact ⟨b, xs, rfl, .inr ⟨C.hG ▸ s, hl ▸ C.hG ▸ itK k (walkVT e1)⟩⟩
  | items =>
    obtain ⟨x, p, ap, cp, rfl, rfl, hl⟩ := items_inv h
    cases ps with
    | cons pa n r =>
    cases r
    have ht := ht rfl
    unfold isTup at ht
    split at ht
    · refine piImp (pi_F pa rfl hl) fun σ H R z => ?_
      unfold tI at z
      rw [tO_cons] at z
      refine tS1_mono z fun v H1 ⟨ds, ps, rv, e, k⟩ => ?_
      obtain ⟨d, rfl, e1⟩ := itF_items e
      obtain ⟨_, T, e2, r⟩ := rv.of1
      cases e2
      obtain ⟨a, o, kvs, rfl, hz, hr⟩ := items_of r e1
      have hz' : FzD X.w H1 a o kvs := C.hw ▸ hz
      refine ⟨⟨a, o, kvs, rfl, hz'⟩, a, o, kvs, rfl, rfl, hz', fun q hq => ?_⟩
      have f : Frm [] H1 (upd H1 q (viewO q a)) := frm_new hq
      refine ⟨a, o, kvs, q, rfl, upd_same, hz'.fr f, ?_⟩
      refine C.hw ▸ k _ _ f (walkF fun H' q' => ?_)
      exact FzI.fz (G := G) (H := H1) ⟨hz, hr⟩ fun b u w e => q'.2 _ _ _ (f _ _ e fun z => nomatch z)
    · cases ht
  | zip =>
    obtain ⟨f, p, a, b, pos, rfl, rfl, rfl, hb⟩ := zip_inv h
    obtain ⟨g1, g2, g3, g4⟩ := C.blt hb
    cases ps with
    | cons pa n r =>
    cases r with
    | cons pb n' r =>
    cases r
    have ht := ht rfl
    unfold isTup at ht
    split at ht
    · refine piImp (RZ.pi_zipA g1 g4 (POs.pa (.cons pa n (.cons pb n' .nil))) (star1 n) (POs.plain _ _ (.cons pb n' .nil))) fun σ H R z => tO_mono z fun vs H1 ⟨ds, ps, rv, e, k⟩ => ?_
      obtain ⟨d, e', l, m, kk, rfl, e1, e2, rfl⟩ := itF_zip e
      obtain ⟨v, u, T, T', rfl, r, r'⟩ := rv.of2
      obtain ⟨b, xs, rfl, s, _⟩ := r.seq e1
      obtain ⟨b', xs', rfl, s', _⟩ := r'.seq e2
      cases kk with
      | lst => exact ⟨_, _, _, _, rfl, .inl ⟨C.hG ▸ s, C.hG ▸ s', C.hG ▸ itK k (walkZ e1 e2)⟩⟩
      | tup => exact ⟨_, _, _, _, rfl, .inr ⟨C.hG ▸ s, C.hG ▸ s', C.hG ▸ itK k (walkZT e1 e2)⟩⟩
    · cases ht
end
end Vs
/-! V17: comprehensions. -/
namespace Vs
open PySem PySem.Spec L2
open PyProof.Rows hiding St
abbrev W0 : WX := fun _ _ _ _ => False
section
variable {X : Cx} {G : Ga} {W : WX} {S : Sc} {Γ : Gam} {σ : L2.St} {H H' : Hp}
theorem Ctx.blk (C : Ctx G Γ S X) (s : Shared) (H : Hp) (scope : Scope) (c : Addr) (cl : List (Str × Addr)) (fp : List Addr) : Ctx G Γ (S.blk scope) (X.blk s H scope (compEnvC scope cl c X.env) fp) where
  hG := C.hG
  hw := C.hw
  sc := by show relS scope X.env.scope = relB scope S.sc; rw [C.sc]; rfl
  hN := C.hN
  nd := C.nd
  calm := C.calm
  gd := C.gd
  un := C.un
  con := C.con
  fn := fun f dn e => by
    obtain ⟨a, fd, ps, k, dn', ev, eu, ed, h⟩ := (C.fn f dn e).to
    exact ⟨a, fd, ps, k, dn', ev, eu, ed, h⟩
  bl := C.bl
  xc := C.xc
  xs := C.xs
  me := C.me
  ini := C.ini
  fld := C.fld
theorem ovl_ok : ∀ {os : List Ov} {vs : List V} {T : List Addr} {ds : List D}, RepO G H σ vs os T → ovs os [] = some ds → RVs G H vs ds
  | _, _, _, _, .nil, e => by unfold ovs at e; cases e; exact .nil
  | _, _, _, _, .d (os := os) r hs, e => by
    unfold ovs at e
    cases e2 : ovs os [] with
    | none => rw [e2] at e; cases e
    | some l => rw [e2] at e; cases e; exact .cons r (ovl_ok hs e2)
  | _, _, _, _, .v (i := i) (os := os) q hs, e => by
    unfold ovs at e
    split at e
    · rename_i d l e1 e2
      simp at e1
    · cases e
  | _, _, _, _, .p (os := os) q r va g hs, e => by
    unfold ovs at e
    split at e
    · rename_i d l e1 e2
      cases e
      obtain ⟨u, T', a, b, _⟩ := r.place e1
      cases a.inj va
      exact .cons b (ovl_ok hs e2)
    · cases e
theorem RepE.wipe {ρ : Env} : ∀ {O : List Addr} (vs : List Nat), RepE G H σ ρ O → ∃ O', O'.Sublist O ∧ RepE G H (L2.wipe σ vs) (wipeE ρ vs) O'
  | O, [], h => ⟨O, .refl _, h⟩
  | O, v :: vs, h => by
    obtain ⟨O1, s1, r1⟩ := RepE.wipe vs h
    obtain ⟨O2, s2, r2⟩ := r1.drop v
    refine ⟨O2, s2.trans s1, ?_⟩
    show RepE G H ((L2.wipe σ vs).set v none) ((wipeE ρ vs).set v none) O2
    by_cases hv : v < (wipeE ρ vs).length
    · exact r2.any v none (by simp [hv])
    · rw [List.set_eq_of_length_le (by rw [← r1.len]; omega)]; exact r2
theorem wipeE_len {ρ : Env} : ∀ vs : List Nat, (wipeE ρ vs).length = ρ.length
  | [] => rfl
  | v :: vs => by unfold wipeE; rw [List.length_set, wipeE_len vs]
theorem wipeE_none {ρ : Env} {i : Nat} {d : D} : ∀ {vs : List Nat}, i ∈ vs → (wipeE ρ vs)[i]? ≠ some (some d)
  | v :: vs, h => by
    intro e
    unfold wipeE at e
    by_cases hv : v = i
    · subst hv
      by_cases hl : v < (wipeE ρ vs).length
      · rw [List.getElem?_set_self hl] at e; cases e
      · rw [List.getElem?_eq_none (by simpa using hl)] at e; cases e
    · rw [List.getElem?_set_ne hv] at e
      rcases List.mem_cons.mp h with rfl | h
      · exact hv rfl
      · exact wipeE_none h e
theorem RepE.unwipe {ρ : Env} {O : List Addr} : ∀ {vs : List Nat}, RepE G H (L2.wipe σ vs) ρ O → (∀ i ∈ vs, ∀ d, ρ[i]? ≠ some (some d)) → RepE G H σ ρ O
  | [], h, _ => h
  | v :: vs, h, n => by
    refine RepE.unwipe (vs := vs) ?_ fun i q => n i (List.mem_cons_of_mem _ q)
    have h : RepE G H ((L2.wipe σ vs).set v none) ρ O := h
    by_cases hv : v < (L2.wipe σ vs).length
    · have hl : v < ρ.length := by rw [h.len]; simpa using hv
      have e : ρ[v]? = some none := by
        rw [List.getElem?_eq_getElem hl]
        cases q : ρ[v] with
        | none => rfl
        | some d => exact absurd (by rw [List.getElem?_eq_getElem hl, q]) (n v List.mem_cons_self d)
      have := h.any v (L2.wipe σ vs)[v] e
      rw [List.set_set] at this
      rw [show (L2.wipe σ vs).set v ((L2.wipe σ vs)[v]) = L2.wipe σ vs from List.set_getElem_self ..] at this
      exact this
    · rw [List.set_eq_of_length_le (by omega)] at h; exact h
theorem wipe_in {i : Nat} : ∀ {vs : List Nat}, i ∈ vs → i < σ.length → (L2.wipe σ vs)[i]? = some none
  | v :: vs, h, hl => by
    show ((L2.wipe σ vs).set v none)[i]? = some none
    by_cases hv : v = i
    · subst hv
      rw [List.getElem?_set_self (by rw [wipe_length]; exact hl)]
    · rw [List.getElem?_set_ne hv]
      rcases List.mem_cons.mp h with rfl | h
      · exact absurd rfl hv
      · exact wipe_in h hl
theorem wipe_eq {σ σ' : L2.St} {vs : List Nat} (hl : σ'.length = σ.length) (h : ∀ j, j ∉ vs → σ'[j]? = σ[j]?) : L2.wipe σ' vs = L2.wipe σ vs := by
  refine List.ext_getElem? fun j => ?_
  by_cases hj : j ∈ vs
  · by_cases hk : j < σ.length
    · rw [wipe_in hj hk, wipe_in hj (by omega)]
    · rw [List.getElem?_eq_none (by rw [wipe_length]; omega), List.getElem?_eq_none (by rw [wipe_length]; omega)]
  · rw [wipe_out hj, wipe_out hj, h j hj]
theorem wipe_wipe {σ' : L2.St} {vs : List Nat} (h : ∀ j, j ∉ vs → σ'[j]? = (L2.wipe σ vs)[j]?) (hl : σ'.length = (L2.wipe σ vs).length) : L2.wipe σ' vs = L2.wipe σ vs :=
  wipe_eq (by rw [hl, wipe_length]) fun j n => by rw [h j n, wipe_out n]
/-- what a comprehension's loop keeps -/
structure LcI (G : Ga) (σ : L2.St) (own : List Nat) (vs : List V) (os : List Ov) (T O2 : List Addr) (H2 : Hp) (D : Addr) (H : Hp) (ρ : Env) (acc : List Vs.D) : Prop where
  to : ∃ O xs TD, RepE G H (L2.wipe σ own) ρ O ∧ H D = some (.lst xs) ∧ Reps G H xs acc TD ∧ RepO G H σ vs os T ∧ (T ++ ((D :: TD) ++ O)).Nodup ∧ Go (T ++ O2) H2 (T ++ ((D :: TD) ++ O)) H
  no : ∀ i ∈ own, ∀ d, ρ[i]? ≠ some (some d)
theorem lc_logic {own : List Nat} {t : Tg} {k : ItK} {ops : List Sop} {test : TF} {f : EF} {Q : VK} (hb : itTup k = true → t.isTp = true) (ht : ∀ i ∈ t.sl, i ∈ own) (h : tE G W (lcE own t k ops test f) σ H Q) :
    tLc (tI G W k ops) (gT G.K t) (tT G W0 test) (tE G W0 f) own σ H Q := by
  obtain ⟨ρ, O, rE, nd, h⟩ := h
  unfold tLc tI
  refine run_ops ops ρ O rE nd ?_
  unfold OpsR
  unfold lcE at h
  cases er : runO ops ρ with
  | no => rw [er] at h; exact h.elim
  | ex x ρ' => rw [er] at h; exact h
  | ok q =>
  obtain ⟨os, ρ2⟩ := q
  rw [er] at h
  intro vs H20 O2 T rE20 rO0 nd2 go0
  simp only [Res.bind] at h
  cases e1 : ovs os [] with
  | none => simp only [e1] at h
  | some ds =>
  simp only [e1] at h
  cases e2 : itF k ds with
  | none => simp only [e2] at h
  | some ps =>
  simp only [e2] at h
  cases e3 : lcL own t test f ps (wipeE ρ2 own) [] with
  | none => simp only [e3] at h
  | some z =>
  simp only [e3] at h
  refine ⟨ds, ps, ovl_ok rO0 e1, e2, fun J H2 f2 w D hD => ?_⟩
  have rE2 := rE20.fr (S := []) f2 mut_nil (fun _ _ z => nomatch z)
  have rO := rO0.fr (S := []) f2 mut_nil (fun _ _ z => nomatch z)
  have go := go0.trans (⟨fun a o e _ => f2 a o e (fun z => nomatch z), fun a q => .inl q⟩ : Go (T ++ O2) H20 (T ++ O2) H2)
  refine lc_it w (fun i H => ∃ ρ' acc, LcI G σ own vs os T O2 H2 D H ρ' acc ∧ lcL own t test f (ps.drop i) ρ' acc = some z) ?_ ?_ ?_ ?_
  · obtain ⟨Ow, sw, rw'⟩ := rE2.wipe own
    have f := frm_new (o := .lst []) hD
    refine ⟨_, [], ⟨⟨Ow, [], [], rw'.fr (S := []) f mut_nil (fun _ _ z => nomatch z), upd_same, .nil, rO.fr (S := []) f mut_nil (fun _ _ z => nomatch z), ?_, ?_⟩, fun i hi d => wipeE_none hi⟩, by simpa using e3⟩
    · have nd' := nd_app.mp nd2
      refine nd_app.mpr ⟨nd'.1, List.nodup_cons.mpr ⟨fun z => ?_, sw.nodup nd'.2.1⟩, fun a q z => ?_⟩
      · obtain ⟨o, e⟩ := rE2.mut.some D (sw.subset (by simpa using z))
        rw [hD] at e; cases e
      · rcases List.mem_cons.mp z with rfl | z
        · obtain ⟨o, e⟩ := rO.mut.some a q
          rw [hD] at e; cases e
        · exact nd'.2.2 a q (sw.subset (by simpa using z))
    · refine (Go.new hD).less fun x q => ?_
      rcases List.mem_append.mp q with q | q
      · exact List.mem_cons_of_mem _ (List.mem_append_left _ q)
      · rcases List.mem_cons.mp q with rfl | q
        · exact List.mem_cons_self
        · exact List.mem_cons_of_mem _ (List.mem_append_right _ (sw.subset (by simpa using q)))
  · rintro i H _ ⟨ρ', acc, I, _⟩
    obtain ⟨_, _, _, _, _, _, r, _, g⟩ := I.to
    exact ⟨ovl_ok r e1, FzK.of g (MutA.app rO.mut rE2.mut)⟩
  · rintro i x H5 H6 hi ⟨ρ', acc, I, el⟩ ⟨fr, p, ep, dp⟩
    obtain ⟨O5, xs, TD, rE5, hDx, rA, rO5, nd5, go5⟩ := I.to
    have ed : ps.drop i = p :: ps.drop (i + 1) := by
      rw [List.getElem?_eq_getElem hi] at ep; cases ep
      exact List.drop_eq_getElem_cons hi
    rw [ed] at el
    unfold lcL at el
    have nL := nd_app.mp nd5
    have nR := nd_app.mp nL.2.1
    cases e4 : bindT [] t (.sh p) ρ' with
    | none => simp only [e4] at el; cases el
    | some ρ1 =>
    simp only [e4] at el
    have rE6 := rE5.fr (S := []) fr mut_nil fun _ _ z => nomatch z
    refine bindW_logic hb rE6 dp nR.2.1 e4 fun σ2 O7 rE7 nd7 sub7 dif => ?_
    have ew : L2.wipe σ2 own = L2.wipe σ own := wipe_wipe (fun j n => dif.out j fun q => n (ht j q)) dif.len
    refine ⟨ew, ρ1, O7, rE7, nd7, ?_⟩
    have go6 : Go O5 H5 O7 H6 := ⟨fun a o e _ => fr a o e (fun z => nomatch z), fun a q => .inl (by simpa using sub7 a q)⟩
    -- what is held beside is carried over
    have stand : ∀ {O9 : List Addr} {H9 : Hp} {ρ9 : Env} (Ty : List Addr), RepE G H9 σ2 ρ9 O9 → (Ty ++ O9).Nodup → Go O5 H5 (Ty ++ O9) H9 → H9 D = some (.lst xs) ∧ Reps G H9 xs acc TD ∧ RepO G H9 σ vs os T ∧ (T ++ ((D :: TD) ++ (Ty ++ O9))).Nodup ∧ Go (T ++ O2) H2 (T ++ ((D :: TD) ++ (Ty ++ O9))) H9 := by
      intro O9 H9 ρ9 Ty r9 n9 g9
      have m5 := rE5.mut
      have d1 : ∀ a ∈ T, a ∉ O5 := fun a q z => nL.2.2 a q (List.mem_append_right _ z)
      have d2 : ∀ a ∈ D :: TD, a ∉ O5 := fun a q z => nR.2.2 a q z
      have mL : MutA H5 (T ++ (D :: TD)) := MutA.app rO5.mut (fun a q => by
        rcases List.mem_cons.mp q with rfl | q
        · rw [hDx]; trivial
        · exact rA.mut a q)
      have kp := g9.keep (T := T ++ (D :: TD)) fun a q => ⟨fun z => (List.mem_append.mp q).elim (fun y => d1 a y z) fun y => d2 a y z, mL.some a q⟩
      refine ⟨g9.frm _ _ hDx (d2 D List.mem_cons_self), rA.fr g9.frm m5 fun a q => d2 a (List.mem_cons_of_mem _ q), rO5.fr g9.frm m5 d1, ?_, ?_⟩
      · have nLR : (T ++ (D :: TD)).Nodup := nd_app.mpr ⟨nL.1, nR.1, fun a q z => nL.2.2 a q (List.mem_append_left _ z)⟩
        rw [← List.append_assoc]
        exact nd_app.mpr ⟨nLR, n9, kp⟩
      · have := go5.trans (S2 := T ++ ((D :: TD) ++ (Ty ++ O9))) (H2 := H9) (by
          have := (g9.held (T := T ++ (D :: TD)))
          rw [List.append_assoc, List.append_assoc] at this
          exact this)
        exact this
    have next : ∀ {O9 : List Addr} {H9 : Hp} {ρ9 : Env}, RepE G H9 σ2 ρ9 O9 → O9.Nodup → Go O5 H5 O9 H9 → LcI G σ own vs os T O2 H2 D H9 (wipeE ρ9 own) acc := by
      intro O9 H9 ρ9 r9 n9 g9
      obtain ⟨a1, a2, a3, a4, a5⟩ := stand [] r9 (by simpa using n9) (by simpa using g9)
      obtain ⟨Ow, sw, rw'⟩ := r9.wipe own
      rw [ew] at rw'
      have sb : (T ++ ((D :: TD) ++ Ow)).Sublist (T ++ ((D :: TD) ++ ([] ++ O9))) := .append (.refl _) (.append (.refl _) (by simpa using sw))
      exact ⟨⟨Ow, xs, TD, rw', a1, a2, a3, sb.nodup a4, a5.less fun x q => sb.subset q⟩, fun i hi d => wipeE_none hi⟩
    cases e5 : test ρ1 with
    | no => simp only [e5] at el; cases el
    | ex x ρ9 => simp only [e5] at el; cases el
    | ok q5 =>
    obtain ⟨b, ρ8⟩ := q5
    intro H8 ⟨O8, rE8, nd8, go8⟩
    have g8 := go6.trans go8
    cases b with
    | false =>
      simp only [e5] at el
      rw [if_neg Bool.false_ne_true]
      exact ⟨_, acc, next rE8 nd8 g8, el⟩
    | true =>
      simp only [e5] at el
      rw [if_pos rfl]
      refine tE_iff.mpr ⟨ρ8, O8, rE8, nd8, ?_⟩
      cases e6 : f ρ8 with
      | no => simp only [e6] at el; cases el
      | ex x ρ9 => simp only [e6] at el; cases el
      | ok q6 =>
      obtain ⟨d, ρ9⟩ := q6
      simp only [e6] at el
      split at el
      · rename_i hlen
        intro y H9 ⟨O9, Ty, rE9, ry, nd9, go9⟩
        have g9 := g8.trans go9
        obtain ⟨a1, a2, a3, a4, a5⟩ := stand Ty rE9 nd9 g9
        refine ⟨xs, a1, by rw [rA.len, sizeLine_eq]; omega, _, acc ++ [d], ?_, el⟩
        obtain ⟨Ow, sw, rw'⟩ := rE9.wipe own
        rw [ew] at rw'
        have n4 := nd_app.mp a4
        have n5 := nd_app.mp n4.2.1
        have nD := List.nodup_cons.mp n5.1
        have dD : ∀ a, a ∈ T ∨ a ∈ TD ∨ a ∈ Ty ∨ a ∈ O9 → a ∉ [D] := fun a q z => by
          rw [List.mem_singleton] at z; subst z
          rcases q with q | q | q | q
          · exact n4.2.2 a q (List.mem_append_left _ List.mem_cons_self)
          · exact nD.1 q
          · exact n5.2.2 a List.mem_cons_self (List.mem_append_left _ q)
          · exact n5.2.2 a List.mem_cons_self (List.mem_append_right _ q)
        have fD : Frm [D] H9 (upd H9 D (.lst (xs ++ [y]))) := fun b u e n => by rw [upd_ne (fun q : b = D => n (by rw [q]; simp))]; exact e
        have mD : MutA H9 [D] := fun a q => by rw [List.mem_singleton] at q; subst q; rw [a1]; trivial
        have pm : (T ++ ((D :: (TD ++ Ty)) ++ Ow)).Sublist (T ++ ((D :: TD) ++ (Ty ++ O9))) := by
          refine .append (.refl _) ?_
          rw [List.cons_append, List.cons_append, List.append_assoc]
          exact .cons_cons _ (.append (.refl _) (.append (.refl _) sw))
        refine ⟨⟨Ow, xs ++ [y], TD ++ Ty, rw'.fr fD mD (fun a q => dD a (.inr (.inr (.inr (sw.subset q))))), upd_same, ?_, a3.fr fD mD fun a q => dD a (.inl q), pm.nodup a4, ?_⟩, fun i hi d => wipeE_none hi⟩
        · have r1 := a2.fr fD mD fun a q => dD a (.inr (.inl q))
          have r2 := ry.fr fD mD fun a q => dD a (.inr (.inr (.inl q)))
          have := r1.app (.cons r2 .nil)
          rwa [List.append_nil] at this
        · exact (a5.trans (Go.put (List.mem_append_right _ (List.mem_append_left _ List.mem_cons_self)))).less fun x q => pm.subset q
      · cases el
  · rintro H9 ⟨ρ', acc, I, el⟩
    obtain ⟨O5, xs, TD, rE5, hDx, rA, rO5, nd5, go5⟩ := I.to
    rw [List.drop_length] at el
    unfold lcL at el
    cases el
    simp only at h
    have nL := nd_app.mp nd5
    have nR := nd_app.mp nL.2.1
    cases e4 : unlock os ρ' with
    | none => simp only [e4] at h
    | some ρ3 =>
    simp only [e4] at h
    obtain ⟨O6, rE6, nd6, sub⟩ := unlock_ok rO5 (rE5.unwipe I.no) (nd_app.mpr ⟨nL.1, nR.2.1, fun a q z => nL.2.2 a q (List.mem_append_right _ z)⟩) e4
    refine h _ _ ⟨O6, D :: TD, rE6, .ls hDx rA, nd_app.mpr ⟨nR.1, nd6, fun a q z => ?_⟩, go.trans (go5.less fun a q => ?_)⟩
    · rcases List.mem_append.mp (sub a z) with y | y
      · exact nL.2.2 a y (List.mem_append_left _ q)
      · exact nR.2.2 a q y
    · rcases List.mem_append.mp q with q | q
      · exact List.mem_append_right _ (List.mem_append_left _ q)
      · rcases List.mem_append.mp (sub a q) with y | y
        · exact List.mem_append_left _ y
        · exact List.mem_append_right _ (List.mem_append_right _ y)
end
end Vs
/-! V18: every expression. -/
namespace Vs
open PySem PySem.Spec L2
open PyProof.Rows hiding St
section
variable {G : Ga} {Γ : Gam}
theorem pt_no {X : Cx} {W : WX} {x : PySem.Expr} : PT X x (tT G W fun _ => .no) := ⟨fun _ _ _ _ _ _ ⟨_, _, _, _, z⟩ => z.elim⟩
theorem ownOf_map {S : Sc} {own : List Nat} : (ownOf S own).map (·.2) = own := by
  unfold ownOf
  rw [List.map_map]
  exact List.map_id own
theorem isSet_pure {it : PySem.Expr} {env : PySem.Env} (h : notSet it = true) : ∀ x, foldedSetIterable it env x = pure x := by
  intro x
  cases it <;> first | rfl | cases h
/-- operands that are not views -/
def noVw : Ex → Bool
  | .vw _ _ => false
  | _ => true
theorem sops_e {e : Ex} {es : List Ex} (h : noVw e = true) : sops Γ (e :: es) = .e (ev Γ e) :: sops Γ es := by
  cases e <;> first | rfl | cases h
theorem lops_e {e : Ex} {es : List Ex} (h : noVw e = true) : lops Γ (e :: es) = .e (ev Γ e) :: lops Γ es := by
  cases e <;> first | rfl | cases h
theorem mO_e {S : Sc} {e : Ex} {es : List Ex} {x : PySem.Expr} {xs : List PySem.Expr} (n : noVw e = true) : mO S (e :: es) (x :: xs) = (mE S e x && notStar x && mO S es xs) := by
  cases e <;> first | rfl | cases n
theorem mL_e {S : Sc} {e : Ex} {es : List Ex} {x : PySem.Expr} {xs : List PySem.Expr} (n : noVw e = true) : mL S (e :: es) (x :: xs) = (mE S e x && notStar x && mL S es xs) := by
  cases e <;> first | rfl | cases n
theorem mE_vw {S : Sc} {e : Ex} {x : PySem.Expr} (h : mE S e x = true) : noVw e = true := by
  cases e <;> first | rfl | (unfold mE at h; cases h)
theorem ifs_ok {X : Cx} {W : WX} {xs : List PySem.Expr} {fs : List TF} (h : PTss X G W xs fs) (n : xs.length ≤ 1) : PTs X xs (tT G W (ifT fs)) := by
  cases h with
  | nil => exact ⟨fun pins s σ H Q I ⟨ρ, O, a, b, c⟩ => pts_nil.run pins s σ H Q I (c.now a b)⟩
  | cons h hs =>
    cases hs with
    | nil => exact pts_one h
    | cons _ _ => simp at n
theorem mkd_all {X : Cx} {G : Ga} {Γ : Gam} {S : Sc} {W : WX} (C : Ctx G Γ S X) {as : List Ex} {k v : PySem.Expr} {pos : Pos} (h : mEs S as [k, v] = true) (ps : POs X G W [k, v] (sops Γ as)) : PE X (.Dict [some k] [v] pos) (tE G W (ev Γ (.op .mkd as))) := by
  match as, h, ps with
  | [a, b], h, ps =>
    simp only [mEs, Bool.and_eq_true] at h
    have ea : sops Γ [a, b] = .e (ev Γ a) :: sops Γ [b] := by
      cases a <;> first | rfl | (simp [mE] at h)
    have eb : sops Γ [b] = [.e (ev Γ b)] := by
      cases b <;> first | rfl | (simp [mE] at h)
    rw [ea, eb] at ps
    cases ps with
    | cons pa _ ps =>
      cases ps with
      | cons pb _ ps =>
        have z := mkd_ok (pos := pos) C.hG C.hw C.un (f := ev Γ a) (g := ev Γ b) pa pb
        have e : ev Γ (.op .mkd [a, b]) = opE (bi2 oMkd) [.e (ev Γ a), .e (ev Γ b)] := by
          show opE (opD .mkd) (wrapO .mkd (sops Γ [a, b])) = _
          rw [ea, eb]
          rfl
        rw [e]
        exact z
  | [], h, _ => simp [mEs] at h
  | [_], h, _ => simp [mEs] at h
  | _ :: _ :: _ :: _, h, _ => simp [mEs] at h
mutual
theorem ev_ok : ∀ (e : Ex) {S : Sc} {X : Cx} {W : WX} {x : PySem.Expr}, Ctx G Γ S X → Takes X W → mE S e x = true → PE X x (tE G W (ev Γ e))
  | .lit d, S, X, W, x, C, tk, h => by
    unfold mE at h
    split at h
    · exact lit_ok h
    · rw [isD0_eq h]; exact lit0_ok
    · cases h
  | .rd i, S, X, W, x, C, tk, h => rd_ok C h
  | .mv i, S, X, W, x, C, tk, h => mv_ok C h
  | .vw _ _, S, X, W, x, C, tk, h => by unfold mE at h; cases h
  | .gl f, S, X, W, x, C, tk, h => by
    unfold mE at h
    split at h
    · rw [Bool.and_eq_true, decide_eq_true_eq] at h
      obtain ⟨rfl, h⟩ := h
      exact gl_ok C h
    · cases h
  | .tup es, S, X, W, x, C, tk, h => by
    unfold mE at h
    split at h
    · exact tup_ok (evs_pos es C tk h)
    · cases h
  | .lst es, S, X, W, x, C, tk, h => by
    unfold mE at h
    split at h
    · exact lst_ok (evs_pos es C tk h)
    · cases h
  | .op o as, S, X, W, x, C, tk, h => by
    unfold mE at h
    split at h
    · rename_i xs e
      exact op_ok C e (mO_ok as C tk h)
    · rw [Bool.and_eq_true] at h
      obtain ⟨k, v, pos, rfl, rfl, e⟩ := mkd_inv h.1
      have h2 := h.2
      rw [e] at h2
      exact mkd_all C h2 (evs_pos as C tk h2)
  | .chn o o' a b c, S, X, W, x, C, tk, h => by
    unfold mE at h
    split at h
    · simp only [Bool.and_eq_true, decide_eq_true_eq] at h
      obtain ⟨⟨⟨⟨⟨⟨h1, h2⟩, h3⟩, h4⟩, h5⟩, h6⟩, h7⟩ := h
      exact chn_ok C h1 h2 h4 (ev_ok a C tk h5) (ev_ok b C tk h6) (ev_ok c C tk h7)
    · cases h
  | .bop k es, S, X, W, x, C, tk, h => by
    unfold mE at h
    split at h
    · simp only [Bool.and_eq_true, decide_eq_true_eq] at h
      obtain ⟨⟨rfl, h1⟩, h2⟩ := h
      exact bop_ok (evs_pe es C tk h2)
    · cases h
  | .not a, S, X, W, x, C, tk, h => by
    unfold mE at h
    split at h
    · exact not_ok (ev_ok a C tk h)
    · cases h
  | .ite c a b, S, X, W, x, C, tk, h => by
    unfold mE at h
    split at h
    · simp only [Bool.and_eq_true] at h
      exact ite_ok (evT_ok c C tk h.1.1) (ev_ok a C tk h.1.2) (ev_ok b C tk h.2)
    · cases h
  | .call f as bs ks π, S, X, W, x, C, tk, h => by
    unfold mE at h
    split at h
    · simp only [Bool.and_eq_true, decide_eq_true_eq, Bool.or_eq_true, Bool.not_eq_true'] at h
      obtain ⟨⟨⟨⟨⟨⟨rfl, h1⟩, h2⟩, h3⟩, h4⟩, h5⟩, h6⟩ := h
      split at h3
      · rename_i ys e
        refine call_ok C tk h1 (mO_ok as C tk h2) e (mO_ok bs C tk h3) h4 h5 fun z => ?_
        subst z
        rcases h6 with h6 | h6
        · simp at h6
        · exact h6
      · cases h3
    · cases h
  | .mut m i path as, S, X, W, x, C, tk, h => by
    unfold mE at h
    split at h
    · simp only [Bool.and_eq_true, decide_eq_true_eq] at h
      obtain ⟨⟨⟨⟨h1, h2⟩, h3⟩, h4⟩, h5⟩ := h
      exact mut_ok C h1 h2 (mO_ok as C tk h3) h4 h5
    · cases h
  | .lc own t k as ifs e, S, X, W, x, C, tk, h => by
    unfold mE at h
    split at h
    · rename_i elt tg it cs scope pos
      simp only [Bool.and_eq_true, decide_eq_true_eq] at h
      obtain ⟨⟨⟨⟨⟨⟨⟨⟨h1, h2⟩, h3⟩, h4⟩, h5⟩, h6⟩, h7⟩, h8⟩, h9⟩ := h
      split at h1
      · rename_i xs ex
        have pi := pi_ok (tg := tg) C ex (mL_ok as C tk h1) (fun z => by rw [z] at h2; simpa using h2)
        have ok := blkOk_by h3
        rw [← C.hN, ← C.sc] at ok
        refine pImp (pe_lc C.calm (C.hN ▸ C.nd) pi ok
          (fun s H c cl fp => tg_pg (C.blk s H scope c cl fp) (fun x z => z) h4)
          (fun s H c cl fp => ifs_ok (evTs_ok ifs (W := W0) (C.blk s H scope c cl fp) takes0 h7) h6)
          (fun s H c cl fp => ev_ok e (W := W0) (C.blk s H scope c cl fp) takes0 h8) (isSet_pure h9)) fun σ H Q z => ?_
        rw [ownOf_map]
        refine lc_logic (tgB_tp h4 h2) (fun i q => ?_) z
        have := List.all_eq_true.mp h5 i q
        simpa using this
      · cases h1
    · cases h
  | .fz a, S, X, W, x, C, tk, h => fz_ok (ev_ok a C tk h)
  | .at i p, S, X, W, x, C, tk, h => at_ok C h
  | .dct ks es, S, X, W, x, C, tk, h => by
    unfold mE at h
    split at h
    · simp only [Bool.and_eq_true, decide_eq_true_eq, Bool.not_eq_true'] at h
      obtain ⟨⟨⟨h1, h2⟩, h4⟩, h5⟩ := h
      by_cases h0 : ks = []
      · subst h0
        cases ‹List (Option PySem.Expr)› with
        | cons _ _ => unfold mKeys at h1; cases h1
        | nil =>
          cases ‹List PySem.Expr› with
          | cons _ _ => simp at h2
          | nil =>
            cases es with
            | cons _ _ => unfold mEs at h5; cases h5
            | nil => exact dct0_ok
      · exact dct_ok h1 h2 h0 h4 (evs_pos es C tk h5)
    · cases h
  | .tm c i a, S, X, W, x, C, tk, h => by
    unfold mE at h
    split at h
    · simp only [Bool.and_eq_true, decide_eq_true_eq] at h
      obtain ⟨⟨⟨⟨h1, h2⟩, h3⟩, h4⟩, h5⟩ := h
      exact tm_ok C h1 h2 (ev_ok a C tk h3) h4 h5
    · cases h
  | .new c as, S, X, W, x, C, tk, h => by
    unfold mE at h
    split at h
    · rename_i xs _
      simp only [Bool.and_eq_true, decide_eq_true_eq] at h
      obtain ⟨⟨⟨rfl, h1⟩, h2⟩, h3⟩ := h
      cases xs with
      | nil => simp at h2
      | cons y ys => exact new_ok C h1 (mO_ok as C tk h3)
    · cases h
  | .mcl c m i as, S, X, W, x, C, tk, h => by
    unfold mE at h
    split at h
    · rename_i xs _
      simp only [Bool.and_eq_true, decide_eq_true_eq] at h
      obtain ⟨⟨⟨⟨⟨rfl, h1⟩, h2⟩, h3⟩, h4⟩, h5⟩ := h
      cases xs with
      | nil => simp at h2
      | cons y ys => exact mcl_ok C tk h1 (mO_ok as C tk h3) h4 h5
    · cases h
  | .fld i n, S, X, W, x, C, tk, h => by
    unfold mE at h
    split at h
    · simp only [Bool.and_eq_true, decide_eq_true_eq] at h
      obtain ⟨rfl, h1⟩ := h
      exact fld_ok C h1
    · cases h
theorem evT_ok : ∀ (e : Ex) {S : Sc} {X : Cx} {W : WX} {x : PySem.Expr}, Ctx G Γ S X → Takes X W → mE S e x = true → PT X x (tT G W (evT Γ e))
  | .bop k es, S, X, W, x, C, tk, h => by
    unfold mE at h
    split at h
    · simp only [Bool.and_eq_true, decide_eq_true_eq] at h
      obtain ⟨⟨rfl, h1⟩, h2⟩ := h
      exact (bopT_ok (evTs_ok es C tk h2) (fun z => by subst z; simp at h1)).pt
    · cases h
  | .not a, S, X, W, x, C, tk, h => by
    unfold mE at h
    split at h
    · exact notT_ok (evT_ok a C tk h)
    · cases h
  | .lit d, S, X, W, x, C, tk, h => by
    unfold mE at h
    split at h
    · exact val_okT (lit_ok h) rfl
    · rw [isD0_eq h]; exact val_okT lit0_ok rfl
    · cases h
  | .rd i, S, X, W, x, C, tk, h => by
    refine val_okT (rd_ok C h) ?_
    have h : mName S i x = true := h
    unfold mName at h
    split at h
    · rfl
    · cases h
  | .op o as, S, X, W, x, C, tk, h => by
    have h0 := h
    unfold mE at h
    split at h
    · rename_i xs e
      exact op_okT C e (mO_ok as C tk h)
    · rw [Bool.and_eq_true] at h
      obtain ⟨k, v, pos, e1, e2, e⟩ := mkd_inv h.1
      exact val_okT (ev_ok (.op o as) C tk h0) (by rw [e2]; rfl)
  | .chn o o' a b c, S, X, W, x, C, tk, h => by
    unfold mE at h
    split at h
    · simp only [Bool.and_eq_true, decide_eq_true_eq] at h
      obtain ⟨⟨⟨⟨⟨⟨h1, h2⟩, h3⟩, h4⟩, h5⟩, h6⟩, h7⟩ := h
      exact chn_okT C h1 h2 h4 (ev_ok a C tk h5) (ev_ok b C tk h6) (ev_ok c C tk h7)
    · cases h
  | .call f as bs ks π, S, X, W, x, C, tk, h => by
    refine val_okT (ev_ok (.call f as bs ks π) C tk h) ?_
    unfold mE at h
    split at h
    · rfl
    · cases h
  | .vw _ _, S, X, W, x, C, tk, h => pt_no
  | .mv _, S, X, W, x, C, tk, h => pt_no
  | .gl _, S, X, W, x, C, tk, h => pt_no
  | .tup _, S, X, W, x, C, tk, h => pt_no
  | .lst _, S, X, W, x, C, tk, h => pt_no
  | .ite _ _ _, S, X, W, x, C, tk, h => pt_no
  | .mut _ _ _ _, S, X, W, x, C, tk, h => pt_no
  | .lc _ _ _ _ _ _, S, X, W, x, C, tk, h => pt_no
  | .fz _, S, X, W, x, C, tk, h => pt_no
  | .at _ _, S, X, W, x, C, tk, h => pt_no
  | .dct _ _, S, X, W, x, C, tk, h => pt_no
  | .tm _ _ _, S, X, W, x, C, tk, h => pt_no
  | .new _ _, S, X, W, x, C, tk, h => pt_no
  | .mcl _ _ _ _, S, X, W, x, C, tk, h => pt_no
  | .fld _ _, S, X, W, x, C, tk, h => pt_no
theorem evs_pe : ∀ (es : List Ex) {S : Sc} {X : Cx} {W : WX} {xs : List PySem.Expr}, Ctx G Γ S X → Takes X W → mEs S es xs = true → PEs X G W xs (evs Γ es)
  | [], S, X, W, [], C, tk, h => .nil
  | e :: es, S, X, W, x :: xs, C, tk, h => by
    unfold mEs at h
    simp only [Bool.and_eq_true] at h
    exact .cons (ev_ok e C tk h.1.1) (evs_pe es C tk h.2)
  | [], S, X, W, _ :: _, C, tk, h => by unfold mEs at h; cases h
  | _ :: _, S, X, W, [], C, tk, h => by unfold mEs at h; cases h
theorem evTs_ok : ∀ (es : List Ex) {S : Sc} {X : Cx} {W : WX} {xs : List PySem.Expr}, Ctx G Γ S X → Takes X W → mEs S es xs = true → PTss X G W xs (evTs Γ es)
  | [], S, X, W, [], C, tk, h => .nil
  | e :: es, S, X, W, x :: xs, C, tk, h => by
    unfold mEs at h
    simp only [Bool.and_eq_true] at h
    exact .cons (evT_ok e C tk h.1.1) (evTs_ok es C tk h.2)
  | [], S, X, W, _ :: _, C, tk, h => by unfold mEs at h; cases h
  | _ :: _, S, X, W, [], C, tk, h => by unfold mEs at h; cases h
theorem evs_pos : ∀ (es : List Ex) {S : Sc} {X : Cx} {W : WX} {xs : List PySem.Expr}, Ctx G Γ S X → Takes X W → mEs S es xs = true → POs X G W xs (sops Γ es)
  | [], S, X, W, [], C, tk, h => .nil
  | e :: es, S, X, W, x :: xs, C, tk, h => by
    unfold mEs at h
    simp only [Bool.and_eq_true] at h
    rw [sops_e (mE_vw h.1.1)]
    exact .cons (ev_ok e C tk h.1.1) h.1.2 (evs_pos es C tk h.2)
  | [], S, X, W, _ :: _, C, tk, h => by unfold mEs at h; cases h
  | _ :: _, S, X, W, [], C, tk, h => by unfold mEs at h; cases h
theorem mO_ok : ∀ (es : List Ex) {S : Sc} {X : Cx} {W : WX} {xs : List PySem.Expr}, Ctx G Γ S X → Takes X W → mO S es xs = true → POs X G W xs (sops Γ es)
  | [], S, X, W, [], C, tk, h => .nil
  | e :: es, S, X, W, x :: xs, C, tk, h => by
    cases n : noVw e with
    | true =>
      rw [mO_e n] at h
      simp only [Bool.and_eq_true] at h
      rw [sops_e n]
      exact .cons (ev_ok e C tk h.1.1) h.1.2 (mO_ok es C tk h.2)
    | false =>
      have ih := fun h => mO_ok es (xs := xs) C tk h
      cases e with
      | vw i p =>
        unfold mO at h
        simp only [Bool.and_eq_true] at h
        cases p with
        | nil => exact .cons (mView_var C h.1.1) h.1.2 (ih h.2)
        | cons k p => exact .cons (mView_pe C h.1.1) h.1.2 (ih h.2)
      | _ => cases n
  | [], S, X, W, _ :: _, C, tk, h => by unfold mO at h; cases h
  | e :: _, S, X, W, [], C, tk, h => by cases e <;> (unfold mO at h; cases h)
theorem mL_ok : ∀ (es : List Ex) {S : Sc} {X : Cx} {W : WX} {xs : List PySem.Expr}, Ctx G Γ S X → Takes X W → mL S es xs = true → POs X G W xs (lops Γ es)
  | [], S, X, W, [], C, tk, h => .nil
  | e :: es, S, X, W, x :: xs, C, tk, h => by
    cases n : noVw e with
    | true =>
      rw [mL_e n] at h
      simp only [Bool.and_eq_true] at h
      rw [lops_e n]
      exact .cons (ev_ok e C tk h.1.1) h.1.2 (mL_ok es C tk h.2)
    | false =>
      have ih := fun h => mL_ok es (xs := xs) C tk h
      cases e with
      | vw i p =>
        unfold mL at h
        simp only [Bool.and_eq_true] at h
        exact .cons (mView_pe C h.1.1) h.1.2 (ih h.2)
      | _ => cases n
  | [], S, X, W, _ :: _, C, tk, h => by unfold mL at h; cases h
  | e :: _, S, X, W, [], C, tk, h => by cases e <;> (unfold mL at h; cases h)
end
end
end Vs
/-! V19: statements: the own syntax, its evaluator, when a text is an instance of it. -/
namespace Vs
open PySem PySem.Spec L2
open PyProof.Rows hiding St
/-- what an except suite may tell: of the error e -/
inductive Ha where
  | lit (p : PyData)
  | fld (f : Str)
  | isE (c : Str)
inductive Hx where
  | one (a : Ha)
  | tup (l : List Ha)
  | lst (l : List Ha)
  | cond (c : Str) (a b : Ha)
def evA (Γ : Gam) (x : Exc) : Ha → Option PyData
  | .lit p => some p
  | .fld f => match Γ.xc x.cls with
    | some fl => if f ∈ fl then x.fs.lookup f else none
    | none => none
  | .isE c => match Γ.xs x.cls c with
    | some b => some (.bool b)
    | none => none
def evAs (Γ : Gam) (x : Exc) : List Ha → Option (List PyData)
  | [] => some []
  | a :: r => match evA Γ x a, evAs Γ x r with
    | some p, some l => some (p :: l)
    | _, _ => none
def evH (Γ : Gam) (x : Exc) : Hx → Option D
  | .one a => match evA Γ x a with
    | some p => some (.sh p)
    | none => none
  | .tup l => match evAs Γ x l with
    | some ps => if ps.length ≤ 1000 then some (.sh (.tuple ps)) else none
    | none => none
  | .lst l => match evAs Γ x l with
    | some ps => if ps.length ≤ 1000 then some (.ls (ps.map .sh)) else none
    | none => none
  | .cond c a b => match Γ.xs x.cls c with
    | some t => match evA Γ x (if t = true then a else b) with
      | some p => some (.sh p)
      | none => none
    | none => none
def wipeO (j : Option Nat) (ρ : Env) : Env := match j with
  | some i => ρ.set i none
  | none => ρ
inductive Sm where
  | asg (t : Tg) (e : Ex)
  | par (is : List Nat) (es : List Ex)
  | put (dk : Bool) (i : Nat) (path : List PK) (k e : Ex)
  | put2 (dk : Bool) (i : Nat) (path : List PK) (k : Ex) (dk' : Bool) (i' : Nat) (path' : List PK) (k' : Ex) (e e' : Ex)
  | ex (e : Ex)
  | ite (c : Ex) (a b : List Sm)
  | whl (c : Ex) (b : List Sm)
  | lop (t : Tg) (k : ItK) (as : List Ex) (b : List Sm)
  | ret (e : Ex)
  | retN
  | pass
  | brk
  | cnt
  | frz (i : Nat)
  | bor (j i : Nat) (path : List PK) (b : List Sm)
  | rai0 (c : Str)
  | rai1 (c : Str) (e : Ex)
  | tr (b : List Sm) (c : Str) (j : Option Nat) (h : Hx)
  | fst (i : Nat) (x : Str) (e : Ex)
inductive Out where
  | nx (ρ : Env)
  | br (ρ : Env)
  | ct (ρ : Env)
  | rt (d : D) (ρ : Env)
  | ex (x : Exc) (ρ : Env)
  | no
abbrev SF := Env → Out
def Out.seq : Out → SF → Out
  | .nx ρ, g => g ρ
  | o, _ => o
/-- the names put right at any end -/
def Out.back (f : Env → Option Env) : Out → Out
  | .nx ρ => match f ρ with | some ρ' => .nx ρ' | none => .no
  | .br ρ => match f ρ with | some ρ' => .br ρ' | none => .no
  | .ct ρ => match f ρ with | some ρ' => .ct ρ' | none => .no
  | .rt d ρ => match f ρ with | some ρ' => .rt d ρ' | none => .no
  | .ex x ρ => match f ρ with | some ρ' => .ex x ρ' | none => .no
  | .no => .no
def Res.out {α : Type} (r : Res α) (k : α → Out) : Out := match r with
  | .ok a => k a
  | .ex x ρ => .ex x ρ
  | .no => .no
def asgF (t : Tg) (f : EF) : SF := fun ρ => (f ρ).out fun q => match bindT [] t q.1 q.2 with
  | some ρ' => .nx ρ'
  | none => .no
def parF (is : List Nat) (ops : List Sop) : SF := fun ρ => (runO ops ρ).out fun q => match ods q.1 with
  | some ds => match setAll [] is ds q.2 with
    | some ρ' => .nx ρ'
    | none => .no
  | none => .no
def hasK (ks : List Key) (k : Key) : Bool := ks.any fun q => decide (q = k)
theorem hasK_iff {ks : List Key} {k : Key} : hasK ks k = true ↔ k ∈ ks := by
  unfold hasK
  simp
def dkPut (ks : List Key) (ds : List D) (k : Key) (d : D) : Option D := if ks.Nodup ∧ ks.length < 1000000 then (if hasK ks k = true then some (.dk ks (dkSet ks ds k d)) else some (.dk (ks ++ [k]) (ds ++ [d]))) else none
def ddStore (ks : List PyData) (ds : List D) (kk : PyData) (d : D) : Option D := match tkey kk with
  | some k => if ks.length < 1000000 then some (.dd (ddPut ks ds kk k d).1 (ddPut ks ds kk k d).2) else none
  | none => none
def putD : Bool → D → PyData → D → Option D
  | false, .ls ds, .int n, d => match ixN ds.length n with
    | some j => some (.ls (ds.set j d))
    | none => none
  | true, .dk ks ds, .str x, d => dkPut ks ds (.inr x) d
  | true, .dk ks ds, .int x, d => dkPut ks ds (.inl x) d
  | true, .dk [] [], .tuple l, d => ddStore [] [] (.tuple l) d
  | true, .dd ks ds, kk, d => ddStore ks ds kk d
  | _, _, _, _ => none
/-- a value stored in a place -/
def putV (dk : Bool) (i : Nat) (path : List PK) (k : EF) (d : D) : SF := fun ρ => match ρ[i]? with
  | some (some root) => match getP path root with
    | some c => match k (ρ.set i none) with
      | .ok (.sh kk, ρ2) => match putD dk c kk d with
        | some c' => match ρ2[i]? with
          | some none => .nx (ρ2.set i (some (setP path root c')))
          | _ => .no
        | none => .no
      | _ => .no
    | none => .no
  | _ => .no
def putF (dk : Bool) (i : Nat) (path : List PK) (k f : EF) : SF := fun ρ => (f ρ).out fun q => putV dk i path k q.1 q.2
/-- two shared values, stored one behind the other -/
def put2F (f : EF) (s1 s2 : D → SF) : SF := fun ρ => (f ρ).out fun q => match q.1 with
  | .sh (.tuple [a, b]) => (s1 (.sh a) q.2).seq (s2 (.sh b))
  | _ => .no
def exF (f : EF) : SF := fun ρ => (f ρ).out fun q => .nx q.2
def iteF (c : TF) (a b : SF) : SF := fun ρ => (c ρ).out fun q => if q.1 = true then a q.2 else b q.2
def fuel : Nat := 1000000000000
def whL (c : TF) (b : SF) : Nat → SF
  | 0, _ => .no
  | n + 1, ρ => (c ρ).out fun q => if q.1 = true then (match b q.2 with
      | .nx ρ2 => whL c b n ρ2
      | .ct ρ2 => whL c b n ρ2
      | .br ρ2 => .nx ρ2
      | o => o) else .nx q.2
def lopL (t : Tg) (b : SF) : List PyData → SF
  | [], ρ => .nx ρ
  | p :: ps, ρ => match bindT [] t (.sh p) ρ with
    | none => .no
    | some ρ1 => match b ρ1 with
      | .nx ρ2 => lopL t b ps ρ2
      | .ct ρ2 => lopL t b ps ρ2
      | .br ρ2 => .nx ρ2
      | o => o
def lopF (t : Tg) (k : ItK) (ops : List Sop) (b : SF) : SF := fun ρ => (runO ops ρ).out fun q => match ovs q.1 [] with
  | some ds => match itF k ds with
    | some ps => (lopL t b ps q.2).back (unlock q.1)
    | none => .no
  | none => .no
def retF (f : EF) : SF := fun ρ => (f ρ).out fun q => .rt q.1 q.2
/-- a dict of tuples that nobody writes any more -/
def fzD : D → Option D
  | .dd ks ds => match unsh ds with
    | some l => some (.fd ks l)
    | none => none
  | _ => none
def frzF (i : Nat) : SF := fun ρ => match ρ[i]? with
  | some (some d) => match d.fz with
    | some p => .nx (ρ.set i (some (.sh p)))
    | none => match fzD d with
      | some e => .nx (ρ.set i (some e))
      | none => .no
  | _ => .no
/-- a name for a place within another name's tree, which stands aside meanwhile -/
def giveB (j i : Nat) (path : List PK) (root : D) : Env → Option Env := fun ρ => match ρ[j]?, ρ[i]? with
  | some (some d), some none => some ((ρ.set j none).set i (some (setP path root d)))
  | _, _ => none
def borF (j i : Nat) (path : List PK) (b : SF) : SF := fun ρ => match ρ[i]? with
  | some (some root) => match getP path root with
    | some d => if i ≠ j ∧ j < ρ.length then (b ((ρ.set i none).set j (some d))).back (giveB j i path root) else .no
    | none => .no
  | _ => .no
def rai0F (fs : Option (List Str)) (c : Str) : SF := fun ρ => match fs with
  | some [] => .ex ⟨c, []⟩ ρ
  | _ => .no
def rai1F (fs : Option (List Str)) (c : Str) (f : EF) : SF := fun ρ => match fs with
  | some [y] => (f ρ).out fun q => match q.1 with
    | .sh p => .ex ⟨c, [(y, p)]⟩ q.2
    | _ => .no
  | _ => .no
def trF (Γ : Gam) (b : SF) (c : Str) (j : Option Nat) (h : Hx) : SF := fun ρ => match Γ.xc c with
  | none => .no
  | some _ => match b ρ with
    | .ex x ρ' => match Γ.xs x.cls c with
      | some true => match evH Γ x h with
        | some d => .rt d (wipeO j ρ')
        | none => .no
      | some false => .ex x ρ'
      | none => .no
    | o => o
/-- a field stored -/
def obPut : List Str → List D → Str → D → List Str × List D
  | n :: ns, e :: ds, x, d => if n = x then (n :: ns, d :: ds) else (n :: (obPut ns ds x d).1, e :: (obPut ns ds x d).2)
  | _, _, x, d => ([x], [d])
def fstF (fl : Str → Str → Bool) (i : Nat) (x : Str) (f : EF) : SF := fun ρ => (f ρ).out fun q => match q.2[i]? with
  | some (some (.ob c ns ds)) => if fl c x = true ∧ ns.length < 1000 then .nx (q.2.set i (some (.ob c (obPut ns ds x q.1).1 (obPut ns ds x q.1).2))) else .no
  | _ => .no
mutual
def go (Γ : Gam) : Sm → SF
  | .fst i x e => fstF Γ.fld i x (ev Γ e)
  | .asg t e => asgF t (ev Γ e)
  | .par is es => parF is (sops Γ es)
  | .put dk i path k e => putF dk i path (ev Γ k) (ev Γ e)
  | .put2 dk i path k dk' i' path' k' e e' => put2F (ev Γ (.tup [e, e'])) (putV dk i path (ev Γ k)) (putV dk' i' path' (ev Γ k'))
  | .ex e => exF (ev Γ e)
  | .ite c a b => iteF (evT Γ c) (gos Γ a) (gos Γ b)
  | .whl c b => whL (evT Γ c) (gos Γ b) fuel
  | .lop t k as b => lopF t k (lops Γ as) (gos Γ b)
  | .ret e => retF (ev Γ e)
  | .retN => fun ρ => .rt (.sh .none) ρ
  | .pass => fun ρ => .nx ρ
  | .brk => fun ρ => .br ρ
  | .cnt => fun ρ => .ct ρ
  | .frz i => frzF i
  | .bor j i path b => borF j i path (gos Γ b)
  | .rai0 c => rai0F (Γ.xc c) c
  | .rai1 c e => rai1F (Γ.xc c) c (ev Γ e)
  | .tr b c j h => trF Γ (gos Γ b) c j h
def gos (Γ : Gam) : List Sm → SF
  | [] => fun ρ => .nx ρ
  | s :: r => fun ρ => (go Γ s ρ).seq (gos Γ r)
end
/-! ### when a text is an instance -/
def isComp : PySem.Expr → Bool
  | .ListComp _ _ _ _ => true
  | .SetComp _ _ _ _ => true
  | .DictComp _ _ _ _ _ => true
  | _ => false
def apart (sl pr : List Nat) : Bool := sl.all fun i => !pr.contains i
/-- one target, one value: no swapped stores -/
def plainTo (tg x : PySem.Expr) : Bool := match tg with
  | .Name _ _ => true
  | .Tuple ts _ _ => match x with
    | .Tuple vs _ _ => vs.all (foldedForSure 8) || (!(ts.length == 2) && !(ts.length == 3))
    | _ => true
  | _ => false
/-- some target is no plain local name: the stores are not swapped -/
def someCell (S : Sc) (tg x : PySem.Expr) : Bool := match tg with
  | .Tuple ts _ _ => (match x with
    | .Tuple _ _ _ => true
    | _ => false) && ts.any fun t => match t with
    | .Name y _ => S.sc.names.lookup y != some .local
    | _ => true
  | _ => false
/-- a name that is no plain local one -/
def cellNm (S : Sc) (tg : PySem.Expr) : Bool := match tg with
  | .Name y _ => S.sc.names.lookup y != some .local
  | _ => false
/-- a comprehension stored right away under a local name of this line -/
def swapOk (S : Sc) (tg x : PySem.Expr) : Bool := match tg, x with
  | .Name y py, .ListComp _ _ scope pos => (match S.sc.kind with | .function => true | _ => false) && decide (S.sc.names.lookup y = some .local) && (py.line == pos.line) && !(scope.names.any fun (n, k) => n == y && (k == .local || k == .cell))
  | _, _ => false
def locB (S : Sc) (i : Nat) : PySem.Expr → Bool
  | .Name x _ => decide (S.N[i]? = some x) && decide (S.sc.names.lookup x = some .local)
  | _ => false
def nmOf : PySem.Expr → Str
  | .Name x _ => x
  | _ => Str.empty
def lineOf : PySem.Expr → Nat
  | .Name _ p => p.line
  | _ => 0
def parB (S : Sc) : List Nat → List PySem.Expr → List PySem.Expr → Bool
  | [i, j], [x, y], [a, b] => locB S i x && locB S j y && decide (i ≠ j) && (lineOf y == lineOf x) && (match S.sc.kind with | .function => true | _ => false) && notStar a && notStar b && !([a, b].all (foldedForSure 8)) && !([a, b].all (constantsAlone 8))
  | [i, j, l], [x, y, z], [a, b, c] => locB S i x && locB S j y && locB S l z && decide (i ≠ j) && decide (i ≠ l) && decide (j ≠ l) && (lineOf y == lineOf x) && (lineOf z == lineOf x) && (match S.sc.kind with | .function => true | _ => false) && notStar a && notStar b && notStar c && !([a, b, c].all (foldedForSure 8)) && !([a, b, c].all (constantsAlone 8))
  | _, _, _ => false
/-- the names that a loop's operands keep aside -/
def lockS : List Ex → List Nat
  | [] => []
  | .vw i _ :: r => i :: lockS r
  | _ :: r => lockS r
/-- the error's name -/
def mEr (S : Sc) (j : Option Nat) (e : PySem.Expr) : Bool := match j with
  | some i => mName S i e
  | none => false
/-- the error's name, as the clause binds it -/
def mErN (S : Sc) (pr : List Nat) : Option Nat → Option Str → Bool
  | some i, some n => decide (S.N[i]? = some n) && decide (S.sc.names.lookup n = some .local) && !pr.contains i
  | none, none => true
  | _, _ => false
def mHa (S : Sc) (j : Option Nat) (e : PySem.Expr) : Ha → Bool
  | .lit p => match e with
    | .Constant c _ _ => litB p c
    | _ => false
  | .fld f => match e with
    | .Attribute (.Name n p) g _ => mEr S j (.Name n p) && decide (g = f)
    | _ => false
  | .isE c => match e with
    | .Call (.Name i _) [x, .Name c' _] [] _ => decide (i = "isinstance") && bltB S i && mEr S j x && decide (c' = c) && glB S c'
    | _ => false
def mHas (S : Sc) (j : Option Nat) : List PySem.Expr → List Ha → Bool
  | [], [] => true
  | e :: es, a :: l => mHa S j e a && notStar e && mHas S j es l
  | _, _ => false
def mHx (S : Sc) (j : Option Nat) (e : PySem.Expr) : Hx → Bool
  | .one a => mHa S j e a
  | .tup l => match e with
    | .Tuple es _ _ => mHas S j es l
    | _ => false
  | .lst l => match e with
    | .List es _ => mHas S j es l
    | _ => false
  | .cond c a b => match e with
    | .IfExp t x y _ => mHa S j t (.isE c) && mHa S j x a && mHa S j y b
    | _ => false
mutual
/-- how many statements of the text -/
def Sm.size : Sm → Nat
  | .frz _ => 0
  | .bor _ _ _ b => 1 + sizes b
  | _ => 1
def sizes : List Sm → Nat
  | [] => 0
  | s :: r => s.size + sizes r
end
mutual
def mS (S : Sc) (fn : Str → Bool) (pr : List Nat) (m : Sm) (st : Stmt) : Bool := match m with
  | .fst i n e => match st with
    | .Assign [.Attribute (.Name y _) name _] x _ => !isComp x && decide (name = n) && visB S i y && mE S e x
    | _ => false
  | .asg t e => match st with
    | .Assign [tg] x _ => mTg S fn t tg && apart t.sl pr && (((!isComp x && (plainTo tg x || someCell S tg x) && mE S e x) || (swapOk S tg x && mE S e x && (match e with | .lc _ _ _ _ _ _ => true | _ => false))) || (cellNm S tg && mE S e x))
    | _ => false
  | .par is es => match st with
    | .Assign [.Tuple ts _ _] (.Tuple xs _ _) _ => parB S is ts xs && apart is pr && mEs S es xs
    | _ => false
  | .put _ i path k e => match st with
    | .Assign [.Subscript o ix _] x _ => !isComp x && mPathR S i path.reverse o && notSlice ix && mE S k ix && mE S e x
    | _ => false
  | .put2 _ i path k _ i' path' k' e e' => match st with
    | .Assign [.Tuple [.Subscript o ix p1, .Subscript o' ix' p2] p3 p4] x _ => !isComp x && someCell S (.Tuple [.Subscript o ix p1, .Subscript o' ix' p2] p3 p4) x && mPathR S i path.reverse o && notSlice ix && mE S k ix && mPathR S i' path'.reverse o' && notSlice ix' && mE S k' ix' && mE S (.tup [e, e']) x
    | _ => false
  | .ex e => match st with
    | .Expr x _ => !isComp x && mE S e x
    | _ => false
  | .ite c a b => match st with
    | .If x p q _ => mE S c x && mSs S fn pr a p && mSs S fn pr b q
    | _ => false
  | .whl c b => match st with
    | .While x p [] _ => mE S c x && mSs S fn pr b p
    | _ => false
  | .lop t k as b => match st with
    | .For tg it p [] _ => (match itArgs S k it with
      | some xs => mL S as xs
      | none => false) && (!itTup k || isTup tg) && mTg S fn t tg && apart t.sl (lockS as ++ pr) && mSs S fn (lockS as ++ pr) b p && notSet it
    | _ => false
  | .ret e => match st with
    | .Return (some x) _ => mE S e x
    | _ => false
  | .retN => match st with
    | .Return none _ => true
    | _ => false
  | .pass => match st with
    | .Pass _ => true
    | _ => false
  | .brk => match st with
    | .Break _ => true
    | _ => false
  | .cnt => match st with
    | .Continue _ => true
    | _ => false
  | .rai0 c => match st with
    | .Raise (some (.Call (.Name x _) [] [] _)) none _ => decide (x = c) && glB S x
    | _ => false
  | .rai1 c e => match st with
    | .Raise (some (.Call (.Name x _) [y] [] _)) none _ => decide (x = c) && glB S x && mE S e y && notStar y
    | _ => false
  | .tr b c j h => match st with
    | .Try p [.ExceptHandler (some (.Name x _)) n [.Return (some y) _] _] [] [] _ => decide (x = c) && glB S x && mSs S fn pr b p && mHx S j y h && mErN S pr j n
    | _ => false
  | .frz _ => false
  | .bor _ _ _ _ => false
def mSs (S : Sc) (fn : Str → Bool) (pr : List Nat) (ms : List Sm) (sts : List Stmt) : Bool := match ms with
  | [] => sts.isEmpty
  | .frz i :: r => mSs S fn pr r sts
  | .bor j i path b :: r => match sts with
    | .Assign [.Name y py] x _ :: rest => stB S fn j y && !pr.contains j && !isComp x && mPathR S i path.reverse x && mSs S fn (j :: i :: pr) b (rest.take (sizes b)) && mSs S fn pr r (rest.drop (sizes b))
    | _ => false
  | m :: r => match sts with
    | st :: rest => mS S fn pr m st && mSs S fn pr r rest
    | [] => false
end
end Vs
/-! V20: what a statement's outcome means; the small statements. -/
namespace Vs
open PySem PySem.Spec L2
open PyProof.Rows hiding St
/-- these slots' values stay -/
structure Prs (pr : List Nat) (σ σ' : L2.St) : Prop where
  len : σ'.length = σ.length
  eq : ∀ j ∈ pr, σ'[j]? = σ[j]?
theorem Prs.refl {pr : List Nat} {σ : L2.St} : Prs pr σ σ := ⟨rfl, fun _ _ => rfl⟩
theorem Prs.trans {pr : List Nat} {σ σ1 σ2 : L2.St} (a : Prs pr σ σ1) (b : Prs pr σ1 σ2) : Prs pr σ σ2 := ⟨b.len.trans a.len, fun j h => (b.eq j h).trans (a.eq j h)⟩
theorem Prs.less {pr pr' : List Nat} {σ σ1 : L2.St} (a : Prs pr σ σ1) (h : ∀ j ∈ pr', j ∈ pr) : Prs pr' σ σ1 := ⟨a.len, fun j q => a.eq j (h j q)⟩
def StR (G : Ga) (pr : List Nat) (O : List Addr) (σ : L2.St) (H : Hp) (ρ' : Env) (σ' : L2.St) (H' : Hp) : Prop := ∃ O', RepE G H' σ' ρ' O' ∧ O'.Nodup ∧ Go O H O' H' ∧ Prs pr σ σ'
def RtR (G : Ga) (pr : List Nat) (O : List Addr) (σ : L2.St) (H : Hp) (d : D) (ρ' : Env) (σ' : L2.St) (v : V) (H' : Hp) : Prop := ∃ O' T, RepE G H' σ' ρ' O' ∧ Rep G H' v d T ∧ (T ++ O').Nodup ∧ Go O H (T ++ O') H' ∧ Prs pr σ σ'
def XcR (G : Ga) (pr : List Nat) (O : List Addr) (σ : L2.St) (H : Hp) (x : Exc) (ρ' : Env) (cls : Value) (dd : Option Addr) (σ' : L2.St) (H' : Hp) : Prop := ∃ O', RepE G H' σ' ρ' O' ∧ O'.Nodup ∧ Go O H O' H' ∧ XR G H' cls dd x ∧ Prs pr σ σ'
def ContS (G : Ga) (W : WX) (pr : List Nat) (O : List Addr) (σ : L2.St) (H : Hp) (r : Out) (D : Ends) : Prop := match r with
  | .nx ρ' => ∀ σ' H', StR G pr O σ H ρ' σ' H' → D.nx σ' H'
  | .br ρ' => ∀ σ' H', StR G pr O σ H ρ' σ' H' → D.bk σ' H'
  | .ct ρ' => ∀ σ' H', StR G pr O σ H ρ' σ' H' → D.ct σ' H'
  | .rt d ρ' => ∀ σ' v H', RtR G pr O σ H d ρ' σ' v H' → D.rt v H'
  | .ex x ρ' => ∀ σ' cls dd H', XcR G pr O σ H x ρ' cls dd σ' H' → W cls dd σ' H'
  | .no => False
def tG (G : Ga) (W : WX) (pr : List Nat) (g : SF) : TS := fun D σ H => ∃ ρ O, RepE G H σ ρ O ∧ O.Nodup ∧ ContS G W pr O σ H (g ρ) D
section
variable {X : Cx} {G : Ga} {W : WX} {S : Sc} {Γ : Gam} {σ : L2.St} {H H' : Hp} {pr : List Nat}
theorem StR.more {O O1 : List Addr} {σ1 : L2.St} {H1 : Hp} {ρ' : Env} {σ' : L2.St} (go : Go O H O1 H1) (p : Prs pr σ σ1) (h : StR G pr O1 σ1 H1 ρ' σ' H') : StR G pr O σ H ρ' σ' H' := by
  obtain ⟨O', a, b, c, d⟩ := h
  exact ⟨O', a, b, go.trans c, p.trans d⟩
theorem ContS.more {O O1 : List Addr} {σ1 : L2.St} {H1 : Hp} {r : Out} {D : Ends} (go : Go O H O1 H1) (p : Prs pr σ σ1) (h : ContS G W pr O σ H r D) : ContS G W pr O1 σ1 H1 r D := by
  cases r with
  | no => exact h
  | nx ρ' => exact fun σ' H' z => h σ' H' (z.more go p)
  | br ρ' => exact fun σ' H' z => h σ' H' (z.more go p)
  | ct ρ' => exact fun σ' H' z => h σ' H' (z.more go p)
  | rt d ρ' => exact fun σ' v H' ⟨O', T, a, b, c, e, f⟩ => h σ' v H' ⟨O', T, a, b, c, go.trans e, p.trans f⟩
  | ex x ρ' => exact fun σ' cls dd H' ⟨O', a, b, c, e, f⟩ => h σ' cls dd H' ⟨O', a, b, go.trans c, e, p.trans f⟩
/-- another wish at the ends -/
theorem ContS.ends {O : List Addr} {r : Out} {D D' : Ends} (h : ContS G W pr O σ H r D) (h1 : ∀ ρ', r = .nx ρ' → ∀ σ' H', StR G pr O σ H ρ' σ' H' → D'.nx σ' H') (h2 : ∀ ρ', r = .br ρ' → ∀ σ' H', StR G pr O σ H ρ' σ' H' → D'.bk σ' H') (h3 : ∀ ρ', r = .ct ρ' → ∀ σ' H', StR G pr O σ H ρ' σ' H' → D'.ct σ' H')
    (h4 : ∀ v H', D.rt v H' → D'.rt v H') : ContS G W pr O σ H r D' := by
  cases r with
  | no => exact h
  | nx ρ' => exact h1 ρ' rfl
  | br ρ' => exact h2 ρ' rfl
  | ct ρ' => exact h3 ρ' rfl
  | rt d ρ' => exact fun σ' v H' z => h4 _ _ (h σ' v H' z)
  | ex x ρ' => exact h
theorem psImp {st : Stmt} {t t' : TS} (h : PS X st t) (i : ∀ D σ H, t' D σ H → t D σ H) : PS X st t' := ⟨fun pins s σ H D I q => h.run pins s σ H D I (i D σ H q)⟩
theorem pssImp {st : List Stmt} {t t' : TS} (h : PSs X st t) (i : ∀ D σ H, t' D σ H → t D σ H) : PSs X st t' := ⟨fun pins s σ H D I q => h.run pins s σ H D I (i D σ H q)⟩
/-- an expression ahead of a statement's end -/
theorem outE {f : EF} {k : Vs.D × Env → Out} {D : Ends} (h : tG G W pr (fun ρ => (f ρ).out k) D σ H) : tE G W f σ H fun v H1 => ∃ ρ1 d O1 T, RepE G H1 σ ρ1 O1 ∧ Rep G H1 v d T ∧ (T ++ O1).Nodup ∧ ContS G W pr (T ++ O1) σ H1 (k (d, ρ1)) D := by
  obtain ⟨ρ, O, a, b, h⟩ := h
  refine tE_iff.mpr ⟨ρ, O, a, b, ?_⟩
  cases ef : f ρ with
  | no => simp only [ef, Res.out] at h; exact h
  | ex x ρ' =>
    simp only [ef, Res.out] at h
    exact fun cls dd H' ⟨O', z1, z2, z3, z4⟩ => h σ cls dd H' ⟨O', z1, z2, z3, z4, .refl⟩
  | ok p =>
    obtain ⟨d, ρ1⟩ := p
    simp only [ef, Res.out] at h
    intro v H1 ⟨O1, T, rE, rv, nd, go⟩
    exact ⟨ρ1, d, O1, T, rE, rv, nd, h.more go .refl⟩
theorem outT {f : TF} {k : Bool × Env → Out} {D : Ends} (h : tG G W pr (fun ρ => (f ρ).out k) D σ H) : tT G W f σ H fun b H1 => ∃ ρ1 O1, RepE G H1 σ ρ1 O1 ∧ O1.Nodup ∧ ContS G W pr O1 σ H1 (k (b, ρ1)) D := by
  obtain ⟨ρ, O, a, b, h⟩ := h
  refine ⟨ρ, O, a, b, ?_⟩
  cases ef : f ρ with
  | no => simp only [ef, Res.out] at h; exact h
  | ex x ρ' =>
    simp only [ef, Res.out] at h
    exact fun cls dd H' ⟨O', z1, z2, z3, z4⟩ => h σ cls dd H' ⟨O', z1, z2, z3, z4, .refl⟩
  | ok p =>
    obtain ⟨c, ρ1⟩ := p
    simp only [ef, Res.out] at h
    intro H1 ⟨O1, rE, nd, go⟩
    exact ⟨ρ1, O1, rE, nd, h.more go .refl⟩
theorem outO {ops : List Sop} {k : List Ov × Env → Out} {D : Ends} (h : tG G W pr (fun ρ => (runO ops ρ).out k) D σ H) : tO G W ops σ H fun vs H1 => ∃ os ρ1 O1 T, RepE G H1 σ ρ1 O1 ∧ RepO G H1 σ vs os T ∧ (T ++ O1).Nodup ∧ ContS G W pr (T ++ O1) σ H1 (k (os, ρ1)) D := by
  obtain ⟨ρ, O, a, b, h⟩ := h
  refine run_ops ops ρ O a b ?_
  unfold OpsR
  cases ef : runO ops ρ with
  | no => simp only [ef, Res.out] at h; exact h
  | ex x ρ' =>
    simp only [ef, Res.out] at h
    exact fun cls dd H' ⟨O', z1, z2, z3, z4⟩ => h σ cls dd H' ⟨O', z1, z2, z3, z4, .refl⟩
  | ok p =>
    obtain ⟨os, ρ1⟩ := p
    simp only [ef, Res.out] at h
    intro vs H1 O1 T rE rO nd go
    exact ⟨os, ρ1, O1, T, rE, rO, nd, h.more go .refl⟩
theorem ContS.now {O : List Addr} {ρ : Env} {D : Ends} (h : ContS G W pr O σ H (.nx ρ) D) {σ' : L2.St} {O' : List Addr} (rE : RepE G H σ' ρ O') (nd : O'.Nodup) (s : ∀ a ∈ O', a ∈ O) (p : Prs pr σ σ') : D.nx σ' H :=
  h σ' H ⟨O', rE, nd, ⟨fun _ _ e _ => e, fun a q => .inl (s a q)⟩, p⟩
theorem seq_logic {f g : SF} {D : Ends} (h : tG G W pr (fun ρ => (f ρ).seq g) D σ H) : tSeq (tG G W pr f) (tG G W pr g) D σ H := by
  obtain ⟨ρ, O, a, b, h⟩ := h
  refine ⟨ρ, O, a, b, ?_⟩
  cases ef : f ρ with
  | nx ρ1 =>
    simp only [ef, Out.seq] at h
    exact fun σ1 H1 ⟨O1, z1, z2, z3, z4⟩ => ⟨ρ1, O1, z1, z2, h.more z3 z4⟩
  | br ρ1 => simp only [ef, Out.seq] at h; exact h
  | ct ρ1 => simp only [ef, Out.seq] at h; exact h
  | rt d ρ1 => simp only [ef, Out.seq] at h; exact h
  | ex x ρ1 => simp only [ef, Out.seq] at h; exact h
  | no => simp only [ef, Out.seq] at h; exact h
/-! ### an assignment -/
theorem Dif.prs {sl pr0 : List Nat} {σ' : L2.St} (d : Dif sl pr0 σ σ') (h : apart sl pr = true) : Prs pr σ σ' := ⟨d.len, fun j q => d.out j fun z => by
  have := List.all_eq_true.mp h j z
  simp at this
  exact this q⟩
theorem asg_logic {t : Tg} {f : EF} {D : Ends} (hp : apart t.sl pr = true) (h : tG G W pr (asgF t f) D σ H) : tAsg (tE G W f) (gT G.K t) D σ H := by
  refine tE_mono (outE h) fun v H1 ⟨ρ1, d, O1, T, rE, rv, nd, c⟩ => ?_
  simp only at c
  cases e : bindT [] t d ρ1 with
  | none => simp only [e] at c; exact c.elim
  | some ρ2 =>
    simp only [e] at c
    exact bind_logic rE rv nd e fun σ' O' r n s dif => c.now r n s (dif.prs hp)
theorem swap_no {x : PySem.Expr} {t : Option PySem.Expr} {l : Nat} {env : PySem.Env} (h : isComp x = false) : swapsWith x t l env = pure false := by
  cases x <;> first | rfl | cases h
theorem fm_short {α β : Type} {g : α → Option β} : ∀ {l : List α}, (∃ t ∈ l, g t = none) → (l.filterMap g).length < l.length
  | [], h => by obtain ⟨_, h, _⟩ := h; cases h
  | a :: l, h => by
    obtain ⟨t, m, e⟩ := h
    have le := List.length_filterMap_le g l
    rw [List.filterMap_cons]
    cases ea : g a with
    | none => simp only [List.length_cons]; omega
    | some b =>
      rcases List.mem_cons.mp m with rfl | m
      · rw [e] at ea; cases ea
      · have := fm_short (g := g) ⟨t, m, e⟩
        simp only [List.length_cons]; omega
theorem ne_len {α β : Type} {g : α → Option β} {l : List α} (h : ∃ t ∈ l, g t = none) : ((l.filterMap g).length != l.length) = true := by
  have := fm_short h
  rw [bne_iff_ne]
  omega
theorem stores_cell {S : Sc} {tg x : PySem.Expr} {env : PySem.Env} (hs : env.scope = S.sc) (h : someCell S tg x = true) : swappedStores [tg] x env = pure none ∧ (assignEach [tg] env).map (·.2) = [assign tg env] := by
  unfold someCell at h
  split at h
  · rename_i ts k p
    refine ⟨?_, rfl⟩
    rw [Bool.and_eq_true] at h
    obtain ⟨h0, h⟩ := h
    split at h0
    · rename_i vs k2 p2
      obtain ⟨t, m, q⟩ := List.any_eq_true.mp h
      unfold swappedStores
      simp only [pure_bind]
      split
      · rfl
      · split
        · rfl
        · rw [if_pos]
          rw [Bool.or_eq_true]
          left
          refine ne_len ⟨t, m, ?_⟩
          split
          · rename_i id pos
            rw [if_neg]
            have q : (S.sc.names.lookup id != some .local) = true := q
            have kk : env.kindOf id = S.sc.names.lookup id := by rw [← hs]; rfl
            rw [kk]
            intro z
            rw [Bool.and_eq_true] at z
            rw [bne, z.1] at q
            cases q
          · rfl
    · cases h0
  · cases h
theorem stores_no {tg x : PySem.Expr} {env : PySem.Env} (h : plainTo tg x = true) : swappedStores [tg] x env = pure none ∧ (assignEach [tg] env).map (·.2) = [assign tg env] := by
  unfold plainTo at h
  split at h
  · exact ⟨rfl, rfl⟩
  · rename_i ts k p
    refine ⟨?_, rfl⟩
    split at h
    · rename_i vs k2 p2
      rw [Bool.or_eq_true] at h
      unfold swappedStores
      simp only [pure_bind]
      split
      · rfl
      · rename_i h1
        split
        · rfl
        · split
          · rfl
          · rcases h with h | h
            · rw [if_pos h]
            · exfalso
              rw [Bool.and_eq_true] at h
              apply h1
              have : (ts.length == 2) = false ∧ (ts.length == 3) = false := by simpa using h
              rw [this.1, this.2]; rfl
    · cases x <;> first | rfl | (exfalso; rename_i hx; exact hx _ _ _ rfl)
  · cases h
end
end Vs
set_option maxHeartbeats 2000000
/-! VH: what an except suite tells. -/
namespace PySem.W
open PySem PySem.Spec PySem.Calls PyProof.Rows
section
variable {prog : Program} {w : World} {A : Around} {E : Value → Shared → Prop} {s : Shared} {K : Frag} {x D : Addr} {ox : Obj} {od : Option Obj}
theorem findObj_dataD {C : Addr} {name : Str} {a g : Value} {od : Option Obj} (hc : (clsIn K C).isSome = true) (ha : findIn K (.ref C) name = some (some a)) (hg : specialIn K a "__get__" = some (some g)) (ht : takesIn K a = some true) : findObj K C od name = some (.bind g a) := by
  obtain ⟨cd, hc⟩ := Option.isSome_iff_exists.mp hc
  unfold findObj
  rw [hc, Option.bind_some, ha, Option.bind_some]
  simp [hg, ht]
theorem kin_classD {Q : Option Value → Shared → Prop} (hga : findIn K (.ref D) "__getattribute__" = some (some (.builtin "BaseException.__getattribute__"))) (hgt : findIn K (.ref D) "__getattr__" = some none) (hsub : subIn K (.ref D) (.type "BaseException") = some true)
    (hdct : hasDictIn K D = true) (ha : findIn K (.ref D) "__class__" = some (some (.builtin "object.__class__")))
    (hn : specialIn K (.builtin "object.__class__") "__get__" = some (some (.builtin "getset_descriptor.__get__"))) (htk : takesIn K (.builtin "object.__class__") = some true) (hm : mroIn K D (.type "object") = some true)
    (X : K.In s.heap) (I : InstAt s.heap x ox D od) (h : Q (some (.ref D)) { s with toks := s.toks + 1 }) : wpAny (model prog w) A (getAttr? (.ref x) "__class__") Q E s := by
  have hf : findObj K D od "__class__" = some (.bind (.builtin "getset_descriptor.__get__") (.builtin "object.__class__")) := findObj_dataD (by obtain ⟨cd, hc, _⟩ := any_some hdct; rw [hc]; rfl) ha hn htk
  obtain ⟨hp, g, d, t, os⟩ := s
  have L0 := I.type (M := model prog w)
  have L1 := looks_findIn (M := model prog w) X hga
  have L2 := looks_findIn (M := model prog w) X hgt
  have L3 := looks_find (M := model prog w) X I hf
  have sub : Looks (model prog w) hp (isInstance (.ref x) (.type "BaseException")) true := L0.andThen (looks_subIn X hsub)
  have hx0 : (false && onTheHeap (Value.builtin "BaseException.__getattribute__")) = false := rfl
  have hx2 : (Value.builtin "BaseException.__getattribute__" == Value.builtin "object.__getattribute__") = false := by decide +kernel
  have hx1 : (onTheHeap (Value.ref D) && Value.builtin "BaseException.__getattribute__" == Value.builtin "object.__getattribute__") = false := by rw [hx2]; rfl
  unfold getAttr? getAttrBy? getAttrBy
  refine wpAny_bind (wpAny_mkText (wpAny_bind (wpAny_attempt (wpAny_holding (wpAny_bind (L0.at (wpAny_bind (L1.at ?_))))))))
  show wpAny _ _ (if (onTheHeap (Value.ref D) && Value.builtin "BaseException.__getattribute__" == Value.builtin "object.__getattribute__") = true then _ else _) _ _ _
  rw [hx1, if_neg Bool.false_ne_true]
  unfold getAttrByItsOwn hookBefore
  refine wpAny_bind ?_
  rw [if_pos (show onTheHeap (Value.ref D) = true from rfl)]
  refine L2.at ?_
  refine wpAny_bind (wpAny_attempt (wpAny_holding ?_))
  unfold callGetattribute
  rw [hx0, if_neg Bool.false_ne_true]
  unfold boundAndCalled
  rw [PySem.F.excAttr_ValueError.ga.bind (.ref x)]
  refine wpAny_bind (wpAny_pure ?_)
  show wpAny _ _ (call (.builtin "BaseException.__getattribute__") [.ref x, .str "__class__" t]) _ _ _
  refine wpAny_call (codeAny_call_builtin PySem.F.excAttr_ValueError.ga.plain PySem.F.entry_bexc_ga ?_)
  refine @check_slot (model prog w) _ _ ⟨hp, g, d, t + 1, os⟩ "BaseException.__getattribute__" "BaseException" "__getattribute__" (.ref x) [.str "__class__" t] [] _ (by decide +kernel) (by decide +kernel) sub (PySem.F.args_bexc_ga (.ref x) (.str "__class__" t)) ?_
  unfold Builtin.«object.__getattribute__»
  refine wpAny_bind (wpAny_of_eq (a := ((Value.ref x : Value), [Value.str "__class__" t])) (by first | rfl | (simp only [slotArgs]; rfl)) ?_)
  refine wpAny_bind (wpAny_pure (wpAny_bind (L0.at (wpAny_bind (L3.at ?_)))))
  show wpAny _ _ (holding [Value.builtin "object.__class__"] (call (.builtin "getset_descriptor.__get__") [.builtin "object.__class__", .ref x, .ref D]) >>= ret) _ _ _
  refine wpAny_bind (wpAny_holding (wpAny_call (class_get (s := ⟨hp, g, d, t + 1, os⟩) (ox := ox) (od := od) X I hm ?_)))
  refine wpAny_pure ?_
  show wpAny _ _ (handedOut (.ref D)) _ _ _
  rw [handedOut_of (v := .ref D) rfl]
  first
    | exact wpAny_pure (wpAny_pure h)
    | exact wpAny_pure h
    | exact wpAny_pure (wpAny_bind (wpAny_pure (wpAny_pure h)))
theorem kitx_excD (hga : findIn K (.ref D) "__getattribute__" = some (some (.builtin "BaseException.__getattribute__"))) (hgt : findIn K (.ref D) "__getattr__" = some none) (hsub : subIn K (.ref D) (.type "BaseException") = some true) (hdct : hasDictIn K D = true) (ha : findIn K (.ref D) "__class__" = some (some (.builtin "object.__class__")))
    (hn : specialIn K (.builtin "object.__class__") "__get__" = some (some (.builtin "getset_descriptor.__get__"))) (htk : takesIn K (.builtin "object.__class__") = some true) (hm : mroIn K D (.type "object") = some true) :
    KitX K (.ref x) (.ref D) (fun h => InstAt h x ox D od) where
  ty := fun _ _ _ I => I.type
  it := fun _ _ X _ => by
    obtain ⟨cdD, hcD, _⟩ := any_some hdct
    unfold clsIn at hcD
    split at hcD
    · rename_i c' d' cd' sl' ho
      intro A' Q' E' s' k q
      unfold isType loadHead
      exact wpAny_bind (wpAny_loadPart (k _ _ (X _ _ ho)) (wpAny_pure q))
    · cases hcD
  ne := fun h tp dd its n sl X htp => by
    obtain ⟨cdD, hcD, _⟩ := any_some hdct
    refine Bool.eq_false_iff.mpr fun q => ?_
    have e : D = tp := Value.ref.inj (beq_iff_eq.mp q)
    subst e
    unfold clsIn at hcD
    split at hcD
    · rename_i c' d' cd' sl' ho
      have z := (X _ _ ho).symm.trans htp
      cases z
    · cases hcD
  ca := fun X I k => kin_classD hga hgt hsub hdct ha hn htk hm X I k
end
end PySem.W
namespace Vs
open PySem PySem.Spec L2
open PyProof.Rows hiding St
def rIsD (K : PySem.W.Frag) (D a : Addr) (d : Option Addr) : List V → Hp → VK → Prop := fun xs H Q => ∃ (c : V) (cv : Value) (b : Bool), xs = [.ref a, c] ∧ (∀ u, RelV c u → u = cv) ∧ PySem.W.kitOne K (.ref D) cv = some b ∧ (∀ dd, d = some dd → ∃ fs, H dd = some (.xd fs)) ∧ Q (.bl b) H
theorem call_isD {X : Cx} {a D : Addr} {d : Option Addr} {oe : Obj} {pn : List (Addr × Obj)} (C : ExcH X.K D) (hz : Zc (.ref D) d oe) (hf : ∃ vs, oe.data = .fields vs) : CallR (X.suite a ((a, oe) :: pn)) (.builtin "isinstance") (rIsD X.K D a d) := by
  intro pins s σ H xs us Q I r h
  obtain ⟨c, cv, b, rfl, hcv, e, hd, q⟩ := h
  cases r with
  | cons rx rr =>
    cases rr with
    | cons rt rr =>
      cases rr
      cases rx
      have ec := hcv _ rt
      subst ec
      obtain ⟨hget, _⟩ := I.pin (a, oe) (List.mem_append.mpr (.inl List.mem_cons_self))
      obtain ⟨vs, hv⟩ := hf
      obtain ⟨od, J⟩ : ∃ od, PySem.W.InstAt s.heap a oe D od := by
        obtain ⟨oc, odt, oda, osl⟩ := oe
        obtain ⟨h1, h2⟩ := hz
        dsimp only at h1 h2 hv
        subst h1 h2 hv
        cases odt with
        | none => exact ⟨none, hget, rfl, rfl, trivial⟩
        | some dd =>
          obtain ⟨fs, ea⟩ := hd dd rfl
          have hx : ObjOk X.prog X.w H s.heap dd (.xd fs) := I.hok dd _ ea
          obtain ⟨mA, hns, hr⟩ := hx
          obtain ⟨od, ho, hl⟩ := lookIn_ns hns
          exact ⟨some od, hget, rfl, rfl, ho⟩
      obtain ⟨x1, x2, x3, x4⟩ := C.xi
      exact PySem.W.kia_one (PySem.W.kitx_excD C.xf.ga C.xf.gg C.xf.exC C.xf.hdC x1 x2 x3 x4) I.kIn J e (fun z => nomatch z) fun tk => ⟨.bl b, H, I.kept (t' := tk) fun _ _ z => z, rfl, q⟩
/-- the error's name stands in slot j -/
def ErS (j : Option Nat) (a : Addr) (σ : L2.St) : Prop := match j with
  | some i => σ[i]? = some (some (.ref a))
  | none => False
def litV : PyData → Option V
  | .none => some .non
  | .bool b => some (.bl b)
  | .int i => some (.int i)
  | .str x => some (.str x)
  | _ => none
def tHa (K : PySem.W.Frag) (mg : Str → Option Value) (a : Addr) (cls : Value) (d : Option Addr) (j : Option Nat) : Ha → TE
  | .lit p => fun _ H Q => ∃ v, litV p = some v ∧ Q v H
  | .fld f => fun σ H Q => ErS j a σ ∧ ∃ C dd fs v, cls = .ref C ∧ ExcH K C ∧ PySem.W.findIn K (.ref C) f = some none ∧ d = some dd ∧ H dd = some (.xd fs) ∧ fs.lookup f = some v ∧ Q v H
  | .isE c => fun σ H Q => ErS j a σ ∧ ∃ C C' b, cls = .ref C ∧ ExcH K C ∧ mg c = some (.ref C') ∧ (c == ("__debug__" : Str)) = false ∧ PySem.W.kitOne K (.ref C) (.ref C') = some b ∧ (∀ dd, d = some dd → ∃ fs, H dd = some (.xd fs)) ∧ Q (.bl b) H
def tHas (K : PySem.W.Frag) (mg : Str → Option Value) (a : Addr) (cls : Value) (d : Option Addr) (j : Option Nat) : List Ha → TA
  | [] => tNil
  | h :: l => tCons (tHa K mg a cls d j h) (tHas K mg a cls d j l)
section
variable {X : Cx} {G : Ga} {Γ : Gam} {S : Sc} {a : Addr} {oe : Obj} {cls : Value} {d : Option Addr} {pn : List (Addr × Obj)} {j : Option Nat}
theorem er_pe (C : Ctx G Γ S X) {e : PySem.Expr} (h : mEr S j e = true) : ∃ i, j = some i ∧ PE (X.suite a ((a, oe) :: pn)) e (tVar i) := by
  unfold mEr at h
  split at h
  · rename_i i
    refine ⟨i, rfl, ?_⟩
    unfold mName at h
    split at h
    · rename_i x pos
      unfold visB plainB at h
      simp only [Bool.and_eq_true, decide_eq_true_eq, Bool.not_eq_true'] at h
      obtain ⟨⟨h1, ⟨h2, h3⟩, h4⟩, h5⟩ := h
      refine pe_var (X := X.suite a ((a, oe) :: pn)) (by show X.N[i]? = _; rw [C.hN]; exact h1) ?_ h2 h3
      show Vis X.env.scope x
      unfold Vis
      rw [C.sc]
      split at h5
      · exact .inl (by assumption)
      · exact .inr (.inl (by assumption))
      · exact .inr (.inr (by assumption))
      · cases h5
    · cases h
  · cases h
theorem ha_pe (C : Ctx G Γ S X) (hz : Zc cls d oe) (hf : ∃ vs, oe.data = .fields vs) {e : PySem.Expr} {h : Ha} (m : mHa S j e h = true) : PE (X.suite a ((a, oe) :: pn)) e (tHa X.K X.mg a cls d j h) := by
  cases h with
  | lit p =>
    simp only [mHa] at m
    split at m
    · unfold litB at m
      split at m
      · exact pImp pe_non fun σ H Q ⟨v, e, q⟩ => by cases e; exact q
      · have e := eq_of_beq m
        subst e
        exact pImp pe_bl fun σ H Q ⟨v, e, q⟩ => by cases e; exact q
      · have e := of_decide_eq_true m
        subst e
        exact pImp pe_int fun σ H Q ⟨v, e, q⟩ => by cases e; exact q
      · have e := of_decide_eq_true m
        subst e
        exact pImp pe_str fun σ H Q ⟨v, e, q⟩ => by cases e; exact q
      · cases m
    · cases m
  | fld f =>
    simp only [mHa] at m
    split at m
    · rename_i n p g pos
      rw [Bool.and_eq_true, decide_eq_true_eq] at m
      obtain ⟨m1, rfl⟩ := m
      obtain ⟨i, rfl, pv⟩ := er_pe (a := a) (oe := oe) (pn := pn) C m1
      refine ⟨fun pins s σ H Q I ⟨hs, Ca, dd, fs, v, ec, T, hno, ed, ea, l, q⟩ => ?_⟩
      exact (pe_xf T.xf hno hz hf pv).run pins s σ H Q I ⟨.ref a, hs, rfl, ec, dd, fs, v, ed, ea, l, q⟩
    · cases m
  | isE c =>
    simp only [mHa] at m
    split at m
    · rename_i i p1 x c' p2 pos
      simp only [Bool.and_eq_true, decide_eq_true_eq] at m
      obtain ⟨⟨⟨⟨rfl, m2⟩, m3⟩, rfl⟩, m5⟩ := m
      obtain ⟨k, rfl, pv⟩ := er_pe (a := a) (oe := oe) (pn := pn) C m3
      obtain ⟨g1, g2, g3, g4⟩ := C.blt m2
      obtain ⟨k1, k2, k3⟩ := C.gl m5
      refine ⟨fun pins s σ H Q I ⟨hs, Ca, C', b, ec, T, gm, db, kt, hd, q⟩ => ?_⟩
      subst ec
      have nx : notStar x = true := by cases x <;> first | rfl | (simp [mEr, mName] at m3)
      have pc : PE (X.suite a ((a, oe) :: pn)) (.Name c' p2) (tC (.ref C')) := pe_glob (X := X.suite a ((a, oe) :: pn)) k1 gm rfl db
      refine (pe_callB (call_isD T hz hf) g1 g4 (by decide +kernel) (pa_cons pv (pa_cons pc pa_nil (star1 rfl)) (star1 nx)) g3 g2 (star1 nx) (by rfl)).run pins s σ H Q I ?_
      exact ⟨.ref a, hs, .ref C', .ref C', b, rfl, fun u r => r, kt, hd, q⟩
    · cases m
theorem has_pa (C : Ctx G Γ S X) (hz : Zc cls d oe) (hf : ∃ vs, oe.data = .fields vs) : ∀ {es : List PySem.Expr} {l : List Ha}, mHas S j es l = true → PA (X.suite a ((a, oe) :: pn)) es (tHas X.K X.mg a cls d j l)
  | [], [], _ => pa_nil
  | e :: es, h :: l, m => by
    simp only [mHas, Bool.and_eq_true] at m
    exact pa_cons (ha_pe C hz hf m.1.1) (has_pa C hz hf m.2) (star1 m.1.2)
  | [], _ :: _, m => by simp [mHas] at m
  | _ :: _, [], m => by simp [mHas] at m
def tHx (K : PySem.W.Frag) (mg : Str → Option Value) (a : Addr) (cls : Value) (d : Option Addr) (j : Option Nat) : Hx → TE
  | .one h => tHa K mg a cls d j h
  | .tup l => tTupN (tHas K mg a cls d j l)
  | .lst l => tLst (tHas K mg a cls d j l)
  | .cond c p q => tIf (tB (tHa K mg a cls d j (.isE c))) (tHa K mg a cls d j p) (tHa K mg a cls d j q)
theorem hx_pe (C : Ctx G Γ S X) (hz : Zc cls d oe) (hf : ∃ vs, oe.data = .fields vs) {e : PySem.Expr} {h : Hx} (m : mHx S j e h = true) : PE (X.suite a ((a, oe) :: pn)) e (tHx X.K X.mg a cls d j h) := by
  cases h with
  | one h => exact ha_pe C hz hf m
  | tup l =>
    simp only [mHx] at m
    split at m
    · exact pe_tupN (has_pa C hz hf m)
    · cases m
  | lst l =>
    simp only [mHx] at m
    split at m
    · exact pe_lst (has_pa C hz hf m)
    · cases m
  | cond c p q =>
    simp only [mHx] at m
    split at m
    · rename_i t x y pos
      simp only [Bool.and_eq_true] at m
      obtain ⟨⟨m1, m2⟩, m3⟩ := m
      have ht : ∀ whole, isTrue t (X.suite a ((a, oe) :: pn)).env whole = (do let v ← whole; standAt t.pos; holding [v] (truthy v)) := by
        simp only [mHa] at m1
        split at m1
        · intro _; rfl
        · cases m1
      exact pe_ifExp (pt_val (ha_pe C hz hf m1) ht) (ha_pe C hz hf m2) (ha_pe C hz hf m3)
    · cases m
/-! ### what is told -/
variable {H : Hp} {σ : L2.St} {x : Exc}
theorem ha_logic (C : Ctx G Γ S X) (xr : XR G H cls d x) {C0 : Addr} (hcl : G.cl x.cls = some C0) (T : ExcH X.K C0) (hs : ∀ i, j = some i → σ[i]? = some (some (.ref a))) {e : PySem.Expr} {h : Ha} (m : mHa S j e h = true) {p : PyData} (ev : evA Γ x h = some p) {Q : VK} (q : ∀ v, DpF G.K H v p → Q v H) :
    tHa X.K X.mg a cls d j h σ H Q := by
  obtain ⟨C1, hc1, ec, xf, xd⟩ := xr
  rw [hcl] at hc1
  cases hc1
  have er : ∀ {e'}, mEr S j e' = true → ErS j a σ := fun {e'} hm => by
    unfold mEr at hm
    split at hm
    · rename_i i
      exact hs i rfl
    · cases hm
  cases h with
  | lit p' =>
    simp only [evA, Option.some.injEq] at ev
    subst ev
    simp only [mHa] at m
    split at m
    · unfold litB at m
      split at m
      · exact ⟨_, rfl, q _ .non⟩
      · exact ⟨_, rfl, q _ (.bl _)⟩
      · exact ⟨_, rfl, q _ (.int _)⟩
      · exact ⟨_, rfl, q _ (.str _)⟩
      · cases m
    · cases m
  | fld f =>
    simp only [mHa] at m
    split at m
    · rename_i n p1 g pos
      rw [Bool.and_eq_true] at m
      simp only [evA] at ev
      split at ev
      · rename_i fl hfl
        split at ev
        · rename_i hin
          obtain ⟨dd, fs, u, e1, e2, e3, e4⟩ := xf _ _ ev
          obtain ⟨C2, k, hc2, _, _, _, _, hno⟩ := C.xc _ _ hfl
          rw [hcl] at hc2
          cases hc2
          exact ⟨er m.1, C0, dd, fs, u, ec, T, hno _ hin, e1, e2, e3, q _ e4⟩
        · cases ev
      · cases ev
    · cases m
  | isE c =>
    simp only [mHa] at m
    split at m
    · rename_i i p1 y c' p2 pos
      simp only [Bool.and_eq_true, decide_eq_true_eq] at m
      obtain ⟨⟨⟨⟨rfl, m2⟩, m3⟩, rfl⟩, m5⟩ := m
      simp only [evA] at ev
      split at ev
      · rename_i b hb
        cases ev
        obtain ⟨C2, hc2, _, ⟨C', gm, db, _, kt⟩⟩ := C.xs _ _ _ hb
        rw [hcl] at hc2
        cases hc2
        exact ⟨er m3, C0, C', b, ec, T, gm, db, kt, xd, q _ (.bl _)⟩
      · cases ev
    · cases m
theorem has_logic (C : Ctx G Γ S X) (xr : XR G H cls d x) {C0 : Addr} (hcl : G.cl x.cls = some C0) (T : ExcH X.K C0) (hs : ∀ i, j = some i → σ[i]? = some (some (.ref a))) : ∀ {es : List PySem.Expr} {l : List Ha} {ps : List PyData} {R : List V → Hp → Prop}, mHas S j es l = true → evAs Γ x l = some ps → (∀ vs, DpFs G.K H vs ps → vs.length = ps.length → R vs H) →
    tHas X.K X.mg a cls d j l σ H R
  | [], [], ps, R, _, ev, q => by
    simp only [evAs, Option.some.injEq] at ev
    subst ev
    exact q [] .nil rfl
  | e :: es, h :: l, ps, R, m, ev, q => by
    simp only [mHas, Bool.and_eq_true] at m
    simp only [evAs] at ev
    split at ev
    · rename_i p l' e1 e2
      cases ev
      exact ha_logic C xr hcl T hs m.1.1 e1 fun v dv => has_logic C xr hcl T hs m.2 e2 fun vs dvs hl => q _ (.cons dv dvs) (by simp [hl])
    · cases ev
  | [], _ :: _, _, _, m, _, _ => by simp [mHas] at m
  | _ :: _, [], _, _, m, _, _ => by simp [mHas] at m
theorem sh_reps {G : Ga} {H : Hp} : ∀ {vs : List V} {ps : List PyData}, DpFs G.K H vs ps → Reps G H vs (ps.map .sh) []
  | _, _, .nil => .nil
  | _, _, .cons h hs => .cons (O := []) (O' := []) (.sh h) (sh_reps hs)
theorem dps_of {G : Ga} {H : Hp} : ∀ {vs : List V} {ps : List PyData} {T : List Addr}, Reps G H vs (ps.map .sh) T → DpFs G.K H vs ps
  | _, [], _, .nil => .nil
  | _, p :: ps, _, .cons r rs => .cons r.sh_of (dps_of rs)
theorem dpf_new {G : Ga} {H : Hp} {p : Addr} {o : HO} (hp : H p = none) {vs : List V} {ps : List PyData} (h : DpFs G.K H vs ps) : DpFs G.K (upd H p o) vs ps :=
  dps_of ((sh_reps h).fr (S := []) (frm_new (o := o) hp) mut_nil (fun _ _ z => nomatch z))
theorem hx_logic (C : Ctx G Γ S X) (xr : XR G H cls d x) {C0 : Addr} (hcl : G.cl x.cls = some C0) (T : ExcH X.K C0) (hs : ∀ i, j = some i → σ[i]? = some (some (.ref a))) {e : PySem.Expr} {h : Hx} (m : mHx S j e h = true) {r : D} (ev : evH Γ x h = some r) {Q : VK} {σ0 : L2.St} {ρ : Env} {O : List Addr} (rE : RepE G H σ0 ρ O) (nd : O.Nodup)
    (q : ∀ v H' T', Rep G H' v r T' → RepE G H' σ0 ρ O → (T' ++ O).Nodup → Go O H (T' ++ O) H' → Q v H') : tHx X.K X.mg a cls d j h σ H Q := by
  cases h with
  | one h =>
    simp only [evH] at ev
    split at ev
    · rename_i p hp
      cases ev
      exact ha_logic C xr hcl T hs m hp fun v dv => q v H [] (.sh dv) rE nd Go.refl
    · cases ev
  | tup l =>
    simp only [mHx] at m
    split at m
    · simp only [evH] at ev
      split at ev
      · rename_i ps hps
        split at ev
        · rename_i hl
          cases ev
          refine has_logic C xr hcl T hs m hps fun vs dvs hv => ⟨by rw [hv, sizeLine_eq]; omega, fun p o hp ho => ?_⟩
          have f := frm_new (o := .frz o (.tup vs)) hp
          refine q _ _ [] (.sh (.tup (SqN.of upd_same ho) (dpf_new hp dvs))) (rE.fr (S := []) f mut_nil (fun _ _ z => nomatch z)) nd ⟨fun a o e _ => f a o e (fun z => nomatch z), fun a z => .inl z⟩
        · cases ev
      · cases ev
    · cases m
  | lst l =>
    simp only [mHx] at m
    split at m
    · simp only [evH] at ev
      split at ev
      · rename_i ps hps
        split at ev
        · rename_i hl
          cases ev
          refine has_logic C xr hcl T hs m hps fun vs dvs hv => ⟨by rw [hv, sizeLine_eq]; omega, fun p hp => ?_⟩
          have f := frm_new (o := .lst vs) hp
          refine q (.ref p) _ [p] (.ls upd_same (sh_reps (dpf_new hp dvs))) (rE.fr (S := []) f mut_nil fun _ _ z => nomatch z) ?_ (Go.new hp)
          refine List.nodup_cons.mpr ⟨fun z => ?_, nd⟩
          obtain ⟨o, e⟩ := rE.mut.some p z
          rw [hp] at e; cases e
        · cases ev
      · cases ev
    · cases m
  | cond c p1 p2 =>
    simp only [mHx] at m
    split at m
    · rename_i t y z pos
      simp only [Bool.and_eq_true] at m
      obtain ⟨⟨m1, m2⟩, m3⟩ := m
      simp only [evH] at ev
      split at ev
      · rename_i b hb
        split at ev
        · rename_i p hp
          cases ev
          have e1 : evA Γ x (.isE c) = some (.bool b) := by simp only [evA, hb]
          show tHa X.K X.mg a cls d j (.isE c) σ H (fun u H1 => ∃ t, u = .bl t ∧ if t = true then tHa X.K X.mg a cls d j p1 σ H1 Q else tHa X.K X.mg a cls d j p2 σ H1 Q)
          refine ha_logic C xr hcl T hs m1 e1 fun v dv => ?_
          cases dv
          refine ⟨b, rfl, ?_⟩
          cases b with
          | true => exact ha_logic C xr hcl T hs m2 hp fun v dv => q v H [] (.sh dv) rE nd Go.refl
          | false => exact ha_logic C xr hcl T hs m3 hp fun v dv => q v H [] (.sh dv) rE nd Go.refl
        · cases ev
      · cases ev
    · cases m
end
section
variable {X : Cx} {G : Ga} {Γ : Gam} {S : Sc} {W : WX} {pr : List Nat}
theorem repE_set {G : Ga} {H : Hp} {w : Option V} : ∀ {σ : L2.St} {ρ : Env} {O : List Addr} (i : Nat), RepE G H σ ρ O → ∃ O2, RepE G H (σ.set i w) (ρ.set i none) O2 ∧ O2.Sublist O
  | _, _, _, i, .nil => ⟨[], by simpa using RepE.nil, .refl _⟩
  | _, _, _, 0, .no h => ⟨_, .no h, .refl _⟩
  | _, _, _, i + 1, .no h => by
    obtain ⟨O2, a, b⟩ := repE_set i h
    exact ⟨O2, .no a, b⟩
  | _, _, _, 0, .va r h => ⟨_, .no h, List.sublist_append_right _ _⟩
  | _, _, _, i + 1, .va r h => by
    obtain ⟨O2, a, b⟩ := repE_set i h
    exact ⟨_, .va r a, .append (.refl _) b⟩
/-! ### raise -/
theorem rai0_ok (C : Ctx G Γ S X) (tk : Takes X W) {x : Str} {p1 p2 p3 : Pos} (hg : glB S x = true) : PS X (.Raise (some (.Call (.Name x p1) [] [] p2)) none p3) (tG G W pr (rai0F (Γ.xc x) x)) := by
  cases hx : Γ.xc x with
  | none => exact ⟨fun pins s σ H D I ⟨ρ, O, _, _, z⟩ => z.elim⟩
  | some fs =>
    cases fs with
    | cons f fs => exact ⟨fun pins s σ H D I ⟨ρ, O, _, _, z⟩ => z.elim⟩
    | nil =>
      obtain ⟨C0, k, hcl, hk, hr, EG, EH, hno⟩ := C.xc _ _ hx
      exact psImp (ps_raise C.calm tk (pmk0 EG hr hk (C.gl hg).1)) fun D σ H ⟨ρ, O, rE, nd, z⟩ => z σ (.ref C0) none H ⟨O, rE, nd, .refl, ⟨C0, hcl, rfl, fun f v e => (nomatch (show none = some v from e)), fun dd e => nomatch e⟩, .refl⟩
theorem rai1_ok (C : Ctx G Γ S X) (tk : Takes X W) {x : Str} {e : Ex} {y : PySem.Expr} {p1 p2 p3 : Pos} (hg : glB S x = true) (he : PE X y (tE G W (ev Γ e))) (hn : notStar y = true) : PS X (.Raise (some (.Call (.Name x p1) [y] [] p2)) none p3) (tG G W pr (rai1F (Γ.xc x) x (ev Γ e))) := by
  cases hx : Γ.xc x with
  | none => exact ⟨fun pins s σ H D I ⟨ρ, O, _, _, z⟩ => z.elim⟩
  | some fs =>
    match fs, hx with
    | [], hx => exact ⟨fun pins s σ H D I ⟨ρ, O, _, _, z⟩ => z.elim⟩
    | _ :: _ :: _, hx => exact ⟨fun pins s σ H D I ⟨ρ, O, _, _, z⟩ => z.elim⟩
    | [f], hx =>
      obtain ⟨C0, k, hcl, hk, hr, EG, EH, hno⟩ := C.xc _ _ hx
      refine psImp (ps_raise C.calm tk (pmk1 EG hr hk (C.gl hg).1 (pa_cons he pa_nil (star1 hn)) (star1 hn))) fun D σ H h => ?_
      refine tE_mono (outE (k := fun q => match q.1 with
        | .sh p => .ex ⟨x, [(f, p)]⟩ q.2
        | _ => .no) h) fun v H1 ⟨ρ1, d, O1, T, rE, rv, nd, c⟩ => ?_
      cases d with
      | sh p =>
        have hd := rv.sh_of
        refine ⟨v, rfl, fun dx hn => ?_⟩
        have fr := frm_new (o := HO.xd [(f, v)]) hn
        have ndO : O1.Nodup := (List.nodup_append.mp nd).2.1
        refine c σ (.ref C0) (some dx) _ ⟨O1, rE.fr (S := []) fr mut_nil (fun _ _ z => nomatch z), ndO, ⟨fun a o e _ => fr a o e (fun z => nomatch z), fun a z => .inl (List.mem_append_right _ z)⟩, ⟨C0, hcl, rfl, fun g w e => ?_, fun dd e => ?_⟩, .refl⟩
        · have e' : List.lookup g [(f, p)] = some w := e
          by_cases hgf : g = f
          · subst hgf
            have : w = p := by simpa [List.lookup] using e'.symm
            subst this
            exact ⟨dx, [(g, v)], v, rfl, upd_same, by simp [List.lookup], ((Rep.sh (G := G) hd).fr (S := []) fr mut_nil (fun _ z => nomatch z)).sh_of⟩
          · have : (g == f) = false := by simpa using hgf
            simp [List.lookup, this] at e'
        · cases e
          exact ⟨_, upd_same⟩
      | _ => exact c.elim
/-! ### try -/
theorem Ctx.tr (C : Ctx G Γ S X) (pn : List (Addr × Obj)) (xe : Value → Shared → Prop) : Ctx G Γ S (X.tr pn xe) :=
  ⟨C.hG, C.hw, C.sc, C.hN, C.nd, C.calm, C.gd, C.un, C.con, fun f dn e => by
    obtain ⟨a, fd, ps, k, dn', ev, eu, ed, h⟩ := (C.fn f dn e).to
    exact ⟨a, fd, ps, k, dn', ev, eu, ed, h⟩, C.bl, C.xc, C.xs, C.me, C.ini, C.fld⟩
theorem tr_ok (C : Ctx G Γ S X) (hst : X.stack = X.env :: X.outer) (hfr : X.env.frame = some X.env.locals) (tk : Takes X W) {x : Str} {f : SF} {j : Option Nat} {h : Hx} {body : List Stmt} {n : Option Str} {y : PySem.Expr} {p1 p2 p3 p4 : Pos} (hg : glB S x = true)
    (hb : ∀ (W' : WX) (pn : List (Addr × Obj)) (xe : Value → Shared → Prop), Takes (X.tr pn xe) W' → PassesOwn (model X.prog X.w) X.A X.env xe → PSs (X.tr pn xe) body (tG G W' pr f)) (m : mHx S j y h = true)
    (hj : mErN S pr j n = true) :
    PS X (.Try body [.ExceptHandler (some (.Name x p1)) n [.Return (some y) p2] p3] [] [] p4) (tG G W pr (trF Γ f x j h)) := by
  cases hx : Γ.xc x with
  | none => exact ⟨fun pins s σ H D I ⟨ρ, O, _, _, z⟩ => by simp only [trF, hx] at z; exact z.elim⟩
  | some fs =>
    obtain ⟨C0, k0, hcl0, hk, hr, EG, EH, hno⟩ := C.xc _ _ hx
    have nms : Names X x (.ref C0) := ⟨(C.gl hg).1, EG.db, .inl EG.gC⟩
    have su : ∀ (a : Addr) (oe : Obj) (cls : Value) (d : Option Addr) (pn : List (Addr × Obj)), Zc cls d oe → (∃ vs, oe.data = .fields vs) → PSs (X.suite a ((a, oe) :: pn)) [.Return (some y) p2] (tRet (tHx X.K X.mg a cls d j h)) := fun a oe cls d pn hz hf => pss_one (ps_ret (hx_pe C hz hf m))
    have hpr : ∀ i, j = some i → i ∉ pr := fun i e => by
      subst e
      cases n with
      | none => cases hj
      | some n =>
        simp only [mErN, Bool.and_eq_true, Bool.not_eq_true'] at hj
        intro hm
        have := hj.2
        simp [hm] at this
    have catch_ : ∀ {σ : L2.St} {H : Hp} {D : Ends} {O : List Addr} {cls : Value} {dd : Option Addr} {σ' : L2.St} {H' : Hp} {e : Exc} {ρ' : Env}, ContS G W pr O σ H (match Γ.xs e.cls x with
        | some true => match evH Γ e h with
          | some d => .rt d (wipeO j ρ')
          | none => .no
        | some false => .ex e ρ'
        | none => .no) D → XcR G pr O σ H e ρ' cls dd σ' H' → ∃ b, PySem.W.exmOne X.K cls (.ref C0) = some b ∧ (b = true → ∀ (a : Addr) (τ : L2.St), (∀ q, j = some q → τ[q]? = some (some (.ref a))) → tHx X.K X.mg a cls dd j h τ H' D.rt) ∧ (b = false → W cls dd σ' H') := by
      intro σ H D O cls dd σ' H' e ρ' z q
      have q0 := q
      obtain ⟨O', rE', nd', go', xr, prs⟩ := q
      cases hxs : Γ.xs e.cls x with
      | none => simp only [hxs] at z; exact z.elim
      | some b =>
        obtain ⟨C1, hcl1, EH1, ⟨C', gm, _, ex, _⟩⟩ := C.xs _ _ _ hxs
        rw [EG.gC] at gm
        cases gm
        have xr' := xr
        obtain ⟨C2, hc2, ec, _⟩ := xr'
        rw [hcl1] at hc2
        cases hc2
        refine ⟨b, by rw [ec]; exact ex, ?_, ?_⟩
        · rintro rfl a τ hτ
          simp only [hxs] at z
          cases hv : evH Γ e h with
          | none => simp only [hv] at z; exact z.elim
          | some d =>
            simp only [hv] at z
            obtain ⟨σ2, O2, rE2, sub, prs2⟩ : ∃ σ2 O2, RepE G H' σ2 (wipeO j ρ') O2 ∧ O2.Sublist O' ∧ Prs pr σ σ2 := by
              cases j with
              | none => exact ⟨σ', O', rE', .refl _, prs⟩
              | some i =>
                obtain ⟨O2, a, b⟩ := repE_set (w := none) i rE'
                refine ⟨_, O2, a, b, prs.trans ⟨by simp, fun k hk => ?_⟩⟩
                rw [List.getElem?_set_ne (fun (e : i = k) => hpr i rfl (by rw [e]; exact hk))]
            exact hx_logic C xr hcl1 EH1 hτ m hv rE2 (sub.nodup nd') fun v H'' T' rv rE'' nd'' go'' => z σ2 v H'' ⟨O2, T', rE'', rv, nd'', (go'.less fun a ha => sub.subset ha).trans go'', prs2⟩
        · rintro rfl
          simp only [hxs] at z
          exact z σ' cls dd H' q0
    cases j with
    | none =>
      cases n with
      | some n => cases hj
      | none =>
        refine ⟨fun pins s σ H D I hh => (ps_try_only (tb := fun W' => tG G W' pr f) (ts := fun a cls d => tRet (tHx X.K X.mg a cls d none h)) hst hfr nms tk hb su).run pins s σ H D I ?_⟩
        obtain ⟨ρ, O, rE, nd, z⟩ := hh
        refine ⟨ρ, O, rE, nd, ?_⟩
        simp only [trF, hx] at z
        cases ef : f ρ with
        | ex e ρ' =>
          simp only [ef] at z
          intro σ' cls dd H' q
          obtain ⟨b, e1, e2, e3⟩ := catch_ z q
          exact ⟨b, e1, fun hb a _ => e2 hb a σ' (fun q e => nomatch e), e3⟩
        | _ => simp only [ef] at z; exact z
    | some i =>
      cases n with
      | none => cases hj
      | some n =>
        simp only [mErN, Bool.and_eq_true, decide_eq_true_eq, Bool.not_eq_true'] at hj
        obtain ⟨⟨j1, j2⟩, j3⟩ := hj
        have hN : X.N.Nodup := by rw [C.hN]; exact C.nd
        have hi : X.N[i]? = some n := by rw [C.hN]; exact j1
        have hln : X.env.kindOf n = some .local := by
          unfold Env.kindOf
          rw [C.sc]
          exact j2
        refine ⟨fun pins s σ H D I hh => (ps_try_as (tb := fun W' => tG G W' pr f) (ts := fun a cls d => tRet (tHx X.K X.mg a cls d (some i) h)) hst hfr hN hi hln nms tk hb su).run pins s σ H D I ?_⟩
        have len := I.len
        obtain ⟨ρ, O, rE, nd, z⟩ := hh
        refine ⟨ρ, O, rE, nd, ?_⟩
        simp only [trF, hx] at z
        cases ef : f ρ with
        | ex e ρ' =>
          simp only [ef] at z
          intro σ' cls dd H' q
          have pl : σ'.length = σ.length := by
            obtain ⟨_, _, _, _, _, prs⟩ := q
            exact prs.len
          obtain ⟨b, e1, e2, e3⟩ := catch_ z q
          refine ⟨b, e1, fun hb a _ => e2 hb a _ (fun q e => ?_), e3⟩
          cases e
          have : i < X.N.length := (List.getElem?_eq_some_iff.mp hi).1
          rw [List.getElem?_set_self (by omega)]
        | _ => simp only [ef] at z; exact z
end
end Vs
/-! V21: pairs of names stored at once; a place stored. -/
namespace Vs
open PySem PySem.Spec L2
open PyProof.Rows hiding St
section
variable {X : Cx} {G : Ga} {W : WX} {S : Sc} {Γ : Gam} {σ : L2.St} {H H' : Hp} {pr : List Nat}
theorem kind_fn {S : Sc} (C : Ctx G Γ S X) (h : (match S.sc.kind with | .function => true | _ => false) = true) : X.env.scope.kind = .function := by
  rw [C.sc]
  split at h
  · assumption
  · cases h
theorem blockK {env : PySem.Env} (h : env.scope.kind = .function) : (env.blockKind != .function) = false := by
  unfold Env.blockKind; rw [h]; rfl
theorem locB_is (C : Ctx G Γ S X) {i : Nat} {e : PySem.Expr} (h : locB S i e = true) : ∃ x p, e = .Name x p ∧ X.N[i]? = some x ∧ X.env.scope.names.lookup x = some .local := by
  unfold locB at h
  split at h
  · rw [Bool.and_eq_true, decide_eq_true_eq, decide_eq_true_eq] at h
    exact ⟨_, _, rfl, by rw [C.hN]; exact h.1, by rw [C.sc]; exact h.2⟩
  · cases h
theorem ne_of_ix {N : List Str} {i j : Nat} {x y : Str} (nd : N.Nodup) (hi : N[i]? = some x) (hj : N[j]? = some y) (h : i ≠ j) : x ≠ y := by
  intro e
  subst e
  obtain ⟨h1, e1⟩ := List.getElem?_eq_some_iff.mp hi
  obtain ⟨h2, e2⟩ := List.getElem?_eq_some_iff.mp hj
  rcases Nat.lt_or_gt_of_ne h with z | z
  · exact List.pairwise_iff_getElem.mp nd i j h1 h2 z (e1.trans e2.symm)
  · exact List.pairwise_iff_getElem.mp nd j i h2 h1 z (e2.trans e1.symm)
def starB : PySem.Expr → Bool
  | .Starred _ _ => true
  | _ => false
theorem star_no {a : PySem.Expr} (h : notStar a = true) : starB a = false := by
  cases a <;> first | rfl | cases h
theorem fm2 {x y : Str} {a b : PySem.Expr} (g : PySem.Expr → Option Str) (h1 : g a = some x) (h2 : g b = some y) : [a, b].filterMap g = [x, y] := by simp [h1, h2]
theorem fm3 {x y z : Str} {a b c : PySem.Expr} (g : PySem.Expr → Option Str) (h1 : g a = some x) (h2 : g b = some y) (h3 : g c = some z) : [a, b, c].filterMap g = [x, y, z] := by simp [h1, h2, h3]
theorem par2_sw {x y : Str} {px py pt pt2 : Pos} {kt k2 : Nat} {a b : PySem.Expr} {env : PySem.Env} (hk : env.scope.kind = .function) (hx : env.scope.names.lookup x = some .local) (hy : env.scope.names.lookup y = some .local) (hl : (py.line == px.line) = true) (hne : x ≠ y)
    (na : notStar a = true) (nb : notStar b = true) (ff : [a, b].all (foldedForSure 8) = false) (ca : [a, b].all (constantsAlone 8) = false) :
    swappedStores [.Tuple [.Name x px, .Name y py] kt pt] (.Tuple [a, b] k2 pt2) env = pure (some [x, y]) := by
  have kx : env.kindOf x = some .local := hx
  have ky : env.kindOf y = some .local := hy
  have hd : ([x, y].eraseDups.length != [x, y].length) = false := by
    rw [List.eraseDups_cons]
    simp [List.eraseDups_cons, Ne.symm hne, hne]
  have hl' : (px.line == px.line) = true := by simp
  unfold swappedStores
  simp only [pure_bind]
  rw [if_neg (by simp [blockK hk]), if_neg (by
    have h1 := star_no na
    have h2 := star_no nb
    show ¬ ([a, b].any starB = true)
    simp [h1, h2])]
  show (if _ then _ else _) = _
  have hp : ((List.head? [PySem.Expr.Name x px, .Name y py]).map (·.pos.line)).getD 0 = px.line := rfl
  rw [hp]
  rw [fm2 (x := x) (y := y) _ (by simp [kx, hl']) (by simp [ky, hl])]
  rw [if_neg (by rw [hd]; simp), if_neg (by rw [ff]; simp), if_neg (by rw [ca]; simp)]
theorem par3_sw {x y z : Str} {px py pz pt pt2 : Pos} {kt k2 : Nat} {a b c : PySem.Expr} {env : PySem.Env} (hk : env.scope.kind = .function) (hx : env.scope.names.lookup x = some .local) (hy : env.scope.names.lookup y = some .local) (hz : env.scope.names.lookup z = some .local) (hl : (py.line == px.line) = true) (hl2 : (pz.line == px.line) = true) (hne : x ≠ y) (hxz : x ≠ z) (hyz : y ≠ z)
    (na : notStar a = true) (nb : notStar b = true) (nc : notStar c = true) (ff : [a, b, c].all (foldedForSure 8) = false) (ca : [a, b, c].all (constantsAlone 8) = false) :
    swappedStores [.Tuple [.Name x px, .Name y py, .Name z pz] kt pt] (.Tuple [a, b, c] k2 pt2) env = pure (some [x, y, z]) := by
  have kx : env.kindOf x = some .local := hx
  have ky : env.kindOf y = some .local := hy
  have kz : env.kindOf z = some .local := hz
  have hd : ([x, y, z].eraseDups.length != [x, y, z].length) = false := by
    simp [List.eraseDups_cons, Ne.symm hne, hne, hxz, hyz, Ne.symm hxz, Ne.symm hyz]
  have hl' : (px.line == px.line) = true := by simp
  unfold swappedStores
  simp only [pure_bind]
  rw [if_neg (by simp [blockK hk]), if_neg (by
    have h1 := star_no na
    have h2 := star_no nb
    have h3 := star_no nc
    show ¬ ([a, b, c].any starB = true)
    simp [h1, h2, h3])]
  show (if _ then _ else _) = _
  have hp : ((List.head? [PySem.Expr.Name x px, .Name y py, .Name z pz]).map (·.pos.line)).getD 0 = px.line := rfl
  rw [hp]
  rw [fm3 (x := x) (y := y) (z := z) _ (by simp [kx, hl']) (by simp [ky, hl]) (by simp [kz, hl2])]
  rw [if_neg (by rw [hd]; simp), if_neg (by rw [ff]; simp), if_neg (by rw [ca]; simp)]
theorem par_logic {is : List Nat} {ops : List Sop} {D : Ends} (hp : apart is pr = true) (h : tG G W pr (parF is ops) D σ H) : tO G W ops σ H fun vs H1 => vs.length = is.length ∧ gNames is vs σ H1 D.nx := by
  refine tO_mono (outO h) fun vs H1 ⟨os, ρ1, O1, T, rE, rO, nd, c⟩ => ?_
  simp only at c
  cases e : ods os with
  | none => simp only [e] at c; exact c.elim
  | some ds =>
    simp only [e] at c
    cases e2 : setAll [] is ds ρ1 with
    | none => simp only [e2] at c; exact c.elim
    | some ρ2 =>
      simp only [e2] at c
      exact setAll_logic rE (ods_ok rO e) nd e2 fun σ' O' r n s dif => c.now r n s (dif.prs hp)
theorem par_ok (C : Ctx G Γ S X) {is : List Nat} {ts xs : List PySem.Expr} {ops : List Sop} {k k2 : Nat} {p p2 pos : Pos} (h : parB S is ts xs = true) (hp : apart is pr = true) (ps : POs X G W xs ops) : PS X (.Assign [.Tuple ts k p] (.Tuple xs k2 p2) pos) (tG G W pr (parF is ops)) := by
  have hN : X.N.Nodup := by rw [C.hN]; exact C.nd
  unfold parB at h
  split at h
  · simp only [Bool.and_eq_true, decide_eq_true_eq, Bool.not_eq_true'] at h
    obtain ⟨⟨⟨⟨⟨⟨⟨⟨h1, h2⟩, h3⟩, h4⟩, h5⟩, h6⟩, h7⟩, h8⟩, h9⟩ := h
    obtain ⟨x, px, rfl, a1, a2⟩ := locB_is C h1
    obtain ⟨y, py, rfl, b1, b2⟩ := locB_is C h2
    refine psImp (ps_par C.calm hN a1 b1 h3 a2 b2 ps.pa (par2_sw (kind_fn C h5) a2 b2 h4 (ne_of_ix hN a1 b1 h3) h6 h7 h8 h9)) fun D σ H z => ?_
    refine tO_mono (par_logic hp z) fun vs H1 ⟨l, g⟩ => ?_
    obtain ⟨v, r, rfl, w, r2, rfl, e, g⟩ := g
    subst e
    exact ⟨v, w, rfl, g⟩
  · simp only [Bool.and_eq_true, decide_eq_true_eq, Bool.not_eq_true'] at h
    obtain ⟨⟨⟨⟨⟨⟨⟨⟨⟨⟨⟨⟨⟨h1, h2⟩, hz⟩, h3⟩, h3b⟩, h3c⟩, h4⟩, h4b⟩, h5⟩, h6⟩, h7⟩, h7b⟩, h8⟩, h9⟩ := h
    obtain ⟨x, px, rfl, a1, a2⟩ := locB_is C h1
    obtain ⟨y, py, rfl, b1, b2⟩ := locB_is C h2
    obtain ⟨z, pz, rfl, c1, c2⟩ := locB_is C hz
    refine psImp (ps_par3 C.calm hN a1 b1 c1 h3 h3b h3c a2 b2 c2 ps.pa (par3_sw (kind_fn C h5) a2 b2 c2 h4 h4b (ne_of_ix hN a1 b1 h3) (ne_of_ix hN a1 c1 h3b) (ne_of_ix hN b1 c1 h3c) h6 h7 h7b h8 h9)) fun D σ H z => ?_
    refine tO_mono (par_logic hp z) fun vs H1 ⟨l, g⟩ => ?_
    obtain ⟨v, r, rfl, w, r2, rfl, u, r3, rfl, e, g⟩ := g
    subst e
    exact ⟨v, w, u, rfl, g⟩
  · cases h
end
end Vs
/-! V22: loops; freezing; a name for a place. -/
namespace Vs
open PySem PySem.Spec L2
open PyProof.Rows hiding St
section
variable {X : Cx} {G : Ga} {W : WX} {S : Sc} {Γ : Gam} {σ : L2.St} {H H' : Hp} {pr : List Nat}
theorem ite_logic {c : TF} {a b : SF} {D : Ends} (h : tG G W pr (iteF c a b) D σ H) : tIfS (tT G W c) (tG G W pr a) (tG G W pr b) D σ H := by
  refine tT_mono (outT h) fun t H1 ⟨ρ1, O1, rE, nd, k⟩ => ?_
  cases t with
  | true => exact ⟨ρ1, O1, rE, nd, k⟩
  | false => exact ⟨ρ1, O1, rE, nd, k⟩
theorem ret_logic {f : EF} {D : Ends} (h : tG G W pr (retF f) D σ H) : tRet (tE G W f) D σ H :=
  tE_mono (outE h) fun v H1 ⟨ρ1, d, O1, T, rE, rv, nd, k⟩ => k σ v H1 ⟨O1, T, rE, rv, nd, Go.refl, .refl⟩
theorem ex_logic {f : EF} {D : Ends} (h : tG G W pr (exF f) D σ H) : tDrop (tE G W f) D σ H :=
  tE_mono (outE h) fun v H1 ⟨ρ1, d, O1, T, rE, rv, nd, k⟩ => k.now rE (nd_app.mp nd).2.1 (fun a q => List.mem_append_right _ q) .refl
theorem whl_logic {c : TF} {b : SF} {n : Nat} {D : Ends} (h : tG G W pr (whL c b n) D σ H) : tWhile (tT G W c) (tG G W pr b) D σ H := by
  refine ⟨fun m σ H => tG G W pr (whL c b m) D σ H, ⟨n, h⟩, fun m σ1 H1 w => ?_⟩
  cases m with
  | zero => obtain ⟨_, _, _, _, z⟩ := w; exact z.elim
  | succ m =>
    have w : tG G W pr (fun ρ => (c ρ).out fun q => if q.1 = true then (match b q.2 with
      | .nx ρ2 => whL c b m ρ2
      | .ct ρ2 => whL c b m ρ2
      | .br ρ2 => .nx ρ2
      | o => o) else .nx q.2) D σ1 H1 := w
    refine tT_mono (outT w) fun t H2 ⟨ρ1, O1, rE, nd, k⟩ => ?_
    cases t with
    | false => exact k.now rE nd (fun a q => q) .refl
    | true =>
      rw [if_pos rfl]
      refine ⟨fun σ' H' => tG G W pr (whL c b m) D σ' H', fun σ' H' z => ⟨m, Nat.lt_succ_self m, z⟩, ρ1, O1, rE, nd, ?_⟩
      simp only [if_pos] at k
      cases eb : b ρ1 with
      | no => simp only [eb] at k; exact k
      | nx ρ2 => simp only [eb] at k; exact fun σ' H' ⟨O', z1, z2, z3, z4⟩ => ⟨ρ2, O', z1, z2, k.more z3 z4⟩
      | ct ρ2 => simp only [eb] at k; exact fun σ' H' ⟨O', z1, z2, z3, z4⟩ => ⟨ρ2, O', z1, z2, k.more z3 z4⟩
      | br ρ2 => simp only [eb] at k; exact k
      | rt d ρ2 => simp only [eb] at k; exact k
      | ex x ρ2 => simp only [eb] at k; exact k
/-! ### for -/
def lockO : List Ov → List Nat
  | [] => []
  | .p i _ _ :: r => i :: lockO r
  | _ :: r => lockO r
theorem RepO.st {σ' : L2.St} : ∀ {os : List Ov} {vs : List V} {T : List Addr} {ds : List D}, RepO G H σ vs os T → ovs os [] = some ds → (∀ i ∈ lockO os, σ'[i]? = σ[i]?) → RepO G H σ' vs os T
  | _, _, _, _, .nil, _, _ => .nil
  | _, _, _, _, .d (os := os) r hs, e, n => by
    unfold ovs at e
    cases e2 : ovs os [] with
    | none => rw [e2] at e; cases e
    | some l => exact .d r (RepO.st hs e2 n)
  | _, _, _, _, .v q hs, e, n => by
    unfold ovs at e
    split at e
    · rename_i e1 _; simp at e1
    · cases e
  | _, _, _, _, .p (os := os) q r va g hs, e, n => by
    unfold ovs at e
    split at e
    · rename_i e2
      exact .p (by rw [n _ List.mem_cons_self]; exact q) r va g (RepO.st hs e2 fun i h => n i (List.mem_cons_of_mem _ h))
    · cases e
theorem Out.back_nx {f : Env → Option Env} {r : Out} {O : List Addr} {D : Ends} (h : ContS G W pr O σ H (r.back f) D) {ρ : Env} (e : r = .nx ρ) : ∃ ρ', f ρ = some ρ' ∧ ContS G W pr O σ H (.nx ρ') D := by
  subst e
  cases e : f ρ with
  | none => simp only [Out.back, e] at h; exact h.elim
  | some ρ' => simp only [Out.back, e] at h; exact ⟨ρ', rfl, h⟩
/-- behind a block with something set aside (T0 behind it, made whole by f) -/
theorem back_logic {f : Env → Option Env} {r : Out} {T O1 Ob : List Addr} {σ1 : L2.St} {H1 : Hp} {pr' : List Nat} {D : Ends} (h : ContS G W pr (T ++ O1) σ1 H1 (r.back f) D) (hp : ∀ j ∈ pr, j ∈ pr') (ndT : T.Nodup) (disj : ∀ a ∈ T, a ∉ O1) (mT : MutA H1 T) (mO : MutA H1 O1)
    (wh : ∀ {ρ ρ' : Env} {σ' : L2.St} {H' : Hp} {O' A : List Addr}, f ρ = some ρ' → RepE G H' σ' ρ O' → Frm O1 H1 H' → Prs pr' σ1 σ' → O'.Nodup → (∀ a ∈ T, a ∉ O') → ∃ O2, RepE G H' σ' ρ' O2 ∧ O2.Nodup ∧ ∀ a ∈ O2, a ∈ T ++ O') :
    ContS G W pr' O1 σ1 H1 r { D with bk := D.bk, ct := D.ct } := by
  have key : ∀ {ρ ρ' : Env} {σ' : L2.St} {H' : Hp} {O' : List Addr}, f ρ = some ρ' → RepE G H' σ' ρ O' → O'.Nodup → Go O1 H1 O' H' → Prs pr' σ1 σ' → StR G pr (T ++ O1) σ1 H1 ρ' σ' H' := fun {ρ ρ' σ' H' O'} e rE nd go p => by
    have kp := go.keep (T := T) fun a q => ⟨disj a q, mT.some a q⟩
    obtain ⟨O2, a, b, c⟩ := wh (A := []) e rE go.frm p nd kp
    exact ⟨O2, a, b, (go.held (T := T)).less fun x q => c x q, p.less hp⟩
  cases r with
  | no => exact h
  | nx ρ =>
    cases e : f ρ with
    | none => simp only [Out.back, e] at h; exact h.elim
    | some ρ' => simp only [Out.back, e] at h; exact fun σ' H' ⟨O', z1, z2, z3, z4⟩ => h σ' H' (key e z1 z2 z3 z4)
  | br ρ =>
    cases e : f ρ with
    | none => simp only [Out.back, e] at h; exact h.elim
    | some ρ' => simp only [Out.back, e] at h; exact fun σ' H' ⟨O', z1, z2, z3, z4⟩ => h σ' H' (key e z1 z2 z3 z4)
  | ct ρ =>
    cases e : f ρ with
    | none => simp only [Out.back, e] at h; exact h.elim
    | some ρ' => simp only [Out.back, e] at h; exact fun σ' H' ⟨O', z1, z2, z3, z4⟩ => h σ' H' (key e z1 z2 z3 z4)
  | rt d ρ =>
    cases e : f ρ with
    | none => simp only [Out.back, e] at h; exact h.elim
    | some ρ' =>
      simp only [Out.back, e] at h
      intro σ' v H' ⟨O', Tv, z1, z2, z3, z4, z5⟩
      have kp := z4.keep (T := T) fun a q => ⟨disj a q, mT.some a q⟩
      have nd3 := nd_app.mp z3
      obtain ⟨O2, a, b, c⟩ := wh (A := Tv) e z1 z4.frm z5 nd3.2.1 fun a q z => kp a q (List.mem_append_right _ z)
      refine h σ' v H' ⟨O2, Tv, a, z2, nd_app.mpr ⟨nd3.1, b, fun x hx z => ?_⟩, (z4.held (T := T)).less fun x q => ?_, z5.less hp⟩
      · rcases List.mem_append.mp (c x z) with y | y
        · exact kp x y (List.mem_append_left _ hx)
        · exact nd3.2.2 x hx y
      · rcases List.mem_append.mp q with q | q
        · exact List.mem_append_right _ (List.mem_append_left _ q)
        · rcases List.mem_append.mp (c x q) with y | y
          · exact List.mem_append_left _ y
          · exact List.mem_append_right _ (List.mem_append_right _ y)
  | ex x ρ =>
    cases e : f ρ with
    | none => simp only [Out.back, e] at h; exact h.elim
    | some ρ' =>
      simp only [Out.back, e] at h
      intro σ' cls dd H' ⟨O', z1, z2, z3, z4, z5⟩
      obtain ⟨O2, a, b, c, d⟩ := key e z1 z2 z3 z5
      exact h σ' cls dd H' ⟨O2, a, b, c, z4, d⟩
theorem lop_in {bb : Bool} {t : Tg} {b : SF} {ps : List PyData} {vs : List V} {ds : List D} {os : List Ov} {T O1 : List Addr} {σ1 : L2.St} {H1 : Hp} {pr' : List Nat} {D : Ends} {J : It} {ρ : Env}
    (hb : bb = true → t.isTp = true) (w : Walk J ps.length (fun H' => RVs G H' vs ds ∧ FzK H1 H') (YD G bb ps)) (eo : ovs os [] = some ds) (ht : apart t.sl pr' = true) (rE : RepE G H1 σ1 ρ O1) (nd : O1.Nodup) (rO : RepO G H1 σ1 vs os T) (dj : ∀ a ∈ T, a ∉ O1) (lk : ∀ i ∈ lockO os, i ∈ pr')
    (h : ContS G W pr' O1 σ1 H1 (lopL t b ps ρ) D) :
    ∃ W' : Nat → Nat → L2.St → Hp → Prop, (∃ m, W' 0 m σ1 H1) ∧ ∀ i m σ H, W' i m σ H →
      (J.stop i H ∧ D.nx σ H) ∨ (J.go i H ∧ ∃ N : L2.St → Hp → Prop, (∀ σ' H', N σ' H' → ∃ m', m' < m ∧ W' (i + 1) m' σ' H') ∧ ∀ x H', J.yld i H x H' → gT G.K t x σ H' fun σ2 H2 => tG G W pr' b { D with nx := N, ct := N, bk := D.nx } σ2 H2) := by
  refine for_it w (fun i σ H => ∃ ρ' O', RepE G H σ ρ' O' ∧ O'.Nodup ∧ Go O1 H1 O' H ∧ Prs pr' σ1 σ ∧ ContS G W pr' O' σ H (lopL t b (ps.drop i) ρ') D) ⟨ρ, O1, rE, nd, Go.refl, .refl, by simpa using h⟩ ?_ ?_ ?_
  · rintro i σ H hi ⟨ρ', O', r, n, g, p, k⟩
    exact ⟨ovl_ok ((rO.fr g.frm rE.mut dj).st (σ' := σ) eo fun i q => p.eq i (lk i q)) eo, FzK.of g rE.mut⟩
  · rintro i x σ H H' hi ⟨ρ', O', r, n, g, p, k⟩ ⟨fr, q, eq, dp⟩
    have ed : ps.drop i = q :: ps.drop (i + 1) := by
      rw [List.getElem?_eq_getElem hi] at eq; cases eq
      exact List.drop_eq_getElem_cons hi
    rw [ed] at k
    unfold lopL at k
    cases e4 : bindT [] t (.sh q) ρ' with
    | none => simp only [e4] at k; exact k.elim
    | some ρ1 =>
      simp only [e4] at k
      have r' := r.fr (S := []) fr mut_nil fun _ _ z => nomatch z
      refine bindW_logic hb r' dp n e4 fun σ2 O7 rE7 nd7 sub7 dif => ⟨ρ1, O7, rE7, nd7, ?_⟩
      have g7 : Go O' H O7 H' := ⟨fun a o e _ => fr a o e (fun z => nomatch z), fun a q => .inl (by simpa using sub7 a q)⟩
      have k := k.more g7 (dif.prs ht)
      cases eb : b ρ1 with
      | no => simp only [eb] at k; exact k
      | nx ρ2 => simp only [eb] at k; exact fun σ' H' ⟨O8, z1, z2, z3, z4⟩ => ⟨ρ2, O8, z1, z2, g.trans (g7.trans z3), p.trans ((dif.prs ht).trans z4), k.more z3 z4⟩
      | ct ρ2 => simp only [eb] at k; exact fun σ' H' ⟨O8, z1, z2, z3, z4⟩ => ⟨ρ2, O8, z1, z2, g.trans (g7.trans z3), p.trans ((dif.prs ht).trans z4), k.more z3 z4⟩
      | br ρ2 => simp only [eb] at k; exact k
      | rt d ρ2 => simp only [eb] at k; exact k
      | ex x ρ2 => simp only [eb] at k; exact k
  · rintro σ H ⟨ρ', O', r, n, g, p, k⟩
    rw [List.drop_length] at k
    exact ContS.now k r n (fun a q => q) .refl
theorem lock_of {os : List Ov} {ρ ρ' : Env} : ∀ {as : List Ex}, runO (lops Γ as) ρ = .ok (os, ρ') → lockO os = lockS as := by
  intro as
  induction as generalizing os ρ ρ' with
  | nil => intro h; simp [lops, runO] at h; obtain ⟨rfl, _⟩ := h; rfl
  | cons e as ih =>
    intro h
    have gen : noVw e = true → lockO os = lockS (e :: as) := fun n => by
      rw [lops_e n] at h
      unfold runO at h
      have hl : lockS (e :: as) = lockS as := by cases e <;> first | rfl | cases n
      rw [hl]
      cases e1 : ev Γ e ρ with
      | no => simp only [e1, Res.bind] at h; cases h
      | ex x ρ1 => simp only [e1, Res.bind] at h; cases h
      | ok p =>
        simp only [e1, Res.bind] at h
        cases e2 : runO (lops Γ as) p.2 with
        | no => simp only [e2] at h; cases h
        | ex x ρ1 => simp only [e2] at h; cases h
        | ok q =>
          simp only [e2] at h
          cases h
          exact (show lockO (_ :: q.1) = lockO q.1 from rfl).trans (ih e2)
    cases n : noVw e with
    | true => exact gen n
    | false =>
      cases e with
      | vw i p =>
        simp only [lops, runO] at h
        cases e1 : ρ[i]? with
        | none => simp only [e1] at h; cases h
        | some o =>
        cases o with
        | none => simp only [e1] at h; cases h
        | some d =>
        simp only [e1] at h
        cases e3 : getP p d with
        | none => simp only [e3] at h; cases h
        | some y =>
        simp only [e3] at h
        cases e2 : runO (lops Γ as) (ρ.set i none) with
        | no => simp only [e2, Res.bind] at h; cases h
        | ex x ρ1 => simp only [e2, Res.bind] at h; cases h
        | ok q =>
          simp only [e2, Res.bind] at h
          cases h
          show i :: lockO q.1 = i :: lockS as
          rw [ih e2]
      | _ => cases n
theorem lop_logic {t : Tg} {k : ItK} {as : List Ex} {b : SF} {D : Ends} (hb : itTup k = true → t.isTp = true) (ht : apart t.sl (lockS as ++ pr) = true) (h : tG G W pr (lopF t k (lops Γ as) b) D σ H) : tFor (tI G W k (lops Γ as)) (gT G.K t) (tG G W (lockS as ++ pr) b) D σ H := by
  obtain ⟨ρ0, O0, rE0, nd0, h⟩ := h
  unfold tFor tI
  refine run_ops _ ρ0 O0 rE0 nd0 ?_
  unfold OpsR
  unfold lopF at h
  cases er : runO (lops Γ as) ρ0 with
  | no => simp only [er, Res.out] at h; exact h
  | ex x ρ' =>
    simp only [er, Res.out] at h
    exact fun cls dd H' ⟨O', z1, z2, z3, z4⟩ => h σ cls dd H' ⟨O', z1, z2, z3, z4, .refl⟩
  | ok q =>
  obtain ⟨os, ρ1⟩ := q
  simp only [er, Res.out] at h
  intro vs H10 O1 T rE0 rO0 nd go0
  cases e1 : ovs os [] with
  | none => simp only [e1] at h; exact h.elim
  | some ds =>
  simp only [e1] at h
  cases e2 : itF k ds with
  | none => simp only [e2] at h; exact h.elim
  | some ps =>
  simp only [e2] at h
  refine ⟨ds, ps, ovl_ok rO0 e1, e2, fun J H1 f1 w => ?_⟩
  have rE := rE0.fr (S := []) f1 mut_nil (fun _ _ z => nomatch z)
  have rO := rO0.fr (S := []) f1 mut_nil (fun _ _ z => nomatch z)
  have go := go0.trans (⟨fun a o e _ => f1 a o e (fun z => nomatch z), fun a q => .inl q⟩ : Go (T ++ O1) H10 (T ++ O1) H1)
  have h := ContS.more go .refl h
  have nd' := nd_app.mp nd
  have lk := lock_of (Γ := Γ) er
  refine lop_in (pr' := lockS as ++ pr) hb w e1 ht rE nd'.2.1 rO nd'.2.2 (fun i q => List.mem_append_left _ (lk ▸ q)) ?_
  refine back_logic (T := T) (O1 := O1) (Ob := []) h (fun j q => List.mem_append_right _ q) nd'.1 nd'.2.2 rO.mut rE.mut fun {ρ ρ' σ' H' O' A} e r f p n d => ?_
  have rO' := (rO.fr f rE.mut nd'.2.2).st (σ' := σ') e1 fun i q => p.eq i (List.mem_append_left _ (lk ▸ q))
  exact unlock_ok rO' r (nd_app.mpr ⟨nd'.1, n, d⟩) e
end
end Vs
/-! V23: freezing a name's list; a place stored; a name for a place. -/
namespace Vs
open PySem PySem.Spec L2
open PyProof.Rows hiding St
section
variable {X : Cx} {G : Ga} {W : WX} {S : Sc} {Γ : Gam} {σ : L2.St} {H H' : Hp} {pr : List Nat}
theorem frz_ok {sts : List Stmt} {i : Nat} {g : SF} {u : TS} (h : PSs X sts (tSeq (tG G W pr g) u)) : PSs X sts (tSeq (tG G W pr fun ρ => (frzF i ρ).seq g) u) := ⟨fun pins s σ H D I ⟨ρ, O, rE, nd, c⟩ => by
  unfold frzF at c
  cases e1 : ρ[i]? with
  | none => simp only [e1, Out.seq] at c; exact c.elim
  | some o =>
  cases o with
  | none => simp only [e1, Out.seq] at c; exact c.elim
  | some d =>
  simp only [e1] at c
  cases e2 : d.fz with
  | none =>
    simp only [e2] at c
    cases e3 : fzD d with
    | none => simp only [e3, Out.seq] at c; exact c.elim
    | some e =>
    simp only [e3, Out.seq] at c
    obtain ⟨v, T, O2, hv, rv, pm, rE2⟩ := rE.out e1
    have hi : i < ρ.length := (List.getElem?_eq_some_iff.mp e1).1
    unfold fzD at e3
    split at e3
    · split at e3
      · rename_i el
        cases e3
        have mv := rv.mut
        cases rv with
        | dd h0 hk em hs =>
          obtain ⟨hl, rfl⟩ := hs.of_unsh el
          have nd' := nd_app.mp (pm.nodup nd)
          obtain ⟨H2, I2, k1, k2⟩ := freeze_all _ I nd'.1 (fun b hb => by
            rw [List.mem_singleton] at hb
            subst hb
            exact ⟨_, h0, trivial⟩)
          have f : Frm _ H H2 := fun a o e n => by rw [k1 a n]; exact e
          have rE3 := rE2.fr f mv fun a q z => nd'.2.2 a z q
          obtain ⟨o, ho⟩ := k2 _ List.mem_cons_self _ h0
          obtain ⟨O3, pm3, rE4⟩ := rE3.put (by rw [List.getElem?_set_self hi]) hv (Rep.fd ho (DpFs.fr (G := G) hk f mv) em (DpFs.fr (G := G) hl f mv))
          rw [List.set_set] at rE4
          exact h.run pins s σ H2 D I2 ⟨_, O3, rE4, pm3.nodup_iff.mpr (by simpa using nd'.2.1), c.more ⟨fun a o e n => f a o e fun q => n (pm.mem_iff.mpr (List.mem_append_left _ q)), fun a q => .inl (pm.mem_iff.mpr (List.mem_append_right _ (by simpa using pm3.mem_iff.mp q)))⟩ .refl⟩
      · cases e3
    · cases e3
  | some p =>
  simp only [e2, Out.seq] at c
  obtain ⟨v, T, O2, hv, rv, pm, rE2⟩ := rE.out e1
  have nd' := nd_app.mp (pm.nodup nd)
  obtain ⟨H2, I2, k1, k2⟩ := freeze_all T I nd'.1 (rv.lsts e2)
  have f : Frm T H H2 := fun a o e n => by rw [k1 a n]; exact e
  have rE3 := rE2.fr f rv.mut fun a q z => nd'.2.2 a z q
  have hi : i < ρ.length := (List.getElem?_eq_some_iff.mp e1).1
  obtain ⟨O3, pm3, rE4⟩ := rE3.put (by rw [List.getElem?_set_self hi]) hv (Rep.sh (rv.frozen f rv.mut k2 e2 fun a q => q))
  rw [List.set_set] at rE4
  refine h.run pins s σ H2 D I2 ⟨_, O3, rE4, pm3.nodup_iff.mpr (by simpa using nd'.2.1), c.more ⟨fun a o e n => f a o e fun q => n (pm.mem_iff.mpr (List.mem_append_left _ q)), fun a q => .inl (pm.mem_iff.mpr (List.mem_append_right _ (by simpa using pm3.mem_iff.mp q)))⟩ .refl⟩⟩
/-! ### a place stored -/
theorem Reps.setV : ∀ {us : List V} {es : List D} {T T1 : List Addr} {j : Nat} {v : V} {d : D}, Reps G H us es T → Rep G H v d T1 → j < es.length → ∃ R, R.Sublist T ∧ ∃ T', Reps G H (us.set j v) (es.set j d) T' ∧ T'.Perm (T1 ++ R)
  | _, _, _, _, j, _, _, .nil, _, hj => by simp at hj
  | _, _, _, T1, 0, v, d, .cons (O := O) (O' := O') h hs, r, hj => ⟨O', List.sublist_append_right _ _, T1 ++ O', .cons r hs, .refl _⟩
  | _, _, _, T1, j + 1, v, d, .cons (O := O) (O' := O') h hs, r, hj => by
    obtain ⟨R, sb, T', a, b⟩ := Reps.setV (j := j) hs r (by simpa using hj)
    refine ⟨O ++ R, .append (.refl _) sb, O ++ T', .cons h a, ?_⟩
    exact (List.Perm.append_left O b).trans (by rw [← List.append_assoc, ← List.append_assoc]; exact List.Perm.append_right R List.perm_append_comm)
theorem dk_put : ∀ {kvs : List (Key × V)} {es : List D} {T T1 : List Addr} {k : Key} {v : V} {d : D}, Reps G H (kvs.map (·.2)) es T → Rep G H v d T1 → (kvs.map (·.1)).Nodup → k ∈ kvs.map (·.1) →
    ∃ R, R.Sublist T ∧ ∃ T', Reps G H ((kvs.map fun kv => if kv.1 = k then (kv.1, v) else kv).map (·.2)) (dkSet (kvs.map (·.1)) es k d) T' ∧ T'.Perm (T1 ++ R)
  | [], es, T, T1, k, v, d, h, r, nd, e => by simp at e
  | (q, u) :: kvs, es, T, T1, k, v, d, hh, r, nd, e => by
   cases hh with
   | @cons _ _ d0 ds O O' h hs =>
    have nd' := List.nodup_cons.mp (show (q :: kvs.map (·.1)).Nodup from nd)
    by_cases hk : q = k
    · subst hk
      have same : (kvs.map fun kv : Key × V => if kv.1 = q then (kv.1, v) else kv) = kvs := by
        rw [List.map_congr_left (g := id) fun kv hkv => ?_]
        · simp
        · rw [if_neg (fun z => nd'.1 (List.mem_map.mpr ⟨kv, hkv, z⟩))]; rfl
      refine ⟨O', List.sublist_append_right _ _, T1 ++ O', ?_, .refl _⟩
      simp only [List.map_cons, dkSet, if_pos]
      rw [same]
      exact .cons r hs
    · have e' : k ∈ kvs.map (·.1) := by
        rcases List.mem_cons.mp e with z | z
        · exact absurd z.symm hk
        · exact z
      obtain ⟨R, sb, T', a, b⟩ := dk_put hs r nd'.2 e'
      refine ⟨O ++ R, .append (.refl _) sb, O ++ T', ?_, ?_⟩
      · simp only [List.map_cons, dkSet, if_neg hk]
        exact .cons h a
      · exact (List.Perm.append_left O b).trans (by rw [← List.append_assoc, ← List.append_assoc]; exact List.Perm.append_right R List.perm_append_comm)
/-- behind a store in a dict -/
theorem dkPut_step {u v : V} {k : Key} {ks : List Key} {ds : List D} {c' d : D} {Tc Td : List Addr} {Q : Hp → Prop} (rc : Rep G H u (.dk ks ds) Tc) (rd : Rep G H v d Td) (nd : (Tc ++ Td).Nodup) (e : dkPut ks ds k d = some c')
    (h : ∀ H3 T3 l, l ∈ Tc → Frm [l] H H3 → Rep G H3 u c' T3 → T3.Nodup → (∀ a ∈ T3, a ∈ Tc ++ Td) → Q H3) : rSetD u (kV k) v H Q := by
  have nd' := nd_app.mp nd
  unfold dkPut at e
  split at e
  · rename_i hn
    cases rc with
    | @dk a kvs _ T ha hs =>
      have na := List.nodup_cons.mp nd'.1
      have hl : kvs.length < sizeLine := by
        have := hn.2
        rw [List.length_map] at this
        rw [sizeLine_eq]; omega
      refine ⟨a, _, rfl, DPut.k ha hl, ?_⟩
      have f : Frm [a] H (upd H a (.dK (putK kvs k v))) := fun b o q z => by rw [upd_ne (fun y : b = a => z (by rw [y]; simp))]; exact q
      have m : MutA H [a] := fun b q => by rw [List.mem_singleton] at q; subst q; rw [ha]; trivial
      have d1 : ∀ b ∈ T, b ∉ [a] := fun b q z => by rw [List.mem_singleton] at z; exact na.1 (z ▸ q)
      have d2 : ∀ b ∈ Td, b ∉ [a] := fun b q z => by rw [List.mem_singleton] at z; exact nd'.2.2 a List.mem_cons_self (z ▸ q)
      have hs' := hs.fr f m d1
      have rd' := rd.fr f m d2
      have fin : ∀ (T' R : List Addr), R.Sublist T → T'.Perm (Td ++ R) → (a :: T').Nodup ∧ ∀ b ∈ a :: T', b ∈ (a :: T) ++ Td := fun T' R sb pm => by
        refine ⟨List.nodup_cons.mpr ⟨fun z => ?_, pm.nodup_iff.mpr (nd_app.mpr ⟨nd'.2.1, sb.nodup na.2, fun b q z => nd'.2.2 b (List.mem_cons_of_mem _ (sb.subset z)) q⟩)⟩, fun b q => ?_⟩
        · rcases List.mem_append.mp (pm.mem_iff.mp z) with y | y
          · exact nd'.2.2 a List.mem_cons_self y
          · exact na.1 (sb.subset y)
        · rcases List.mem_cons.mp q with rfl | q
          · exact List.mem_append_left _ List.mem_cons_self
          · rcases List.mem_append.mp (pm.mem_iff.mp q) with y | y
            · exact List.mem_append_right _ y
            · exact List.mem_append_left _ (List.mem_cons_of_mem _ (sb.subset y))
      by_cases hk : k ∈ kvs.map (·.1)
      · rw [if_pos (hasK_iff.mpr hk)] at e
        cases e
        have hany : (kvs.any fun kv => decide (kv.1 = k)) = true := by
          obtain ⟨p, hp, e⟩ := List.mem_map.mp hk
          exact List.any_eq_true.mpr ⟨p, hp, by simpa using e⟩
        have ep : putK kvs k v = kvs.map fun kv => if kv.1 = k then (kv.1, v) else kv := by unfold putK; rw [if_pos hany]
        obtain ⟨R, sb, T', r', pm⟩ := dk_put hs' rd' hn.1 hk
        obtain ⟨g1, g2⟩ := fin T' R sb pm
        refine h _ (a :: T') a List.mem_cons_self f ?_ g1 g2
        have em : (putK kvs k v).map (·.1) = kvs.map (·.1) := by
          rw [ep, List.map_map]
          refine List.map_congr_left fun kv _ => ?_
          show (if kv.1 = k then (kv.1, v) else kv).1 = kv.1
          split <;> rfl
        rw [← em]
        refine .dk upd_same ?_
        rw [ep]
        rw [← em, ep] at r'
        exact r'
      · rw [if_neg (fun z => hk (hasK_iff.mp z))] at e
        cases e
        have hany : ¬ (kvs.any fun kv => decide (kv.1 = k)) = true := fun z => by
          obtain ⟨p, hp, e⟩ := List.any_eq_true.mp z
          exact hk (List.mem_map.mpr ⟨p, hp, by simpa using e⟩)
        have ep : putK kvs k v = kvs ++ [(k, v)] := by unfold putK; rw [if_neg hany]
        have r' := hs'.app (.cons rd' .nil)
        rw [List.append_nil] at r'
        obtain ⟨g1, g2⟩ := fin (T ++ Td) T (.refl _) List.perm_append_comm
        refine h _ (a :: (T ++ Td)) a List.mem_cons_self f ?_ g1 g2
        have em : kvs.map (·.1) ++ [k] = (putK kvs k v).map (·.1) := by rw [ep]; simp
        rw [em]
        refine .dk upd_same ?_
        rw [ep] at r' ⊢
        simpa using r'
  · cases e
theorem ddStore_some {ks : List PyData} {ds : List D} {kk : PyData} {d c' : D} (e : ddStore ks ds kk d = some c') : ∃ k, tkey kk = some k ∧ ks.length < 1000000 ∧ c' = .dd (ddPut ks ds kk k d).1 (ddPut ks ds kk k d).2 := by
  unfold ddStore at e
  split at e
  · rename_i k ek
    split at e
    · cases e
      exact ⟨k, ek, by assumption, rfl⟩
    · cases e
  · cases e
/-- behind a store in a dict of tuples -/
theorem dd_step (hG : G.K = X.K) (hw : G.w = X.w) {u kv v : V} {ks : List PyData} {ds : List D} {kk : PyData} {k : NestedKey} {c' d : D} {Tc Td : List Addr} {Q : Hp → Prop} (rc : Rep G H u (.dd ks ds) Tc ∨ Rep G H u (.dk [] []) Tc ∧ ks = [] ∧ ds = []) (rd : Rep G H v d Td) (rk : DpF G.K H kv kk) (nd : (Tc ++ Td).Nodup)
    (ek : tkey kk = some k) (z : ks.length < 1000000 ∧ c' = .dd (ddPut ks ds kk k d).1 (ddPut ks ds kk k d).2) (h : ∀ H3 T3 l, l ∈ Tc → Frm [l] H H3 → Rep G H3 u c' T3 → T3.Nodup → (∀ a ∈ T3, a ∈ Tc ++ Td) → Q H3) : rSetDD X u kv v H Q := by
  obtain ⟨b, rfl⟩ := tkey_ref rk ek
  obtain ⟨hl, rfl⟩ := z
  have nd' := nd_app.mp nd
  obtain ⟨a, kvs, T, rfl, rfl, hd, mu, hk, em, hs⟩ : ∃ a kvs T, u = .ref a ∧ Tc = a :: T ∧ DDat X H a kvs ∧ Mut (H a) ∧ DpFs G.K H (kvs.map fun x => .ref x.2.1) ks ∧ ks.map tkey = kvs.map (fun x => some x.1) ∧ Reps G H (kvs.map (·.2.2)) ds T := by
    rcases rc with rc | ⟨rc, rfl, rfl⟩
    · cases rc with
      | @dd a kvs _ _ O ha hk em hs => exact ⟨a, kvs, O, rfl, rfl, .of (hw ▸ ha) (hG ▸ hk) em, by rw [ha]; trivial, hk, em, hs⟩
    · generalize e0 : (D.dk [] []) = dd at rc
      cases rc with
      | @dk a kvs ds O ha hs =>
        injection e0 with e1 e2
        have : kvs = [] := by simpa using e1.symm
        subst this
        subst e2
        cases hs
        exact ⟨a, [], [], rfl, rfl, .emp ha, by rw [ha]; trivial, .nil, rfl, .nil⟩
      | sh _ => cases e0
      | tp _ _ => cases e0
      | ls _ _ => cases e0
      | dd _ _ _ _ => cases e0
      | ob => cases e0
      | fn _ => cases e0
      | fd => cases e0
  have na := List.nodup_cons.mp nd'.1
  have hlen : kvs.length = ks.length := by have := congrArg List.length em; simpa using this.symm
  refine ⟨a, b, kvs, k, kk, rfl, rfl, hd, hG ▸ rk, ek, by rw [sizeLine_eq]; omega, ?_⟩
  have f : Frm [a] H (upd H a (dtO X.w a (ddP kvs k b v))) := fun c o q z => by rw [upd_ne (fun y : c = a => z (by rw [y]; simp))]; exact q
  have m : MutA H [a] := fun c q => by rw [List.mem_singleton] at q; subst q; exact mu
  have d1 : ∀ c ∈ T, c ∉ [a] := fun c q z => by rw [List.mem_singleton] at z; exact na.1 (z ▸ q)
  have d2 : ∀ c ∈ Td, c ∉ [a] := fun c q z => by rw [List.mem_singleton] at z; exact nd'.2.2 a List.mem_cons_self (z ▸ q)
  obtain ⟨T', a1, a2, a3, a4, a5⟩ := ddP_rep (DpF.fr rk f m) ek (rd.fr f m d2) (DpFs.fr hk f m) em (hs.fr f m d1) (nd_app.mpr ⟨na.2, nd'.2.1, fun c q y => nd'.2.2 c (List.mem_cons_of_mem _ q) y⟩)
  refine h _ (a :: T') a List.mem_cons_self f (.dd (by rw [hw]; exact upd_same) a1 a2 a3) (List.nodup_cons.mpr ⟨fun q => ?_, a4⟩) fun c q => ?_
  · rcases List.mem_append.mp (a5 a q) with y | y
    · exact na.1 y
    · exact nd'.2.2 a List.mem_cons_self y
  · rcases List.mem_cons.mp q with rfl | q
    · exact List.mem_append_left _ List.mem_cons_self
    · exact List.mem_append.mpr ((List.mem_append.mp (a5 c q)).imp (fun y => List.mem_cons_of_mem _ y) id)
def tPut (X : Cx) (dk : Bool) : TSet := if dk = true then (fun o i v H Q => rSetD o i v H Q ∨ rSetDD X o i v H Q) else rSetL
/-- what is stored in a container -/
theorem put_step (hG : G.K = X.K) (hw : G.w = X.w) {dk : Bool} {u kv v : V} {c c' d : D} {kk : PyData} {Tc Td : List Addr} {Q : Hp → Prop} (rc : Rep G H u c Tc) (rd : Rep G H v d Td) (rk : DpF G.K H kv kk) (nd : (Tc ++ Td).Nodup) (e : putD dk c kk d = some c')
    (h : ∀ H3 T3 l, l ∈ Tc → Frm [l] H H3 → Rep G H3 u c' T3 → T3.Nodup → (∀ a ∈ T3, a ∈ Tc ++ Td) → Q H3) : tPut X dk u kv v H Q := by
  have nd' := nd_app.mp nd
  unfold putD at e
  split at e
  · rename_i ds n
    cases rc with
    | @ls a xs _ T ha hs =>
      cases rk
      cases ej : ixN ds.length n with
      | none => rw [ej] at e; cases e
      | some j =>
        rw [ej] at e; cases e
        have hj := (ixN_seq ej).2.1
        refine ⟨a, xs, n, j, rfl, rfl, ha, by rw [hs.len]; exact ej, ?_⟩
        have f : Frm [a] H (upd H a (.lst (xs.set j v))) := fun b o q z => by rw [upd_ne (fun y : b = a => z (by rw [y]; simp))]; exact q
        have m : MutA H [a] := fun b q => by rw [List.mem_singleton] at q; subst q; rw [ha]; trivial
        have na := List.nodup_cons.mp nd'.1
        have d1 : ∀ b ∈ T, b ∉ [a] := fun b q z => by rw [List.mem_singleton] at z; exact na.1 (z ▸ q)
        have d2 : ∀ b ∈ Td, b ∉ [a] := fun b q z => by rw [List.mem_singleton] at z; exact nd'.2.2 a List.mem_cons_self (z ▸ q)
        obtain ⟨R, sb, T', r', pm⟩ := (hs.fr f m d1).setV (rd.fr f m d2) hj
        refine h _ (a :: T') a List.mem_cons_self f (.ls upd_same r') ?_ fun b q => ?_
        · refine List.nodup_cons.mpr ⟨fun z => ?_, pm.nodup_iff.mpr (nd_app.mpr ⟨nd'.2.1, sb.nodup na.2, fun b q z => nd'.2.2 b (List.mem_cons_of_mem _ (sb.subset z)) q⟩)⟩
          rcases List.mem_append.mp (pm.mem_iff.mp z) with y | y
          · exact nd'.2.2 a List.mem_cons_self y
          · exact na.1 (sb.subset y)
        · rcases List.mem_cons.mp q with rfl | q
          · exact List.mem_append_left _ List.mem_cons_self
          · rcases List.mem_append.mp (pm.mem_iff.mp q) with y | y
            · exact List.mem_append_right _ y
            · exact List.mem_append_left _ (List.mem_cons_of_mem _ (sb.subset y))
  · rename_i ks ds x
    cases rk
    exact .inl (dkPut_step (k := .inr x) rc rd nd e h)
  · rename_i ks ds x
    cases rk
    exact .inl (dkPut_step (k := .inl x) rc rd nd e h)
  · rename_i l
    obtain ⟨k, q, z⟩ := ddStore_some e
    exact .inr (dd_step hG hw (.inr ⟨rc, rfl, rfl⟩) rd rk nd q z h)
  · rename_i ks ds kk
    obtain ⟨k, q, z⟩ := ddStore_some e
    exact .inr (dd_step hG hw (.inl rc) rd rk nd q z h)
  · cases e
theorem tPut_mono {dk : Bool} {o x v : V} {H : Hp} {Q Q' : Hp → Prop} (h : tPut X dk o x v H Q) (k : ∀ H', Q H' → Q' H') : tPut X dk o x v H Q' := by
  unfold tPut at h ⊢
  cases dk with
  | true =>
    rcases h with ⟨a, H', e, g, q⟩ | ⟨a, b, kvs, kk, d, e1, e2, e3, e4, e5, e6, q⟩
    · exact .inl ⟨a, H', e, g, k _ q⟩
    · exact .inr ⟨a, b, kvs, kk, d, e1, e2, e3, e4, e5, e6, k _ q⟩
  | false =>
    obtain ⟨a, xs, n, j, e1, e2, e3, e4, q⟩ := h
    exact ⟨a, xs, n, j, e1, e2, e3, e4, k _ q⟩
theorem gSub_mono {dk : Bool} {i : Nat} {path : List PK} {k : EF} {v : V} {H : Hp} {Q Q' : L2.St → Hp → Prop} (h : gSub (tPath i path) (tE G W0 k) (tPut X dk) v σ H Q) (imp : ∀ σ' H', Q σ' H' → Q' σ' H') : gSub (tPath i path) (tE G W0 k) (tPut X dk) v σ H Q' := by
  obtain ⟨v0, u, a, b, c⟩ := h
  exact ⟨v0, u, a, b, tE_mono c fun x H1 z => tPut_mono z fun H' y => imp _ _ y⟩
theorem putV_logic (hG : G.K = X.K) (hw : G.w = X.w) {dk : Bool} {i : Nat} {path : List PK} {k : EF} {d : Vs.D} {D : Ends} {v : V} {H1 : Hp} {ρ1 : Env} {O1 Td : List Addr} (rE : RepE G H1 σ ρ1 O1) (rv : Rep G H1 v d Td) (nd : (Td ++ O1).Nodup) (c : ContS G W pr (Td ++ O1) σ H1 (putV dk i path k d ρ1) D) : gSub (tPath i path) (tE G W0 k) (tPut X dk) v σ H1 D.nx := by
  unfold putV at c
  cases e0 : ρ1[i]? with
  | none => simp only [e0] at c; exact c.elim
  | some o =>
  cases o with
  | none => simp only [e0] at c; exact c.elim
  | some root =>
  simp only [e0] at c
  cases eg : getP path root with
  | none => simp only [eg] at c; exact c.elim
  | some y =>
  simp only [eg] at c
  obtain ⟨v0, O2, O3, hσ, rr, pm, rE'⟩ := rE.out e0
  have nd' := nd_app.mp nd
  have nO := nd_app.mp (pm.nodup nd'.2.1)
  obtain ⟨u, _, va, _, _⟩ := rr.place eg
  refine ⟨v0, u, hσ, va, tE_iff.mpr ⟨ρ1.set i none, O3, rE', nO.2.1, ?_⟩⟩
  cases ek : k (ρ1.set i none) with
  | no => simp only [ek] at c; exact c.elim
  | ex x ρ' => simp only [ek] at c; exact c.elim
  | ok q =>
  obtain ⟨dk', ρ2⟩ := q
  cases dk' with
  | sh kk =>
    simp only [ek] at c
    intro kv H2 ⟨O4, Tk, rE4, rk, nd4, go4⟩
    cases rk with
    | sh rk =>
    cases ep : putD dk y kk d with
    | none => simp only [ep] at c; exact c.elim
    | some c' =>
    simp only [ep] at c
    cases e2 : ρ2[i]? with
    | none => simp only [e2] at c; exact c.elim
    | some o =>
    cases o with
    | some _ => simp only [e2] at c; exact c.elim
    | none =>
    simp only [e2] at c
    have m3 : MutA H1 O3 := rE'.mut
    have dT : ∀ a ∈ Td, a ∉ O3 := fun a q z => nd'.2.2 a q (pm.mem_iff.mpr (List.mem_append_right _ z))
    have dR : ∀ a ∈ O2, a ∉ O3 := nO.2.2
    have rd2 := rv.fr go4.frm m3 dT
    have rr2 := rr.fr go4.frm m3 dR
    have va2 := va.fr rr eg go4.frm m3 dR
    have kp := go4.keep (T := Td ++ O2) fun a q => ⟨fun z => (List.mem_append.mp q).elim (fun y => dT a y z) fun y => dR a y z, (MutA.app rv.mut rr.mut).some a q⟩
    simp only [List.nil_append] at kp nd4
    obtain ⟨u', T, R, b1, b2, b3, b4⟩ := rr2.focusG eg nO.1
    cases va2.inj b1
    have nTR := nd_app.mp (b3.nodup nO.1)
    have ndTd : (T ++ Td).Nodup := nd_app.mpr ⟨nTR.1, nd'.1, fun a q z => nd'.2.2 a z (pm.mem_iff.mpr (List.mem_append_left _ (b3.mem_iff.mpr (List.mem_append_left _ q))))⟩
    refine put_step hG hw b2 rd2 rk ndTd ep fun H3 T3 l hl f r3 n3 s3 => ?_
    have ml : MutA H2 [l] := fun a q => by rw [List.mem_singleton] at q; subst q; exact b2.mut _ hl
    have lR : ∀ a ∈ [l], a ∉ R := fun a q => by rw [List.mem_singleton] at q; subst q; exact nTR.2.2 _ hl
    obtain ⟨T0', r4, pm4⟩ := b4 f ml lR r3
    have lO2 : l ∈ O2 := b3.mem_iff.mpr (List.mem_append_left _ hl)
    have rE5 := rE4.fr f ml fun a q z => by
      rw [List.mem_singleton] at z; subst z
      exact kp a (List.mem_append_right _ lO2) q
    obtain ⟨O5, pm5, rE6⟩ := rE5.put e2 hσ r4
    have inOld : ∀ a ∈ T0', a ∈ Td ++ O2 := fun a q => by
      rcases List.mem_append.mp (pm4.mem_iff.mp q) with y | y
      · rcases List.mem_append.mp (s3 a y) with y | y
        · exact List.mem_append_right _ (b3.mem_iff.mpr (List.mem_append_left _ y))
        · exact List.mem_append_left _ y
      · exact List.mem_append_right _ (b3.mem_iff.mpr (List.mem_append_right _ y))
    have nT0 : T0'.Nodup := pm4.nodup_iff.mpr (nd_app.mpr ⟨n3, nTR.2.1, fun a q z => by
      rcases List.mem_append.mp (s3 a q) with y | y
      · exact nTR.2.2 a y z
      · exact nd'.2.2 a y (pm.mem_iff.mpr (List.mem_append_left _ (b3.mem_iff.mpr (List.mem_append_right _ z))))⟩)
    refine c σ H3 ⟨O5, rE6, pm5.nodup_iff.mpr (nd_app.mpr ⟨nT0, nd4, fun a q => kp a (inOld a q)⟩), ?_, .refl⟩
    refine ⟨fun a o e n => ?_, fun a q => ?_⟩
    · have h1 : a ∉ O3 := fun z => n (List.mem_append_right _ (pm.mem_iff.mpr (List.mem_append_right _ z)))
      refine f a o (go4.frm a o e h1) fun z => ?_
      rw [List.mem_singleton] at z; subst z
      exact n (List.mem_append_right _ (pm.mem_iff.mpr (List.mem_append_left _ lO2)))
    · rcases List.mem_append.mp (pm5.mem_iff.mp q) with y | y
      · rcases List.mem_append.mp (inOld a y) with z | z
        · exact .inl (List.mem_append_left _ z)
        · exact .inl (List.mem_append_right _ (pm.mem_iff.mpr (List.mem_append_left _ z)))
      · exact (go4.sub a (List.mem_append_right _ y)).imp (fun z => List.mem_append_right _ (pm.mem_iff.mpr (List.mem_append_right _ z))) id
  | tp _ => simp only [ek] at c; exact c.elim
  | ls _ => simp only [ek] at c; exact c.elim
  | dk _ _ => simp only [ek] at c; exact c.elim
  | dd _ _ => simp only [ek] at c; exact c.elim
  | ob => simp only [ek] at c; exact c.elim
  | fn _ => simp only [ek] at c; exact c.elim
  | fd => simp only [ek] at c; exact c.elim
/-! ### a name for a place -/
theorem bor_logic {j i : Nat} {path : List PK} {b g : SF} {D : Ends} (hj : j ∉ pr) (h : tG G W pr (fun ρ => (borF j i path b ρ).seq g) D σ H) :
    tAsg (tPath i path) (gName j) { D with nx := fun σ1 H1 => tSeq (tG G W (j :: i :: pr) b) (tG G W pr g) D σ1 H1 } σ H := by
  obtain ⟨ρ, O, rE, nd, c⟩ := h
  unfold borF at c
  cases e0 : ρ[i]? with
  | none => simp only [e0, Out.seq] at c; exact c.elim
  | some o =>
  cases o with
  | none => simp only [e0, Out.seq] at c; exact c.elim
  | some root =>
  simp only [e0] at c
  cases eg : getP path root with
  | none => simp only [eg, Out.seq] at c; exact c.elim
  | some d =>
  simp only [eg] at c
  by_cases hc : i ≠ j ∧ j < ρ.length
  · rw [if_pos hc] at c
    obtain ⟨v0, T0, O2, hσ, rr, pm, rE'⟩ := rE.out e0
    have nO := nd_app.mp (pm.nodup nd)
    obtain ⟨u, T, R, va, ru, pT, put⟩ := rr.focusG eg nO.1
    have nTR := nd_app.mp (pT.nodup nO.1)
    refine ⟨v0, u, hσ, va, ?_⟩
    -- the place has the name j now
    have hj' : j < (ρ.set i none).length := by simpa using hc.2
    have ndT : (T ++ O2).Nodup := nd_app.mpr ⟨nTR.1, nO.2.1, fun a q z => nO.2.2 a (pT.mem_iff.mpr (List.mem_append_left _ q)) z⟩
    obtain ⟨O1, rE1, nd1, s1⟩ := rE'.setv ru ndT hj'
    have hσ1 : (σ.set j (some u))[i]? = some (some v0) := by rw [List.getElem?_set_ne (Ne.symm hc.1)]; exact hσ
    have hjl : j < σ.length := by rw [← rE.len]; exact hc.2
    have hσj : (σ.set j (some u))[j]? = some (some u) := by simp [hjl]
    have p01 : Prs pr σ (σ.set j (some u)) := ⟨by simp, fun k q => by rw [List.getElem?_set_ne]; rintro rfl; exact hj q⟩
    have dR : ∀ a ∈ R, a ∉ O1 := fun a q z => by
      rcases List.mem_append.mp (s1 a z) with y | y
      · exact nTR.2.2 a y q
      · exact nO.2.2 a (pT.mem_iff.mpr (List.mem_append_right _ q)) y
    have inO : ∀ a ∈ R ++ O1, a ∈ O := fun a q => by
      rcases List.mem_append.mp q with q | q
      · exact pm.mem_iff.mpr (List.mem_append_left _ (pT.mem_iff.mpr (List.mem_append_right _ q)))
      · rcases List.mem_append.mp (s1 a q) with y | y
        · exact pm.mem_iff.mpr (List.mem_append_left _ (pT.mem_iff.mpr (List.mem_append_left _ y)))
        · exact pm.mem_iff.mpr (List.mem_append_right _ y)
    have go0 : Go O H (R ++ O1) H := ⟨fun _ _ e _ => e, fun a q => .inl (inO a q)⟩
    -- given back at any end
    have back : ∀ {D' : Ends} (r : Out), ContS G W pr (R ++ O1) (σ.set j (some u)) H (r.back (giveB j i path root)) D' → ContS G W (j :: i :: pr) O1 (σ.set j (some u)) H r D' := fun {D'} r k => by
      refine back_logic (T := R) (O1 := O1) (Ob := []) k (fun x q => List.mem_cons_of_mem _ (List.mem_cons_of_mem _ q)) nTR.2.1 dR (rr.mut.sub fun a q => pT.mem_iff.mpr (List.mem_append_right _ q)) rE1.mut fun {ρ5 ρ6 σ5 H5 O5 A} e r5 f5 p5 n5 d5 => ?_
      unfold giveB at e
      split at e
      · rename_i d' e1 e2
        cases e
        obtain ⟨u', Td, O6, k1, k2, k3, k4⟩ := r5.out e1
        rw [p5.eq j List.mem_cons_self, hσj] at k1; cases k1
        have n6 := nd_app.mp (k3.nodup n5)
        -- the root is whole again
        have fA : ∃ A : List Addr, Frm A H H5 ∧ MutA H A ∧ ∀ a ∈ A, a ∉ R := ⟨O1, f5, rE1.mut, fun a q z => dR a z q⟩
        obtain ⟨A, f1, f2, f3⟩ := fA
        obtain ⟨T0', q1, q2⟩ := put f1 f2 f3 k2
        have ei : (ρ5.set j none)[i]? = some none := by rw [List.getElem?_set_ne (Ne.symm hc.1)]; exact e2
        obtain ⟨O7, q3, q4⟩ := k4.put ei (by rw [p5.eq i (List.mem_cons_of_mem _ List.mem_cons_self)]; exact hσ1) q1
        have inn : ∀ a ∈ T0', a ∈ Td ∨ a ∈ R := fun a q => List.mem_append.mp (q2.mem_iff.mp q)
        refine ⟨O7, q4, q3.nodup_iff.mpr (nd_app.mpr ⟨q2.nodup_iff.mpr (nd_app.mpr ⟨n6.1, nTR.2.1, fun a q z => d5 a z (k3.mem_iff.mpr (List.mem_append_left _ q))⟩), n6.2.1, fun a q z => ?_⟩), fun a q => ?_⟩
        · rcases inn a q with y | y
          · exact n6.2.2 a y z
          · exact d5 a y (k3.mem_iff.mpr (List.mem_append_right _ z))
        · rcases List.mem_append.mp (q3.mem_iff.mp q) with y | y
          · rcases inn a y with y | y
            · exact List.mem_append_right _ (k3.mem_iff.mpr (List.mem_append_left _ y))
            · exact List.mem_append_left _ y
          · exact List.mem_append_right _ (k3.mem_iff.mpr (List.mem_append_right _ y))
      · cases e
    have c' : ContS G W pr (R ++ O1) (σ.set j (some u)) H ((Out.back (giveB j i path root) (b ((ρ.set i none).set j (some d)))).seq g) D := c.more go0 p01
    refine ⟨_, O1, rE1, nd1, ?_⟩
    refine back _ ?_
    cases eb : (Out.back (giveB j i path root) (b ((ρ.set i none).set j (some d)))) with
    | nx ρ1 =>
      rw [eb] at c'
      exact fun σ' H' ⟨O', z1, z2, z3, z4⟩ => ⟨ρ1, O', z1, z2, c'.more z3 z4⟩
    | br ρ1 => rw [eb] at c'; exact c'
    | ct ρ1 => rw [eb] at c'; exact c'
    | rt d ρ1 => rw [eb] at c'; exact c'
    | ex x ρ1 => rw [eb] at c'; exact c'
    | no => rw [eb] at c'; exact c'
  · rw [if_neg hc] at c; exact c.elim
theorem put_logic (hG : G.K = X.K) (hw : G.w = X.w) {dk : Bool} {i : Nat} {path : List PK} {k f : EF} {D : Ends} (h : tG G W pr (putF dk i path k f) D σ H) : tAsg (tE G W f) (gSub (tPath i path) (tE G W0 k) (tPut X dk)) D σ H :=
  tE_mono (outE h) fun v H1 ⟨ρ1, d, O1, Td, rE, rv, nd, c⟩ => putV_logic hG hw rE rv nd c
theorem put2_logic (hG : G.K = X.K) (hw : G.w = X.w) {dk dk' : Bool} {i i' : Nat} {path path' : List PK} {k k' f : EF} {D : Ends} (h : tG G W pr (put2F f (putV dk i path k) (putV dk' i' path' k')) D σ H) :
    tAsg (tE G W f) (gTup G.K 2 (gCons (gSub (tPath i path) (tE G W0 k) (tPut X dk)) (gCons (gSub (tPath i' path') (tE G W0 k') (tPut X dk')) gNil))) D σ H := by
  refine tE_mono (outE h) fun v H1 ⟨ρ1, d, O1, Td, rE, rv, nd, c⟩ => ?_
  dsimp only at c
  split at c
  · rename_i a b
    obtain ⟨t, xs, rfl, q, hs⟩ := rv.tup_of
    cases hs with
    | cons r1 hs =>
    cases hs with
    | cons r2 hs =>
    cases hs
    rename_i v1 v2
    cases rv with
    | sh rv =>
    rw [List.nil_append] at c nd
    refine ⟨t, [v1, v2], rfl, q, rfl, v1, [v2], rfl, ?_⟩
    have m := rE.mut
    let D1 : Ends := { D with nx := fun σ' H' => gCons (gSub (tPath i' path') (tE G W0 k') (tPut X dk')) gNil [v2] σ' H' D.nx }
    refine putV_logic (D := D1) (pr := pr) (W := W) (Td := []) hG hw rE (.sh r1) (by simpa using nd) ?_
    rw [List.nil_append]
    cases e : putV dk i path k (.sh a) ρ1 with
    | nx ρ2 =>
      rw [e] at c
      intro σ' H' st
      obtain ⟨O', rE', nd', go, p⟩ := st
      have c' : ContS G W pr O1 σ H1 (putV dk' i' path' k' (.sh b) ρ2) D := c
      have g := putV_logic (D := D) (pr := pr) (W := W) (Td := []) (k := k') (dk := dk') (i := i') (path := path') hG hw rE' (.sh (DpF.fr r2 go.frm m)) (by simpa using nd') (by rw [List.nil_append]; exact c'.more go p)
      refine ⟨v2, [], rfl, ?_⟩
      exact gSub_mono g fun σ3 H3 z => ⟨rfl, z⟩
    | br ρ2 => rw [e] at c; exact c
    | ct ρ2 => rw [e] at c; exact c
    | rt d2 ρ2 => rw [e] at c; exact c
    | ex x ρ2 => rw [e] at c; exact c
    | no => rw [e] at c; exact c
  · exact c.elim

/-! ### a field stored -/
theorem ob_put {v : V} {d : D} {Td : List Addr} {x : Str} (rd : Rep G H v d Td) : ∀ {fs : List (Str × V)} {ds : List D} {T : List Addr}, Reps G H (fs.map (·.2)) ds T → (T ++ Td).Nodup →
    ∃ T', (L2.putF x v fs).map (·.1) = (obPut (fs.map (·.1)) ds x d).1 ∧ Reps G H ((L2.putF x v fs).map (·.2)) (obPut (fs.map (·.1)) ds x d).2 T' ∧ T'.Nodup ∧ (∀ a ∈ T', a ∈ T ++ Td) ∧ ∀ y ∈ (L2.putF x v fs).map (·.1), y ∈ fs.map (·.1) ∨ y = x
  | [], ds, T, hs, nd => by
    cases hs
    exact ⟨Td ++ [], rfl, .cons rd .nil, by simpa using nd, fun a q => by simpa using q, fun y q => by simp [L2.putF] at q; exact .inr q⟩
  | (n, w) :: fs, ds0, T, hs, nd => by
    simp only [List.map_cons] at hs
    cases hs with
    | @cons _ _ e0 ds O O' h hs =>
    rw [List.append_assoc] at nd
    have nd' := nd_app.mp nd
    have nd2 := nd_app.mp nd'.2.1
    by_cases z : n = x
    · refine ⟨Td ++ O', ?_, ?_, nd_app.mpr ⟨nd2.2.1, nd2.1, fun a p y => nd2.2.2 a y p⟩, fun a p => ?_, fun y q => ?_⟩
      · simp [L2.putF, obPut, z]
      · have e1 : (L2.putF x v ((n, w) :: fs)).map (·.2) = v :: fs.map (·.2) := by simp [L2.putF, z]
        have e2 : (obPut (((n, w) :: fs).map (·.1)) (e0 :: ds) x d).2 = d :: ds := by simp [obPut, z]
        rw [e1, e2]
        exact .cons rd hs
      · simp only [List.mem_append] at p ⊢
        exact p.elim (fun y => .inr y) fun y => .inl (.inr y)
      · left
        simpa [L2.putF, z] using q
    · obtain ⟨T', a1, a2, a3, a4, a5⟩ := ob_put (x := x) rd hs nd'.2.1
      have e1 : L2.putF x v ((n, w) :: fs) = (n, w) :: L2.putF x v fs := by simp [L2.putF, z]
      have e2 : obPut (((n, w) :: fs).map (·.1)) (e0 :: ds) x d = (n :: (obPut (fs.map (·.1)) ds x d).1, e0 :: (obPut (fs.map (·.1)) ds x d).2) := by simp [obPut, z]
      rw [e1, e2]
      refine ⟨O ++ T', by simp [a1], .cons h a2, nd_app.mpr ⟨nd'.1, a3, fun a p y => nd'.2.2 a p (a4 a y)⟩, fun a p => ?_, fun y q => ?_⟩
      · rw [List.append_assoc]
        rcases List.mem_append.mp p with y | y
        · exact List.mem_append_left _ y
        · exact List.mem_append_right _ (a4 a y)
      · rw [List.map_cons, List.mem_cons] at q
        rcases q with rfl | q
        · exact .inl (by simp)
        · rcases a5 y q with z | z
          · exact .inl (List.mem_cons_of_mem _ z)
          · exact .inr z
theorem fst_logic (hG : G.K = X.K) {fl : Str → Str → Bool} (hfl : ∀ c x, fl c x = true → ∀ C, G.cl c = some C → L2.NoAttr X.K C x) {i : Nat} {x : Str} {f : EF} {D : Ends} (h : tG G W pr (fstF fl i x f) D σ H) : sFld X.K (tVar i) (tE G W f) x D σ H := by
  refine tE_mono (outE h) fun v H1 ⟨ρ1, d, O1, Td, rE, rv, nd, c⟩ => ?_
  cases e0 : ρ1[i]? with
  | none => simp only [e0] at c; exact c.elim
  | some o =>
  cases o with
  | none => simp only [e0] at c; exact c.elim
  | some root =>
  cases root with
  | ob cc ns ds =>
    simp only [e0] at c
    split at c
    · rename_i hc
      obtain ⟨v0, O2, O3, hσ, rr, pm, rE'⟩ := rE.out e0
      have nd' := nd_app.mp nd
      have nO := nd_app.mp (pm.nodup nd'.2.1)
      have hi : i < ρ1.length := (List.getElem?_eq_some_iff.mp e0).1
      have rr0 := rr
      cases rr with
      | @ob a C dx _ fs _ Oo ha hcl oc hs =>
      have na := hfl cc x hc.1 C hcl
      have f : Frm [a] H1 (upd H1 a (.ins C dx (L2.putF x v fs))) := fun b u e n => by rw [upd_ne (fun q : b = a => n (by rw [q]; simp))]; exact e
      have m : MutA H1 [a] := fun b q => by rw [List.mem_singleton] at q; subst q; rw [ha]; trivial
      have dTd : ∀ b ∈ Td, b ∉ a :: Oo := fun b q z => nd'.2.2 b q (pm.mem_iff.mpr (List.mem_append_left _ z))
      have nOo := List.nodup_cons.mp nO.1
      have d1 : ∀ b ∈ Oo, b ∉ [a] := fun b q z => by rw [List.mem_singleton] at z; exact nOo.1 (z ▸ q)
      have d2 : ∀ b ∈ Td, b ∉ [a] := fun b q z => by rw [List.mem_singleton] at z; exact dTd b q (z ▸ List.mem_cons_self)
      have d3 : ∀ b ∈ O3, b ∉ [a] := fun b q z => by rw [List.mem_singleton] at z; exact nO.2.2 a List.mem_cons_self (z ▸ q)
      obtain ⟨T', p1, p2, p3, p4, p5⟩ := ob_put (x := x) (rv.fr f m d2) (hs.fr f m d1) (nd_app.mpr ⟨nOo.2, nd'.1, fun b q z => dTd b z (List.mem_cons_of_mem _ q)⟩)
      have aT : a ∉ T' := fun z => by
        rcases List.mem_append.mp (p4 a z) with y | y
        · exact nOo.1 y
        · exact dTd a y List.mem_cons_self
      have r3 : Rep G (upd H1 a (.ins C dx (L2.putF x v fs))) (.ref a) (.ob cc (obPut (fs.map (·.1)) ds x d).1 (obPut (fs.map (·.1)) ds x d).2) (a :: T') := by
        rw [← p1]
        exact .ob upd_same hcl ⟨oc.1, fun y hy => (p5 y hy).elim (oc.2 y) fun z => by rw [z, hG]; exact na⟩ p2
      obtain ⟨O5, pm5, rE6⟩ := (rE'.fr f m d3).put (by rw [List.getElem?_set_self hi]) hσ r3
      rw [List.set_set] at rE6
      have hl : fs.length < 1000 := by have := hc.2; simpa using this
      refine ⟨.ref a, hσ, a, C, dx, fs, rfl, ha, hG ▸ oc.1, na, hl, ?_⟩
      refine c σ _ ⟨O5, rE6, pm5.nodup_iff.mpr (nd_app.mpr ⟨List.nodup_cons.mpr ⟨aT, p3⟩, nO.2.1, fun b q z => ?_⟩), ⟨fun b u e n => f b u e fun z => ?_, fun b q => ?_⟩, .refl⟩
      · rcases List.mem_cons.mp q with rfl | q
        · exact nO.2.2 b List.mem_cons_self z
        · rcases List.mem_append.mp (p4 b q) with y | y
          · exact nO.2.2 b (List.mem_cons_of_mem _ y) z
          · exact nd'.2.2 b y (pm.mem_iff.mpr (List.mem_append_right _ z))
      · rw [List.mem_singleton] at z
        subst z
        exact n (List.mem_append_right _ (pm.mem_iff.mpr (List.mem_append_left _ List.mem_cons_self)))
      · rcases List.mem_append.mp (pm5.mem_iff.mp q) with y | y
        · rcases List.mem_cons.mp y with rfl | y
          · exact .inl (List.mem_append_right _ (pm.mem_iff.mpr (List.mem_append_left _ List.mem_cons_self)))
          · rcases List.mem_append.mp (p4 b y) with z | z
            · exact .inl (List.mem_append_right _ (pm.mem_iff.mpr (List.mem_append_left _ (List.mem_cons_of_mem _ z))))
            · exact .inl (List.mem_append_left _ z)
        · exact .inl (List.mem_append_right _ (pm.mem_iff.mpr (List.mem_append_right _ y)))
    · exact c.elim
  | _ => simp only [e0] at c; exact c.elim
end
end Vs
/-! V24: every statement. -/
namespace Vs
open PySem PySem.Spec L2
open PyProof.Rows hiding St
section
variable {G : Ga} {Γ : Gam} {S : Sc} {fn : Str → Bool}
theorem lcset_ok {X : Cx} {W : WX} (C : Ctx G Γ S X) (hf : ∀ x, fn x = true → X.fn x = true) (tk : Takes X W) {t' : Tg} {tg x : PySem.Expr} {spos : Pos} {own : List Nat} {t : Tg} {k : ItK} {as ifs : List Ex} {e : Ex} (h : mE S (.lc own t k as ifs e) x = true) (hs : swapOk S tg x = true) (ht : mTg S fn t' tg = true) :
    PS X (.Assign [tg] x spos) (tAsg (tE G W (ev Γ (.lc own t k as ifs e))) (gT G.K t')) := by
  unfold mE at h
  split at h
  · rename_i elt tg1 it cs scope pos
    simp only [Bool.and_eq_true, decide_eq_true_eq] at h
    obtain ⟨⟨⟨⟨⟨⟨⟨⟨h1, h2⟩, h3⟩, h4⟩, h5⟩, h6⟩, h7⟩, h8⟩, h9⟩ := h
    split at h1
    · rename_i xs ex
      unfold swapOk at hs
      split at hs
      · rename_i y py elt0 gs0 scope0 pos0 he
        cases he
        simp only [Bool.and_eq_true, decide_eq_true_eq, Bool.not_eq_true'] at hs
        obtain ⟨⟨⟨s1, s2⟩, s3⟩, s4⟩ := hs
        cases t' with
        | tp is => unfold mTg at ht; cases ht
        | tn _ _ => unfold mTg at ht; cases ht
        | nm i =>
          have hst : stB S fn i y = true := ht
          unfold stB at hst
          rw [Bool.and_eq_true, decide_eq_true_eq] at hst
          have hN : X.N.Nodup := by rw [C.hN]; exact C.nd
          have hyl : X.env.scope.names.lookup y = some .local := by rw [C.sc]; exact s2
          have pi := pi_ok (tg := tg1) C ex (mL_ok as C tk h1) (fun z => by rw [z] at h2; simpa using h2)
          have ok := blkOk_by h3
          rw [← C.hN, ← C.sc] at ok
          refine psImp (ps_setLc C.calm hN (by rw [C.hN]; exact hst.1) hyl (sw_true (kind_fn C s1) hyl s3 s4) pi ok
            (fun s H c cl fp => tg_pg (C.blk s H scope c cl fp) (fun x z => z) h4)
            (fun s H c cl fp => ifs_ok (evTs_ok ifs (W := W0) (C.blk s H scope c cl fp) takes0 h7) h6)
            (fun s H c cl fp => ev_ok e (W := W0) (C.blk s H scope c cl fp) takes0 h8) (isSet_pure h9)) fun D σ H z => ?_
          rw [ownOf_map]
          refine lc_logic (tgB_tp h4 h2) (fun i q => ?_) z
          have := List.all_eq_true.mp h5 i q
          simpa using this
      · cases hs
    · cases h1
  · cases h
theorem pset_ok {X : Cx} (C : Ctx G Γ S X) {dk : Bool} : PSet X (tPut X dk) := by
  have un := C.un
  cases dk with
  | true => exact fun pins s σ H o i v ov iv u Q I ro ri rv h => h.elim (set_dict (by omega) pins s σ H o i v ov iv u Q I ro ri rv) (set_DD un pins s σ H o i v ov iv u Q I ro ri rv)
  | false => exact set_list
theorem asg_ix {o i : PySem.Expr} {pos : Pos} {env : PySem.Env} (h : notSlice i = true) : ∀ v, assign (.Subscript o i pos) env v = (do
      let ov ← holding [v] (eval o env)
      let iv ← holding [v, ov] (eval i env)
      standAt pos
      holding [v, ov, iv] (setItem ov iv v)
      release [v, ov, iv] []) := by
  intro v
  cases i <;> first | rfl | cases h
theorem cell_swap {S : Sc} {env : PySem.Env} {tg x : PySem.Expr} {l : Nat} (hs : env.scope = S.sc) (h : cellNm S tg = true) : swapsWithSole [tg] x l env = pure false ∧ swappedStores [tg] x env = pure none ∧ (assignEach [tg] env).map (·.2) = [assign tg env] := by
  unfold cellNm at h
  split at h
  · rename_i y p
    have ne : (env.kindOf y == some NameKind.local) = false := by
      unfold Env.kindOf
      rw [hs]
      simpa using h
    refine ⟨?_, rfl, rfl⟩
    show swapsWith x (some (.Name y p)) l env = pure false
    unfold swapsWith
    cases x <;> first | rfl | (simp only [ne, Bool.and_false, Bool.false_and])
  · cases h
def mBor (F : Str → PySem.Expr → List Stmt → Bool) : List Stmt → Bool
  | .Assign [.Name y py] x pos :: rest => F y x rest
  | _ => false
theorem bor_inv {F : Str → PySem.Expr → List Stmt → Bool} {sts : List Stmt} (h : mBor F sts = true) : ∃ y py x pos rest, sts = .Assign [.Name y py] x pos :: rest ∧ F y x rest = true := by
  unfold mBor at h
  split at h
  · exact ⟨_, _, _, _, _, rfl, h⟩
  · cases h
def mCons (f : Stmt → Bool) (g : List Stmt → Bool) : List Stmt → Bool
  | st :: rest => f st && g rest
  | [] => false
mutual
theorem go_ok {X : Cx} {W : WX} (C : Ctx G Γ S X) (hst : X.stack = X.env :: X.outer) (hfr : X.env.frame = some X.env.locals) (hf : ∀ x, fn x = true → X.fn x = true) (tk : Takes X W) (hp : PassesOwn (model X.prog X.w) X.A X.env X.xe) : ∀ (m : Sm) {pr : List Nat} {st : Stmt}, mS S fn pr m st = true → PS X st (tG G W pr (go Γ m))
  | .asg t e, pr, st, h => by
    unfold mS at h
    split at h
    · rename_i tg x pos
      simp only [Bool.and_eq_true, Bool.or_eq_true, Bool.not_eq_true'] at h
      obtain ⟨⟨h1, h2⟩, h3⟩ := h
      rcases h3 with (⟨⟨h3, h4⟩, h5⟩ | ⟨⟨h3, h4⟩, h5⟩) | ⟨h3, h5⟩
      · obtain ⟨k1, k2⟩ : swappedStores [tg] x X.env = pure none ∧ (assignEach [tg] X.env).map (·.2) = [assign tg X.env] := by
          rcases h4 with h4 | h4
          · exact stores_no (env := X.env) h4
          · exact stores_cell C.sc h4
        exact psImp (ps_asg (ev_ok e C tk h5) (tg_pg C hf h1) (swap_no h3) k1 k2) fun D σ H z => asg_logic h2 z
      · split at h5
        · exact psImp (lcset_ok C hf tk h4 h3 h1) fun D σ H z => asg_logic h2 z
        · cases h5
      · obtain ⟨k0, k1, k2⟩ := cell_swap (x := x) (l := pos.line) C.sc h3
        exact psImp (ps_asg (ev_ok e C tk h5) (tg_pg C hf h1) k0 k1 k2) fun D σ H z => asg_logic h2 z
    · cases h
  | .par is es, pr, st, h => by
    unfold mS at h
    split at h
    · simp only [Bool.and_eq_true] at h
      exact par_ok C h.1.1 h.1.2 (evs_pos es C tk h.2)
    · cases h
  | .put dk i path k e, pr, st, h => by
    unfold mS at h
    split at h
    · rename_i o ix ipos x pos
      simp only [Bool.and_eq_true, Bool.not_eq_true'] at h
      obtain ⟨⟨⟨⟨h1, h2⟩, h3⟩, h4⟩, h5⟩ := h
      have hs : swapsWithSole [.Subscript o ix ipos] x pos.line X.env = pure false := by
        show swapsWith x (some (.Subscript o ix ipos)) pos.line X.env = pure false
        exact swap_no h1
      exact psImp (ps_asg (ev_ok e C tk h5) (pg_sub (mView_pe C h2) (ev_ok k (W := W0) C takes0 h4) (pset_ok C (dk := dk)) (asg_ix h3)) hs rfl rfl) fun D σ H z => put_logic C.hG C.hw z
    · cases h
  | .fst i n e, pr, st, h => by
    unfold mS at h
    split at h
    · rename_i y yp name ap x pos
      simp only [Bool.and_eq_true, Bool.not_eq_true', decide_eq_true_eq] at h
      obtain ⟨⟨⟨h1, rfl⟩, h3⟩, h4⟩ := h
      exact psImp (ps_fld (C.vis h3) (ev_ok e C tk h4) (swap_no h1)) fun D σ H z => fst_logic C.hG C.fld z
    · cases h
  | .put2 dk i path k dk' i' path' k' e e', pr, st, h => by
    unfold mS at h
    split at h
    · rename_i o ix p1 o' ix' p2 p3 p4 x pos
      simp only [Bool.and_eq_true, Bool.not_eq_true'] at h
      obtain ⟨⟨⟨⟨⟨⟨⟨⟨h1, h2⟩, h3⟩, h4⟩, h5⟩, h6⟩, h7⟩, h8⟩, h9⟩ := h
      have g1 := pg_sub (pos := p1) (mView_pe C h3) (ev_ok k (W := W0) C takes0 h5) (pset_ok C (dk := dk)) (asg_ix h4)
      have g2 := pg_sub (pos := p2) (mView_pe C h6) (ev_ok k' (W := W0) C takes0 h8) (pset_ok C (dk := dk')) (asg_ix h7)
      have g := pg_tup (n := 2) (pos := p4) (k := p3) C.calm (pgs_cons g1 (pgs_cons g2 pgs_nil rfl) rfl) rfl rfl
      rw [← C.hG] at g
      have hs : swapsWithSole [.Tuple [.Subscript o ix p1, .Subscript o' ix' p2] p3 p4] x pos.line X.env = pure false := by
        show swapsWith x (some (.Tuple [.Subscript o ix p1, .Subscript o' ix' p2] p3 p4)) pos.line X.env = pure false
        exact swap_no h1
      exact psImp (ps_asg (ev_ok (.tup [e, e']) C tk h9) g hs (stores_cell C.sc h2).1 (stores_cell C.sc h2).2) fun D σ H z => put2_logic C.hG C.hw z
    · cases h
  | .ex e, pr, st, h => by
    unfold mS at h
    split at h
    · simp only [Bool.and_eq_true, Bool.not_eq_true'] at h
      exact psImp (ps_expr (ev_ok e C tk h.2) (swap_no h.1)) fun D σ H z => ex_logic z
    · cases h
  | .ite c a b, pr, st, h => by
    unfold mS at h
    split at h
    · simp only [Bool.and_eq_true] at h
      have ha := gos_ok C hst hfr hf tk hp a h.1.2 pss_nil
      have hb := gos_ok C hst hfr hf tk hp b h.2 pss_nil
      rw [List.append_nil] at ha hb
      exact psImp (ps_if (evT_ok c C tk h.1.1) ha hb) fun D σ H z => ite_logic z
    · cases h
  | .whl c b, pr, st, h => by
    unfold mS at h
    split at h
    · simp only [Bool.and_eq_true] at h
      have hb := gos_ok C hst hfr hf tk hp b h.2 pss_nil
      rw [List.append_nil] at hb
      exact psImp (ps_while hp (evT_ok c C tk h.1) hb) fun D σ H z => whl_logic z
    · cases h
  | .lop t k as b, pr, st, h => by
    unfold mS at h
    split at h
    · rename_i tg it p pos
      simp only [Bool.and_eq_true] at h
      obtain ⟨⟨⟨⟨⟨h1, h2⟩, h3⟩, h4⟩, h5⟩, h6⟩ := h
      split at h1
      · rename_i xs ex
        have hb := gos_ok C hst hfr hf tk hp b h5 pss_nil
        rw [List.append_nil] at hb
        have pi := pi_ok (tg := tg) C ex (mL_ok as C tk h1) (fun z => by rw [z] at h2; simpa using h2)
        exact psImp (ps_for hp C.calm pi (tg_pg C hf h3) hb (isSet_pure h6)) fun D σ H z => lop_logic (tgB_tp h3 h2) h4 z
      · cases h1
    · cases h
  | .ret e, pr, st, h => by
    unfold mS at h
    split at h
    · exact psImp (ps_ret (ev_ok e C tk h)) fun D σ H z => ret_logic z
    · cases h
  | .retN, pr, st, h => by
    unfold mS at h
    split at h
    · exact psImp ps_retN fun D σ H ⟨ρ, O, rE, nd, z⟩ => z σ .non H ⟨O, [], rE, .sh .non, nd, Go.refl, .refl⟩
    · cases h
  | .pass, pr, st, h => by
    unfold mS at h
    split at h
    · exact psImp ps_pass fun D σ H ⟨ρ, O, rE, nd, z⟩ => z σ H ⟨O, rE, nd, Go.refl, .refl⟩
    · cases h
  | .brk, pr, st, h => by
    unfold mS at h
    split at h
    · exact psImp ps_break fun D σ H ⟨ρ, O, rE, nd, z⟩ => z σ H ⟨O, rE, nd, Go.refl, .refl⟩
    · cases h
  | .cnt, pr, st, h => by
    unfold mS at h
    split at h
    · exact psImp ps_continue fun D σ H ⟨ρ, O, rE, nd, z⟩ => z σ H ⟨O, rE, nd, Go.refl, .refl⟩
    · cases h
  | .rai0 c, pr, st, h => by
    unfold mS at h
    split at h
    · rename_i x p1 p2 p3
      simp only [Bool.and_eq_true, decide_eq_true_eq] at h
      obtain ⟨h1, h2⟩ := h
      subst h1
      exact rai0_ok C tk h2
    · cases h
  | .rai1 c e, pr, st, h => by
    unfold mS at h
    split at h
    · rename_i x p1 y p2 p3
      simp only [Bool.and_eq_true, decide_eq_true_eq] at h
      obtain ⟨⟨⟨h1, h2⟩, h3⟩, h4⟩ := h
      subst h1
      exact rai1_ok C tk h2 (ev_ok e C tk h3) h4
    · cases h
  | .tr b c j hx, pr, st, h => by
    unfold mS at h
    split at h
    · rename_i p x p1 n y p2 p3 p4
      simp only [Bool.and_eq_true, decide_eq_true_eq] at h
      obtain ⟨⟨⟨⟨h1, h2⟩, h3⟩, h4⟩, h5⟩ := h
      subst h1
      refine tr_ok C hst hfr tk h2 (fun W' pn xe tk' hp' => ?_) h4 h5
      have hb := gos_ok (C.tr pn xe) hst hfr hf tk' hp' b h3 pss_nil
      rw [List.append_nil] at hb
      exact pssImp hb fun D σ H z => z
    · cases h
  | .frz _, pr, st, h => by unfold mS at h; cases h
  | .bor _ _ _ _, pr, st, h => by unfold mS at h; cases h
theorem gos_ok {X : Cx} {W : WX} (C : Ctx G Γ S X) (hst : X.stack = X.env :: X.outer) (hfr : X.env.frame = some X.env.locals) (hf : ∀ x, fn x = true → X.fn x = true) (tk : Takes X W) (hp : PassesOwn (model X.prog X.w) X.A X.env X.xe) : ∀ (l : List Sm) {pr : List Nat} {sts rest : List Stmt} {u : TS}, mSs S fn pr l sts = true → PSs X rest u → PSs X (sts ++ rest) (tSeq (tG G W pr (gos Γ l)) u)
  | [], pr, sts, rest, u, h, hr => by
    unfold mSs at h
    have : sts = [] := by simpa using h
    subst this
    exact pssImp hr fun D σ H ⟨ρ, O, rE, nd, z⟩ => z σ H ⟨O, rE, nd, Go.refl, .refl⟩
  | m :: r, pr, sts, rest, u, h, hr => by
    have plain : (∀ i, m ≠ .frz i) → (∀ j i p b, m ≠ .bor j i p b) → mSs S fn pr (m :: r) sts = mCons (mS S fn pr m) (mSs S fn pr r) sts → PSs X (sts ++ rest) (tSeq (tG G W pr (gos Γ (m :: r))) u) := fun _ _ e => by
      rw [e] at h
      cases sts with
      | nil => cases h
      | cons st rest0 =>
        unfold mCons at h
        rw [Bool.and_eq_true] at h
        exact pssImp (pss_cons (go_ok C hst hfr hf tk hp m h.1) (gos_ok C hst hfr hf tk hp r h.2 hr)) fun D σ H z => seq_logic (D := { D with nx := u D }) z
    cases m with
    | frz i =>
      have h : mSs S fn pr r sts = true := h
      exact frz_ok (gos_ok C hst hfr hf tk hp r h hr)
    | bor j i path b =>
      have h : mBor (fun y x rest => stB S fn j y && !pr.contains j && !isComp x && mPathR S i path.reverse x && mSs S fn (j :: i :: pr) b (rest.take (sizes b)) && mSs S fn pr r (rest.drop (sizes b))) sts = true := h
      obtain ⟨y, py, x, pos, rest0, e0, g⟩ := bor_inv h
      subst e0
      have g : (stB S fn j y && !pr.contains j && !isComp x && mPathR S i path.reverse x && mSs S fn (j :: i :: pr) b (rest0.take (sizes b)) && mSs S fn pr r (rest0.drop (sizes b))) = true := g
      simp only [Bool.and_eq_true, Bool.not_eq_true'] at g
      obtain ⟨⟨⟨⟨⟨h1, h2⟩, h3⟩, h4⟩, h5⟩, h6⟩ := g
      have hr1 := gos_ok C hst hfr hf tk hp r h6 hr
      have hb := gos_ok C hst hfr hf tk hp b h5 hr1
      rw [← List.append_assoc, List.take_append_drop] at hb
      have hs : PS X (.Assign [.Name y py] x pos) (tAsg (tPath i path) (gName j)) := by
        have hw : swapsWithSole [.Name y py] x pos.line X.env = pure false := by
          show swapsWith x (some (.Name y py)) pos.line X.env = pure false
          exact swap_no h3
        exact ps_asg (mView_pe C h4) (st_pg C hf h1) hw rfl rfl
      exact pssImp (pss_cons hs hb) fun D σ H z => bor_logic (D := { D with nx := u D }) (fun q => by simp [q] at h2) z
    | asg t e => exact plain (by simp) (by simp) (by cases sts <;> rfl)
    | par is es => exact plain (by simp) (by simp) (by cases sts <;> rfl)
    | put dk i path k e => exact plain (by simp) (by simp) (by cases sts <;> rfl)
    | fst i n e => exact plain (by simp) (by simp) (by cases sts <;> rfl)
    | put2 dk i path k dk' i' path' k' e e' => exact plain (by simp) (by simp) (by cases sts <;> rfl)
    | ex e => exact plain (by simp) (by simp) (by cases sts <;> rfl)
    | ite c a b => exact plain (by simp) (by simp) (by cases sts <;> rfl)
    | whl c b => exact plain (by simp) (by simp) (by cases sts <;> rfl)
    | lop t k as b => exact plain (by simp) (by simp) (by cases sts <;> rfl)
    | ret e => exact plain (by simp) (by simp) (by cases sts <;> rfl)
    | retN => exact plain (by simp) (by simp) (by cases sts <;> rfl)
    | pass => exact plain (by simp) (by simp) (by cases sts <;> rfl)
    | brk => exact plain (by simp) (by simp) (by cases sts <;> rfl)
    | cnt => exact plain (by simp) (by simp) (by cases sts <;> rfl)
    | rai0 c => exact plain (by simp) (by simp) (by cases sts <;> rfl)
    | rai1 c e => exact plain (by simp) (by simp) (by cases sts <;> rfl)
    | tr b c j h => exact plain (by simp) (by simp) (by cases sts <;> rfl)
end
end
end Vs
/-! V25: a def by its own syntax. -/
namespace Vs
open PySem PySem.Spec L2
open PyProof.Rows hiding St
/-- the changed parameters' values behind -/
def outsE : List Bool → Env → Option (List D)
  | [], _ => some []
  | true :: io, o :: ρ => match o, outsE io ρ with
    | some d, some l => some (d :: l)
    | _, _ => none
  | false :: io, _ :: ρ => outsE io ρ
  | _ :: _, [] => none
/-- a def: from its arguments -/
def runD (n : Nat) (io : List Bool) (b : SF) (ds : List D) : FR := if ds.length = io.length then (match b (ds.map some ++ List.replicate (n - ds.length) none) with
    | .rt d ρ => match outsE io ρ with
      | some l => .ok d l
      | none => .no
    | .nx ρ => match outsE io ρ with
      | some l => .ok (.sh .none) l
      | none => .no
    | .ex x ρ => match outsE io ρ with
      | some l => .ex x l
      | none => .no
    | _ => .no) else .no
def denOf (Γ : Gam) (n : Nat) (io : List Bool) (b : List Sm) : Den := ⟨io, runD n io (gos Γ b)⟩
/-- the slots of the changed parameters -/
def ioS : List Bool → Nat → List Nat
  | [], _ => []
  | true :: io, k => k :: ioS io (k + 1)
  | false :: io, k => ioS io (k + 1)
section
variable {G : Ga} {H H' : Hp} {σ σ' : L2.St}
theorem none_rep : ∀ n : Nat, RepE G H (List.replicate n none) (List.replicate n none) []
  | 0 => .nil
  | n + 1 => .no (none_rep n)
theorem start_rep : ∀ {vs : List V} {ds : List D} {O : List Addr}, Reps G H vs ds O → ∀ n : Nat, RepE G H (vs.map some ++ List.replicate n none) (ds.map some ++ List.replicate n none) O
  | _, _, _, .nil, n => none_rep n
  | _, _, _, .cons r rs, n => .va r (start_rep rs n)
theorem ioS_ge : ∀ {io : List Bool} {k j : Nat}, j ∈ ioS io k → k ≤ j
  | true :: io, k, j, h => by
    rcases List.mem_cons.mp h with rfl | h
    · exact Nat.le_refl _
    · exact Nat.le_of_succ_le (ioS_ge h)
  | false :: io, k, j, h => Nat.le_of_succ_le (ioS_ge (k := k + 1) h)
/-- the changed ones, out of the names behind -/
theorem outs_rep : ∀ {io : List Bool} {vs : List V} {ρ : Env} {O : List Addr} {outs : List D} {τ : L2.St}, RepE G H' τ ρ O → vs.length = io.length → (∀ (j : Nat) (v : V), io[j]? = some true → vs[j]? = some v → τ[j]? = some (some v)) → outsE io ρ = some outs →
    ∃ O', Reps G H' (pick io vs) outs O' ∧ O'.Sublist O
  | [], vs, ρ, O, outs, τ, rE, hl, hs, e => by
    unfold outsE at e; cases e
    have : vs = [] := by simpa using hl
    subst this
    exact ⟨[], .nil, List.nil_sublist _⟩
  | true :: io, v :: vs, _, _, outs, _, .no (v := w) rE, hl, hs, e => by
    unfold outsE at e
    split at e
    · rename_i e1 _; cases e1
    · cases e
  | true :: io, v :: vs, _, _, outs, _, .va (v := w) (O1 := O1) (O := O) r rE, hl, hs, e => by
    unfold outsE at e
    split at e
    · rename_i d l e1 e2
      cases e1
      cases e
      have hw := hs 0 v rfl rfl
      simp at hw
      subst hw
      obtain ⟨O', a, b⟩ := outs_rep rE (by simpa using hl) (fun j u h1 h2 => by simpa using hs (j + 1) u (by simpa using h1) (by simpa using h2)) e2
      exact ⟨O1 ++ O', .cons r a, .append (.refl _) b⟩
    · cases e
  | false :: io, v :: vs, _, _, outs, _, .no (v := w) rE, hl, hs, e => by
    unfold outsE at e
    exact outs_rep (vs := vs) rE (by simpa using hl) (fun j u h1 h2 => by simpa using hs (j + 1) u (by simpa using h1) (by simpa using h2)) e
  | false :: io, v :: vs, _, _, outs, _, .va (v := w) (O1 := O1) (O := O) r rE, hl, hs, e => by
    unfold outsE at e
    obtain ⟨O', a, b⟩ := outs_rep (vs := vs) rE (by simpa using hl) (fun j u h1 h2 => by simpa using hs (j + 1) u (by simpa using h1) (by simpa using h2)) e
    exact ⟨O', a, b.trans (List.sublist_append_right _ _)⟩
  | true :: io, v :: vs, _, _, outs, _, .nil, hl, hs, e => by unfold outsE at e; cases e
  | false :: io, v :: vs, _, _, outs, _, .nil, hl, hs, e => by unfold outsE at e; cases e
  | _ :: _, [], _, _, _, _, _, hl, _, _ => by simp at hl
theorem ioS_mem : ∀ {io : List Bool} {k j : Nat}, io[j]? = some true → k + j ∈ ioS io k
  | true :: io, k, 0, h => List.mem_cons_self
  | true :: io, k, j + 1, h => List.mem_cons_of_mem _ (by
    have := ioS_mem (io := io) (k := k + 1) (j := j) (by simpa using h)
    rwa [show k + 1 + j = k + (j + 1) by omega] at this)
  | false :: io, k, 0, h => by simp at h
  | false :: io, k, j + 1, h => by
    have := ioS_mem (io := io) (k := k + 1) (j := j) (by simpa using h)
    rw [show k + 1 + j = k + (j + 1) by omega] at this
    exact this
  | [], k, j, h => by simp at h
/-- the body's reading at the parameters' values -/
theorem den_logic {n : Nat} {io : List Bool} {b : SF} {vs : List V} {Q : VK} {E : XK} (hsp : spD G ⟨io, runD n io b⟩ vs H Q E) :
    tG G (fun cls dd _ H' => E cls dd H') (ioS io 0) b { nx := fun _ H' => Q .non H', rt := Q } (vs.map some ++ List.replicate (n - vs.length) none) H := by
  obtain ⟨hl, ds, O, rs, nd, k⟩ := hsp
  have hd : ds.length = io.length := rs.len ▸ hl
  refine ⟨ds.map some ++ List.replicate (n - ds.length) none, O, by rw [rs.len]; exact start_rep rs _, nd, ?_⟩
  have st : ∀ {τ : L2.St}, Prs (ioS io 0) (vs.map some ++ List.replicate (n - vs.length) none) τ → ∀ (j : Nat) (v : V), io[j]? = some true → vs[j]? = some v → τ[j]? = some (some v) := fun {τ} p j v h1 h2 => by
    have hm := ioS_mem (k := 0) h1
    rw [Nat.zero_add] at hm
    rw [p.eq j hm]
    have hj : j < vs.length := (List.getElem?_eq_some_iff.mp h2).1
    rw [List.getElem?_append_left (by simpa using hj)]
    simp [h2]
  unfold runD at k
  simp only [if_pos hd] at k
  cases e : b (ds.map some ++ List.replicate (n - ds.length) none) with
  | no => simp only [e] at k
  | br ρ => simp only [e] at k
  | ct ρ => simp only [e] at k
  | nx ρ =>
    simp only [e] at k
    cases e2 : outsE io ρ with
    | none => simp only [e2] at k
    | some l =>
      simp only [e2] at k
      intro σ' H' ⟨O', r, nd', go, p⟩
      obtain ⟨O2, a, sb⟩ := outs_rep r hl (st p) e2
      exact k .non H' [] O2 (.sh .non) a (sb.nodup nd') (go.less fun x q => sb.subset q)
  | rt d ρ =>
    simp only [e] at k
    cases e2 : outsE io ρ with
    | none => simp only [e2] at k
    | some l =>
      simp only [e2] at k
      intro σ' v H' ⟨O', T, r, rv, nd', go, p⟩
      obtain ⟨O2, a, sb⟩ := outs_rep r hl (st p) e2
      have sb2 : (T ++ O2).Sublist (T ++ O') := .append (.refl _) sb
      exact k v H' T O2 rv a (sb2.nodup nd') (go.less fun x q => sb2.subset q)
  | ex x ρ =>
    simp only [e] at k
    cases e2 : outsE io ρ with
    | none => simp only [e2] at k
    | some l =>
      simp only [e2] at k
      intro σ' cls dd H' ⟨O', r, nd', go, xr, p⟩
      obtain ⟨O2, a, sb⟩ := outs_rep r hl (st p) e2
      exact k cls dd H' O2 a (sb.nodup nd') (go.less fun x q => sb.subset q) xr
end
end Vs
/-! V26: a def keeps its promise; the law's end. -/
namespace Vs
open PySem PySem.Spec L2
open PyProof.Rows hiding St
section
variable {P : Program} {w : World} {K : PySem.W.Frag} {mg : Str → Option Value} {base : Heap} {G : Ga}
theorem FnG.mono {j k : Nat} {f : Addr} {fd : FuncData} {ps : List Str} {sp : Sp} (F : FnG P w K mg base j f fd ps sp) (h : j ≤ k) : FnG P w K mg base k f fd ps sp :=
  ⟨F.len, fun A outer s H args us vs Q E hr => F.run A outer s H args us vs Q E (hr.mono h)⟩
/-- how a def's calls bind -/
def PatOk (K : PySem.W.Frag) (fd : FuncData) (ps : List Str) (eu : List Value) (p : Pat) : Prop := ∀ (s : Shared) (us ws zs : List Value), K.In s.heap → us.length = p.1 → ws.length = p.2.1.length → perm p.2.2 (us ++ ws) = some zs → BindsTo s fd ⟨us, p.2.1.zip ws⟩ (ps.zip (zs ++ eu))
/-- a def of the module that keeps its promise -/
structure FnM (P : Program) (w : World) (K : PySem.W.Frag) (mg : Str → Option Value) (base : Heap) (G : Ga) (k : Nat) (f : Str) (dn : Den) (pats : List Pat) : Prop where
  to : ∃ (a : Addr) (fd : FuncData) (ps : List Str) (dn' : Den) (ev : List V) (eu : List Value) (ed : List D), mg f = some (.ref a) ∧ PySem.W.keepIn K (.ref a) = true ∧ FnG P w K mg base k a fd ps (spD G dn') ∧ ExtOk G dn dn' ev eu ed ∧ ∀ p ∈ pats, PatOk K fd ps eu p
theorem FnM.mono {j k : Nat} {f : Str} {dn : Den} {pats : List Pat} (F : FnM P w K mg base G j f dn pats) (h : j ≤ k) : FnM P w K mg base G k f dn pats := by
  obtain ⟨a, fd, ps, dn', ev, eu, ed, h1, h2, h3, h4⟩ := F.to
  exact ⟨a, fd, ps, dn', ev, eu, ed, h1, h2, h3.mono h, h4⟩
/-- what a def's body may lean on -/
structure Mo0 (P : Program) (w : World) (K : PySem.W.Frag) (mg : Str → Option Value) (base : Heap) (G : Ga) (k : Nat) (Γ : Gam) (bl : List Str) (pats : Str → List Pat) : Prop where
  hG : G.K = K
  hw : G.w = w
  con : ∀ x p, Γ.con x = some p → ∃ u v, mg x = some u ∧ RelV v u ∧ ∀ H, DpF K H v p
  fn : ∀ f dn, Γ.fn f = some dn → FnM P w K mg base G k f dn (pats f)
  bl : ∀ x, bl.contains x = true → mg x = none
  xc : ∀ c fs, Γ.xc c = some fs → ∃ C, G.cl c = some C ∧ 1 ≤ k ∧ ExcG P K mg c C fs ∧ ExcH K C ∧ ∀ f ∈ fs, PySem.W.findIn K (.ref C) f = some none
  xs : ∀ c c' b, Γ.xs c c' = some b → ∃ C, G.cl c = some C ∧ ExcH K C ∧ ExcS K mg C c' b
  me : ∀ c m dn, Γ.me c m = some dn → MeCl G P w K mg base k c m dn := by intro _ _ _ h; cases h
  ini : ∀ c dn, Γ.ini c = some dn → 1 ≤ k ∧ InCl G P w K mg base (k - 1) c dn := by intro _ _ h; cases h
  fld : ∀ c x, Γ.fld c x = true → ∀ C, G.cl c = some C → L2.NoAttr K C x := by intro _ _ h; cases h
theorem fnG_of {k : Nat} {f : Addr} {name qual : Str} {params : Arguments} {body : List Stmt} {scope : Scope} {dV kV doc pm cdv ct oc : Value} {an od : Option Addr} {osl : Array (Option Value)} {N ps : List Str} {Γ : Gam} {bl : List Str} {pats : Str → List Pat}
    (lk : K.lookup f = some ⟨oc, od, .func (PySem.W.fnOf name qual params body scope dV kV doc pm an cdv ct), osl⟩) (hcd : PySem.W.codeIn K cdv qual = true) (S : FnScope N ps scope) (M : Mo0 P w K mg base G k Γ bl pats)
    (io : List Bool) (hio : io.length = ps.length) (b : List Sm) (hm : mSs ⟨scope, N, bl, pats⟩ (fun _ => true) (ioS io 0) b body = true) :
    FnG P w K mg base (k + 1) f (PySem.W.fnOf name qual params body scope dV kV doc pm an cdv ct) ps (spD G (denOf Γ N.length io b)) := by
  have len : ∀ vs H Q E, spD G (denOf Γ N.length io b) vs H Q E → vs.length = ps.length := fun vs H Q E h => h.1.trans hio
  refine ⟨len, fun A outer s H args us vs Q E room gd e0 hb r hsp => ?_⟩
  have hl := len _ _ _ _ hsp
  have inK : K.In s.heap := e0.mod.kin.keeps fun c o q => (e0.bs c o q).1
  have noL : s.heap.NoLimit := e0.mod.nolimit.keeps fun c o q => (e0.bs c o q).1
  have kinds : ∀ y ∈ ps.zip us, scope.names.lookup y.1 = some .local ∨ (scope.names.lookup y.1 = some .cell ∧ ((cellsFrom (s.heap.objs.size + 1) scope.names []).lookup y.1).isSome = true) := by
    rintro ⟨n, v⟩ hy
    exact (S.par n (List.of_mem_zip hy).1).imp id fun q => ⟨q, PySem.W.cellsFrom_some _ _ _ (.inl q)⟩
  refine codeAny_call_function room.depth (inK _ _ lk) rfl S.co S.gen rfl (PySem.W.codeRec_of inK hcd) (hb _ _ _ _ ?_)
  refine wpAny_newFunctionEnv_cells S.kind kinds fun env he s1 x => ?_
  subst he
  refine ⟨noL.keeps x.toInCall.keep, codeAny_func ?_⟩
  have room1 := room.deeper (envOfC qual scope s.heap.objs.size f cdv)
  let X : Cx := cxOf (L2.CX P w) P w K mg base N qual scope f cdv A outer s H E
  have C : Ctx G Γ ⟨scope, N, bl, pats⟩ X :=
    { hG := M.hG, hw := M.hw, sc := rfl, hN := rfl, nd := S.nd, calm := rfl, gd := gd, un := by
        have := room1.un
        show (A.deeper _).units + 65 < cLine
        omega
      con := M.con, fn := fun g dn e => by
        obtain ⟨a, fd, qs, dn', ev, eu, ed, h1, h2, h3, h5, h4⟩ := (M.fn g dn e).to
        exact ⟨a, fd, qs, k, dn', ev, eu, ed, h1, h2, room1, h3, h5, fun n ks π hp => h4 (n, ks, π) hp⟩
      bl := M.bl
      xc := fun c fs e => by
        obtain ⟨C, h1, h2, h3, h4, h5⟩ := M.xc c fs e
        exact ⟨C, k, h1, h2, room1, h3, h4, h5⟩
      xs := M.xs
      me := fun c m dn e => ⟨k, room1, M.me c m dn e⟩
      ini := fun c dn e => ⟨k - 1, by rw [Nat.sub_add_cancel (M.ini c dn e).1]; exact room1, (M.ini c dn e).2⟩
      fld := M.fld }
  have tk : Takes X (fun cls dd _ H' => E cls dd H') := takes_of rfl rfl rfl rfl
  have pss := gos_ok C rfl rfl (fun _ _ => rfl) tk (passes_of rfl) b hm pss_nil
  rw [List.append_nil] at pss
  have I : Inv X [] (start N vs) H s1 := inv_start S room.hd e0 hl r x
  refine wpAny_mono (pss.run [] s1 (start N vs) H { nx := fun _ H' => Q .non H', rt := Q } I (den_logic hsp)) (fun fl s' hs => ?_) fun _ _ q => q
  have done : ∀ {τ : L2.St} {H' : Hp} {v : V} {u : Value}, Inv X [] τ H' s' → RelV v u → Q v H' → CE outer P w H s Q u s' := fun {τ H' v u} J rv q => ⟨v, H', J.os, J.bare, J.base, J.hok, rv, q⟩
  cases fl with
  | next => obtain ⟨τ, H', J, q⟩ := hs; exact done (v := V.non) (u := Value.none) J rfl q
  | ret u => obtain ⟨v, τ, H', J, rv, q⟩ := hs; exact done J rv q
  | brk => obtain ⟨_, _, _, q⟩ := hs; exact q.elim
  | cont => obtain ⟨_, _, _, q⟩ := hs; exact q.elim
/-- a def of the text, by the record the top wrote -/
theorem fnM_of {k : Nat} {x : Str} {f : Addr} {st : Stmt} {od an : Option Addr} {osl : Array (Option Value)} {oc kV doc pm cdv ct : Value} {N ps : List Str} {Γ : Gam} {bl : List Str} {pats : Str → List Pat}
    (hmg : mg x = some (.ref f)) (lk : K.lookup f = some ⟨oc, od, .func (PySem.W.fnOf x x (defArgs st) (defBody st) (defScope st) .none kV doc pm an cdv ct), osl⟩) (hcd : PySem.W.codeIn K cdv x = true) (kp : PySem.W.keepIn K (.ref f) = true)
    (S : FnScope N ps (defScope st)) (M : Mo0 P w K mg base G k Γ bl pats) (io : List Bool) (hio : io.length = ps.length) (b : List Sm) (hm : mSs ⟨defScope st, N, bl, pats⟩ (fun _ => true) (ioS io 0) b (defBody st) = true)
    (hp : ∀ (s : Shared) (us ws zs : List Value) (p : Pat), p ∈ pats x → us.length = p.1 → ws.length = p.2.1.length → perm p.2.2 (us ++ ws) = some zs → bindArgs (PySem.W.fnOf x x (defArgs st) (defBody st) (defScope st) .none kV doc pm an cdv ct) ⟨us, p.2.1.zip ws⟩ = pure (ps.zip zs)) :
    FnM P w K mg base G (k + 1) x (denOf Γ N.length io b) (pats x) :=
  ⟨f, _, ps, _, [], [], [], hmg, kp, fnG_of lk hcd S M io hio b hm, .refl, fun p hpp s us ws zs _ h1 h2 h3 => .of_eq (by rw [List.append_nil]; exact hp s us ws zs p hpp h1 h2 h3)⟩
/-- a def's Den where its last parameters have their defaults -/
def cutDen (dn : Den) (n : Nat) (ed : List PyData) : Den := ⟨dn.io.take n, fun ds => dn.m (ds ++ ed.map .sh)⟩
/-- a default that is a number -/
theorem fnM_dflt {k n : Nat} {x : Str} {f T : Addr} {st : Stmt} {od an : Option Addr} {osl : Array (Option Value)} {oT : Obj} {tN : Nat} {oc kV doc pm cdv ct : Value} {N ps : List Str} {Γ : Gam} {bl : List Str} {pats : Str → List Pat} {i : Int} {tk : Tok}
    (hmg : mg x = some (.ref f)) (lk : K.lookup f = some ⟨oc, od, .func (PySem.W.fnOf x x (defArgs st) (defBody st) (defScope st) (.ref T) kV doc pm an cdv ct), osl⟩) (hcd : PySem.W.codeIn K cdv x = true) (kp : PySem.W.keepIn K (.ref f) = true)
    (lT : K.lookup T = some oT) (hT : oT.data = .seq #[.int i tk] tN)
    (S : FnScope N ps (defScope st)) (M : Mo0 P w K mg base G k Γ bl pats) (io : List Bool) (hio : io.length = ps.length) (hn : io = io.take n ++ [false]) (b : List Sm) (hm : mSs ⟨defScope st, N, bl, pats⟩ (fun _ => true) (ioS io 0) b (defBody st) = true)
    (hp : ∀ (us ws zs : List Value) (p : Pat), p ∈ pats x → us.length = p.1 → ws.length = p.2.1.length → perm p.2.2 (us ++ ws) = some zs → ∃ q, bindArgs (PySem.W.fnOf x x (defArgs st) (defBody st) (defScope st) (.ref T) kV doc pm an cdv ct) ⟨us, p.2.1.zip ws⟩ = seqItems? (.ref T) >>= q ∧ q (some #[.int i tk]) = pure (ps.zip (zs ++ [.int i tk]))) :
    FnM P w K mg base G (k + 1) x (cutDen (denOf Γ N.length io b) n [.int i]) (pats x) :=
  ⟨f, _, ps, denOf Γ N.length io b, [.int i], [.int i tk], [.sh (.int i)], hmg, kp, fnG_of lk hcd S M io hio b hm, ⟨.cons ⟨tk, rfl⟩ .nil, fun H => .cons (O := []) (O' := []) (.sh (.int i)) .nil, hn, fun ds _ => rfl⟩, fun p hpp s us ws zs X h1 h2 h3 => by
    obtain ⟨q, e1, e2⟩ := hp us ws zs p hpp h1 h2 h3
    exact PySem.BindsTo.of_defaults (T := T) rfl (X _ _ lT) hT e1 e2⟩
end
/-! ### the law's end -/
theorem script_rep {G : Ga} {H : Hp} {a : Addr} {ns : List Int} (h1 : Only H) (h2 : SqL G.K H a (ns.map V.int)) : Reps G H [.ref a] [.sh (.list (ns.map .int))] [] := by
  have hs : DpFs G.K H (ns.map V.int) (ns.map .int) := by
    induction ns with
    | nil => exact .nil
    | cons n ns ih =>
      refine .cons (.int n) ?_
      clear h2 ih
      induction ns with
      | nil => exact .nil
      | cons m ns ih => exact .cons (.int m) ih
  have hf : SqF G.K H a (ns.map V.int) := by
    rcases h2 with (h | h) | h
    · rcases h1 a with z | ⟨o, xs, z⟩
      · rw [h] at z; cases z
      · rw [h] at z; cases z
    · exact .inl h
    · exact .inr (.inr h)
  exact .cons (O := []) (O' := []) (.sh (.lst hf hs)) .nil
theorem hid_same {h : Heap} {H : Hp} {a : Addr} {xs : Array Value} (e : h.get? a = some { cls := .type "list", data := .seq xs }) (n : ∀ b, H b ≠ none → b = a) {b : Addr} {o : Obj} {es : Array DictEntry} {ep : Nat} (eb : h.get? b = some o) (d : o.data = .dict es ep) : (hidT h H).get? b = some o := by
  refine hidT_get eb (Classical.byContradiction fun z => ?_)
  cases n b z
  rw [e] at eb
  cases eb
  exact nomatch d
/-- the law at a heap that knows of nothing but the script -/
theorem lawG_at {P : Program} {w : World} {G : Ga} {mg mb : Str → Option Value} {k : Nat} {fa a : Addr} {fd : FuncData} {x : Str} {dn : Den} {s₁ : Shared} {vs : List Value} {ns : List Int} {H : Hp} {outs : List D}
    (KX : G.K.In s₁.heap) (hns : s₁.heap.Ns mainGlobals mg) (hb : s₁.heap.Ns builtinsNs mb) (hbb : ∀ x : Str, x ≠ "__name__" → mb x = bootBuiltins x) (hlim : s₁.heap.NoLimit) (hg : s₁.gens = #[])
    (ha : s₁.heap.get? a = some { cls := .type "list", data := .seq vs.toArray }) (hr : Room k callerA) (F : ∀ base : Heap, G.K.In base → base.Ns mainGlobals mg → FnG P w G.K mg base k fa fd [x] (spD G dn))
    (hbind : ∀ (s : Shared) (u : Value), BindsTo s fd ⟨[u], []⟩ [(x, u)]) (hio : dn.io = [false]) (hm : dn.m [.sh (.list (ns.map .int))] = .ok (.sh (.bool true)) outs)
    (o1 : Only H) (o2 : SqL G.K H a (ns.map V.int)) (o3 : HOk P w H s₁.heap) (o4 : ∀ b, H b ≠ none → b = a) (o5 : H a ≠ none → G.K.lookup a = none) :
    codeAny (model P w) callerA (.call (.ref fa) ⟨[.ref a], []⟩) (fun r s' => r = .ok (.ret (.bool true)) ∧ OldK s₁.heap s'.heap ∧ s'.os = s₁.os ∧ AllBare s'.gens) s₁ := by
  have hid : ∀ {b : Addr} {m : Str → Option Value}, s₁.heap.Ns b m → (hidT s₁.heap H).Ns b m := by
    rintro b m ⟨o, es, ep, e, d, q⟩
    exact ⟨o, es, ep, hid_same ha o4 e d, d, q⟩
  have kin : G.K.In (hidT s₁.heap H) := fun b o e => hidT_get (KX b o e) (Classical.byContradiction fun z => by
    have h1 := o4 b z
    subst h1
    rw [o5 z] at e
    cases e)
  have noL : (hidT s₁.heap H).NoLimit := by
    obtain ⟨mc, z1, z2⟩ := hlim
    exact ⟨mc, hid z1, z2⟩
  have env : Env0 P w G.K mg (hidT s₁.heap H) callerA [] s₁ H :=
    { frames := rfl, mod := ⟨kin, hid hns, ⟨mb, hid hb, hbb⟩, noL⟩, bs := fun b o e => of_hidT e, bsz := Nat.le_of_eq (hidT_size _ _), funs := trivial, frf := fun b z => (nomatch (show b ∈ ([] : List Addr) from z)), hok := o3, bare := .of_eq hg }
  have sp : spD G dn [.ref a] H (fun v _ => v = .bl true) fun _ _ _ => False := by
    refine ⟨by rw [hio]; rfl, _, [], script_rep o1 o2, .nil, ?_⟩
    rw [hm]
    exact fun v H' T O' r _ _ _ => r.bl_of
  refine codeAny_mono ((F _ kin (hid hns)).run callerA [] s₁ H ⟨[.ref a], []⟩ [.ref a] [.ref a] _ _ hr rfl env (hbind s₁ (.ref a)) (.cons rfl .nil) sp) fun r s' h => ?_
  match r, h with
  | .error e, h => obtain ⟨_, _, _, _, _, _, _, _, _, _, _, _, z⟩ := h; exact z.elim
  | .ok .next, h => exact False.elim h
  | .ok .brk, h => exact False.elim h
  | .ok .cont, h => exact False.elim h
  | .ok (.ret u), ⟨v, H', os, bare, un, hok', r', q⟩ =>
    have q : v = .bl true := q
    subst q
    cases (show u = Value.bool true from r')
    refine ⟨rfl, OldK.of_keep fun b o e => ?_, os, bare⟩
    cases z : H b with
    | none => exact un.keep b o e z (fun y => nomatch y) (fun y => nomatch y)
    | some hb =>
      rcases o1 b with y | ⟨ob, xs, y⟩
      · rw [y] at z; cases z
      · obtain ⟨e1, _⟩ := o3 b _ y
        obtain ⟨e2, _⟩ := hok' b _ (un.frzs b ob _ y)
        rw [e] at e1; cases e1
        exact e2
theorem ints_vals : ∀ {vs : List Value} {ns : List Int}, IntsAre vs ns → Vals (ns.map V.int) vs := fun h => vals_ints h
/-- the head's goal, from the law's own den -/
theorem law_end {l : PySem.W.OpenLaw} {n k : Nat} {q : Program} {loose : List Str} {XP : (Str → Option Value) → Heap → Prop} {YP : World → Heap → Prop} {d : DefRec} {Kp : Params → PySem.W.Frag} {x : Str} {cl : Params → Str → Option Addr} {dn : Params → Den}
    (hn : l.most = some n) (hn2 : n ≤ sizeLine) (hdf : d.params.defaults = []) (hr : Room k callerA) (hY : ∀ (w : World) (h : Heap), YP w h → (Kp w.params).In h)
    (F : ∀ (w : World) (mg : Str → Option Value) (fa : Addr) (h : Heap), (Kp w.params).In h → h.Ns mainGlobals mg → mg d.name = some (.ref fa) →
      ∃ fd : FuncData, (∀ (s : Shared) (u : Value), BindsTo s fd ⟨[u], []⟩ [(x, u)]) ∧ ∀ base : Heap, (Kp w.params).In base → base.Ns mainGlobals mg → FnG l.prog w (Kp w.params) mg base k fa fd [x] (spD ⟨Kp w.params, cl w.params, w⟩ (dn w.params)))
    (hio : ∀ p, (dn p).io = [false]) (hm : ∀ p (ns : List Int), ns.length ≤ n → ∃ outs, (dn p).m [.sh (.list (ns.map .int))] = .ok (.sh (.bool true)) outs) :
    PySem.W.WalkO q loose XP YP l.row.toRowW d [] (fun f vs => PySem.call f vs) := by
  refine Att.attach_call hn hdf fun w s₀ s₁ mg mb fa o pm cd doc a vs ns Gd Y ho hd hcd hmg hobj hints hlen hg => ?_
  have KX := hY w _ Y
  obtain ⟨fd, hb, hF⟩ := F w mg fa _ KX Gd.T.g hmg
  obtain ⟨outs, hm⟩ := hm w.params ns hlen
  have at_ := fun (H : Hp) => lawG_at (G := ⟨Kp w.params, cl w.params, w⟩) (H := H) KX Gd.T.g Gd.T.b Gd.T.builtins Gd.T.nolimit hg hobj hr hF hb (hio _) hm
  have small : ns.length ≤ sizeLine := Nat.le_trans hlen hn2
  cases hk : (Kp w.params).lookup a with
  | some oa =>
    have e := KX a oa hk
    rw [hobj] at e
    cases e
    refine at_ (fun _ => none) (fun _ => .inl rfl) (.inr ⟨_, vs.toArray, _, hk, rfl, rfl, rfl, ?_, by simpa using ints_vals hints⟩) (fun b u z => (nomatch (show (none : Option HO) = some u from z))) (fun b z => absurd rfl z) fun z => absurd rfl z
    rw [List.size_toArray, hints.length]
    exact small
  | none =>
    let H : Hp := fun b => if b = a then some (.frz { cls := .type "list", data := .seq vs.toArray } (.lst (ns.map V.int))) else none
    have h1 : H a = some (.frz { cls := .type "list", data := .seq vs.toArray } (.lst (ns.map V.int))) := if_pos rfl
    have h2 : ∀ b, b ≠ a → H b = none := fun b z => if_neg z
    refine at_ H (fun b => ?_) (.inl (.inr ⟨_, h1⟩)) (fun b u z => ?_) (fun b z => Classical.byContradiction fun y => z (h2 b y)) fun _ => hk
    · by_cases hb : b = a
      · subst hb; exact .inr ⟨_, _, h1⟩
      · exact .inl (h2 b hb)
    · by_cases hb : b = a
      · subst hb
        rw [h1] at z
        cases z
        exact ⟨hobj, by rw [List.length_map]; exact small, vs, _, ints_vals hints, hobj⟩
      · rw [h2 b hb] at z; cases z
end Vs
/-! V27: small words for the printed texts. -/
namespace Vs
open PySem PySem.Spec L2
open PyProof.Rows hiding St
section
variable {α : Type} {us : List α}
theorem len0 (h : us.length = 0) : us = [] := by simpa using h
theorem len1 (h : us.length = 1) : ∃ a, us = [a] := by
  match us, h with
  | [a], _ => exact ⟨a, rfl⟩
theorem len2 (h : us.length = 2) : ∃ a b, us = [a, b] := by
  match us, h with
  | [a, b], _ => exact ⟨a, b, rfl⟩
theorem len3 (h : us.length = 3) : ∃ a b c, us = [a, b, c] := by
  match us, h with
  | [a, b, c], _ => exact ⟨a, b, c, rfl⟩
theorem len4 (h : us.length = 4) : ∃ a b c d, us = [a, b, c, d] := by
  match us, h with
  | [a, b, c, d], _ => exact ⟨a, b, c, d, rfl⟩
theorem len5 (h : us.length = 5) : ∃ a b c d e, us = [a, b, c, d, e] := by
  match us, h with
  | [a, b, c, d, e], _ => exact ⟨a, b, c, d, e, rfl⟩
theorem len6 (h : us.length = 6) : ∃ a b c d e f, us = [a, b, c, d, e, f] := by
  match us, h with
  | [a, b, c, d, e, f], _ => exact ⟨a, b, c, d, e, f, rfl⟩
theorem len7 (h : us.length = 7) : ∃ a b c d e f g, us = [a, b, c, d, e, f, g] := by
  match us, h with
  | [a, b, c, d, e, f, g], _ => exact ⟨a, b, c, d, e, f, g, rfl⟩
end
end Vs
/-! V28: the evaluator's equations. -/
namespace Vs
open PySem PySem.Spec L2
open PyProof.Rows hiding St
section
variable {Γ : Gam} {α β : Type} {ρ : Env}
@[simp] theorem gos_nil : gos Γ [] ρ = .nx ρ := (rfl)
@[simp] theorem gos_cons {s : Sm} {r : List Sm} : gos Γ (s :: r) ρ = (go Γ s ρ).seq (gos Γ r) := (rfl)
@[simp] theorem seq_nx {g : SF} : (Out.nx ρ).seq g = g ρ := (rfl)
@[simp] theorem seq_rt {g : SF} {d : D} : (Out.rt d ρ).seq g = .rt d ρ := (rfl)
@[simp] theorem seq_br {g : SF} : (Out.br ρ).seq g = .br ρ := (rfl)
@[simp] theorem seq_ct {g : SF} : (Out.ct ρ).seq g = .ct ρ := (rfl)
@[simp] theorem seq_ex {g : SF} {x : Exc} : (Out.ex x ρ).seq g = .ex x ρ := (rfl)
@[simp] theorem seq_no {g : SF} : (Out.no).seq g = .no := (rfl)
@[simp] theorem out_ok {a : α} {k : α → Out} : (Res.ok a).out k = k a := (rfl)
@[simp] theorem bind_ok' {a : α} {k : α → Res β} : (Res.ok a).bind k = k a := (rfl)
@[simp] theorem go_asg {t : Tg} {e : Ex} : go Γ (.asg t e) ρ = asgF t (ev Γ e) ρ := (rfl)
@[simp] theorem go_par {is : List Nat} {es : List Ex} : go Γ (.par is es) ρ = parF is (sops Γ es) ρ := (rfl)
@[simp] theorem go_put2 {dk dk' : Bool} {i i' : Nat} {p p' : List PK} {k k' e e' : Ex} : go Γ (.put2 dk i p k dk' i' p' k' e e') ρ = put2F (ev Γ (.tup [e, e'])) (putV dk i p (ev Γ k)) (putV dk' i' p' (ev Γ k')) ρ := (rfl)
@[simp] theorem go_put {dk : Bool} {i : Nat} {p : List PK} {k e : Ex} : go Γ (.put dk i p k e) ρ = putF dk i p (ev Γ k) (ev Γ e) ρ := (rfl)
@[simp] theorem go_ex {e : Ex} : go Γ (.ex e) ρ = exF (ev Γ e) ρ := (rfl)
@[simp] theorem go_ite {c : Ex} {a b : List Sm} : go Γ (.ite c a b) ρ = iteF (evT Γ c) (gos Γ a) (gos Γ b) ρ := (rfl)
@[simp] theorem go_whl {c : Ex} {b : List Sm} : go Γ (.whl c b) ρ = whL (evT Γ c) (gos Γ b) fuel ρ := (rfl)
@[simp] theorem go_lop {t : Tg} {k : ItK} {as : List Ex} {b : List Sm} : go Γ (.lop t k as b) ρ = lopF t k (lops Γ as) (gos Γ b) ρ := (rfl)
@[simp] theorem go_ret {e : Ex} : go Γ (.ret e) ρ = retF (ev Γ e) ρ := (rfl)
@[simp] theorem go_retN : go Γ .retN ρ = .rt (.sh .none) ρ := (rfl)
@[simp] theorem go_pass : go Γ .pass ρ = .nx ρ := (rfl)
@[simp] theorem go_brk : go Γ .brk ρ = .br ρ := (rfl)
@[simp] theorem go_cnt : go Γ .cnt ρ = .ct ρ := (rfl)
@[simp] theorem go_fst {i : Nat} {x : Str} {e : Ex} : go Γ (.fst i x e) ρ = fstF Γ.fld i x (ev Γ e) ρ := (rfl)
@[simp] theorem go_frz {i : Nat} : go Γ (.frz i) ρ = frzF i ρ := (rfl)
@[simp] theorem go_bor {j i : Nat} {p : List PK} {b : List Sm} : go Γ (.bor j i p b) ρ = borF j i p (gos Γ b) ρ := (rfl)
@[simp] theorem opD_mkd {a b : D} : opD .mkd [a, b] = oMkd a b := (rfl)
@[simp] theorem go_rai0 {c : Str} : go Γ (.rai0 c) ρ = rai0F (Γ.xc c) c ρ := (rfl)
@[simp] theorem go_rai1 {c : Str} {e : Ex} : go Γ (.rai1 c e) ρ = rai1F (Γ.xc c) c (ev Γ e) ρ := (rfl)
theorem go_tr {b : List Sm} {c : Str} {j : Option Nat} {h : Hx} : go Γ (.tr b c j h) ρ = trF Γ (gos Γ b) c j h ρ := (rfl)
@[simp] theorem ev_lit {d : PyData} : ev Γ (.lit d) ρ = .ok (.sh d, ρ) := (rfl)
@[simp] theorem ev_rd {i : Nat} : ev Γ (.rd i) ρ = rdE i ρ := (rfl)
@[simp] theorem ev_mv {i : Nat} : ev Γ (.mv i) ρ = mvE i ρ := (rfl)
@[simp] theorem ev_tup {es : List Ex} : ev Γ (.tup es) ρ = dispE mkTup (sops Γ es) ρ := (rfl)
@[simp] theorem ev_lst {es : List Ex} : ev Γ (.lst es) ρ = dispE .ls (sops Γ es) ρ := (rfl)
@[simp] theorem ev_op {o : Op} {as : List Ex} : ev Γ (.op o as) ρ = opE (opD o) (wrapO o (sops Γ as)) ρ := (rfl)
@[simp] theorem ev_chn {o o' : Op} {a b c : Ex} : ev Γ (.chn o o' a b c) ρ = chnE (opD o) (opD o') (ev Γ a) (ev Γ b) (ev Γ c) ρ := (rfl)
@[simp] theorem ev_bop {k : Bool} {es : List Ex} : ev Γ (.bop k es) ρ = bopE k (evs Γ es) ρ := (rfl)
@[simp] theorem ev_not {a : Ex} : ev Γ (.not a) ρ = notE (ev Γ a) ρ := (rfl)
@[simp] theorem ev_ite {c a b : Ex} : ev Γ (.ite c a b) ρ = iteE (evT Γ c) (ev Γ a) (ev Γ b) ρ := (rfl)
@[simp] theorem ev_call {f : Str} {as bs : List Ex} {ks : List Str} {π : List Nat} : ev Γ (.call f as bs ks π) ρ = callE (Γ.fn f) ks (sops Γ as ++ sops Γ bs) π ρ := (rfl)
@[simp] theorem ev_mut {m : Mo} {i : Nat} {p : List PK} {as : List Ex} : ev Γ (.mut m i p as) ρ = mutE m i p (sops Γ as) ρ := (rfl)
@[simp] theorem ev_lc {own : List Nat} {t : Tg} {k : ItK} {as ifs : List Ex} {e : Ex} : ev Γ (.lc own t k as ifs e) ρ = lcE own t k (lops Γ as) (ifT (evTs Γ ifs)) (ev Γ e) ρ := (rfl)
@[simp] theorem ev_fz {a : Ex} : ev Γ (.fz a) ρ = fzE (ev Γ a) ρ := (rfl)
@[simp] theorem ev_at {i : Nat} {p : List PK} : ev Γ (.at i p) ρ = atE i p ρ := (rfl)
@[simp] theorem ev_new {c : Str} {as : List Ex} : ev Γ (.new c as) ρ = newE (Γ.ini c) c (sops Γ as) ρ := (rfl)
@[simp] theorem ev_mcl {c m : Str} {i : Nat} {as : List Ex} : ev Γ (.mcl c m i as) ρ = mclE (Γ.me c m) c m i (sops Γ as) ρ := (rfl)
@[simp] theorem ev_fld {i : Nat} {x : Str} : ev Γ (.fld i x) ρ = fldE i x ρ := (rfl)
@[simp] theorem ev_tm {c : Bool} {i : Nat} {a : Ex} : ev Γ (.tm c i a) ρ = tmE c i (ev Γ a) ρ := (rfl)
@[simp] theorem ev_dct {ks : List Key} {es : List Ex} : ev Γ (.dct ks es) ρ = dctE ks (sops Γ es) ρ := (rfl)
@[simp] theorem evs_nil : evs Γ [] = [] := (rfl)
@[simp] theorem evs_cons {e : Ex} {es : List Ex} : evs Γ (e :: es) = ev Γ e :: evs Γ es := (rfl)
@[simp] theorem evTs_nil : evTs Γ [] = [] := (rfl)
@[simp] theorem evTs_cons {e : Ex} {es : List Ex} : evTs Γ (e :: es) = evT Γ e :: evTs Γ es := (rfl)
@[simp] theorem evT_bop {k : Bool} {es : List Ex} : evT Γ (.bop k es) ρ = bopT k (evTs Γ es) ρ := (rfl)
@[simp] theorem evT_not {a : Ex} : evT Γ (.not a) ρ = (evT Γ a ρ).bind fun q => .ok (!q.1, q.2) := (rfl)
@[simp] theorem evT_lit {d : PyData} : evT Γ (.lit d) ρ = boolE (litE d) ρ := (rfl)
@[simp] theorem evT_rd {i : Nat} : evT Γ (.rd i) ρ = boolE (rdE i) ρ := (rfl)
@[simp] theorem evT_op {o : Op} {as : List Ex} : evT Γ (.op o as) ρ = boolE (opE (opD o) (wrapO o (sops Γ as))) ρ := (rfl)
@[simp] theorem evT_chn {o o' : Op} {a b c : Ex} : evT Γ (.chn o o' a b c) ρ = boolE (chnE (opD o) (opD o') (ev Γ a) (ev Γ b) (ev Γ c)) ρ := (rfl)
@[simp] theorem evT_call {f : Str} {as bs : List Ex} {ks : List Str} {π : List Nat} : evT Γ (.call f as bs ks π) ρ = boolE (callE (Γ.fn f) ks (sops Γ as ++ sops Γ bs) π) ρ := (rfl)
@[simp] theorem sops_nil : sops Γ [] = [] := (rfl)
@[simp] theorem sops_v {i : Nat} {es : List Ex} : sops Γ (.vw i [] :: es) = .v i :: sops Γ es := (rfl)
@[simp] theorem sops_p {i : Nat} {k : PK} {p : List PK} {es : List Ex} : sops Γ (.vw i (k :: p) :: es) = .p i (k :: p) :: sops Γ es := (rfl)
@[simp] theorem lops_nil : lops Γ [] = [] := (rfl)
@[simp] theorem lops_v {i : Nat} {p : List PK} {es : List Ex} : lops Γ (.vw i p :: es) = .p i p :: lops Γ es := (rfl)
section
variable {es : List Ex} {a b c : Ex} {as bs ifs : List Ex} {o o' : Op} {k : Bool} {i : Nat} {d : PyData} {x : Str} {m : Mo} {p : List PK} {own : List Nat} {t : Tg} {ik : ItK} {ks : List Str} {π : List Nat} {kk : List Key}
@[simp] theorem sops_lit : sops Γ (.lit d :: es) = .e (ev Γ (.lit d)) :: sops Γ es := (rfl)
@[simp] theorem sops_rd : sops Γ (.rd i :: es) = .e (ev Γ (.rd i)) :: sops Γ es := (rfl)
@[simp] theorem sops_mv : sops Γ (.mv i :: es) = .e (ev Γ (.mv i)) :: sops Γ es := (rfl)
@[simp] theorem sops_gl : sops Γ (.gl x :: es) = .e (ev Γ (.gl x)) :: sops Γ es := (rfl)
@[simp] theorem sops_tup : sops Γ (.tup as :: es) = .e (ev Γ (.tup as)) :: sops Γ es := (rfl)
@[simp] theorem sops_lst : sops Γ (.lst as :: es) = .e (ev Γ (.lst as)) :: sops Γ es := (rfl)
@[simp] theorem sops_op : sops Γ (.op o as :: es) = .e (ev Γ (.op o as)) :: sops Γ es := (rfl)
@[simp] theorem sops_chn : sops Γ (.chn o o' a b c :: es) = .e (ev Γ (.chn o o' a b c)) :: sops Γ es := (rfl)
@[simp] theorem sops_bop : sops Γ (.bop k as :: es) = .e (ev Γ (.bop k as)) :: sops Γ es := (rfl)
@[simp] theorem sops_not : sops Γ (.not a :: es) = .e (ev Γ (.not a)) :: sops Γ es := (rfl)
@[simp] theorem sops_ite : sops Γ (.ite a b c :: es) = .e (ev Γ (.ite a b c)) :: sops Γ es := (rfl)
@[simp] theorem sops_call : sops Γ (.call x as bs ks π :: es) = .e (ev Γ (.call x as bs ks π)) :: sops Γ es := (rfl)
@[simp] theorem sops_mut : sops Γ (.mut m i p as :: es) = .e (ev Γ (.mut m i p as)) :: sops Γ es := (rfl)
@[simp] theorem sops_lc : sops Γ (.lc own t ik as ifs a :: es) = .e (ev Γ (.lc own t ik as ifs a)) :: sops Γ es := (rfl)
@[simp] theorem sops_fz : sops Γ (.fz a :: es) = .e (ev Γ (.fz a)) :: sops Γ es := (rfl)
@[simp] theorem sops_at : sops Γ (.at i p :: es) = .e (ev Γ (.at i p)) :: sops Γ es := (rfl)
@[simp] theorem sops_dct : sops Γ (.dct kk as :: es) = .e (ev Γ (.dct kk as)) :: sops Γ es := (rfl)
@[simp] theorem sops_new {c : Str} {as es : List Ex} : sops Γ (.new c as :: es) = .e (ev Γ (.new c as)) :: sops Γ es := (rfl)
@[simp] theorem sops_mcl {c m : Str} {i : Nat} {as es : List Ex} : sops Γ (.mcl c m i as :: es) = .e (ev Γ (.mcl c m i as)) :: sops Γ es := (rfl)
@[simp] theorem sops_fld {i : Nat} {x : Str} {es : List Ex} : sops Γ (.fld i x :: es) = .e (ev Γ (.fld i x)) :: sops Γ es := (rfl)
@[simp] theorem lops_mcl {c m : Str} {i : Nat} {as es : List Ex} : lops Γ (.mcl c m i as :: es) = .e (ev Γ (.mcl c m i as)) :: lops Γ es := (rfl)
@[simp] theorem lops_fld {i : Nat} {x : Str} {es : List Ex} : lops Γ (.fld i x :: es) = .e (ev Γ (.fld i x)) :: lops Γ es := (rfl)
@[simp] theorem lops_lit : lops Γ (.lit d :: es) = .e (ev Γ (.lit d)) :: lops Γ es := (rfl)
@[simp] theorem lops_rd : lops Γ (.rd i :: es) = .e (ev Γ (.rd i)) :: lops Γ es := (rfl)
@[simp] theorem lops_mv : lops Γ (.mv i :: es) = .e (ev Γ (.mv i)) :: lops Γ es := (rfl)
@[simp] theorem lops_gl : lops Γ (.gl x :: es) = .e (ev Γ (.gl x)) :: lops Γ es := (rfl)
@[simp] theorem lops_tup : lops Γ (.tup as :: es) = .e (ev Γ (.tup as)) :: lops Γ es := (rfl)
@[simp] theorem lops_lst : lops Γ (.lst as :: es) = .e (ev Γ (.lst as)) :: lops Γ es := (rfl)
@[simp] theorem lops_op : lops Γ (.op o as :: es) = .e (ev Γ (.op o as)) :: lops Γ es := (rfl)
@[simp] theorem lops_call : lops Γ (.call x as bs ks π :: es) = .e (ev Γ (.call x as bs ks π)) :: lops Γ es := (rfl)
@[simp] theorem lops_lc : lops Γ (.lc own t ik as ifs a :: es) = .e (ev Γ (.lc own t ik as ifs a)) :: lops Γ es := (rfl)
@[simp] theorem lops_fz : lops Γ (.fz a :: es) = .e (ev Γ (.fz a)) :: lops Γ es := (rfl)
@[simp] theorem lops_at : lops Γ (.at i p :: es) = .e (ev Γ (.at i p)) :: lops Γ es := (rfl)
end
@[simp] theorem runO_nil : runO [] ρ = .ok ([], ρ) := (rfl)
@[simp] theorem runO_e {f : EF} {r : List Sop} : runO (.e f :: r) ρ = (f ρ).bind fun p => (runO r p.2).bind fun q => .ok (.d p.1 :: q.1, q.2) := (rfl)
@[simp] theorem runO_v' {i : Nat} {r : List Sop} : runO (.v i :: r) ρ = (match ρ[i]? with
  | some (some _) => (runO r ρ).bind fun q => .ok (.v i :: q.1, q.2)
  | _ => .no) := (rfl)
@[simp] theorem runO_p' {i : Nat} {path : List PK} {r : List Sop} : runO (.p i path :: r) ρ = (match ρ[i]? with
  | some (some d) => match getP path d with
    | some _ => (runO r (ρ.set i none)).bind fun q => .ok (.p i path d :: q.1, q.2)
    | none => .no
  | _ => .no) := (rfl)
@[simp] theorem asgF_eq {t : Tg} {f : EF} : asgF t f ρ = (f ρ).out fun q => match bindT [] t q.1 q.2 with
  | some ρ' => .nx ρ'
  | none => .no := (rfl)
@[simp] theorem parF_eq {is : List Nat} {ops : List Sop} : parF is ops ρ = (runO ops ρ).out fun q => match ods q.1 with
  | some ds => match setAll [] is ds q.2 with
    | some ρ' => .nx ρ'
    | none => .no
  | none => .no := (rfl)
@[simp] theorem exF_eq {f : EF} : exF f ρ = (f ρ).out fun q => .nx q.2 := (rfl)
@[simp] theorem iteF_eq {c : TF} {a b : SF} : iteF c a b ρ = (c ρ).out fun q => if q.1 = true then a q.2 else b q.2 := (rfl)
@[simp] theorem retF_eq {f : EF} : retF f ρ = (f ρ).out fun q => .rt q.1 q.2 := (rfl)
@[simp] theorem frzF_eq {i : Nat} : frzF i ρ = (match ρ[i]? with
  | some (some d) => match d.fz with
    | some p => .nx (ρ.set i (some (.sh p)))
    | none => match fzD d with
      | some e => .nx (ρ.set i (some e))
      | none => .no
  | _ => .no) := (rfl)
@[simp] theorem fzD_dd {ks : List PyData} {ds : List D} : fzD (.dd ks ds) = (match unsh ds with | some l => some (.fd ks l) | none => none) := (rfl)
@[simp] theorem borF_eq {j i : Nat} {path : List PK} {b : SF} : borF j i path b ρ = (match ρ[i]? with
  | some (some root) => match getP path root with
    | some d => if i ≠ j ∧ j < ρ.length then (b ((ρ.set i none).set j (some d))).back (giveB j i path root) else .no
    | none => .no
  | _ => .no) := (rfl)
@[simp] theorem giveB_eq {j i : Nat} {path : List PK} {root : D} : giveB j i path root ρ = (match ρ[j]?, ρ[i]? with
  | some (some d), some none => some ((ρ.set j none).set i (some (setP path root d)))
  | _, _ => none) := (rfl)
@[simp] theorem back_nx {f : Env → Option Env} : (Out.nx ρ).back f = (match f ρ with | some ρ' => .nx ρ' | none => .no) := (rfl)
@[simp] theorem back_rt {f : Env → Option Env} {d : D} : (Out.rt d ρ).back f = (match f ρ with | some ρ' => .rt d ρ' | none => .no) := (rfl)
@[simp] theorem back_br {f : Env → Option Env} : (Out.br ρ).back f = (match f ρ with | some ρ' => .br ρ' | none => .no) := (rfl)
@[simp] theorem back_ct {f : Env → Option Env} : (Out.ct ρ).back f = (match f ρ with | some ρ' => .ct ρ' | none => .no) := (rfl)
@[simp] theorem putF_eq {dk : Bool} {i : Nat} {path : List PK} {k f : EF} : putF dk i path k f ρ = (f ρ).out fun q => match q.2[i]? with
  | some (some root) => match getP path root with
    | some c => match k (q.2.set i none) with
      | .ok (.sh kk, ρ2) => match putD dk c kk q.1 with
        | some c' => match ρ2[i]? with
          | some none => .nx (ρ2.set i (some (setP path root c')))
          | _ => .no
        | none => .no
      | _ => .no
    | none => .no
  | _ => .no := (rfl)
@[simp] theorem rdE_eq {i : Nat} : rdE i ρ = (match ρ[i]? with
  | some (some (.sh d)) => .ok (.sh d, ρ)
  | _ => .no) := (rfl)
@[simp] theorem mvE_eq {i : Nat} : mvE i ρ = (match ρ[i]? with
  | some (some d) => .ok (d, ρ.set i none)
  | _ => .no) := (rfl)
@[simp] theorem litE_eq {d : PyData} : litE d ρ = .ok (.sh d, ρ) := (rfl)
@[simp] theorem opE_eq {o : List D → Option D} {ops : List Sop} : opE o ops ρ = (runO ops ρ).bind fun q => match ovs q.1 q.2 with
  | some ds => match o ds with
    | some d => match unlock q.1 q.2 with
      | some ρ' => .ok (d, ρ')
      | none => .no
    | none => .no
  | none => .no := (rfl)
@[simp] theorem dispE_eq {mk : List D → D} {ops : List Sop} : dispE mk ops ρ = (runO ops ρ).bind fun q => match ods q.1 with
  | some ds => if ds.length ≤ 1000 then .ok (mk ds, q.2) else .no
  | none => .no := (rfl)
@[simp] theorem fzE_eq {f : EF} : fzE f ρ = (f ρ).bind fun q => match q.1.fz with
  | some d => .ok (.sh d, q.2)
  | none => .no := (rfl)
@[simp] theorem boolE_eq {f : EF} : boolE f ρ = (f ρ).bind fun q => match q.1 with
  | .sh (.bool b) => .ok (b, q.2)
  | _ => .no := (rfl)
@[simp] theorem notE_eq {f : EF} : notE f ρ = (f ρ).bind fun q => match q.1 with
  | .sh (.bool b) => .ok (DB (!b), q.2)
  | _ => .no := (rfl)
@[simp] theorem iteE_eq {c : TF} {a b : EF} : iteE c a b ρ = (c ρ).bind fun q => if q.1 = true then a q.2 else b q.2 := (rfl)
@[simp] theorem bopT_one {k : Bool} {f : TF} : bopT k [f] ρ = f ρ := (rfl)
@[simp] theorem bopT_two {k : Bool} {f g : TF} {r : List TF} : bopT k (f :: g :: r) ρ = (f ρ).bind fun q => if q.1 = k then bopT k (g :: r) q.2 else .ok (q.1, q.2) := (rfl)
@[simp] theorem bopE_one {k : Bool} {f : EF} : bopE k [f] ρ = f ρ := (rfl)
@[simp] theorem bopE_two {k : Bool} {f g : EF} {r : List EF} : bopE k (f :: g :: r) ρ = (f ρ).bind fun q => match q.1 with
    | .sh (.bool b) => if b = k then bopE k (g :: r) q.2 else .ok (DB b, q.2)
    | _ => .no := (rfl)
@[simp] theorem atE_eq {i : Nat} {path : List PK} : atE i path ρ = (match ρ[i]? with
  | some (some root) => match getP path root with
    | some (.sh d) => .ok (.sh d, ρ)
    | _ => .no
  | _ => .no) := (rfl)
@[simp] theorem dctE_eq {ks : List Key} {ops : List Sop} : dctE ks ops ρ = (runO ops ρ).bind fun q => match ods q.1 with
  | some ds => if ks.length = ds.length ∧ ks.Nodup then .ok (.dk ks ds, q.2) else .no
  | none => .no := (rfl)
@[simp] theorem mutE_eq {m : Mo} {i : Nat} {path : List PK} {ops : List Sop} : mutE m i path ops ρ = (match ρ[i]? with
  | some (some root) => match getP path root with
    | some (.ls _) => match path with
      | [] => (runO ops ρ).bind fun q => match ods q.1, q.2[i]? with
        | some as, some (some (.ls ds)) => match mo m ds as with
          | some (ds', r) => .ok (r, q.2.set i (some (.ls ds')))
          | none => .no
        | _, _ => .no
      | path => (runO ops (ρ.set i none)).bind fun q => match ods q.1, getP path root, q.2[i]? with
        | some as, some (.ls ds), some none => match mo m ds as with
          | some (ds', r) => .ok (r, q.2.set i (some (setP path root (.ls ds'))))
          | none => .no
        | _, _, _ => .no
    | _ => .no
  | _ => .no) := by
  unfold mutE
  rfl
@[simp] theorem callE_some {dn : Den} {ks : List Str} {ops : List Sop} {π : List Nat} : callE (some dn) ks ops π ρ = callD dn ks ops π ρ := (rfl)
@[simp] theorem callD_eq {dn : Den} {ks : List Str} {ops : List Sop} {π : List Nat} : callD dn ks ops π ρ = (runO ops ρ).bind fun q => match arr ks π q.1 with
  | some os => match argD dn.io os q.2 with
    | some (ds, ρ1) => match dn.m ds with
      | .ok r outs => match backD dn.io os outs ρ1 with
        | some ρ2 => .ok (r, ρ2)
        | none => .no
      | .ex x outs => match backD dn.io os outs ρ1 with
        | some ρ2 => .ex x ρ2
        | none => .no
      | .no => .no
    | none => .no
  | none => .no := (rfl)
theorem runO_v {i : Nat} {r : List Sop} {d : D} (h : ρ[i]? = some (some d)) : runO (.v i :: r) ρ = (runO r ρ).bind fun q => .ok (.v i :: q.1, q.2) := by
  simp only [runO, h]
theorem runO_p {i : Nat} {path : List PK} {r : List Sop} {d x : D} (h : ρ[i]? = some (some d)) (h2 : getP path d = some x) : runO (.p i path :: r) ρ = (runO r (ρ.set i none)).bind fun q => .ok (.p i path d :: q.1, q.2) := by
  simp only [runO, h, h2]
theorem rdE_some {i : Nat} {d : PyData} (h : ρ[i]? = some (some (.sh d))) : rdE i ρ = .ok (.sh d, ρ) := by
  simp only [rdE, h]
theorem mvE_some {i : Nat} {d : D} (h : ρ[i]? = some (some d)) : mvE i ρ = .ok (d, ρ.set i none) := by
  simp only [mvE, h]
end
end Vs
/-! V29: operations on known values. -/
namespace Vs
open PySem PySem.Spec L2
open PyProof.Rows hiding St
theorem lay_ints (l : List Int) : PyData.canLayAll0 (l.map .int) = true := by
  induction l with
  | nil => rfl
  | cons a l ih => simp [PyData.canLayAll0, PyData.canLay0, ih]
theorem depth_ints (l : List Int) : PyData.depthAll (l.map .int) = 0 := by
  induction l with
  | nil => rfl
  | cons a l ih => simp [PyData.depthAll, PyData.depth, ih]
@[simp] theorem shaped_ints (l : List Int) : SeqAt.shaped (.list (l.map .int)) = true := by
  simp [SeqAt.shaped, PyData.canLay0, lay_ints, PyData.depth, depth_ints]
@[simp] theorem shaped_intsT (l : List Int) : SeqAt.shaped (.tuple (l.map .int)) = true := by
  simp [SeqAt.shaped, PyData.canLay0, lay_ints, PyData.depth, depth_ints]
@[simp] theorem shaped_nil : SeqAt.shaped (.list []) = true := (rfl)
@[simp] theorem shaped_nilT : SeqAt.shaped (.tuple []) = true := (rfl)
@[simp] theorem shaped_int (i : Int) : SeqAt.shaped (.int i) = true := (rfl)
@[simp] theorem shaped_bool (i : Bool) : SeqAt.shaped (.bool i) = true := (rfl)
@[simp] theorem shaped_none : SeqAt.shaped .none = true := (rfl)
@[simp] theorem eqv_nil : PyData.eqv (.list []) (.list []) = true := (rfl)
@[simp] theorem eqv_cons_nil {a : PyData} {l : List PyData} : PyData.eqv (.list (a :: l)) (.list []) = false := (rfl)
@[simp] theorem eqv_nil_cons {a : PyData} {l : List PyData} : PyData.eqv (.list []) (.list (a :: l)) = false := (rfl)
@[simp] theorem eqv_int {i j : Int} : PyData.eqv (.int i) (.int j) = (i == j) := by simp only [PyData.eqv]
@[simp] theorem eqv_str {i j : Str} : PyData.eqv (.str i) (.str j) = (i == j) := by simp only [PyData.eqv]
@[simp] theorem oAdd_int {i j : Int} : oAdd (.sh (.int i)) (.sh (.int j)) = some (.sh (.int (i + j))) := (rfl)
@[simp] theorem oMul_int {i j : Int} : oMul (.sh (.int i)) (.sh (.int j)) = guardO (small64b i || small64b j) (.sh (.int (i * j))) := (rfl)
@[simp] theorem oInt2_int {f : Int → Int → Int} {c : Int → Int → Bool} {i j : Int} : oInt2 f c (.sh (.int i)) (.sh (.int j)) = guardO (c i j) (.sh (.int (f i j))) := (rfl)
@[simp] theorem oCmpI_int {f : Int → Int → Bool} {i j : Int} : oCmpI f (.sh (.int i)) (.sh (.int j)) = some (.sh (.bool (f i j))) := (rfl)
@[simp] theorem oInt_int {i : Int} : oInt (.sh (.int i)) = some (.sh (.int i)) := (rfl)
@[simp] theorem oInt_bool {i : Bool} : oInt (.sh (.bool i)) = some (.sh (.int (if i = true then 1 else 0))) := by cases i <;> rfl
@[simp] theorem oAbs_int {i : Int} : oAbs (.sh (.int i)) = some (.sh (.int (if i < 0 then -i else i))) := (rfl)
@[simp] theorem oNeg_int {i : Int} : oNeg (.sh (.int i)) = some (.sh (.int (-i))) := (rfl)
@[simp] theorem oLen_ls {ds : List D} : oLen (.ls ds) = some (.sh (.int ds.length)) := (rfl)
@[simp] theorem oLen_list {ds : List PyData} : oLen (.sh (.list ds)) = some (.sh (.int ds.length)) := (rfl)
@[simp] theorem oLen_tuple {ds : List PyData} : oLen (.sh (.tuple ds)) = some (.sh (.int ds.length)) := (rfl)
@[simp] theorem py_sh {d : PyData} : D.py (.sh d) = some d := by simp only [D.py]
@[simp] theorem py_ls {ds : List D} : D.py (.ls ds) = (match D.pys ds with | some l => some (.list l) | none => none) := by
  rw [D.py]
  try rfl
@[simp] theorem pys_nil : D.pys [] = some [] := by simp only [D.pys]
@[simp] theorem pys_cons {d : D} {ds : List D} : D.pys (d :: ds) = (match D.py d, D.pys ds with
    | some x, some l => some (x :: l)
    | _, _ => none) := by
  rw [D.pys]
  try rfl
@[simp] theorem fz_dd {ks : List PyData} {ds : List D} : D.fz (.dd ks ds) = none := by unfold D.fz; rfl
@[simp] theorem fz_sh {d : PyData} : D.fz (.sh d) = some d := by simp only [D.fz]
@[simp] theorem fzs_sh (l : List PyData) : D.fzs (l.map .sh) = some l := by
  induction l with
  | nil => simp only [List.map_nil, D.fzs]
  | cons a l ih => simp only [List.map_cons, D.fzs, D.fz, ih]
theorem fz_ls {ds : List D} {l : List PyData} (h : D.fzs ds = some l) : D.fz (.ls ds) = some (.list l) := by simp only [D.fz, h]
@[simp] theorem fz_lsh (l : List PyData) : D.fz (.ls (l.map .sh)) = some (.list l) := fz_ls (fzs_sh l)
@[simp] theorem pys_comp (l : List Int) : D.pys (l.map (D.sh ∘ PyData.int)) = some (l.map .int) := by
  rw [← List.map_map]
  exact pys_map _
@[simp] theorem shaped_icons (a : Int) (l : List Int) : SeqAt.shaped (.list (.int a :: l.map .int)) = true := shaped_ints (a :: l)
theorem small_of {i : Int} (h : i.natAbs < 18446744073709551616) : small64b i = true := by simp [small64b, h]
section
variable {a b : D} {ρ : Env} {os : List Ov} {pr : List Nat}
@[simp] theorem opD_add : opD .add [a, b] = oAdd a b := (rfl)
@[simp] theorem opD_sub : opD .sub [a, b] = oInt2 (fun i j => i - j) (fun _ _ => true) a b := (rfl)
@[simp] theorem opD_mul : opD .mul [a, b] = oMul a b := (rfl)
@[simp] theorem opD_fdiv : opD .fdiv [a, b] = oInt2 (fun i j => i / j) (fun _ j => decide (0 < j) && decide (j < 1073741824)) a b := (rfl)
@[simp] theorem opD_mod : opD .mod [a, b] = oInt2 (fun i j => i % j) (fun _ j => decide (0 < j)) a b := (rfl)
@[simp] theorem opD_pow : opD .pow [a, b] = oInt2 (fun i j => i ^ j.toNat) powOk a b := (rfl)
@[simp] theorem opD_lt : opD .lt [a, b] = oCmpI (fun i j => decide (i < j)) a b := (rfl)
@[simp] theorem opD_le : opD .le [a, b] = oLe a b := (rfl)
@[simp] theorem opD_dctP : opD .dctP [a] = oDct a := (rfl)
@[simp] theorem opD_str : opD .str [a] = oStr a := (rfl)
@[simp] theorem oLe_int {i j : Int} : oLe (.sh (.int i)) (.sh (.int j)) = some (.sh (.bool (decide (i ≤ j)))) := (rfl)
@[simp] theorem itF_items1 : itF .items [a] = itemsD a := (rfl)
@[simp] theorem opD_gt : opD .gt [a, b] = oCmpI (fun i j => decide (j < i)) a b := (rfl)
@[simp] theorem opD_ge : opD .ge [a, b] = oCmpI (fun i j => decide (j ≤ i)) a b := (rfl)
@[simp] theorem opD_eq : opD .eq [a, b] = oEq false a b := (rfl)
@[simp] theorem opD_ne : opD .ne [a, b] = oEq true a b := (rfl)
@[simp] theorem opD_isin : opD .isin [a, b] = oIn false a b := (rfl)
@[simp] theorem opD_notin : opD .notin [a, b] = oIn true a b := (rfl)
@[simp] theorem opD_is_ : opD .is_ [a, b] = oIs false a b := (rfl)
@[simp] theorem opD_isnot : opD .isnot [a, b] = oIs true a b := (rfl)
@[simp] theorem opD_ix : opD .ix [a, b] = oIx a b := (rfl)
@[simp] theorem opD_neg : opD .neg [a] = oNeg a := (rfl)
@[simp] theorem opD_sl : opD .sl [a] = oSl none none a := (rfl)
@[simp] theorem opD_len : opD .len [a] = oLen a := (rfl)
@[simp] theorem opD_abs : opD .abs [a] = oAbs a := (rfl)
@[simp] theorem opD_int : opD .int [a] = oInt a := (rfl)
@[simp] theorem opD_repr : opD .repr [a] = oRepr a := (rfl)
@[simp] theorem opD_list : opD .list [a] = oList a := (rfl)
@[simp] theorem opD_tuple : opD .tuple [a] = oTuple a := (rfl)
@[simp] theorem opD_sorted : opD .sorted [a] = oSorted a := (rfl)
@[simp] theorem opD_sum : opD .sum [a] = oSum a := (rfl)
@[simp] theorem opD_all : opD .all [a] = oAll a := (rfl)
@[simp] theorem opD_any : opD .any [a] = oAny a := (rfl)
@[simp] theorem opD_slH {k : Int} : opD .slH [a, .sh (.int k)] = oSl none (some k) a := (rfl)
@[simp] theorem opD_slL {k : Int} : opD .slL [a, .sh (.int k)] = oSl (some k) none a := (rfl)
@[simp] theorem opD_slLH {k l : Int} : opD .slLH [a, .sh (.int k), .sh (.int l)] = oSl (some k) (some l) a := (rfl)
@[simp] theorem opD_isi {t : Ty} : opD (.isi t) [a] = oIsi t a := (rfl)
@[simp] theorem ovs_nil : ovs [] ρ = some [] := (rfl)
@[simp] theorem ovs_d : ovs (.d a :: os) ρ = (match ovs os ρ with | some l => some (a :: l) | none => none) := (rfl)
@[simp] theorem ovs_v {i : Nat} : ovs (.v i :: os) ρ = (match ρ[i]?, ovs os ρ with | some (some d), some l => some (d :: l) | _, _ => none) := (rfl)
@[simp] theorem ovs_p {i : Nat} {p : List PK} : ovs (.p i p a :: os) ρ = (match getP p a, ovs os ρ with | some x, some l => some (x :: l) | _, _ => none) := (rfl)
@[simp] theorem ods_nil : ods [] = some [] := (rfl)
@[simp] theorem ods_d : ods (.d a :: os) = (match ods os with | some l => some (a :: l) | none => none) := (rfl)
@[simp] theorem unlock_nil : unlock [] ρ = some ρ := (rfl)
@[simp] theorem unlock_d : unlock (.d a :: os) ρ = unlock os ρ := (rfl)
@[simp] theorem unlock_v {i : Nat} : unlock (.v i :: os) ρ = unlock os ρ := (rfl)
@[simp] theorem unlock_p {i : Nat} {p : List PK} : unlock (.p i p a :: os) ρ = (match unlock os ρ with | some ρ' => (match ρ'[i]? with | some none => some (ρ'.set i (some a)) | _ => none) | none => none) := (rfl)
@[simp] theorem bindT_nm {i : Nat} : bindT [] (.nm i) a ρ = (if i < ρ.length then some (ρ.set i (some a)) else none) := (rfl)
@[simp] theorem bindT_tps {is : List Nat} {l : List PyData} : bindT [] (.tp is) (.sh (.tuple l)) ρ = setAll [] is (l.map .sh) ρ := (rfl)
@[simp] theorem bindT_tn {i : Nat} {js : List Nat} {p : PyData} {l : List PyData} : bindT [] (.tn i js) (.sh (.tuple [p, .tuple l])) ρ = (match setN [] i (.sh p) ρ with
  | some ρ' => setAll [] js (l.map .sh) ρ'
  | none => none) := (rfl)
@[simp] theorem bindT_tp {is : List Nat} {l : List D} : bindT [] (.tp is) (.tp l) ρ = setAll [] is l ρ := (rfl)
@[simp] theorem setAll_nil : setAll pr [] [] ρ = some ρ := (rfl)
@[simp] theorem setAll_cons {i : Nat} {is : List Nat} {ds : List D} : setAll [] (i :: is) (a :: ds) ρ = (if i < ρ.length then setAll [] is ds (ρ.set i (some a)) else none) := by
  rw [setAll]
  simp only [setN]
  by_cases h : i < ρ.length <;> simp [h]
@[simp] theorem outsE_nil : outsE [] ρ = some [] := (rfl)
@[simp] theorem outsE_f {o : Option D} {io : List Bool} : outsE (false :: io) (o :: ρ) = outsE io ρ := (rfl)
@[simp] theorem outsE_t {o : Option D} {io : List Bool} : outsE (true :: io) (o :: ρ) = (match o, outsE io ρ with | some d, some l => some (d :: l) | _, _ => none) := (rfl)
@[simp] theorem wipe_nil : wipeE ρ [] = ρ := (rfl)
@[simp] theorem wipe_cons {i : Nat} {is : List Nat} : wipeE ρ (i :: is) = (wipeE ρ is).set i none := (rfl)
@[simp] theorem seq_DL {l : List PyData} : (D.ls (l.map .sh)).seq = some (.lst, l) := by simp only [D.seq, unsh_map]
@[simp] theorem seq_list {l : List PyData} : (D.sh (.list l)).seq = some (.lst, l) := (rfl)
@[simp] theorem seq_tuple {l : List PyData} : (D.sh (.tuple l)).seq = some (.tup, l) := (rfl)
@[simp] theorem itF_seq : itF .seq [a] = (match a.seq with | some (_, l) => some l | none => none) := (rfl)
@[simp] theorem itF_rev1 : itF .rev [a] = (match a.seq with | some (_, l) => some l.reverse | none => none) := (rfl)
@[simp] theorem itF_enum1 : itF .enum [a] = (match a.seq with | some (_, l) => some (enumD 0 l) | none => none) := (rfl)
theorem itF_rngI {n : Int} : itF .rng [.sh (.int n)] = (if n < 16777216 ∧ -16777216 < n then some (rngD 0 n.toNat) else none) := (rfl)
theorem itF_rngN {n : Nat} (h : n < 16777216) : itF .rng [.sh (.int (n : Int))] = some (rngD 0 n) := by
  rw [itF_rngI, if_pos ⟨by omega, by omega⟩, Int.toNat_natCast]
@[simp] theorem oSl_list {l : List PyData} {x y : Option Int} : oSl x y (.sh (.list l)) = some (.ls ((cutL l x y).map .sh)) := (rfl)
@[simp] theorem oSl_tuple {l : List PyData} {x y : Option Int} : oSl x y (.sh (.tuple l)) = some (.sh (.tuple (cutL l x y))) := (rfl)
theorem cut_H {l : List PyData} {k : Int} (h : 0 ≤ k) : cutL l none (some k) = l.take k.toNat := by
  unfold cutL
  simp only [HT.sIx]
  rw [if_neg (by omega), List.drop_zero, Nat.sub_zero]
  by_cases hk : k.toNat ≤ l.length
  · rw [Nat.min_eq_left hk]
  · rw [Nat.min_eq_right (by omega), List.take_of_length_le (Nat.le_refl _), List.take_of_length_le (by omega)]
@[simp] theorem oList_list {l : List PyData} : oList (.sh (.list l)) = some (.ls (l.map .sh)) := (rfl)
@[simp] theorem oList_tuple {l : List PyData} : oList (.sh (.tuple l)) = some (.ls (l.map .sh)) := (rfl)
@[simp] theorem oTuple_ls {l : List PyData} : oTuple (.ls (l.map .sh)) = some (.sh (.tuple l)) := by simp only [oTuple, seq_DL]
@[simp] theorem argD_nil : argD [] [] ρ = some ([], ρ) := (rfl)
@[simp] theorem argD_f {io : List Bool} : argD (false :: io) (.d a :: os) ρ = (match argD io os ρ with | some (l, ρ') => some (a :: l, ρ') | none => none) := (rfl)
@[simp] theorem argD_t {io : List Bool} {i : Nat} : argD (true :: io) (.v i :: os) ρ = (match ρ[i]? with | some (some d) => (match argD io os (ρ.set i none) with | some (l, ρ') => some (d :: l, ρ') | none => none) | _ => none) := (rfl)
@[simp] theorem backD_nil : backD [] [] [] ρ = some ρ := (rfl)
@[simp] theorem backD_f {io : List Bool} {o : Ov} {outs : List D} : backD (false :: io) (o :: os) outs ρ = backD io os outs ρ := by cases outs <;> rfl
@[simp] theorem backD_t {io : List Bool} {i : Nat} {outs : List D} : backD (true :: io) (.v i :: os) (a :: outs) ρ = (match ρ[i]? with | some none => backD io os outs (ρ.set i (some a)) | _ => none) := (rfl)
@[simp] theorem arr_nil {π : List Nat} : arr [] π os = some os := (rfl)
end
end Vs
/-! V30: loops of the evaluator, by invariants. -/
namespace Vs
open PySem PySem.Spec L2
open PyProof.Rows hiding St
theorem lcL_filter {own : List Nat} {t : Tg} {test : TF} {f : EF} {ρ : Env} (b : PyData → Bool) (g : PyData → D) : ∀ (ps : List PyData) (acc : List D), (∀ p ∈ ps, ∃ ρ1, bindT [] t (.sh p) ρ = some ρ1 ∧ test ρ1 = .ok (b p, ρ1) ∧ (b p = true → f ρ1 = .ok (g p, ρ1)) ∧ wipeE ρ1 own = ρ) → acc.length + ps.length ≤ 1000000 →
    lcL own t test f ps ρ acc = some (acc ++ (ps.filter b).map g, ρ)
  | [], acc, _, _ => by simp [lcL]
  | p :: ps, acc, h, hl => by
    obtain ⟨ρ1, h1, h2, h3, h4⟩ := h p List.mem_cons_self
    have hl' : acc.length + ps.length + 1 ≤ 1000000 := by simpa [Nat.add_assoc] using hl
    unfold lcL
    simp only [h1, h2]
    cases e : b p with
    | false =>
      simp only [h4]
      rw [lcL_filter b g ps acc (fun q hq => h q (List.mem_cons_of_mem _ hq)) (by omega)]
      simp [e]
    | true =>
      simp only [h3 e, h4]
      rw [if_pos (by omega), lcL_filter b g ps (acc ++ [g p]) (fun q hq => h q (List.mem_cons_of_mem _ hq)) (by simp; omega)]
      simp [e]
theorem lcL_map {own : List Nat} {t : Tg} {test : TF} {f : EF} {ρ : Env} (g : PyData → D) (ps : List PyData) (h : ∀ p ∈ ps, ∃ ρ1, bindT [] t (.sh p) ρ = some ρ1 ∧ test ρ1 = .ok (true, ρ1) ∧ f ρ1 = .ok (g p, ρ1) ∧ wipeE ρ1 own = ρ) (hl : ps.length ≤ 1000000) :
    lcL own t test f ps ρ [] = some (ps.map g, ρ) := by
  have := lcL_filter (own := own) (t := t) (test := test) (f := f) (ρ := ρ) (fun _ => true) g ps [] (fun p hp => by
    obtain ⟨ρ1, h1, h2, h3, h4⟩ := h p hp
    exact ⟨ρ1, h1, h2, fun _ => h3, h4⟩) (by simpa using hl)
  rw [List.filter_eq_self.mpr (fun _ _ => rfl)] at this
  simpa using this
/-- with something that goes along (a pot of draws) -/
theorem lcL_inv {own : List Nat} {t : Tg} {test : TF} {f : EF} (I : Nat → Env → List D → Prop) : ∀ (ps : List PyData) (k : Nat) (ρ : Env) (acc : List D), I k ρ acc → (∀ i p ρ acc, ps[i]? = some p → I (k + i) ρ acc → acc.length < 1000000 ∧ ∃ ρ1, bindT [] t (.sh p) ρ = some ρ1 ∧
      ((∃ ρ2 d ρ3, test ρ1 = .ok (true, ρ2) ∧ f ρ2 = .ok (d, ρ3) ∧ I (k + i + 1) (wipeE ρ3 own) (acc ++ [d])) ∨ ∃ ρ2, test ρ1 = .ok (false, ρ2) ∧ I (k + i + 1) (wipeE ρ2 own) acc)) →
    ∃ acc' ρ', lcL own t test f ps ρ acc = some (acc', ρ') ∧ I (k + ps.length) ρ' acc'
  | [], k, ρ, acc, h0, _ => ⟨acc, ρ, rfl, h0⟩
  | p :: ps, k, ρ, acc, h0, hs => by
    obtain ⟨hl, ρ1, h1, h2⟩ := hs 0 p ρ acc rfl h0
    have next : ∀ ρ' acc', I (k + 1) ρ' acc' → ∃ acc2 ρ2, lcL own t test f ps ρ' acc' = some (acc2, ρ2) ∧ I (k + (ps.length + 1)) ρ2 acc2 := fun ρ' acc' h => by
      obtain ⟨a, r, e, q⟩ := lcL_inv I ps (k + 1) ρ' acc' h fun i p ρ acc hp hi => by
        have := hs (i + 1) p ρ acc (by simpa using hp) (by rwa [show k + (i + 1) = k + 1 + i by omega])
        rwa [show k + (i + 1) = k + 1 + i by omega] at this
      exact ⟨a, r, e, by rw [show k + (ps.length + 1) = k + 1 + ps.length by omega]; exact q⟩
    unfold lcL
    simp only [h1]
    rcases h2 with ⟨ρ2, d, ρ3, h2, h3, h4⟩ | ⟨ρ2, h2, h4⟩
    · simp only [h2, h3, if_pos hl]
      exact next _ _ h4
    · simp only [h2]
      exact next _ _ h4
/-- a for that runs to its end -/
theorem lopL_run {t : Tg} {b : SF} (I : Nat → Env → Prop) : ∀ (ps : List PyData) (k : Nat) (ρ : Env), I k ρ → (∀ i p ρ, ps[i]? = some p → I (k + i) ρ → ∃ ρ1 ρ2, bindT [] t (.sh p) ρ = some ρ1 ∧ (b ρ1 = .nx ρ2 ∨ b ρ1 = .ct ρ2) ∧ I (k + i + 1) ρ2) → ∃ ρ', lopL t b ps ρ = .nx ρ' ∧ I (k + ps.length) ρ'
  | [], k, ρ, h0, _ => ⟨ρ, rfl, h0⟩
  | p :: ps, k, ρ, h0, hs => by
    obtain ⟨ρ1, ρ2, h1, h2, h3⟩ := hs 0 p ρ rfl h0
    obtain ⟨r, e, q⟩ := lopL_run I ps (k + 1) ρ2 h3 fun i p ρ hp hi => by
      have := hs (i + 1) p ρ (by simpa using hp) (by rwa [show k + (i + 1) = k + 1 + i by omega])
      rwa [show k + (i + 1) = k + 1 + i by omega] at this
    refine ⟨r, ?_, by rw [List.length_cons, show k + (ps.length + 1) = k + 1 + ps.length by omega]; exact q⟩
    unfold lopL
    simp only [h1]
    rcases h2 with h2 | h2 <;> (simp only [h2]; exact e)
/-- a while that runs to its end: a measure -/
theorem whL_run {c : TF} {b : SF} (I : Nat → Env → Prop) (hs : ∀ m ρ, I m ρ → (∃ ρ1, c ρ = .ok (false, ρ1) ∧ I 0 ρ1) ∨ ∃ ρ1 ρ2 m', c ρ = .ok (true, ρ1) ∧ (b ρ1 = .nx ρ2 ∨ b ρ1 = .ct ρ2) ∧ m' < m ∧ I m' ρ2) : ∀ (n m : Nat) (ρ : Env), I m ρ → m < n → ∃ ρ', whL c b n ρ = .nx ρ' ∧ I 0 ρ'
  | 0, m, ρ, _, h => absurd h (Nat.not_lt_zero _)
  | n + 1, m, ρ, h0, hn => by
    rcases hs m ρ h0 with ⟨ρ1, h1, h2⟩ | ⟨ρ1, ρ2, m', h1, h2, h3, h4⟩
    · exact ⟨ρ1, by simp [whL, h1], h2⟩
    · obtain ⟨r, e, q⟩ := whL_run I hs n m' ρ2 h4 (by omega)
      refine ⟨r, ?_, q⟩
      rcases h2 with h2 | h2 <;> (simp [whL, h1, h2]; exact e)
theorem lopF_eq {t : Tg} {k : ItK} {ops : List Sop} {b : SF} {ρ : Env} : lopF t k ops b ρ = (runO ops ρ).out fun q => match ovs q.1 [] with
  | some ds => match itF k ds with
    | some ps => (lopL t b ps q.2).back (unlock q.1)
    | none => .no
  | none => .no := (rfl)
theorem lcE_eq {own : List Nat} {t : Tg} {k : ItK} {ops : List Sop} {test : TF} {f : EF} {ρ : Env} : lcE own t k ops test f ρ = (runO ops ρ).bind fun q => match ovs q.1 [] with
  | some ds => match itF k ds with
    | some ps => match lcL own t test f ps (wipeE q.2 own) [] with
      | some z => match unlock q.1 z.2 with
        | some ρ' => .ok (.ls z.1, ρ')
        | none => .no
      | none => .no
    | none => .no
  | none => .no := (rfl)
@[simp] theorem ifT_nil {ρ : Env} : ifT [] ρ = .ok (true, ρ) := (rfl)
@[simp] theorem ifT_one {c : TF} {ρ : Env} : ifT [c] ρ = c ρ := (rfl)
theorem lopF_run {t : Tg} {k : ItK} {ops : List Sop} {b : SF} {ρ ρ1 ρ2 ρ3 : Env} {os : List Ov} {ds : List D} {ps : List PyData} (e1 : runO ops ρ = .ok (os, ρ1)) (e2 : ovs os [] = some ds) (e3 : itF k ds = some ps) (e4 : lopL t b ps ρ1 = .nx ρ2) (e5 : unlock os ρ2 = some ρ3) : lopF t k ops b ρ = .nx ρ3 := by
  rw [lopF_eq, e1, out_ok]
  simp only [e2, e3, e4, back_nx, e5]
end Vs
/-! V31: lists that are written, on known values. -/
namespace Vs
open PySem PySem.Spec L2
open PyProof.Rows hiding St
theorem ixN_some {n : Nat} {r : Int} (h0 : 0 ≤ r) (h1 : r < n) : ixN n r = some r.toNat := by
  unfold ixN
  rw [if_pos h0, if_pos h1]
theorem erase_map {α β : Type} (f : α → β) : ∀ (l : List α) (j : Nat), (l.map f).eraseIdx j = (l.eraseIdx j).map f
  | [], _ => rfl
  | _ :: _, 0 => rfl
  | a :: l, j + 1 => by simp [erase_map f l j]
theorem popAt_ok {l : List PyData} {r : Int} {x : PyData} (h0 : 0 ≤ r) (h1 : r < l.length) (hx : l[r.toNat]? = some x) (hl : l.length < 1000000) : mo .popAt (l.map .sh) [.sh (.int r)] = some ((l.eraseIdx r.toNat).map .sh, .sh x) := by
  have h2 : (l.map D.sh)[r.toNat]? = some (.sh x) := by rw [List.getElem?_map, hx]; rfl
  simp only [mo, moPopAt, List.length_map, ixN_some h0 h1, h2, if_pos hl, erase_map]
theorem append_ok {l : List PyData} {x : PyData} (hl : l.length < 1000000) : mo .append (l.map .sh) [.sh x] = some ((l ++ [x]).map .sh, .sh .none) := by
  simp [mo, moAppend, hl]
theorem pop_ok {l : List PyData} {x : PyData} (hx : l.getLast? = some x) : mo .pop (l.map .sh) [] = some (l.dropLast.map .sh, .sh x) := by
  simp [mo, moPop, List.getLast?_map, hx, List.map_dropLast]
theorem mem_erase {α : Type} : ∀ {l : List α} {j : Nat} {x : α}, x ∈ l.eraseIdx j → x ∈ l
  | [], _, _, h => h
  | _ :: _, 0, _, h => List.mem_cons_of_mem _ h
  | a :: l, j + 1, x, h => by
    rcases List.mem_cons.mp h with rfl | h
    · exact List.mem_cons_self
    · exact List.mem_cons_of_mem _ (mem_erase h)
theorem len_erase {α : Type} : ∀ {l : List α} {j : Nat}, j < l.length → (l.eraseIdx j).length + 1 = l.length
  | a :: l, 0, _ => rfl
  | a :: l, j + 1, h => by
    have := len_erase (l := l) (j := j) (by simpa using h)
    simp [this]
theorem runD_rt {n : Nat} {io : List Bool} {b : SF} {ds : List D} {ρ0 ρ : Env} {d : D} {l : List D} (h1 : ds.length = io.length) (h0 : ds.map some ++ List.replicate (n - ds.length) none = ρ0) (h2 : b ρ0 = .rt d ρ) (h3 : outsE io ρ = some l) : runD n io b ds = .ok d l := by
  unfold runD
  rw [if_pos h1, h0, h2]
  simp only [h3]
theorem runD_nx {n : Nat} {io : List Bool} {b : SF} {ds : List D} {ρ0 ρ : Env} {l : List D} (h1 : ds.length = io.length) (h0 : ds.map some ++ List.replicate (n - ds.length) none = ρ0) (h2 : b ρ0 = .nx ρ) (h3 : outsE io ρ = some l) : runD n io b ds = .ok (.sh .none) l := by
  unfold runD
  rw [if_pos h1, h0, h2]
  simp only [h3]
/-- one statement, then the rest -/
theorem gos_step {Γ : Gam} {s : Sm} {r : List Sm} {ρ ρ1 : Env} {o : Out} (h1 : go Γ s ρ = .nx ρ1) (h2 : gos Γ r ρ1 = o) : gos Γ (s :: r) ρ = o := by
  rw [gos_cons, h1, seq_nx, h2]
theorem gos_last {Γ : Gam} {s : Sm} {r : List Sm} {ρ ρ1 : Env} {d : D} (h1 : go Γ s ρ = .rt d ρ1) : gos Γ (s :: r) ρ = .rt d ρ1 := by
  rw [gos_cons, h1, seq_rt]
theorem lcE_run {own : List Nat} {t : Tg} {k : ItK} {ops : List Sop} {test : TF} {f : EF} {ρ ρ1 ρ2 ρ3 : Env} {os : List Ov} {ds acc : List D} {ps : List PyData} (e1 : runO ops ρ = .ok (os, ρ1)) (e2 : ovs os [] = some ds) (e3 : itF k ds = some ps) (e4 : lcL own t test f ps (wipeE ρ1 own) [] = some (acc, ρ2)) (e5 : unlock os ρ2 = some ρ3) : lcE own t k ops test f ρ = .ok (.ls acc, ρ3) := by
  rw [lcE_eq, e1, bind_ok']
  simp only [e2, e3, e4, e5]
theorem oAdd_lss {l m : List PyData} (h : l.length + m.length ≤ 1000000) : oAdd (.ls (l.map .sh)) (.ls (m.map .sh)) = some (.ls ((l ++ m).map .sh)) := by
  have : l.length + m.length ≤ sizeLine := by rw [sizeLine_eq]; omega
  simp only [oAdd, unsh_map, decide_eq_true this, guardO_true]
theorem oAdd_tups {l m : List PyData} (h : l.length + m.length ≤ 1000000) : oAdd (.sh (.tuple l)) (.sh (.tuple m)) = some (.sh (.tuple (l ++ m))) := by
  have : l.length + m.length ≤ sizeLine := by rw [sizeLine_eq]; omega
  simp only [oAdd, decide_eq_true this, guardO_true]
end Vs
/-! V32: constants of the module, read from the written part. -/
namespace Vs
open PySem PySem.Spec L2
open PyProof.Rows hiding St
def isTupO (o : Obj) : Option (List Value) := match o.cls, o.data with
  | .type n, .seq its _ => if n = "tuple" ∧ its.size ≤ sizeLine ∧ o.dict = none then some its.toList else none
  | _, _ => none
mutual
def conB (K : PySem.W.Frag) (u : Value) (p : PyData) : Bool := match p with
  | .none => (match u with | .none => true | _ => false)
  | .bool c => (match u with | .bool b => b == c | _ => false)
  | .int j => (match u with | .int i _ => decide (i = j) | _ => false)
  | .str y => (match u with | .str x _ => decide (x = y) | _ => false)
  | .tuple l => (match u with
    | .ref a => (match K.lookup a with
      | some o => (match isTupO o with
        | some us => conBs K us l
        | none => false)
      | none => false)
    | _ => false)
  | _ => false
def conBs (K : PySem.W.Frag) (us : List Value) (l : List PyData) : Bool := match l with
  | [] => us.isEmpty
  | p :: l => (match us with
    | u :: us => conB K u p && conBs K us l
    | [] => false)
end
theorem isTupO_is {K : PySem.W.Frag} {a : Addr} {o : Obj} {us : List Value} {xs : List V} (h : isTupO o = some us) (hk : K.lookup a = some o) (r : Vals xs us) (H : Hp) : SqN K H a xs := by
  unfold isTupO at h
  split at h
  · rename_i n its k e1 e2
    split at h
    · rename_i hc
      cases h
      exact .inr ⟨o, its, k, hk, by rw [e1, hc.1], hc.2.2, e2, hc.2.1, r⟩
    · cases h
  · cases h
mutual
theorem con_ok {G : Ga} : ∀ (p : PyData) {u : Value}, conB G.K u p = true → ∃ v, RelV v u ∧ ∀ H, DpF G.K H v p
  | .none, u, h => by
    unfold conB at h
    cases u <;> first | exact ⟨.non, rfl, fun _ => .non⟩ | cases h
  | .bool c, u, h => by
    unfold conB at h
    split at h
    · cases eq_of_beq h
      exact ⟨.bl _, rfl, fun _ => .bl _⟩
    · cases h
  | .int j, u, h => by
    unfold conB at h
    split at h
    · cases of_decide_eq_true h
      exact ⟨.int _, ⟨_, rfl⟩, fun _ => .int _⟩
    · cases h
  | .str y, u, h => by
    unfold conB at h
    split at h
    · cases of_decide_eq_true h
      exact ⟨.str _, ⟨_, rfl⟩, fun _ => .str _⟩
    · cases h
  | .tuple l, u, h => by
    unfold conB at h
    split at h
    · rename_i a
      split at h
      · rename_i o hk
        split at h
        · rename_i us ho
          obtain ⟨xs, r, d⟩ := cons_ok l h
          exact ⟨.ref a, rfl, fun H => .tup (isTupO_is ho hk r H) (d H)⟩
        · cases h
      · cases h
    · cases h
  | .list _, u, h => by unfold conB at h; cases h
  | .dict _, u, h => by unfold conB at h; cases h
theorem cons_ok {G : Ga} : ∀ (l : List PyData) {us : List Value}, conBs G.K us l = true → ∃ xs, Vals xs us ∧ ∀ H, DpFs G.K H xs l
  | [], us, h => by
    unfold conBs at h
    have : us = [] := by simpa using h
    subst this
    exact ⟨[], .nil, fun _ => .nil⟩
  | p :: l, us, h => by
    unfold conBs at h
    split at h
    · rename_i u us
      rw [Bool.and_eq_true] at h
      obtain ⟨v, r, d⟩ := con_ok p h.1
      obtain ⟨xs, rs, ds⟩ := cons_ok l h.2
      exact ⟨v :: xs, .cons r rs, fun H => .cons (d H) (ds H)⟩
    · cases h
end
end Vs
/-! VW: own exception classes, from what the written part says. -/
namespace Vs
open PySem PySem.Spec L2
open PyProof.Rows hiding St
/-- the item j of the class text -/
def inCls (st : Stmt) (j : Nat) : Stmt := match st with
  | .ClassDef _ _ _ b _ _ _ _ _ _ _ => b.getD j (.Pass ⟨0, 0, 0, 0⟩)
  | _ => .Pass ⟨0, 0, 0, 0⟩
/-- the address of a class of the module -/
def clK (K : PySem.W.Frag) : Str → Option Addr := fun x => match PySem.W.nsIn K mainGlobals x with
  | some (some (.ref C)) => some C
  | _ => none
theorem clK_of {K : PySem.W.Frag} {x : Str} {C : Addr} (h : PySem.W.nsIn K mainGlobals x = some (some (.ref C))) : clK K x = some C := by
  unfold clK
  rw [h]
def scIB (sc : Scope) : Bool := decide (sc.names.lookup ("super" : Str) = some .globalImplicit) && decide (sc.names.lookup ("__class__" : Str) = some .free) && decide (sc.names.lookup ("self" : Str) = some .local) && sc.names.all (fun x => decide (x.2 ≠ .cell)) && (match sc.kind with
  | .function => true
  | _ => false) && !sc.isCoroutine && !sc.isGenerator
structure ScI (sc : Scope) : Prop where
  hks : sc.names.lookup ("super" : Str) = some .globalImplicit
  hkc : sc.names.lookup ("__class__" : Str) = some .free
  hsl : sc.names.lookup ("self" : Str) = some .local
  hcell : ∀ x ∈ sc.names, x.2 ≠ .cell
  kind : sc.kind = .function
  co : sc.isCoroutine = false
  gen : sc.isGenerator = false
theorem scIB_ok {sc : Scope} (h : scIB sc = true) : ScI sc := by
  unfold scIB at h
  simp only [Bool.and_eq_true, decide_eq_true_eq, Bool.not_eq_true', List.all_eq_true] at h
  obtain ⟨⟨⟨⟨⟨⟨h1, h2⟩, h3⟩, h4⟩, h5⟩, h6⟩, h7⟩ := h
  refine ⟨h1, h2, h3, h4, ?_, h6, h7⟩
  split at h5
  · assumption
  · cases h5
/-- def __init__(self): super().__init__() -/
def initZ (st : Stmt) : Bool := match st with
  | .FunctionDef _ ⟨[], [⟨a, none, _⟩], none, [], [], none, []⟩ [.Expr (.Call (.Attribute (.Call (.Name s _) [] [] _) i p2) [] [] p3) _] _ _ _ sc _ _ _ => decide (a = "self") && decide (s = "super") && decide (i = "__init__") && (p2.endLine == p3.line) && scIB sc
  | _ => false
/-- def __init__(self, f): super().__init__(f); self.f = f -/
def initO (f : Str) (st : Stmt) : Bool := match st with
  | .FunctionDef _ ⟨[], [⟨a, none, _⟩, ⟨b, none, _⟩], none, [], [], none, []⟩ [.Expr (.Call (.Attribute (.Call (.Name s _) [] [] _) i p2) [.Name f1 _] [] p3) _, .Assign [.Attribute (.Name a1 _) f2 _] (.Name f3 _) _] _ _ _ sc _ _ _ => decide (a = "self") && decide (b = f) && decide (s = "super") && decide (i = "__init__") && (p2.endLine == p3.line) && decide (f1 = f) && decide (a1 = "self") && decide (f2 = f) && decide (f3 = f) && decide (f ≠ "self") && !(f == ("__debug__" : Str)) && decide (sc.names.lookup f = some .local) && scIB sc
  | _ => false
section
variable {P : Program} {K : PySem.W.Frag} {mg : Str → Option Value} {h : Heap} {C B fI cda cc N : Addr} {st : Stmt} {x nm q qual file : Str} {bs bm : List Value} {sn : List Str} {sub : List Value} {ab : Bool} {col : Option Bool} {dd dB od an ccd cld : Option Addr} {k0 k1 k2 k3 k5 : Option Value}
  {cB oc doc pm ct ccl cl : Value} {cdB : ClassData} {sB osl ccs csl : Array (Option Value)} {vs : Array Value} {tf : Tok}
theorem initF_of (X : K.In h) (Gh : h.Ns mainGlobals mg) (lC : K.lookup C = some (excClassObj nm q C N bs bm true sn sub ab col dd k0 k1 k2 k3 k5 "ValueError.__new__")) (hbm : PySem.HandSPX.refsVE bm = true)
    (lB : K.lookup B = some ⟨cB, dB, .cls cdB, sB⟩) (eB : cdB.mro = bm) (iB : PySem.W.findIn K (.ref B) "__init__" = some (some (.builtin "ValueError.__init__")))
    (vE : PySem.W.subIn K (.ref C) (.type "ValueError") = some true) (mC : PySem.W.mroIn K C (.ref C) = some true) (iC : PySem.W.findIn K (.ref C) "__init__" = some (some (.ref fI))) (tI : PySem.W.typeIn K (.ref fI) = some (.type "function"))
    (lI : K.lookup fI = some ⟨oc, od, .func (PySem.W.ksFn "__init__" qual (defArgs st) (defBody st) (defScope st) .none .none doc pm an (.ref cda) ct cc), osl⟩) (cI : PySem.W.codeIn K (.ref cda) qual = true)
    (lcd : K.lookup cda = some ⟨ccl, ccd, .fields vs, ccs⟩) (hvs : vs[2]? = some (.str file tf)) (hfile : ((P.main.file : Str) == file) = true) (lcc : K.lookup cc = some ⟨cl, cld, .cell (some (.ref C)), csl⟩)
    (zs : PySem.W.nsIn K mainGlobals "super" = some none) (htp : PySem.W.nsIn K cStatics "thirdparty.any" = some none) (top : (P.main.scope.names.lookup ("super" : Str)).isSome = false) (S : ScI (defScope st)) (hp : ∃ ar, ((defArgs st).posonlyargs ++ (defArgs st).args).head? = some ar ∧ ar.arg = "self") :
    PySem.VsP.InitF P K mg C fI qual (defArgs st) (defBody st) (defScope st) where
  cls := ⟨nm, q, N, bs, bm, sn, sub, ab, col, dd, k0, k1, k2, k3, k5, lC, hbm⟩
  fn := ⟨oc, od, osl, doc, pm, an, cda, ct, cc, ccl, ccd, vs, ccs, file, tf, cl, cld, csl, lI, cI, lcd, hvs, hfile, lcc⟩
  sup := PySem.W.mg_none_of X Gh zs
  htp := htp
  sin := by
    unfold PySem.W.ks_superIn PySem.W.clsIn
    rw [lC]
    have e1 : ((Value.ref C :: bm).dropWhile (· != .ref C)).drop 1 = bm := by simp [List.dropWhile]
    show PySem.W.alongIn K "__init__" (((Value.ref C :: bm).dropWhile (· != .ref C)).drop 1) = _
    rw [e1, ← eB]
    simp only [PySem.W.findIn, lB] at iB
    exact iB
  vE := vE
  mC := mC
  iC := iC
  tI := tI
  top := top
  hks := S.hks
  hkc := S.hkc
  hsl := S.hsl
  hcell := S.hcell
  kind := S.kind
  co := S.co
  gen := S.gen
  par := hp
theorem excT0 (hz : initZ st = true) (T : ScI (defScope st) → (∃ ar, ((defArgs st).posonlyargs ++ (defArgs st).args).head? = some ar ∧ ar.arg = "self") → PySem.VsP.InitF P K mg C fI qual (defArgs st) (defBody st) (defScope st)) : ExcT P K mg x C [] := by
  unfold initZ at hz
  split at hz
  · simp only [Bool.and_eq_true, decide_eq_true_eq] at hz
    obtain ⟨⟨⟨⟨rfl, rfl⟩, rfl⟩, h4⟩, h5⟩ := hz
    exact .zero (T (scIB_ok h5) ⟨_, rfl, rfl⟩) h4 rfl rfl
  · cases hz
theorem excT1 {f : Str} (hz : initO f st = true) (hbd : ∀ (doc pm cdv ct : Value) (an : Option Addr) (cc e : Addr) (v : Value), bindArgs (PySem.W.ksFn "__init__" qual (defArgs st) (defBody st) (defScope st) .none .none doc pm an cdv ct cc) ⟨[.ref e, v], []⟩ = pure [(("self" : Str), .ref e), (f, v)]) (sa : PySem.W.findIn K (.ref C) "__setattr__" = some (some (.builtin "object.__setattr__"))) (noN : PySem.W.findIn K (.ref C) f = some none) (T : ScI (defScope st) → (∃ ar, ((defArgs st).posonlyargs ++ (defArgs st).args).head? = some ar ∧ ar.arg = "self") → PySem.VsP.InitF P K mg C fI qual (defArgs st) (defBody st) (defScope st)) : ExcT P K mg x C [f] := by
  unfold initO at hz
  split at hz
  · simp only [Bool.and_eq_true, decide_eq_true_eq, Bool.not_eq_true'] at hz
    obtain ⟨⟨⟨⟨⟨⟨⟨⟨⟨⟨⟨⟨h1, h2⟩, h3⟩, h4⟩, h5⟩, h6⟩, h7⟩, h8⟩, h9⟩, h10⟩, h11⟩, h12⟩, h13⟩ := hz
    subst h1 h2 h3 h4 h6 h7 h8 h9
    exact .one (T (scIB_ok h13) ⟨_, rfl, rfl⟩) sa noN h10 h11 h12 h5 hbd rfl
  · cases hz
theorem excG_of {fs : List Str} (X : K.In h) (Gh : h.Ns mainGlobals mg) (a : PySem.W.nsIn K mainGlobals x = some (some (.ref C))) (kp : PySem.W.keepIn K (.ref C) = true) (ex : PySem.W.subIn K (.ref C) (.type "BaseException") = some true) (ty : PySem.W.typeIn K (.ref C) = some (.type "type")) (db : (x == ("__debug__" : Str)) = false) (T : ExcT P K mg x C fs) : ExcG P K mg x C fs :=
  ⟨PySem.W.mg_of X Gh a, kp, ex, ty, db, T⟩
theorem excS_of {c' : Str} {C' : Addr} {b : Bool} (X : K.In h) (Gh : h.Ns mainGlobals mg) (mC : PySem.W.mroIn K C (.ref C) = some true) (a' : PySem.W.nsIn K mainGlobals c' = some (some (.ref C'))) (l' : PySem.W.isClsIn K C' = true) (ty' : PySem.W.typeIn K (.ref C') = some (.type "type")) (ex' : PySem.W.subIn K (.ref C') (.type "BaseException") = some true) (db : (c' == ("__debug__" : Str)) = false) (s : PySem.W.subIn K (.ref C) (.ref C') = some b) : ExcS K mg C c' b := by
  have k : PySem.W.kitCls K (.ref C) (.ref C') = some b := by
    unfold PySem.W.isClsIn at l'
    unfold PySem.W.kitCls
    simp [l', ty', s]
  refine ⟨C', PySem.W.mg_of X Gh a', db, ?_, ?_⟩
  · unfold PySem.W.exmOne
    simp [ex', k]
  · unfold PySem.W.kitOne
    by_cases e : C = C'
    · subst e
      have : PySem.W.subIn K (.ref C) (.ref C) = PySem.W.mroIn K C (.ref C) := rfl
      rw [this, mC] at s
      cases s
      simp
    · have : (Value.ref C == Value.ref C') = false := by simpa using e
      rw [this]
      exact k
end
end Vs
/-! X0: what a value can be (types), and when one type lies within another. -/
namespace Ab
open PySem PySem.Spec L2 Vs
open PyProof.Rows hiding St
mutual
/-- plain data: no dicts, sound texts, short ints -/
def gdB : PyData → Bool
  | .none => true
  | .bool _ => true
  | .int i => decide (i.natAbs < 10 ^ 38)
  | .str x => PySem.PyData.strOk x
  | .list xs => gdBs xs
  | .tuple xs => gdBs xs
  | .dict _ => false
def gdBs : List PyData → Bool
  | [] => true
  | x :: xs => gdB x && gdBs xs
end
theorem gdBs_iff : ∀ {xs : List PyData}, gdBs xs = true ↔ ∀ x ∈ xs, gdB x = true
  | [] => by simp [gdBs]
  | x :: xs => by simp [gdBs, gdBs_iff (xs := xs)]
mutual
theorem gd_lay : ∀ {p : PyData}, gdB p = true → p.canLay0 = true
  | .none, _ => rfl
  | .bool _, _ => rfl
  | .int _, _ => rfl
  | .str x, h => by simpa [gdB, PyData.canLay0] using h
  | .list xs, h => by
    have := gds_lay (xs := xs) (by simpa [gdB] using h)
    simpa [PyData.canLay0] using this
  | .tuple xs, h => by
    have := gds_lay (xs := xs) (by simpa [gdB] using h)
    simpa [PyData.canLay0] using this
  | .dict _, h => by simp [gdB] at h
theorem gds_lay : ∀ {xs : List PyData}, gdBs xs = true → PyData.canLayAll0 xs = true
  | [], _ => by simp [PyData.canLayAll0]
  | x :: xs, h => by
    have h : gdB x = true ∧ gdBs xs = true := by simpa [gdBs] using h
    simp [PyData.canLayAll0, gd_lay h.1, gds_lay h.2]
end
mutual
theorem gd_short : ∀ {p : PyData}, gdB p = true → p.intsShort 39 = true
  | .none, _ => rfl
  | .bool _, _ => rfl
  | .int i, h => by
    have h : i.natAbs < 10 ^ 38 := by simpa [gdB] using h
    have e := int_text_length_le10 (k := 38) (by decide) h
    simp only [PyData.intsShort, decide_eq_true_eq]
    show (Str.ofString (toString i)).length ≤ 39
    rw [PySem.ofString_length]
    exact e
  | .str x, _ => rfl
  | .list xs, h => by
    have := gds_short (xs := xs) (by simpa [gdB] using h)
    simpa [PyData.intsShort] using this
  | .tuple xs, h => by
    have := gds_short (xs := xs) (by simpa [gdB] using h)
    simpa [PyData.intsShort] using this
  | .dict _, h => by simp [gdB] at h
theorem gds_short : ∀ {xs : List PyData}, gdBs xs = true → PyData.intsShortAll 39 xs = true
  | [], _ => by simp [PyData.intsShortAll]
  | x :: xs, h => by
    have h : gdB x = true ∧ gdBs xs = true := by simpa [gdBs] using h
    simp [PyData.intsShortAll, gd_short h.1, gds_short h.2]
end
mutual
theorem gd_show : ∀ {p : PyData}, gdB p = true → p.showable = true
  | .none, _ => rfl
  | .bool _, _ => rfl
  | .int i, h => by
    have h : i.natAbs < 10 ^ 38 := by simpa [gdB] using h
    simp only [PyData.showable, decide_eq_true_eq]
    by_cases z : i.natAbs = 0
    · rw [z]; decide
    · exact (Nat.log2_lt z).mpr (Nat.lt_of_lt_of_le h (by decide +kernel))
  | .str x, _ => rfl
  | .list xs, h => by
    have := gds_show (xs := xs) (by simpa [gdB] using h)
    simpa [PyData.showable] using this
  | .tuple xs, h => by
    have := gds_show (xs := xs) (by simpa [gdB] using h)
    simpa [PyData.showable] using this
  | .dict _, h => by simp [gdB] at h
theorem gds_show : ∀ {xs : List PyData}, gdBs xs = true → PyData.showableAll xs = true
  | [], _ => by simp [PyData.showableAll]
  | x :: xs, h => by
    have h : gdB x = true ∧ gdBs xs = true := by simpa [gdBs] using h
    simp [PyData.showableAll, gd_show h.1, gds_show h.2]
end
structure Gd (dep w : Nat) (p : PyData) : Prop where
  ok : gdB p = true
  dep : p.depth ≤ dep
  w : p.weight ≤ w
theorem Gd.shown {dep w : Nat} {p : PyData} (h : Gd dep w p) : p.shown.length ≤ 41 * w + 39 := by
  have := PyData.shown_le 39 (by decide) p (PyData.leavesShort_of_canLay0 39 p (gd_lay h.ok) (gd_short h.ok))
  have := h.w
  omega
theorem Gd.repr {dep w : Nat} {p : PyData} {x : D} (e : x.py = some p) (h : Gd dep w p) (h1 : dep ≤ 60) (h2 : w ≤ 400000) : oRepr x = some (.sh (.str p.shown)) := by
  have q := h.shown
  have s : sizeLine = 16777216 := by decide
  have d := h.dep
  simp only [oRepr, e, gd_show h.ok, Bool.true_and]
  rw [decide_eq_true (by omega : p.depth ≤ 60), decide_eq_true (by omega : p.shown.length ≤ sizeLine)]
  rfl
theorem Gd.shaped {dep w : Nat} {p : PyData} (h : Gd dep w p) (h1 : dep ≤ 64) : SeqAt.shaped p = true := by
  have d := h.dep
  simp [SeqAt.shaped, gd_lay h.ok]
  omega
theorem Gd.mono {dep w dep' w' : Nat} {p : PyData} (h : Gd dep w p) (h1 : dep ≤ dep') (h2 : w ≤ w') : Gd dep' w' p := ⟨h.ok, Nat.le_trans h.dep h1, Nat.le_trans h.w h2⟩
theorem gds_of {dep w : Nat} : ∀ {l : List PyData}, (∀ p ∈ l, Gd dep w p) → gdBs l = true ∧ PyData.depthAll l ≤ dep ∧ PyData.weightAll l ≤ l.length * (w + 1)
  | [], _ => ⟨rfl, Nat.zero_le _, by simp [PyData.weightAll]⟩
  | p :: l, h => by
    obtain ⟨a, b, c⟩ := gds_of (l := l) fun q hq => h q (List.mem_cons_of_mem _ hq)
    have g := h p List.mem_cons_self
    refine ⟨by simp [gdBs, g.ok, a], ?_, ?_⟩
    · simp only [PyData.depthAll]
      exact Nat.max_le.mpr ⟨g.dep, b⟩
    · simp only [PyData.weightAll, List.length_cons, Nat.add_mul, Nat.one_mul]
      have := g.w
      omega
inductive QK where
  | tup | lst | own
  deriving DecidableEq
inductive T where
  | lit (p : PyData)
  | int (lo hi : Int)
  | bool
  | str (n : Nat)
  | tup (ts : List T)
  | ls (ts : List T)
  | fl (ts : List T)
  | vec (k : QK) (lo hi : Nat) (t : T)
  | dat (dep w : Nat)
  | pr (k n : Nat)
  | uni (ts : List T)
def mkQ : QK → List PyData → D
  | .tup, l => .sh (.tuple l)
  | .lst, l => .sh (.list l)
  | .own, l => .ls (l.map .sh)
/-- what the opaque ones mean -/
structure Pi where
  p : Nat → Nat → D → Prop
  mono : ∀ {k n m : Nat} {d : D}, p k n d → n ≤ m → p k m d
  sh : ∀ {k n : Nat} {d : D}, p k n d → 100 ≤ k → ∃ q, d = .sh q
section
variable (Ω : Pi)
mutual
def has : T → D → Prop
  | .lit p, d => d = .sh p
  | .int lo hi, d => ∃ i, d = .sh (.int i) ∧ lo ≤ i ∧ i ≤ hi
  | .bool, d => ∃ b, d = .sh (.bool b)
  | .str n, d => ∃ x, d = .sh (.str x) ∧ PySem.PyData.strOk x = true ∧ x.cps.size ≤ n
  | .tup ts, d => ∃ ds, d = mkTup ds ∧ hasL ts ds
  | .ls ts, d => ∃ ds, d = .ls ds ∧ hasL ts ds
  | .fl ts, d => ∃ l : List PyData, d = .sh (.list l) ∧ hasL ts (l.map .sh)
  | .vec k lo hi t, d => ∃ l, d = mkQ k l ∧ lo ≤ l.length ∧ l.length ≤ hi ∧ ∀ p ∈ l, has t (.sh p)
  | .dat dep w, d => ∃ p, d = .sh p ∧ Gd dep w p
  | .pr k n, d => Ω.p k n d
  | .uni ts, d => hasA ts d
/-- one of them -/
def hasA : List T → D → Prop
  | [], _ => False
  | t :: ts, d => has t d ∨ hasA ts d
def hasL : List T → List D → Prop
  | [], [] => True
  | t :: ts, d :: ds => has t d ∧ hasL ts ds
  | _, _ => False
end
end
mutual
def pEq : PyData → PyData → Bool
  | .none, .none => true
  | .bool a, .bool b => a == b
  | .int a, .int b => decide (a = b)
  | .str a, .str b => decide (a = b)
  | .list a, .list b => pEqs a b
  | .tuple a, .tuple b => pEqs a b
  | .dict [], .dict [] => true
  | _, _ => false
def pEqs : List PyData → List PyData → Bool
  | [], [] => true
  | a :: as, b :: bs => pEq a b && pEqs as bs
  | _, _ => false
end
mutual
theorem pEq_eq : ∀ {a b : PyData}, pEq a b = true → a = b
  | .none, b, h => by cases b <;> simp_all [pEq]
  | .bool _, b, h => by cases b <;> simp_all [pEq]
  | .int _, b, h => by cases b <;> simp_all [pEq]
  | .str _, b, h => by cases b <;> simp_all [pEq]
  | .list x, b, h => by cases b <;> simp [pEq] at h; exact congrArg _ (pEqs_eq h)
  | .tuple x, b, h => by cases b <;> simp [pEq] at h; exact congrArg _ (pEqs_eq h)
  | .dict x, b, h => by
    cases b with
    | dict y => cases x <;> cases y <;> simp [pEq] at h ⊢
    | _ => cases x <;> simp [pEq] at h
theorem pEqs_eq : ∀ {a b : List PyData}, pEqs a b = true → a = b
  | [], [], _ => rfl
  | x :: xs, y :: ys, h => by
    simp only [pEqs, Bool.and_eq_true] at h
    rw [pEq_eq h.1, pEqs_eq h.2]
  | [], _ :: _, h => by simp [pEqs] at h
  | _ :: _, [], h => by simp [pEqs] at h
end
/-! ### measures of types -/
def rng : T → Option (Int × Int)
  | .lit (.int i) => some (i, i)
  | .int a b => some (a, b)
  | _ => none
mutual
def shT : T → Bool
  | .lit _ => true
  | .int _ _ => true
  | .bool => true
  | .str _ => true
  | .tup ts => shTs ts
  | .ls _ => false
  | .fl _ => true
  | .vec .own _ _ _ => false
  | .vec _ _ _ _ => true
  | .dat _ _ => true
  | .pr k _ => decide (100 ≤ k)
  | .uni ts => shTs ts
def shTs : List T → Bool
  | [] => true
  | t :: ts => shT t && shTs ts
end
def intW (i : Int) : Nat := if i.natAbs < 1048576 then 20 else 127
mutual
def dmP : PyData → Option (Nat × Nat)
  | .none => some (0, 0)
  | .bool _ => some (0, 0)
  | .int i => if i.natAbs < 10 ^ 38 then some (0, intW i) else none
  | .str x => if PySem.PyData.strOk x = true then some (0, x.cps.size) else none
  | .list xs => match dmPs xs with | some (a, b) => some (a + 1, b) | none => none
  | .tuple xs => match dmPs xs with | some (a, b) => some (a + 1, b) | none => none
  | .dict _ => none
def dmPs : List PyData → Option (Nat × Nat)
  | [] => some (0, 0)
  | x :: xs => match dmP x, dmPs xs with
    | some (a, b), some (c, d) => some (max a c, b + 1 + d)
    | _, _ => none
end
mutual
/-- depth and weight of what shows as data -/
def dm : T → Option (Nat × Nat)
  | .lit p => dmP p
  | .int lo hi => if lo.natAbs < 10 ^ 38 ∧ hi.natAbs < 10 ^ 38 then some (0, max (intW lo) (intW hi)) else none
  | .bool => some (0, 0)
  | .str n => some (0, n)
  | .tup ts => match dms ts with | some (a, b) => some (a + 1, b) | none => none
  | .ls ts => match dms ts with | some (a, b) => some (a + 1, b) | none => none
  | .fl ts => match dms ts with | some (a, b) => some (a + 1, b) | none => none
  | .vec _ _ hi t => match dm t with | some (a, b) => some (a + 1, hi * (b + 1)) | none => none
  | .dat a b => some (a, b)
  | .pr _ _ => none
  | .uni ts => dmU ts
/-- the greatest ones -/
def dmU : List T → Option (Nat × Nat)
  | [] => some (0, 0)
  | x :: xs => match dm x, dmU xs with
    | some (a, b), some (c, d) => some (max a c, max b d)
    | _, _ => none
def dms : List T → Option (Nat × Nat)
  | [] => some (0, 0)
  | x :: xs => match dm x, dms xs with
    | some (a, b), some (c, d) => some (max a c, b + 1 + d)
    | _, _ => none
end
/-- written tuples and lists opened -/
def expT : T → T
  | .lit (.tuple l) => .tup (l.map .lit)
  | .lit (.list l) => .fl (l.map .lit)
  | t => t
/-- what a type is one of -/
def alts : T → List T
  | .uni ts => ts
  | t => [t]
mutual
def leT1 (b a : T) : Bool := match b with
  | .lit q => match a with
    | .lit p => pEq p q
    | _ => false
  | .int lo hi => match rng a with
    | some (x, y) => decide (lo ≤ x) && decide (y ≤ hi)
    | none => false
  | .bool => match a with
    | .lit (.bool _) => true
    | .bool => true
    | _ => false
  | .str n => match a with
    | .lit (.str x) => PySem.PyData.strOk x && decide (x.cps.size ≤ n)
    | .str m => decide (m ≤ n)
    | _ => false
  | .tup ts => match expT a with
    | .tup xs => leT1s ts xs
    | _ => false
  | .ls ts => match a with
    | .ls xs => leT1s ts xs
    | _ => false
  | .fl ts => match expT a with
    | .fl xs => leT1s ts xs
    | _ => false
  | .vec k lo hi t => match expT a with
    | .tup xs => decide (k = .tup) && decide (lo ≤ xs.length) && decide (xs.length ≤ hi) && shTs xs && xs.all fun x => (alts x).all fun y => leT1 t y
    | .ls xs => decide (k = .own) && decide (lo ≤ xs.length) && decide (xs.length ≤ hi) && shTs xs && xs.all fun x => (alts x).all fun y => leT1 t y
    | .fl xs => decide (k = .lst) && decide (lo ≤ xs.length) && decide (xs.length ≤ hi) && xs.all fun x => (alts x).all fun y => leT1 t y
    | .vec k' lo' hi' t' => decide (k = k') && decide (lo ≤ lo') && decide (hi' ≤ hi) && ((alts t').all (fun y => leT1 t y) || decide (hi' = 0))
    | _ => false
  | .dat dep w => shT a && match dm a with
    | some (x, y) => decide (x ≤ dep) && decide (y ≤ w)
    | none => false
  | .pr k n => match a with
    | .pr k' n' => decide (k = k') && decide (n' ≤ n)
    | _ => false
  | .uni bs => leT1u bs a
def leT1u (bs : List T) (a : T) : Bool := match bs with
  | [] => false
  | b :: bs => leT1 b a || leT1u bs a
def leT1s (bs as : List T) : Bool := match bs with
  | [] => match as with
    | [] => true
    | _ :: _ => false
  | b :: bs => match as with
    | a :: as => (alts a).all (fun y => leT1 b y) && leT1s bs as
    | [] => false
end
def leT (b a : T) : Bool := (alts a).all fun y => leT1 b y
def leTs : List T → List T → Bool
  | [], [] => true
  | b :: bs, a :: as => leT b a && leTs bs as
  | _, _ => false
end Ab
/-! X1: types: what holds of them. -/
namespace Ab
open PySem PySem.Spec L2 Vs
open PyProof.Rows hiding St
theorem unsh_eq : ∀ {ds : List D} {l : List PyData}, unsh ds = some l → ds = l.map .sh
  | [], l, h => by simp [unsh] at h; simp [h]
  | .sh d :: r, l, h => by
    unfold unsh at h
    split at h
    · rename_i m e
      cases h
      rw [unsh_eq e]; rfl
    · cases h
  | .tp _ :: _, l, h => by simp [unsh] at h
  | .ls _ :: _, l, h => by simp [unsh] at h
  | .dk _ _ :: _, l, h => by simp [unsh] at h
  | .ob _ _ _ :: _, l, h => by simp [unsh] at h
  | .fn _ :: _, l, h => by simp [unsh] at h
  | .fd _ _ :: _, l, h => by simp [unsh] at h
theorem mkTup_map (l : List PyData) : mkTup (l.map .sh) = .sh (.tuple l) := by simp [mkTup]
theorem mkTup_py (ds : List D) : (mkTup ds).py = match D.pys ds with | some l => some (.tuple l) | none => none := by
  unfold mkTup
  cases e : unsh ds with
  | none => first | (simp only [D.py]; done) | (simp only [D.py]; cases D.pys ds <;> rfl)
  | some l => rw [unsh_eq e]; simp [D.py]
variable {Ω : Pi}
theorem hasL_len : ∀ {ts : List T} {ds : List D}, hasL Ω ts ds → ts.length = ds.length
  | [], [], _ => rfl
  | _ :: _, _ :: _, h => congrArg (· + 1) (hasL_len (by unfold hasL at h; exact h.2))
  | [], _ :: _, h => by simp [hasL] at h
  | _ :: _, [], h => by simp [hasL] at h
theorem hasL_get : ∀ {ts : List T} {ds : List D} {i : Nat} {t : T}, hasL Ω ts ds → ts[i]? = some t → ∃ d, ds[i]? = some d ∧ has Ω t d
  | t :: ts, d :: ds, 0, _, h, e => by
    unfold hasL at h
    simp at e; subst e
    exact ⟨d, rfl, h.1⟩
  | t :: ts, d :: ds, i + 1, _, h, e => by
    unfold hasL at h
    exact hasL_get (i := i) h.2 (by simpa using e)
  | [], _, _, _, _, e => by simp at e
  | _ :: _, [], _, _, h, _ => by simp [hasL] at h
theorem hasL_lit : ∀ l : List PyData, hasL Ω (l.map .lit) (l.map .sh)
  | [] => by simp [hasL]
  | p :: l => by
    simp only [List.map_cons, hasL]
    exact ⟨by simp [has], hasL_lit l⟩
mutual
theorem has_sh : ∀ {t : T} {d : D}, has Ω t d → shT t = true → ∃ p, d = .sh p
  | .lit p, d, h, _ => ⟨p, by simpa [has] using h⟩
  | .int _ _, d, h, _ => by obtain ⟨i, e, _⟩ := (by simpa only [has] using h); exact ⟨_, e⟩
  | .bool, d, h, _ => by obtain ⟨i, e⟩ := (by simpa only [has] using h); exact ⟨_, e⟩
  | .str _, d, h, _ => by obtain ⟨i, e, _⟩ := (by simpa only [has] using h); exact ⟨_, e⟩
  | .tup ts, d, h, s => by
    obtain ⟨ds, e, q⟩ := (by simpa only [has] using h)
    obtain ⟨l, rfl⟩ := hasL_sh q (by simpa [shT] using s)
    rw [mkTup_map] at e
    exact ⟨_, e⟩
  | .ls _, _, _, s => by simp [shT] at s
  | .fl ts, d, h, _ => by obtain ⟨l, e, _⟩ := (by simpa only [has] using h); exact ⟨_, e⟩
  | .vec k _ _ _, d, h, s => by
    obtain ⟨l, e, _⟩ := (by simpa only [has] using h)
    cases k with
    | tup => exact ⟨_, e⟩
    | lst => exact ⟨_, e⟩
    | own => simp [shT] at s
  | .dat _ _, d, h, _ => by obtain ⟨p, e, _⟩ := (by simpa only [has] using h); exact ⟨_, e⟩
  | .pr k n, d, h, s => Ω.sh (by simpa only [has] using h) (by simpa [shT] using s)
  | .uni ts, d, h, s => hasA_sh (ts := ts) (by simpa only [has] using h) (by simpa [shT] using s)
theorem hasA_sh : ∀ {ts : List T} {d : D}, hasA Ω ts d → shTs ts = true → ∃ p, d = .sh p
  | t :: ts, d, h, s => by
    unfold hasA at h
    have s : shT t = true ∧ shTs ts = true := by simpa [shTs] using s
    rcases h with h | h
    · exact has_sh h s.1
    · exact hasA_sh h s.2
  | [], _, h, _ => by simp [hasA] at h
theorem hasL_sh : ∀ {ts : List T} {ds : List D}, hasL Ω ts ds → shTs ts = true → ∃ l : List PyData, ds = l.map .sh
  | [], [], _, _ => ⟨[], rfl⟩
  | t :: ts, d :: ds, h, s => by
    unfold hasL at h
    have s : shT t = true ∧ shTs ts = true := by simpa [shTs] using s
    obtain ⟨p, rfl⟩ := has_sh h.1 s.1
    obtain ⟨l, rfl⟩ := hasL_sh h.2 s.2
    exact ⟨p :: l, rfl⟩
  | [], _ :: _, h, _ => by simp [hasL] at h
  | _ :: _, [], h, _ => by simp [hasL] at h
end
theorem intW_le {i : Int} (h : i.natAbs < 10 ^ 38) : (PyData.int i).weight ≤ intW i := by
  unfold PyData.weight intW
  split
  · split <;> omega
  · rename_i z
    have z : i.natAbs ≠ 0 := by simpa using z
    split
    · rename_i q
      have := (Nat.log2_lt z (k := 20)).mpr (by omega)
      omega
    · have := (Nat.log2_lt z (k := 127)).mpr (Nat.lt_of_lt_of_le h (by decide +kernel))
      omega
theorem intW_mono {i lo hi : Int} (h1 : lo ≤ i) (h2 : i ≤ hi) : intW i ≤ max (intW lo) (intW hi) := by
  unfold intW
  by_cases a : lo.natAbs < 1048576 <;> by_cases b : hi.natAbs < 1048576 <;> by_cases c : i.natAbs < 1048576 <;> simp [a, b, c] <;> omega
mutual
theorem dmP_ok : ∀ {p : PyData} {a b : Nat}, dmP p = some (a, b) → Gd a b p
  | .none, a, b, h => by simp [dmP] at h; exact ⟨rfl, by simp [PyData.depth], by simp [PyData.weight]⟩
  | .bool _, a, b, h => by simp [dmP] at h; exact ⟨rfl, by simp [PyData.depth], by simp [PyData.weight]⟩
  | .int i, a, b, h => by
    unfold dmP at h
    split at h
    · rename_i q
      cases h
      exact ⟨by simpa [gdB] using q, by simp [PyData.depth], intW_le q⟩
    · cases h
  | .str x, a, b, h => by
    unfold dmP at h
    split at h
    · rename_i q
      cases h
      exact ⟨by simpa [gdB] using q, by simp [PyData.depth], by simp [PyData.weight]⟩
    · cases h
  | .list xs, a, b, h => by
    unfold dmP at h
    split at h
    · rename_i q
      cases h
      obtain ⟨x, y, z⟩ := dmPs_ok q
      exact ⟨by simpa [gdB] using x, by simp only [PyData.depth]; omega, by simpa [PyData.weight] using z⟩
    · cases h
  | .tuple xs, a, b, h => by
    unfold dmP at h
    split at h
    · rename_i q
      cases h
      obtain ⟨x, y, z⟩ := dmPs_ok q
      exact ⟨by simpa [gdB] using x, by simp only [PyData.depth]; omega, by simpa [PyData.weight] using z⟩
    · cases h
  | .dict _, a, b, h => by simp [dmP] at h
theorem dmPs_ok : ∀ {xs : List PyData} {a b : Nat}, dmPs xs = some (a, b) → gdBs xs = true ∧ PyData.depthAll xs ≤ a ∧ PyData.weightAll xs ≤ b
  | [], a, b, h => by simp [dmPs] at h; exact ⟨rfl, by simp [PyData.depthAll], by simp [PyData.weightAll]⟩
  | x :: xs, a, b, h => by
    unfold dmPs at h
    split at h
    · rename_i q r
      cases h
      have g := dmP_ok q
      obtain ⟨x, y, z⟩ := dmPs_ok r
      have g2 := g.dep
      have g3 := g.w
      refine ⟨by simp [gdBs, g.ok, x], ?_, ?_⟩
      · simp only [PyData.depthAll]; omega
      · simp only [PyData.weightAll]; omega
    · cases h
end
mutual
theorem has_dm : ∀ {t : T} {d : D} {a b : Nat}, has Ω t d → dm t = some (a, b) → ∃ p, d.py = some p ∧ Gd a b p
  | .lit p, d, a, b, h, e => by
    have h : d = .sh p := by simpa only [has] using h
    subst h
    exact ⟨p, rfl, dmP_ok (by simpa only [dm] using e)⟩
  | .int lo hi, d, a, b, h, e => by
    obtain ⟨i, rfl, h1, h2⟩ := (by simpa only [has] using h)
    unfold dm at e
    split at e
    · rename_i q
      cases e
      have q' : i.natAbs < 10 ^ 38 := by omega
      exact ⟨_, rfl, by simpa [gdB] using q', by simp [PyData.depth], Nat.le_trans (intW_le q') (intW_mono h1 h2)⟩
    · cases e
  | .bool, d, a, b, h, e => by
    obtain ⟨i, rfl⟩ := (by simpa only [has] using h)
    simp [dm] at e
    exact ⟨_, rfl, rfl, by simp [PyData.depth], by simp [PyData.weight]⟩
  | .str n, d, a, b, h, e => by
    obtain ⟨x, rfl, h1, h2⟩ := (by simpa only [has] using h)
    simp only [dm, Option.some.injEq, Prod.mk.injEq] at e
    obtain ⟨rfl, rfl⟩ := e
    exact ⟨_, rfl, by simpa [gdB] using h1, by simp [PyData.depth], by simpa [PyData.weight] using h2⟩
  | .tup ts, d, a, b, h, e => by
    obtain ⟨ds, rfl, q⟩ := (by simpa only [has] using h)
    unfold dm at e
    split at e
    · rename_i r
      cases e
      obtain ⟨l, x, y, z, w⟩ := hasL_dm q r
      refine ⟨.tuple l, by rw [mkTup_py, x], by simpa [gdB] using y, by simp only [PyData.depth]; omega, by simpa [PyData.weight] using w⟩
    · cases e
  | .ls ts, d, a, b, h, e => by
    obtain ⟨ds, rfl, q⟩ := (by simpa only [has] using h)
    unfold dm at e
    split at e
    · rename_i r
      cases e
      obtain ⟨l, x, y, z, w⟩ := hasL_dm q r
      refine ⟨.list l, by simp [D.py, x], by simpa [gdB] using y, by simp only [PyData.depth]; omega, by simpa [PyData.weight] using w⟩
    · cases e
  | .fl ts, d, a, b, h, e => by
    obtain ⟨ds, rfl, q⟩ := (by simpa only [has] using h)
    unfold dm at e
    split at e
    · rename_i r
      cases e
      obtain ⟨l, x, y, z, w⟩ := hasL_dm q r
      rw [pys_map] at x
      cases x
      refine ⟨.list _, rfl, by simpa [gdB] using y, by simp only [PyData.depth]; omega, by simpa [PyData.weight] using w⟩
    · cases e
  | .vec k lo hi t, d, a, b, h, e => by
    obtain ⟨l, rfl, _, h2, h3⟩ := (by simpa only [has] using h)
    unfold dm at e
    split at e
    · rename_i x y r
      cases e
      have g : ∀ p ∈ l, Gd x y p := fun p hp => by
        obtain ⟨q, e, g⟩ := has_dm (h3 p hp) r
        cases e
        exact g
      obtain ⟨u, v, w⟩ := gds_of g
      have : l.length * (y + 1) ≤ hi * (y + 1) := Nat.mul_le_mul_right _ h2
      cases k with
      | tup => exact ⟨.tuple l, rfl, by simpa [gdB] using u, by simp only [PyData.depth]; omega, by simp only [PyData.weight]; omega⟩
      | lst => exact ⟨.list l, rfl, by simpa [gdB] using u, by simp only [PyData.depth]; omega, by simp only [PyData.weight]; omega⟩
      | own => exact ⟨.list l, by simp [mkQ, D.py], by simpa [gdB] using u, by simp only [PyData.depth]; omega, by simp only [PyData.weight]; omega⟩
    · cases e
  | .dat _ _, d, a, b, h, e => by
    obtain ⟨p, rfl, g⟩ := (by simpa only [has] using h)
    simp only [dm, Option.some.injEq, Prod.mk.injEq] at e
    obtain ⟨rfl, rfl⟩ := e
    exact ⟨p, rfl, g⟩
  | .pr _ _, _, _, _, _, e => by simp [dm] at e
  | .uni ts, d, a, b, h, e => hasA_dm (ts := ts) (by simpa only [has] using h) (by simpa only [dm] using e)
theorem hasA_dm : ∀ {ts : List T} {d : D} {a b : Nat}, hasA Ω ts d → dmU ts = some (a, b) → ∃ p, d.py = some p ∧ Gd a b p
  | t :: ts, d, a, b, h, e => by
    unfold hasA at h
    unfold dmU at e
    split at e
    · rename_i q r
      cases e
      rcases h with h | h
      · obtain ⟨p, x, g⟩ := has_dm h q
        exact ⟨p, x, g.mono (Nat.le_max_left _ _) (Nat.le_max_left _ _)⟩
      · obtain ⟨p, x, g⟩ := hasA_dm h r
        exact ⟨p, x, g.mono (Nat.le_max_right _ _) (Nat.le_max_right _ _)⟩
    · cases e
  | [], _, _, _, h, _ => by simp [hasA] at h
theorem hasL_dm : ∀ {ts : List T} {ds : List D} {a b : Nat}, hasL Ω ts ds → dms ts = some (a, b) → ∃ l, D.pys ds = some l ∧ gdBs l = true ∧ PyData.depthAll l ≤ a ∧ PyData.weightAll l ≤ b
  | [], [], a, b, _, e => by simp [dms] at e; exact ⟨[], rfl, rfl, by simp [PyData.depthAll], by simp [PyData.weightAll]⟩
  | t :: ts, d :: ds, a, b, h, e => by
    unfold hasL at h
    unfold dms at e
    split at e
    · rename_i q r
      cases e
      obtain ⟨p, x, g⟩ := has_dm h.1 q
      obtain ⟨l, y, z, u, v⟩ := hasL_dm h.2 r
      have g2 := g.dep
      have g3 := g.w
      refine ⟨p :: l, by simp [D.pys, x, y], by simp [gdBs, g.ok, z], ?_, ?_⟩
      · simp only [PyData.depthAll]; omega
      · simp only [PyData.weightAll]; omega
    · cases e
  | [], _ :: _, _, _, h, _ => by simp [hasL] at h
  | _ :: _, [], _, _, h, _ => by simp [hasL] at h
end
theorem has_exp {t : T} {d : D} (h : has Ω t d) : has Ω (expT t) d := by
  unfold expT
  split
  · rename_i l
    have h : d = .sh (.tuple l) := by simpa only [has] using h
    unfold has
    exact ⟨l.map .sh, by rw [mkTup_map]; exact h, hasL_lit l⟩
  · rename_i l
    have h : d = .sh (.list l) := by simpa only [has] using h
    unfold has
    exact ⟨l, h, hasL_lit l⟩
  · exact h
theorem rng_ok {t : T} {d : D} {a b : Int} (h : has Ω t d) (e : rng t = some (a, b)) : ∃ i, d = .sh (.int i) ∧ a ≤ i ∧ i ≤ b := by
  unfold rng at e
  split at e
  · cases e
    exact ⟨_, by simpa only [has] using h, Int.le_refl _, Int.le_refl _⟩
  · cases e
    simpa only [has] using h
  · cases e
theorem hasL_mem : ∀ {ts : List T} {ds : List D} {d : D}, hasL Ω ts ds → d ∈ ds → ∃ t ∈ ts, has Ω t d
  | t :: ts, d :: ds, e, h, m => by
    unfold hasL at h
    rcases List.mem_cons.mp m with rfl | m
    · exact ⟨t, List.mem_cons_self, h.1⟩
    · obtain ⟨u, a, b⟩ := hasL_mem h.2 m
      exact ⟨u, List.mem_cons_of_mem _ a, b⟩
  | [], [], _, _, m => by simp at m
  | [], _ :: _, _, h, _ => by simp [hasL] at h
  | _ :: _, [], _, h, _ => by simp [hasL] at h
theorem hasA_mem : ∀ {ts : List T} {d : D}, hasA Ω ts d → ∃ t ∈ ts, has Ω t d
  | t :: ts, d, h => by
    unfold hasA at h
    rcases h with h | h
    · exact ⟨t, List.mem_cons_self, h⟩
    · obtain ⟨u, a, b⟩ := hasA_mem h
      exact ⟨u, List.mem_cons_of_mem _ a, b⟩
  | [], _, h => by simp [hasA] at h
theorem has_alts {t : T} {d : D} (h : has Ω t d) : ∃ u ∈ alts t, has Ω u d := by
  unfold alts
  split
  · exact hasA_mem (by simpa only [has] using h)
  · exact ⟨_, List.mem_singleton.mpr rfl, h⟩
mutual
theorem leT1_ok : ∀ {b a : T} {d : D}, leT1 b a = true → has Ω a d → has Ω b d
  | .lit q, a, d, h, g => by
    unfold leT1 at h
    split at h
    · rename_i p
      rw [← pEq_eq h]
      exact g
    · cases h
  | .int lo hi, a, d, h, g => by
    unfold leT1 at h
    split at h
    · rename_i x y e
      obtain ⟨i, rfl, h1, h2⟩ := rng_ok g e
      simp at h
      unfold has
      exact ⟨i, rfl, by omega, by omega⟩
    · cases h
  | .bool, a, d, h, g => by
    unfold leT1 at h
    split at h
    · rename_i b
      unfold has
      exact ⟨b, by simpa only [has] using g⟩
    · exact g
    · cases h
  | .str n, a, d, h, g => by
    unfold leT1 at h
    split at h
    · rename_i x
      simp at h
      unfold has
      exact ⟨x, by simpa only [has] using g, h.1, h.2⟩
    · obtain ⟨x, e, h1, h2⟩ := (by simpa only [has] using g)
      simp at h
      unfold has
      exact ⟨x, e, h1, by omega⟩
    · cases h
  | .tup ts, a, d, h, g => by
    unfold leT1 at h
    have g := has_exp g
    split at h
    · rename_i xs e
      rw [e] at g
      obtain ⟨ds, e, q⟩ := (by simpa only [has] using g)
      unfold has
      exact ⟨ds, e, leT1s_ok h q⟩
    · cases h
  | .ls ts, a, d, h, g => by
    unfold leT1 at h
    split at h
    · obtain ⟨ds, e, q⟩ := (by simpa only [has] using g)
      unfold has
      exact ⟨ds, e, leT1s_ok h q⟩
    · cases h
  | .fl ts, a, d, h, g => by
    unfold leT1 at h
    have g := has_exp g
    split at h
    · rename_i xs e
      rw [e] at g
      obtain ⟨ds, e, q⟩ := (by simpa only [has] using g)
      unfold has
      exact ⟨ds, e, leT1s_ok h q⟩
    · cases h
  | .vec k lo hi t, a, d, h, g => by
    unfold leT1 at h
    have g := has_exp g
    split at h
    · rename_i xs e
      rw [e] at g
      obtain ⟨ds, rfl, q⟩ := (by simpa only [has] using g)
      simp only [Bool.and_eq_true, decide_eq_true_eq, List.all_eq_true] at h
      obtain ⟨⟨⟨⟨rfl, h1⟩, h2⟩, h3⟩, h4⟩ := h
      obtain ⟨l, rfl⟩ := hasL_sh q h3
      have hl := hasL_len q
      rw [List.length_map] at hl
      unfold has
      refine ⟨l, by rw [mkTup_map]; rfl, by omega, by omega, fun p hp => ?_⟩
      obtain ⟨u, m, z⟩ := hasL_mem q (List.mem_map_of_mem hp)
      obtain ⟨y, my, hy⟩ := has_alts z
      exact leT1_ok (h4 u m y my) hy
    · rename_i xs e
      rw [e] at g
      obtain ⟨ds, rfl, q⟩ := (by simpa only [has] using g)
      simp only [Bool.and_eq_true, decide_eq_true_eq, List.all_eq_true] at h
      obtain ⟨⟨⟨⟨rfl, h1⟩, h2⟩, h3⟩, h4⟩ := h
      obtain ⟨l, rfl⟩ := hasL_sh q h3
      have hl := hasL_len q
      rw [List.length_map] at hl
      unfold has
      refine ⟨l, rfl, by omega, by omega, fun p hp => ?_⟩
      obtain ⟨u, m, z⟩ := hasL_mem q (List.mem_map_of_mem hp)
      obtain ⟨y, my, hy⟩ := has_alts z
      exact leT1_ok (h4 u m y my) hy
    · rename_i xs e
      rw [e] at g
      obtain ⟨l, rfl, q⟩ := (by simpa only [has] using g)
      simp only [Bool.and_eq_true, decide_eq_true_eq, List.all_eq_true] at h
      obtain ⟨⟨⟨rfl, h1⟩, h2⟩, h4⟩ := h
      have hl := hasL_len q
      rw [List.length_map] at hl
      unfold has
      refine ⟨l, rfl, by omega, by omega, fun p hp => ?_⟩
      obtain ⟨u, m, z⟩ := hasL_mem q (List.mem_map_of_mem hp)
      obtain ⟨y, my, hy⟩ := has_alts z
      exact leT1_ok (h4 u m y my) hy
    · rename_i e
      rw [e] at g
      obtain ⟨l, rfl, h1, h2, h3⟩ := (by simpa only [has] using g)
      simp only [Bool.and_eq_true, Bool.or_eq_true, decide_eq_true_eq] at h
      obtain ⟨⟨⟨rfl, q1⟩, q2⟩, q3⟩ := h
      unfold has
      refine ⟨l, rfl, by omega, by omega, fun p hp => ?_⟩
      rcases q3 with q3 | q3
      · obtain ⟨y, my, hy⟩ := has_alts (h3 p hp)
        exact leT1_ok (List.all_eq_true.mp q3 y my) hy
      · have : l = [] := List.length_eq_zero_iff.mp (by omega)
        rw [this] at hp
        cases hp
    · cases h
  | .dat dep w, a, d, h, g => by
    unfold leT1 at h
    rw [Bool.and_eq_true] at h
    obtain ⟨s, h⟩ := h
    split at h
    · rename_i x y e
      obtain ⟨p, rfl⟩ := has_sh g s
      obtain ⟨q, e2, gd⟩ := has_dm g e
      cases e2
      simp at h
      unfold has
      exact ⟨p, rfl, gd.mono h.1 h.2⟩
    · cases h
  | .pr k n, a, d, h, g => by
    unfold leT1 at h
    split at h
    · simp at h
      obtain ⟨rfl, h⟩ := h
      unfold has at g ⊢
      exact Ω.mono g h
    · cases h
  | .uni bs, a, d, h, g => by
    unfold leT1 at h
    unfold has
    exact leT1u_ok h g
theorem leT1u_ok : ∀ {bs : List T} {a : T} {d : D}, leT1u bs a = true → has Ω a d → hasA Ω bs d
  | b :: bs, a, d, h, g => by
    unfold leT1u at h
    unfold hasA
    rw [Bool.or_eq_true] at h
    rcases h with h | h
    · exact .inl (leT1_ok h g)
    · exact .inr (leT1u_ok h g)
  | [], _, _, h, _ => by simp [leT1u] at h
theorem leT1s_ok : ∀ {bs as : List T} {ds : List D}, leT1s bs as = true → hasL Ω as ds → hasL Ω bs ds
  | [], [], ds, _, g => g
  | b :: bs, a :: as, d :: ds, h, g => by
    unfold leT1s at h
    rw [Bool.and_eq_true] at h
    unfold hasL at g ⊢
    obtain ⟨y, my, hy⟩ := has_alts g.1
    exact ⟨leT1_ok (List.all_eq_true.mp h.1 y my) hy, leT1s_ok h.2 g.2⟩
  | _ :: _, _ :: _, [], _, g => by simp [hasL] at g
  | [], _ :: _, _, h, _ => by simp [leT1s] at h
  | _ :: _, [], _, h, _ => by simp [leT1s] at h
end
theorem leT_ok {b a : T} {d : D} (h : leT b a = true) (g : has Ω a d) : has Ω b d := by
  unfold leT at h
  obtain ⟨y, my, hy⟩ := has_alts g
  exact leT1_ok (List.all_eq_true.mp h y my) hy
theorem leTs_ok : ∀ {bs as : List T} {ds : List D}, leTs bs as = true → hasL Ω as ds → hasL Ω bs ds
  | [], [], ds, _, g => g
  | b :: bs, a :: as, d :: ds, h, g => by
    unfold leTs at h
    rw [Bool.and_eq_true] at h
    unfold hasL at g ⊢
    exact ⟨leT_ok h.1 g.1, leTs_ok h.2 g.2⟩
  | _ :: _, _ :: _, [], _, g => by simp [hasL] at g
  | [], _ :: _, _, h, _ => by simp [leTs] at h
  | _ :: _, [], _, h, _ => by simp [leTs] at h
end Ab
/-! X2: symbolic values, contexts, states. -/
namespace Ab
open PySem PySem.Spec L2
open Vs hiding Env
open PyProof.Rows hiding St
inductive S where
  | v (n : Nat)
  | lit (p : PyData)
  | tup (l : List S)
  | ls (l : List S)
  | fl (l : List S)
inductive Fn where
  | op (o : Op)
  | id (n : Nat)
  deriving DecidableEq
structure CE where
  t : T
  o : Option (Fn × List S)
/-- what stands behind the opaque types and the named functions -/
structure Iv where
  Ω : Pi
  fi : Nat → List D → Option D
def fnD (iv : Iv) : Fn → List D → Option D
  | .op o => opD o
  | .id n => iv.fi n
mutual
def den (ν : List D) : S → Option D
  | .v n => ν[n]?
  | .lit p => some (.sh p)
  | .tup l => match dens ν l with
    | some ds => some (mkTup ds)
    | none => none
  | .ls l => match dens ν l with
    | some ds => some (.ls ds)
    | none => none
  | .fl l => match dens ν l with
    | some ds => match unsh ds with
      | some l => some (.sh (.list l))
      | none => none
    | none => none
def dens (ν : List D) : List S → Option (List D)
  | [] => some []
  | s :: l => match den ν s, dens ν l with
    | some d, some ds => some (d :: ds)
    | _, _ => none
end
mutual
theorem den_app : ∀ {ν μ : List D} {s : S} {d : D}, den ν s = some d → den (ν ++ μ) s = some d
  | ν, μ, .v n, d, h => by
    simp only [den] at h ⊢
    rw [List.getElem?_append_left (List.getElem?_eq_some_iff.mp h).1]
    exact h
  | ν, μ, .lit p, d, h => h
  | ν, μ, .tup l, d, h => by
    unfold den at h ⊢
    cases e : dens ν l with
    | none => rw [e] at h; cases h
    | some ds => rw [e] at h; rw [dens_app e]; exact h
  | ν, μ, .ls l, d, h => by
    unfold den at h ⊢
    cases e : dens ν l with
    | none => rw [e] at h; cases h
    | some ds => rw [e] at h; rw [dens_app e]; exact h
  | ν, μ, .fl l, d, h => by
    unfold den at h ⊢
    cases e : dens ν l with
    | none => rw [e] at h; cases h
    | some ds => rw [e] at h; rw [dens_app e]; exact h
theorem dens_app : ∀ {ν μ : List D} {l : List S} {ds : List D}, dens ν l = some ds → dens (ν ++ μ) l = some ds
  | ν, μ, [], ds, h => h
  | ν, μ, s :: l, ds, h => by
    unfold dens at h ⊢
    cases e1 : den ν s with
    | none => rw [e1] at h; cases h
    | some d =>
      cases e2 : dens ν l with
      | none => rw [e1, e2] at h; cases h
      | some ds' => rw [e1, e2] at h; rw [den_app e1, dens_app e2]; exact h
end
theorem dens_cons {ν : List D} {s : S} {l : List S} {ds : List D} (h : dens ν (s :: l) = some ds) : ∃ d ds', ds = d :: ds' ∧ den ν s = some d ∧ dens ν l = some ds' := by
  unfold dens at h
  cases e1 : den ν s with
  | none => rw [e1] at h; cases h
  | some d =>
    cases e2 : dens ν l with
    | none => rw [e1, e2] at h; cases h
    | some ds' => rw [e1, e2] at h; cases h; exact ⟨d, ds', rfl, rfl, rfl⟩
theorem dens_mk {ν : List D} {s : S} {l : List S} {d : D} {ds : List D} (h1 : den ν s = some d) (h2 : dens ν l = some ds) : dens ν (s :: l) = some (d :: ds) := by
  unfold dens
  rw [h1, h2]
theorem dens_append : ∀ {ν : List D} {l m : List S} {ds es : List D}, dens ν l = some ds → dens ν m = some es → dens ν (l ++ m) = some (ds ++ es)
  | ν, [], m, ds, es, h1, h2 => by simp [dens] at h1; subst h1; exact h2
  | ν, s :: l, m, ds, es, h1, h2 => by
    obtain ⟨d, ds', rfl, a, b⟩ := dens_cons h1
    exact dens_mk a (dens_append b h2)
theorem dens_len : ∀ {ν : List D} {l : List S} {ds : List D}, dens ν l = some ds → ds.length = l.length
  | ν, [], ds, h => by simp [dens] at h; subst h; rfl
  | ν, s :: l, ds, h => by
    obtain ⟨d, ds', rfl, a, b⟩ := dens_cons h
    simp [dens_len b]
theorem dens_get : ∀ {ν : List D} {l : List S} {ds : List D} {i : Nat} {s : S}, dens ν l = some ds → l[i]? = some s → ∃ d, ds[i]? = some d ∧ den ν s = some d
  | ν, s :: l, ds, 0, _, h, e => by
    obtain ⟨d, ds', rfl, a, b⟩ := dens_cons h
    simp at e; subst e
    exact ⟨d, rfl, a⟩
  | ν, s :: l, ds, i + 1, _, h, e => by
    obtain ⟨d, ds', rfl, a, b⟩ := dens_cons h
    exact dens_get (i := i) b (by simpa using e)
  | _, [], _, _, _, _, e => by simp at e
theorem dens_take : ∀ {ν : List D} {l : List S} {ds : List D} (n : Nat), dens ν l = some ds → dens ν (l.take n) = some (ds.take n)
  | ν, l, ds, 0, h => by simp [dens]
  | ν, [], ds, n + 1, h => by simp [dens] at h; subst h; simp [dens]
  | ν, s :: l, ds, n + 1, h => by
    obtain ⟨d, ds', rfl, a, b⟩ := dens_cons h
    exact dens_mk a (dens_take n b)
theorem dens_drop : ∀ {ν : List D} {l : List S} {ds : List D} (n : Nat), dens ν l = some ds → dens ν (l.drop n) = some (ds.drop n)
  | ν, l, ds, 0, h => h
  | ν, [], ds, n + 1, h => by simp [dens] at h; subst h; simp [dens]
  | ν, s :: l, ds, n + 1, h => by
    obtain ⟨d, ds', rfl, a, b⟩ := dens_cons h
    exact dens_drop n b
theorem dens_rev : ∀ {ν : List D} {l : List S} {ds : List D}, dens ν l = some ds → dens ν l.reverse = some ds.reverse
  | ν, [], ds, h => by simp [dens] at h; subst h; rfl
  | ν, s :: l, ds, h => by
    obtain ⟨d, ds', rfl, a, b⟩ := dens_cons h
    rw [List.reverse_cons, List.reverse_cons]
    exact dens_append (dens_rev b) (dens_mk a rfl)
mutual
def nrm : PyData → S
  | .tuple l => .tup (nrms l)
  | p => .lit p
def nrms : List PyData → List S
  | [] => []
  | p :: l => nrm p :: nrms l
end
mutual
theorem nrm_ok : ∀ {ν : List D} {p : PyData}, den ν (nrm p) = some (.sh p)
  | ν, .tuple l => by
    unfold nrm den
    rw [nrms_ok]
    simp only [mkTup_map]
  | ν, .none => rfl
  | ν, .bool _ => rfl
  | ν, .int _ => rfl
  | ν, .str _ => rfl
  | ν, .list _ => rfl
  | ν, .dict _ => rfl
theorem nrms_ok : ∀ {ν : List D} {l : List PyData}, dens ν (nrms l) = some (l.map .sh)
  | ν, [] => rfl
  | ν, p :: l => dens_mk nrm_ok nrms_ok
end
mutual
def opn (n : Nat) : T → S × List T
  | .lit p => (nrm p, [])
  | .tup ts => (.tup (opns n ts).1, (opns n ts).2)
  | .ls ts => (.ls (opns n ts).1, (opns n ts).2)
  | .fl ts => (.fl (opns n ts).1, (opns n ts).2)
  | .int lo hi => (.v n, [.int lo hi])
  | .bool => (.v n, [.bool])
  | .str k => (.v n, [.str k])
  | .vec k lo hi t => (.v n, [.vec k lo hi t])
  | .dat a b => (.v n, [.dat a b])
  | .pr a b => (.v n, [.pr a b])
  | .uni ts => (.v n, [.uni ts])
def opns (n : Nat) : List T → List S × List T
  | [] => ([], [])
  | t :: ts => ((opn n t).1 :: (opns (n + (opn n t).2.length) ts).1, (opn n t).2 ++ (opns (n + (opn n t).2.length) ts).2)
end
section
variable {Ω : Pi}
theorem hasL_app : ∀ {a b : List T} {x y : List D}, hasL Ω a x → hasL Ω b y → hasL Ω (a ++ b) (x ++ y)
  | [], b, [], y, _, h => h
  | t :: a, b, d :: x, y, h, g => by
    unfold hasL at h
    show hasL Ω (t :: (a ++ b)) (d :: (x ++ y))
    unfold hasL
    exact ⟨h.1, hasL_app h.2 g⟩
  | [], _, _ :: _, _, h, _ => by simp [hasL] at h
  | _ :: _, _, [], _, h, _ => by simp [hasL] at h
theorem hasL_one {t : T} {d : D} (h : has Ω t d) : hasL Ω [t] [d] := by
  simp only [hasL]; exact ⟨h, trivial⟩
theorem opn_v {n : Nat} {t : T} {d : D} (h : has Ω t d) : ∃ μ, hasL Ω [t] μ ∧ ∀ ν : List D, ν.length = n → den (ν ++ μ) (.v n) = some d :=
  ⟨[d], hasL_one h, fun ν e => by subst e; simp [den]⟩
mutual
theorem opn_ok : ∀ {n : Nat} {t : T} {d : D}, has Ω t d → ∃ μ, hasL Ω (opn n t).2 μ ∧ ∀ ν : List D, ν.length = n → den (ν ++ μ) (opn n t).1 = some d
  | n, .lit p, d, h => by
    have h : d = .sh p := by simpa only [has] using h
    subst h
    exact ⟨[], trivial, fun ν _ => nrm_ok⟩
  | n, .tup ts, d, h => by
    obtain ⟨ds, rfl, q⟩ := (by simpa only [has] using h)
    obtain ⟨μ, a, b⟩ := opns_ok (n := n) q
    refine ⟨μ, by simpa only [opn] using a, fun ν e => ?_⟩
    simp only [opn, den, b ν e]
  | n, .ls ts, d, h => by
    obtain ⟨ds, rfl, q⟩ := (by simpa only [has] using h)
    obtain ⟨μ, a, b⟩ := opns_ok (n := n) q
    refine ⟨μ, by simpa only [opn] using a, fun ν e => ?_⟩
    simp only [opn, den, b ν e]
  | n, .fl ts, d, h => by
    obtain ⟨ds, rfl, q⟩ := (by simpa only [has] using h)
    obtain ⟨μ, a, b⟩ := opns_ok (n := n) q
    refine ⟨μ, by simpa only [opn] using a, fun ν e => ?_⟩
    simp only [opn, den, b ν e, unsh_map]
  | n, .int _ _, d, h => opn_v h
  | n, .bool, d, h => opn_v h
  | n, .str _, d, h => opn_v h
  | n, .vec _ _ _ _, d, h => opn_v h
  | n, .dat _ _, d, h => opn_v h
  | n, .pr _ _, d, h => opn_v h
  | n, .uni _, d, h => opn_v h
theorem opns_ok : ∀ {n : Nat} {ts : List T} {ds : List D}, hasL Ω ts ds → ∃ μ, hasL Ω (opns n ts).2 μ ∧ ∀ ν : List D, ν.length = n → dens (ν ++ μ) (opns n ts).1 = some ds
  | n, [], [], _ => ⟨[], trivial, fun _ _ => rfl⟩
  | n, t :: ts, d :: ds, h => by
    unfold hasL at h
    obtain ⟨μ, a, b⟩ := opn_ok (n := n) h.1
    obtain ⟨μ', a', b'⟩ := opns_ok (n := n + (opn n t).2.length) h.2
    refine ⟨μ ++ μ', by simpa only [opns] using hasL_app a a', fun ν e => ?_⟩
    have l := hasL_len a
    simp only [opns]
    rw [← List.append_assoc]
    exact dens_mk (den_app (b ν e)) (b' (ν ++ μ) (by simp [e, l]))
  | _, [], _ :: _, h => by simp [hasL] at h
  | _, _ :: _, [], h => by simp [hasL] at h
end
end
structure satC (iv : Iv) (ν : List D) (C : List CE) : Prop where
  len : ν.length = C.length
  get : ∀ (n : Nat) (c : CE), C[n]? = some c → ∃ d, ν[n]? = some d ∧ has iv.Ω c.t d ∧ ∀ (f : Fn) (ss : List S), c.o = some (f, ss) → ∃ ds, dens ν ss = some ds ∧ fnD iv f ds = some d
def plainC (ts : List T) : List CE := ts.map fun t => ⟨t, none⟩
section
variable {iv : Iv} {ν : List D} {C : List CE}
theorem satC.app {ts : List T} {μ : List D} (h : satC iv ν C) (g : hasL iv.Ω ts μ) : satC iv (ν ++ μ) (C ++ plainC ts) := by
  have l := hasL_len g
  refine ⟨by simp [plainC, h.len, l], fun n c e => ?_⟩
  by_cases q : n < C.length
  · rw [List.getElem?_append_left q] at e
    obtain ⟨d, a, b, o⟩ := h.get n c e
    refine ⟨d, ?_, b, fun f ss z => ?_⟩
    · rw [List.getElem?_append_left (by rw [h.len]; exact q)]; exact a
    · obtain ⟨ds, x, y⟩ := o f ss z
      exact ⟨ds, dens_app x, y⟩
  · rw [List.getElem?_append_right (by omega)] at e
    unfold plainC at e
    rw [List.getElem?_map] at e
    obtain ⟨t, e1, rfl⟩ := Option.map_eq_some_iff.mp e
    obtain ⟨d, a, b⟩ := hasL_get g e1
    refine ⟨d, ?_, b, fun f ss z => by cases z⟩
    rw [List.getElem?_append_right (by rw [h.len]; omega), h.len]
    exact a
theorem satC.one {t : T} {d : D} {f : Fn} {ss : List S} {ds : List D} (h : satC iv ν C) (g : has iv.Ω t d) (e1 : dens ν ss = some ds) (e2 : fnD iv f ds = some d) : satC iv (ν ++ [d]) (C ++ [⟨t, some (f, ss)⟩]) := by
  refine ⟨by simp [h.len], fun n c e => ?_⟩
  by_cases q : n < C.length
  · rw [List.getElem?_append_left q] at e
    obtain ⟨d', a, b, o⟩ := h.get n c e
    refine ⟨d', ?_, b, fun f ss z => ?_⟩
    · rw [List.getElem?_append_left (by rw [h.len]; exact q)]; exact a
    · obtain ⟨ds, x, y⟩ := o f ss z
      exact ⟨ds, dens_app x, y⟩
  · rw [List.getElem?_append_right (by omega)] at e
    have hn : n - C.length = 0 := by
      have := (List.getElem?_eq_some_iff.mp e).1
      simpa using this
    rw [hn] at e
    cases e
    refine ⟨d, ?_, g, fun f ss z => ?_⟩
    · rw [List.getElem?_append_right (by rw [h.len]; omega), h.len, hn]; rfl
    · cases z
      exact ⟨ds, dens_app e1, e2⟩
end
mutual
def tyS (C : List CE) : S → Option T
  | .v n => match C[n]? with
    | some c => some c.t
    | none => none
  | .lit p => some (.lit p)
  | .tup l => match tySs C l with
    | some ts => some (.tup ts)
    | none => none
  | .ls l => match tySs C l with
    | some ts => some (.ls ts)
    | none => none
  | .fl l => match tySs C l with
    | some ts => if shTs ts = true then some (.fl ts) else none
    | none => none
def tySs (C : List CE) : List S → Option (List T)
  | [] => some []
  | s :: l => match tyS C s, tySs C l with
    | some t, some ts => some (t :: ts)
    | _, _ => none
end
section
variable {iv : Iv} {ν : List D} {C : List CE} (H : satC iv ν C)
include H
mutual
theorem tyS_ok : ∀ {s : S} {t : T}, tyS C s = some t → ∃ d, den ν s = some d ∧ has iv.Ω t d
  | .v n, t, h => by
    unfold tyS at h
    split at h
    · rename_i c e
      cases h
      obtain ⟨d, a, b, _⟩ := H.get n c e
      exact ⟨d, a, b⟩
    · cases h
  | .lit p, t, h => by
    simp only [tyS, Option.some.injEq] at h
    subst h
    exact ⟨_, rfl, by simp [has]⟩
  | .tup l, t, h => by
    unfold tyS at h
    split at h
    · rename_i ts e
      cases h
      obtain ⟨ds, a, b⟩ := tySs_ok e
      exact ⟨mkTup ds, by simp only [den, a], by unfold has; exact ⟨ds, rfl, b⟩⟩
    · cases h
  | .ls l, t, h => by
    unfold tyS at h
    split at h
    · rename_i ts e
      cases h
      obtain ⟨ds, a, b⟩ := tySs_ok e
      exact ⟨.ls ds, by simp only [den, a], by unfold has; exact ⟨ds, rfl, b⟩⟩
    · cases h
  | .fl l, t, h => by
    unfold tyS at h
    split at h
    · rename_i ts e
      split at h
      · rename_i s
        cases h
        obtain ⟨ds, a, b⟩ := tySs_ok e
        obtain ⟨m, rfl⟩ := hasL_sh b s
        exact ⟨.sh (.list m), by simp only [den, a, unsh_map], by unfold has; exact ⟨m, rfl, b⟩⟩
      · cases h
    · cases h
theorem tySs_ok : ∀ {l : List S} {ts : List T}, tySs C l = some ts → ∃ ds, dens ν l = some ds ∧ hasL iv.Ω ts ds
  | [], ts, h => by
    simp only [tySs, Option.some.injEq] at h
    subst h
    exact ⟨[], rfl, trivial⟩
  | s :: l, ts, h => by
    unfold tySs at h
    split at h
    · rename_i t ts' e1 e2
      cases h
      obtain ⟨d, a, b⟩ := tyS_ok e1
      obtain ⟨ds, a', b'⟩ := tySs_ok e2
      exact ⟨d :: ds, dens_mk a a', by unfold hasL; exact ⟨b, b'⟩⟩
    · cases h
end
end
mutual
def sEq : S → S → Bool
  | .v n, .v m => decide (n = m)
  | .lit p, .lit q => pEq p q
  | .tup a, .tup b => sEqs a b
  | .ls a, .ls b => sEqs a b
  | .fl a, .fl b => sEqs a b
  | _, _ => false
def sEqs : List S → List S → Bool
  | [], [] => true
  | a :: as, b :: bs => sEq a b && sEqs as bs
  | _, _ => false
end
mutual
theorem sEq_eq : ∀ {a b : S}, sEq a b = true → a = b
  | .v _, b, h => by cases b <;> simp_all [sEq]
  | .lit _, b, h => by cases b <;> simp [sEq] at h; exact congrArg _ (pEq_eq h)
  | .tup x, b, h => by cases b <;> simp [sEq] at h; exact congrArg _ (sEqs_eq h)
  | .ls x, b, h => by cases b <;> simp [sEq] at h; exact congrArg _ (sEqs_eq h)
  | .fl x, b, h => by cases b <;> simp [sEq] at h; exact congrArg _ (sEqs_eq h)
theorem sEqs_eq : ∀ {a b : List S}, sEqs a b = true → a = b
  | [], [], _ => rfl
  | x :: xs, y :: ys, h => by
    simp only [sEqs, Bool.and_eq_true] at h
    rw [sEq_eq h.1, sEqs_eq h.2]
  | [], _ :: _, h => by simp [sEqs] at h
  | _ :: _, [], h => by simp [sEqs] at h
end
/-- what is known already -/
def findO (f : Fn) (ss : List S) : List CE → Nat → Option Nat
  | [], _ => none
  | c :: C, k => match c.o with
    | some (g, ts) => if decide (f = g) && sEqs ss ts then some k else findO f ss C (k + 1)
    | none => findO f ss C (k + 1)
theorem findO_ok {f : Fn} {ss : List S} : ∀ {C : List CE} {k n : Nat}, findO f ss C k = some n → ∃ c, C[n - k]? = some c ∧ c.o = some (f, ss) ∧ k ≤ n
  | c :: C, k, n, h => by
    unfold findO at h
    have nx : findO f ss C (k + 1) = some n → ∃ c', (c :: C)[n - k]? = some c' ∧ c'.o = some (f, ss) ∧ k ≤ n := fun h => by
      obtain ⟨c', a, b, l⟩ := findO_ok h
      refine ⟨c', ?_, b, by omega⟩
      rw [show n - k = (n - (k + 1)) + 1 by omega, List.getElem?_cons_succ]
      exact a
    split at h
    · rename_i g ts e
      split at h
      · rename_i q
        cases h
        simp only [Bool.and_eq_true, decide_eq_true_eq] at q
        refine ⟨c, by simp, ?_, Nat.le_refl _⟩
        rw [e, q.1, sEqs_eq q.2]
      · exact nx h
    · exact nx h
  | [], k, n, h => by simp [findO] at h
/-! ### states -/
inductive Sl where
  | un
  | top
  | val (s : S)
structure Stt where
  C : List CE
  A : List Sl
def satS (ν : List D) : Sl → Option D → Prop
  | .un, x => x = none
  | .top, _ => True
  | .val s, x => ∃ d, x = some d ∧ den ν s = some d
def satA (ν : List D) : List Sl → Vs.Env → Prop
  | [], [] => True
  | a :: A, x :: ρ => satS ν a x ∧ satA ν A ρ
  | _, _ => False
structure Sat (iv : Iv) (ν : List D) (ρ : Vs.Env) (st : Stt) : Prop where
  C : satC iv ν st.C
  A : satA ν st.A ρ
section
variable {ν μ : List D}
theorem satS.app {a : Sl} {x : Option D} (h : satS ν a x) : satS (ν ++ μ) a x := by
  cases a with
  | un => exact h
  | top => trivial
  | val s => obtain ⟨d, e, q⟩ := h; exact ⟨d, e, den_app q⟩
theorem satA.app : ∀ {A : List Sl} {ρ : Vs.Env}, satA ν A ρ → satA (ν ++ μ) A ρ
  | [], [], _ => trivial
  | a :: A, x :: ρ, h => ⟨satS.app h.1, satA.app h.2⟩
  | [], _ :: _, h => h
  | _ :: _, [], h => h
theorem satA.len : ∀ {A : List Sl} {ρ : Vs.Env}, satA ν A ρ → ρ.length = A.length
  | [], [], _ => rfl
  | a :: A, x :: ρ, h => congrArg (· + 1) (satA.len h.2)
  | [], _ :: _, h => h.elim
  | _ :: _, [], h => h.elim
theorem satA.get : ∀ {A : List Sl} {ρ : Vs.Env} {i : Nat} {a : Sl}, satA ν A ρ → A[i]? = some a → ∃ x, ρ[i]? = some x ∧ satS ν a x
  | a :: A, x :: ρ, 0, _, h, e => by simp at e; subst e; exact ⟨x, rfl, h.1⟩
  | a :: A, x :: ρ, i + 1, _, h, e => satA.get (i := i) h.2 (by simpa using e)
  | [], _, _, _, _, e => by simp at e
  | _ :: _, [], _, _, h, _ => h.elim
theorem satA.set : ∀ {A : List Sl} {ρ : Vs.Env} {a : Sl} {x : Option D} (i : Nat), satA ν A ρ → satS ν a x → satA ν (A.set i a) (ρ.set i x)
  | [], [], _, _, _, _, _ => trivial
  | a :: A, x :: ρ, _, _, 0, h, g => ⟨g, h.2⟩
  | a :: A, x :: ρ, _, _, i + 1, h, g => ⟨h.1, satA.set i h.2 g⟩
  | [], _ :: _, _, _, _, h, _ => h.elim
  | _ :: _, [], _, _, _, h, _ => h.elim
theorem satA.val {A : List Sl} {ρ : Vs.Env} {i : Nat} {s : S} (h : satA ν A ρ) (e : A[i]? = some (.val s)) : ∃ d, ρ[i]? = some (some d) ∧ den ν s = some d := by
  obtain ⟨x, a, d, rfl, b⟩ := h.get e
  exact ⟨d, a, b⟩
theorem satA.un {A : List Sl} {ρ : Vs.Env} {i : Nat} (h : satA ν A ρ) (e : A[i]? = some .un) : ρ[i]? = some none := by
  obtain ⟨x, a, b⟩ := h.get e
  rw [a, show x = none from b]
end
end Ab
/-! XR: what repr writes is a sound text. -/
namespace Ab
open PySem PySem.Spec L2 Vs
open PyProof.Rows hiding St
def Ok (x : Str) : Prop := ∀ c ∈ x.cps.toList, c < 1114112
theorem chr_lt (c : Char) : c.toNat < 1114112 := by
  have h := c.valid
  simp only [UInt32.isValidChar, Nat.isValidChar] at h
  show c.val.toNat < 1114112
  omega
theorem ok_str (s : String) : Ok (Str.ofString s) := by
  rw [Str.ofString_eq_toList]
  intro c h
  simp at h
  obtain ⟨d, _, rfl⟩ := h
  exact chr_lt d
theorem ok_app {a b : Str} (h : Ok a) (g : Ok b) : Ok (a ++ b) := by
  intro c m
  have m : c ∈ (a.cps ++ b.cps).toList := m
  rw [Array.toList_append, List.mem_append] at m
  exact m.elim (h c) (g c)
theorem ok_iff {x : Str} : PySem.PyData.strOk x = true ↔ Ok x := by
  unfold PySem.PyData.strOk Ok
  rw [Array.all_eq_true_iff_forall_mem]
  constructor
  · intro h c m
    have := h c (Array.mem_toList_iff.mp m)
    simpa using this
  · intro h c m
    have := h c (Array.mem_toList_iff.mpr m)
    simpa using this
theorem ok_from : ∀ (ts : List Str) (k : Nat) (acc : Str), Ok acc → (∀ t ∈ ts, Ok t) → Ok (textFrom k acc ts)
  | [], _, _, h, _ => h
  | t :: ts, k, acc, h, g => ok_from ts (k + 1) _ (ok_app (ok_app h (by split <;> exact ok_str _)) (g t List.mem_cons_self)) fun u m => g u (List.mem_cons_of_mem _ m)
theorem ok_join {s : Str} (hs : Ok s) : ∀ (ts : List Str), (∀ t ∈ ts, Ok t) → Ok (Str.join s ts)
  | [], _ => by intro c h; simp [Str.join, Str.empty] at h
  | [x], g => g x List.mem_cons_self
  | x :: y :: r, g => by
    have : Str.join s (x :: y :: r) = x ++ s ++ Str.join s (y :: r) := rfl
    rw [this]
    exact ok_app (ok_app (g x List.mem_cons_self) hs) (ok_join hs (y :: r) fun t m => g t (List.mem_cons_of_mem _ m))
theorem ok_list {ts : List Str} (g : ∀ t ∈ ts, Ok t) : Ok (listText ts) := ok_app (ok_from ts 0 _ (ok_str _) g) (ok_str _)
theorem ok_tuple {ts : List Str} (g : ∀ t ∈ ts, Ok t) : Ok (tupleText ts) := ok_app (ok_app (ok_str _) (ok_join (ok_str _) ts g)) (by split <;> exact ok_str _)
theorem ok_char {q c : Nat} (hc : c < 1114112) : ∀ d ∈ Builtin.Str.reprChar q c, d < 1114112 := by
  have hx : ∀ w d, d ∈ List.replicate (w - ((Nat.toDigits 16 c).map Char.toNat).length) 48 ++ (Nat.toDigits 16 c).map Char.toNat → d < 1114112 := by
    intro w d m
    rw [List.mem_append] at m
    rcases m with m | m
    · rw [(List.mem_replicate.mp m).2]; decide
    · obtain ⟨e, _, rfl⟩ := List.mem_map.mp m
      exact chr_lt e
  intro d m
  unfold Builtin.Str.reprChar at m
  dsimp only at m
  repeat' split at m
  all_goals first
    | (simp only [List.mem_cons, List.not_mem_nil, or_false] at m; omega)
    | (rw [List.mem_append] at m
       rcases m with m | m
       · simp only [List.mem_cons, List.not_mem_nil, or_false] at m; omega
       · exact hx _ _ m)
theorem ok_fold {q : Nat} : ∀ (l : List Nat) (acc : Array Nat), (∀ c ∈ l, c < 1114112) → (∀ c ∈ acc.toList, c < 1114112) → ∀ c ∈ (l.foldl (fun out c => out ++ (Builtin.Str.reprChar q c).toArray) acc).toList, c < 1114112
  | [], acc, _, h => h
  | x :: l, acc, g, h => by
    rw [List.foldl_cons]
    refine ok_fold l _ (fun c m => g c (List.mem_cons_of_mem _ m)) fun c m => ?_
    rw [Array.toList_append, List.mem_append] at m
    rcases m with m | m
    · exact h c m
    · exact ok_char (g x List.mem_cons_self) c (by simpa using m)
theorem ok_repr {x : Str} (h : Ok x) : Ok (reprText x) := by
  unfold reprText
  intro c m
  have hq : reprQuote x < 1114112 := by unfold reprQuote; split <;> decide
  change c ∈ ((x.cps.foldl (fun out c => out ++ (Builtin.Str.reprChar (reprQuote x) c).toArray) #[reprQuote x]).push (reprQuote x)).toList at m
  rw [Array.toList_push, List.mem_append] at m
  rcases m with m | m
  · rw [← Array.foldl_toList] at m
    exact ok_fold _ _ h (fun c m => by simp at m; omega) c m
  · simp at m; omega
mutual
theorem ok_shown : ∀ {p : PyData}, gdB p = true → Ok p.shown
  | .none, _ => ok_str _
  | .bool b, _ => by cases b <;> exact ok_str _
  | .int i, _ => ok_str _
  | .str x, h => ok_repr (ok_iff.mp (by simpa [gdB] using h))
  | .list xs, h => by
    simp only [PyData.shown]
    exact ok_list (ok_showns (by simpa [gdB] using h))
  | .tuple xs, h => by
    simp only [PyData.shown]
    exact ok_tuple (ok_showns (by simpa [gdB] using h))
  | .dict _, h => by simp [gdB] at h
theorem ok_showns : ∀ {xs : List PyData}, gdBs xs = true → ∀ t ∈ PyData.shownAll xs, Ok t
  | [], _ => by simp [PyData.shownAll]
  | x :: xs, h => by
    have h : gdB x = true ∧ gdBs xs = true := by simpa [gdBs] using h
    intro t m
    simp only [PyData.shownAll] at m
    rcases List.mem_cons.mp m with rfl | m
    · exact ok_shown h.1
    · exact ok_showns h.2 t m
end
end Ab
/-! XS: data that can be shown: also dicts that have nothing, and longer numbers. -/
namespace Ab
open PySem PySem.Spec L2 Vs
open PyProof.Rows hiding St
/-- a dict that may be shown: nothing, or one text and its number -/
def gdD : List (PyData × PyData) → Bool
  | [] => true
  | [(.str x, .int i)] => PySem.PyData.strOk x && decide (i.natAbs < 10 ^ 44)
  | _ => false
theorem gdD_inv {kvs : List (PyData × PyData)} (h : gdD kvs = true) : kvs = [] ∨ ∃ x i, kvs = [(.str x, .int i)] ∧ PySem.PyData.strOk x = true ∧ i.natAbs < 10 ^ 44 := by
  unfold gdD at h
  split at h
  · exact .inl rfl
  · rw [Bool.and_eq_true, decide_eq_true_eq] at h
    exact .inr ⟨_, _, rfl, h.1, h.2⟩
  · cases h
mutual
def gdS : PyData → Bool
  | .none => true
  | .bool _ => true
  | .int i => decide (i.natAbs < 10 ^ 44)
  | .str x => PySem.PyData.strOk x
  | .list xs => gdSs xs
  | .tuple xs => gdSs xs
  | .dict kvs => gdD kvs
def gdSs : List PyData → Bool
  | [] => true
  | x :: xs => gdS x && gdSs xs
end
mutual
theorem gdS_of : ∀ {p : PyData}, gdB p = true → gdS p = true
  | .none, _ => rfl
  | .bool _, _ => rfl
  | .int i, h => by
    have h : i.natAbs < 10 ^ 38 := by simpa [gdB] using h
    simp only [gdS, decide_eq_true_eq]
    exact Nat.lt_of_lt_of_le h (by decide +kernel)
  | .str x, h => by simpa [gdB, gdS] using h
  | .list xs, h => by
    have := gdSs_of (xs := xs) (by simpa [gdB] using h)
    simpa [gdS] using this
  | .tuple xs, h => by
    have := gdSs_of (xs := xs) (by simpa [gdB] using h)
    simpa [gdS] using this
  | .dict _, h => by simp [gdB] at h
theorem gdSs_of : ∀ {xs : List PyData}, gdBs xs = true → gdSs xs = true
  | [], _ => rfl
  | x :: xs, h => by
    have h : gdB x = true ∧ gdBs xs = true := by simpa [gdBs] using h
    simp [gdSs, gdS_of h.1, gdSs_of h.2]
end
mutual
theorem gdS_short : ∀ {p : PyData}, gdS p = true → p.leavesShort 46 = true
  | .none, _ => rfl
  | .bool _, _ => rfl
  | .int i, h => by
    have h : i.natAbs < 10 ^ 44 := by simpa [gdS] using h
    have e := int_text_length_le10 (k := 44) (by decide) h
    simp only [PyData.leavesShort, decide_eq_true_eq]
    show (Str.ofString (toString i)).length ≤ 46
    rw [PySem.ofString_length]
    omega
  | .str x, h => by
    have h : PySem.PyData.strOk x = true := by simpa [gdS] using h
    have h := ok_iff.mp h
    simp only [PyData.leavesShort, List.all_eq_true, decide_eq_true_eq]
    intro c m
    have := h c m
    omega
  | .list xs, h => by
    have := gdSs_short (xs := xs) (by simpa [gdS] using h)
    simpa [PyData.leavesShort] using this
  | .tuple xs, h => by
    have := gdSs_short (xs := xs) (by simpa [gdS] using h)
    simpa [PyData.leavesShort] using this
  | .dict kvs, h => by
    rcases gdD_inv (by simpa [gdS] using h) with rfl | ⟨x, i, rfl, h1, h2⟩
    · simp [PyData.leavesShort, PyData.leavesShortKv]
    · have e := int_text_length_le10 (k := 44) (by decide) h2
      have h1 := ok_iff.mp h1
      have a : PyData.leavesShort 46 (.str x) = true := by
        simp only [PyData.leavesShort, List.all_eq_true, decide_eq_true_eq]
        intro c m
        have := h1 c m
        omega
      have b : PyData.leavesShort 46 (.int i) = true := by
        simp only [PyData.leavesShort, decide_eq_true_eq]
        show (Str.ofString (toString i)).length ≤ 46
        rw [PySem.ofString_length]
        omega
      simp only [PyData.leavesShort, PyData.leavesShortKv] at a b ⊢
      rw [a, b]; rfl
theorem gdSs_short : ∀ {xs : List PyData}, gdSs xs = true → PyData.leavesShortAll 46 xs = true
  | [], _ => by simp [PyData.leavesShortAll]
  | x :: xs, h => by
    have h : gdS x = true ∧ gdSs xs = true := by simpa [gdSs] using h
    simp [PyData.leavesShortAll, gdS_short h.1, gdSs_short h.2]
end
mutual
theorem gdS_show : ∀ {p : PyData}, gdS p = true → p.showable = true
  | .none, _ => rfl
  | .bool _, _ => rfl
  | .int i, h => by
    have h : i.natAbs < 10 ^ 44 := by simpa [gdS] using h
    simp only [PyData.showable, decide_eq_true_eq]
    by_cases z : i.natAbs = 0
    · rw [z]; decide
    · exact (Nat.log2_lt z).mpr (Nat.lt_of_lt_of_le h (by decide +kernel))
  | .str x, _ => rfl
  | .list xs, h => by
    have := gdSs_show (xs := xs) (by simpa [gdS] using h)
    simpa [PyData.showable] using this
  | .tuple xs, h => by
    have := gdSs_show (xs := xs) (by simpa [gdS] using h)
    simpa [PyData.showable] using this
  | .dict kvs, h => by
    rcases gdD_inv (by simpa [gdS] using h) with rfl | ⟨x, i, rfl, h1, h2⟩
    · simp [PyData.showable, PyData.showableKv]
    · have b : i.natAbs.log2 < 1920 := by
        by_cases z : i.natAbs = 0
        · rw [z]; decide
        · exact (Nat.log2_lt z).mpr (Nat.lt_of_lt_of_le h2 (by decide +kernel))
      simp [PyData.showable, PyData.showableKv, b]
theorem gdSs_show : ∀ {xs : List PyData}, gdSs xs = true → PyData.showableAll xs = true
  | [], _ => by simp [PyData.showableAll]
  | x :: xs, h => by
    have h : gdS x = true ∧ gdSs xs = true := by simpa [gdSs] using h
    simp [PyData.showableAll, gdS_show h.1, gdSs_show h.2]
end
mutual
theorem ok_shownS : ∀ {p : PyData}, gdS p = true → Ok p.shown
  | .none, _ => ok_str _
  | .bool b, _ => by cases b <;> exact ok_str _
  | .int i, _ => ok_str _
  | .str x, h => ok_repr (ok_iff.mp (by simpa [gdS] using h))
  | .list xs, h => by
    simp only [PyData.shown]
    exact ok_list (ok_shownSs (by simpa [gdS] using h))
  | .tuple xs, h => by
    simp only [PyData.shown]
    exact ok_tuple (ok_shownSs (by simpa [gdS] using h))
  | .dict kvs, h => by
    rcases gdD_inv (by simpa [gdS] using h) with rfl | ⟨x, i, rfl, h1, h2⟩
    · simp only [PyData.shown, PyData.shownKv]
      exact ok_app (ok_app (ok_str _) (by intro c h; simp [Str.join, Str.empty] at h)) (ok_str _)
    · have a : Ok (PyData.str x).shown := ok_repr (ok_iff.mp h1)
      have b : Ok (PyData.int i).shown := ok_str _
      have e : Str.join ", " [(PyData.str x).shown ++ ": " ++ (PyData.int i).shown] = (PyData.str x).shown ++ ": " ++ (PyData.int i).shown := by
        simp [Str.join, List.intersperse]
      have f : (PyData.dict [(.str x, .int i)]).shown = ("{" : Str) ++ ((PyData.str x).shown ++ ": " ++ (PyData.int i).shown) ++ "}" := by
        rw [dict1_shown]
        unfold dictText
        rw [e]
      rw [f]
      exact ok_app (ok_app (ok_str _) (ok_app (ok_app a (ok_str _)) b)) (ok_str _)
theorem ok_shownSs : ∀ {xs : List PyData}, gdSs xs = true → ∀ t ∈ PyData.shownAll xs, Ok t
  | [], _ => by simp [PyData.shownAll]
  | x :: xs, h => by
    have h : gdS x = true ∧ gdSs xs = true := by simpa [gdSs] using h
    intro t m
    simp only [PyData.shownAll] at m
    rcases List.mem_cons.mp m with rfl | m
    · exact ok_shownS h.1
    · exact ok_shownSs h.2 t m
end
structure Gs (dep w : Nat) (p : PyData) : Prop where
  ok : gdS p = true
  dep : p.depth ≤ dep
  w : p.weight ≤ w
theorem Gs.shown {dep w : Nat} {p : PyData} (h : Gs dep w p) : p.shown.length ≤ 48 * w + 46 := by
  have := PyData.shown_le 46 (by decide) p (gdS_short h.ok)
  have := h.w
  omega
theorem Gs.mono {dep w dep' w' : Nat} {p : PyData} (h : Gs dep w p) (h1 : dep ≤ dep') (h2 : w ≤ w') : Gs dep' w' p := ⟨h.ok, Nat.le_trans h.dep h1, Nat.le_trans h.w h2⟩
theorem Gs.repr {dep w : Nat} {p : PyData} {x : D} (e : x.py = some p) (h : Gs dep w p) (h1 : dep ≤ 60) (h2 : w ≤ 340000) : oRepr x = some (.sh (.str p.shown)) := by
  have q := h.shown
  have s : sizeLine = 16777216 := by decide
  have d := h.dep
  simp only [oRepr, e, gdS_show h.ok, Bool.true_and]
  rw [decide_eq_true (by omega : p.depth ≤ 60), decide_eq_true (by omega : p.shown.length ≤ sizeLine)]
  rfl
theorem gss_of {dep w : Nat} : ∀ {l : List PyData}, (∀ p ∈ l, Gs dep w p) → gdSs l = true ∧ PyData.depthAll l ≤ dep ∧ PyData.weightAll l ≤ l.length * (w + 1)
  | [], _ => ⟨rfl, Nat.zero_le _, by simp [PyData.weightAll]⟩
  | p :: l, h => by
    obtain ⟨a, b, c⟩ := gss_of (l := l) fun q hq => h q (List.mem_cons_of_mem _ hq)
    have g := h p List.mem_cons_self
    refine ⟨by simp [gdSs, g.ok, a], ?_, ?_⟩
    · simp only [PyData.depthAll]
      exact Nat.max_le.mpr ⟨g.dep, b⟩
    · simp only [PyData.weightAll, List.length_cons, Nat.add_mul, Nat.one_mul]
      have := g.w
      omega
mutual
def rm : T → Option (Nat × Nat)
  | .lit p => if gdS p = true then some (p.depth, p.weight) else none
  | .tup ts => match rms ts with
    | some (a, b) => some (a + 1, b)
    | none => none
  | .ls ts => match rms ts with
    | some (a, b) => some (a + 1, b)
    | none => none
  | .fl ts => match rms ts with
    | some (a, b) => some (a + 1, b)
    | none => none
  | .vec _ _ hi t => match rm t with
    | some (a, b) => some (a + 1, hi * (b + 1))
    | none => none
  | .uni ts => rmU ts
  | .int a b => dm (.int a b)
  | .bool => some (0, 0)
  | .str n => some (0, n)
  | .dat a b => some (a, b)
  | .pr _ _ => none
def rms : List T → Option (Nat × Nat)
  | [] => some (0, 0)
  | t :: ts => match rm t, rms ts with
    | some (a, b), some (c, d) => some (max a c, b + 1 + d)
    | _, _ => none
def rmU : List T → Option (Nat × Nat)
  | [] => some (0, 0)
  | t :: ts => match rm t, rmU ts with
    | some (a, b), some (c, d) => some (max a c, max b d)
    | _, _ => none
end
section
variable {Ω : Pi}
theorem Gd.gs {a b : Nat} {p : PyData} (h : Gd a b p) : Gs a b p := ⟨gdS_of h.ok, h.dep, h.w⟩
mutual
theorem has_rm : ∀ {t : T} {d : D} {a b : Nat}, has Ω t d → rm t = some (a, b) → ∃ p, d.py = some p ∧ Gs a b p
  | .lit p, d, a, b, h, e => by
    have h : d = .sh p := by simpa only [has] using h
    subst h
    unfold rm at e
    split at e
    · rename_i q
      cases e
      exact ⟨p, rfl, q, Nat.le_refl _, Nat.le_refl _⟩
    · cases e
  | .int lo hi, d, a, b, h, e => by
    obtain ⟨p, x, g⟩ := has_dm h (by unfold rm at e; exact e)
    exact ⟨p, x, g.gs⟩
  | .bool, d, a, b, h, e => by
    obtain ⟨i, rfl⟩ := (by simpa only [has] using h)
    exact ⟨_, rfl, rfl, by simp [PyData.depth], by simp [PyData.weight]⟩
  | .str n, d, a, b, h, e => by
    obtain ⟨x, rfl, h1, h2⟩ := (by simpa only [has] using h)
    simp only [rm, Option.some.injEq, Prod.mk.injEq] at e
    obtain ⟨rfl, rfl⟩ := e
    exact ⟨_, rfl, by simpa [gdS] using h1, by simp [PyData.depth], by simpa [PyData.weight] using h2⟩
  | .tup ts, d, a, b, h, e => by
    obtain ⟨ds, rfl, q⟩ := (by simpa only [has] using h)
    unfold rm at e
    split at e
    · rename_i r
      cases e
      obtain ⟨l, x, y, z, w⟩ := hasL_rm q r
      refine ⟨.tuple l, by rw [mkTup_py, x], by simpa [gdS] using y, by simp only [PyData.depth]; omega, by simpa [PyData.weight] using w⟩
    · cases e
  | .ls ts, d, a, b, h, e => by
    obtain ⟨ds, rfl, q⟩ := (by simpa only [has] using h)
    unfold rm at e
    split at e
    · rename_i r
      cases e
      obtain ⟨l, x, y, z, w⟩ := hasL_rm q r
      refine ⟨.list l, by simp [D.py, x], by simpa [gdS] using y, by simp only [PyData.depth]; omega, by simpa [PyData.weight] using w⟩
    · cases e
  | .fl ts, d, a, b, h, e => by
    obtain ⟨ds, rfl, q⟩ := (by simpa only [has] using h)
    unfold rm at e
    split at e
    · rename_i r
      cases e
      obtain ⟨l, x, y, z, w⟩ := hasL_rm q r
      rw [pys_map] at x
      cases x
      refine ⟨.list _, rfl, by simpa [gdS] using y, by simp only [PyData.depth]; omega, by simpa [PyData.weight] using w⟩
    · cases e
  | .vec k lo hi t, d, a, b, h, e => by
    obtain ⟨l, rfl, _, h2, h3⟩ := (by simpa only [has] using h)
    unfold rm at e
    split at e
    · rename_i x y r
      cases e
      have g : ∀ p ∈ l, Gs x y p := fun p hp => by
        obtain ⟨q, e, g⟩ := has_rm (h3 p hp) r
        cases e
        exact g
      obtain ⟨u, v, w⟩ := gss_of g
      have : l.length * (y + 1) ≤ hi * (y + 1) := Nat.mul_le_mul_right _ h2
      cases k with
      | tup => exact ⟨.tuple l, rfl, by simpa [gdS] using u, by simp only [PyData.depth]; omega, by simp only [PyData.weight]; omega⟩
      | lst => exact ⟨.list l, rfl, by simpa [gdS] using u, by simp only [PyData.depth]; omega, by simp only [PyData.weight]; omega⟩
      | own => exact ⟨.list l, by simp [mkQ, D.py], by simpa [gdS] using u, by simp only [PyData.depth]; omega, by simp only [PyData.weight]; omega⟩
    · cases e
  | .dat _ _, d, a, b, h, e => by
    obtain ⟨p, rfl, g⟩ := (by simpa only [has] using h)
    simp only [rm, Option.some.injEq, Prod.mk.injEq] at e
    obtain ⟨rfl, rfl⟩ := e
    exact ⟨p, rfl, g.gs⟩
  | .pr _ _, _, _, _, _, e => by simp [rm] at e
  | .uni ts, d, a, b, h, e => hasA_rm (ts := ts) (by simpa only [has] using h) (by simpa only [rm] using e)
theorem hasA_rm : ∀ {ts : List T} {d : D} {a b : Nat}, hasA Ω ts d → rmU ts = some (a, b) → ∃ p, d.py = some p ∧ Gs a b p
  | t :: ts, d, a, b, h, e => by
    unfold hasA at h
    unfold rmU at e
    split at e
    · rename_i q r
      cases e
      rcases h with h | h
      · obtain ⟨p, x, g⟩ := has_rm h q
        exact ⟨p, x, g.mono (Nat.le_max_left _ _) (Nat.le_max_left _ _)⟩
      · obtain ⟨p, x, g⟩ := hasA_rm h r
        exact ⟨p, x, g.mono (Nat.le_max_right _ _) (Nat.le_max_right _ _)⟩
    · cases e
  | [], _, _, _, h, _ => by simp [hasA] at h
theorem hasL_rm : ∀ {ts : List T} {ds : List D} {a b : Nat}, hasL Ω ts ds → rms ts = some (a, b) → ∃ l, D.pys ds = some l ∧ gdSs l = true ∧ PyData.depthAll l ≤ a ∧ PyData.weightAll l ≤ b
  | [], [], a, b, _, e => by exact ⟨[], rfl, rfl, by simp [PyData.depthAll], by simp [PyData.weightAll]⟩
  | t :: ts, d :: ds, a, b, h, e => by
    unfold hasL at h
    unfold rms at e
    split at e
    · rename_i q r
      cases e
      obtain ⟨p, x, g⟩ := has_rm h.1 q
      obtain ⟨l, y, z, u, v⟩ := hasL_rm h.2 r
      have g2 := g.dep
      have g3 := g.w
      refine ⟨p :: l, by simp [D.pys, x, y], by simp [gdSs, g.ok, z], ?_, ?_⟩
      · simp only [PyData.depthAll]; omega
      · simp only [PyData.weightAll]; omega
    · cases e
  | [], _ :: _, _, _, h, _ => by simp [hasL] at h
  | _ :: _, [], _, _, h, _ => by simp [hasL] at h
end
end
end Ab
namespace T19
open PySem PySem.Spec L2 Vs
open PyProof.Rows hiding St
def top (i : Nat) : Stmt := PySem.Challenge.pw_markkeepers_k19_whole_closed_pairs_of_st.main.body.getD i (.Pass ⟨0, 0, 0, 0⟩)
def bl : List Str := ["sorted", "tuple", "list", "dict", "len", "range", "abs", "int", "repr"]
def pats (f : Str) : List Pat := if f = "each_once" then [(1, [], [0])] else if f = "grown" then [(4, [], [0, 1, 2, 3])] else if f = "closed" then [(3, [], [0, 1, 2]), (0, ["is_typed", "pairs", "teller"], [2, 1, 0])] else if f = "_law_pot" then [(1, [], [0])] else if f = "_law_draw" then [(2, [], [0, 1])] else if f = "_law_pick" then [(2, [], [0, 1])] else if f = "_law_mixed" then [(2, [], [0, 1])] else if f = "_law_row" then [(3, [], [0, 1, 2])] else if f = "_law_teller" then [(4, [], [0, 1, 2, 3])] else if f = "_law_some_teller" then [(1, [], [0])] else if f = "_law_closed" then [(3, [], [0, 1, 2])] else []
def con : Str → Option PyData := fun x => none
abbrev s_each_once : Stmt := top 4
def N_each_once : List Str := ["items", "found", "item"]
def P_each_once : List Str := ["items"]
def io_each_once : List Bool := [false]
def b_each_once : List Sm := [
  .asg (.nm 1) (.lst []),
  .lop (.nm 2) .seq [.op .sorted [.vw 0 []]] [.ite (.bop false [.op .eq [.vw 1 [], .lst []], .op .ne [.op .ix [.vw 1 [], .op .neg [.lit (.int 1)]], .vw 2 []]]) [.ex (.mut .append 1 [] [.rd 2])] []],
  .ret (.op .tuple [.vw 1 []])]
def Γ_each_once : Gam := { con := con, fn := fun f => none }
def d_each_once : Den := denOf Γ_each_once 3 io_each_once b_each_once
theorem ok_each_once : mSs ⟨defScope s_each_once, N_each_once, bl, pats⟩ (fun _ => true) (ioS io_each_once 0) b_each_once (defBody s_each_once) = true := by decide +kernel
theorem sc_each_once : FnScope N_each_once P_each_once (defScope s_each_once) := ⟨rfl, rfl, rfl, by decide +kernel, rfl, by decide +kernel, by decide +kernel⟩
abbrev s_Behind_init : Stmt := inClass (top 6) 0
def N_Behind_init : List Str := ["self", "teller"]
def P_Behind_init : List Str := ["self", "teller"]
def io_Behind_init : List Bool := [true, false]
def b_Behind_init : List Sm := [
  .fst 0 "moves" (.op .ix [.vw 1 [], .lit (.int 1)])]
def Γ_Behind_init : Gam := { con := con, fn := fun f => none, fld := fun c x => if c = "Behind" ∧ x = "moves" then true else false }
def d_Behind_init : Den := denOf Γ_Behind_init 2 io_Behind_init b_Behind_init
theorem ok_Behind_init : mSs ⟨defScope s_Behind_init, N_Behind_init, bl, pats⟩ (fun _ => true) (ioS io_Behind_init 0) b_Behind_init (defBody s_Behind_init) = true := by decide +kernel
theorem sc_Behind_init : FnScope N_Behind_init P_Behind_init (defScope s_Behind_init) := ⟨rfl, rfl, rfl, by decide +kernel, rfl, by decide +kernel, by decide +kernel⟩
abbrev s_Behind_step : Stmt := inClass (top 6) 1
def N_Behind_step : List Str := ["self", "pair", "one", "other"]
def P_Behind_step : List Str := ["self", "pair", "one", "other"]
def io_Behind_step : List Bool := [true, false, false, false]
def b_Behind_step : List Sm := [
  .ret (.tup [.op .ix [.op .ix [.fld 0 "moves", .op .ix [.vw 1 [], .lit (.int 0)]], .vw 2 []], .op .ix [.op .ix [.fld 0 "moves", .op .ix [.vw 1 [], .lit (.int 1)]], .vw 3 []]])]
def Γ_Behind_step : Gam := { con := con, fn := fun f => none }
def d_Behind_step : Den := denOf Γ_Behind_step 4 io_Behind_step b_Behind_step
theorem ok_Behind_step : mSs ⟨defScope s_Behind_step, N_Behind_step, bl, pats⟩ (fun _ => true) (ioS io_Behind_step 0) b_Behind_step (defBody s_Behind_step) = true := by decide +kernel
theorem sc_Behind_step : FnScope N_Behind_step P_Behind_step (defScope s_Behind_step) := ⟨rfl, rfl, rfl, by decide +kernel, rfl, by decide +kernel, by decide +kernel⟩
abbrev s_grown : Stmt := top 7
def N_grown : List Str := ["stepper", "pairs", "kinds", "most", "known", "found", "at", "letter", "other", "pair"]
def P_grown : List Str := ["stepper", "pairs", "kinds", "most"]
def io_grown : List Bool := [false, false, false, false]
def b_grown : List Sm := [
  .par [5, 6] [.op .list [.call "each_once" [.rd 1] [] [] [0]], .lit (.int 0)],
  .asg (.nm 4) (.op .dctP [.lc [9] (.nm 9) .seq [.vw 5 []] [] (.tup [.rd 9, .lit (.bool true)])]),
  .whl (.op .lt [.vw 6 [], .op .len [.vw 5 []]]) [.ite (.bop true [.op .isnot [.vw 3 [], .lit .none], .op .gt [.op .len [.vw 5 []], .vw 3 []]]) [.rai1 "TooMany" (.rd 3)] [], .lop (.nm 7) .rng [.rd 2] [.asg (.nm 8) (.mcl "Behind" "step" 0 [.op .ix [.vw 5 [], .vw 6 []], .rd 7, .rd 7]), .ite (.op .notin [.vw 8 [], .vw 4 []]) [.put true 4 [] (.rd 8) (.lit (.bool true)), .ex (.mut .append 5 [] [.rd 8])] []], .asg (.nm 6) (.op .add [.vw 6 [], .lit (.int 1)])],
  .ret (.op .tuple [.op .sorted [.vw 5 []]])]
def Γ_grown : Gam := { con := con, fn := fun f => if f = "each_once" then some d_each_once else none, me := fun c m => if c = "Behind" ∧ m = "step" then some d_Behind_step else none, xc := fun c => if c = "TooMany" then some ["limit"] else none, xs := fun c c' => none }
def d_grown : Den := denOf Γ_grown 10 io_grown b_grown
theorem ok_grown : mSs ⟨defScope s_grown, N_grown, bl, pats⟩ (fun _ => true) (ioS io_grown 0) b_grown (defBody s_grown) = true := by decide +kernel
theorem sc_grown : FnScope N_grown P_grown (defScope s_grown) := ⟨rfl, rfl, rfl, by decide +kernel, rfl, by decide +kernel, by decide +kernel⟩
abbrev s_closed : Stmt := top 8
def N_closed : List Str := ["teller", "pairs", "is_typed"]
def P_closed : List Str := ["teller", "pairs", "is_typed"]
def io_closed : List Bool := [false, false, false]
def b_closed : List Sm := [
  .ret (.call "grown" [.new "Behind" [.rd 0], .rd 1, .ite (.rd 2) (.op .ix [.vw 0 [], .lit (.int 0)]) (.lit (.int 0)), .lit .none] [] [] [0, 1, 2, 3])]
def Γ_closed : Gam := { con := con, fn := fun f => if f = "grown" then some d_grown else none, ini := fun c => if c = "Behind" then some d_Behind_init else none }
def d_closed : Den := denOf Γ_closed 3 io_closed b_closed
theorem ok_closed : mSs ⟨defScope s_closed, N_closed, bl, pats⟩ (fun _ => true) (ioS io_closed 0) b_closed (defBody s_closed) = true := by decide +kernel
theorem sc_closed : FnScope N_closed P_closed (defScope s_closed) := ⟨rfl, rfl, rfl, by decide +kernel, rfl, by decide +kernel, by decide +kernel⟩
abbrev s_law_pot : Stmt := top 10
def N_law_pot : List Str := ["script", "cell", "cells", "stirred"]
def P_law_pot : List Str := ["script"]
def io_law_pot : List Bool := [false]
def b_law_pot : List Sm := [
  .par [2, 3] [.lc [1] (.nm 1) .seq [.op .slH [.vw 0 [], .lit (.int 61)]] [] (.op .add [.op .mul [.lit (.int 2), .op .abs [.vw 1 []]], .op .int [.op .lt [.vw 1 [], .lit (.int 0)]]]), .op .add [.lit (.int 15914), .op .mul [.lit (.int 3), .op .len [.vw 0 []]]]],
  .frz 2,
  .lop (.nm 1) .seq [.rd 2] [.asg (.nm 3) (.op .mod [.op .int [.op .add [.op .add [.op .mul [.vw 3 [], .lit (.int 69069)], .vw 1 []], .lit (.int 13)]], .lit (.int 4294967291)])],
  .frz 2,
  .ret (.dct [.inr "great", .inr "stirred", .inr "turn"] [.lc [1] (.nm 1) .seq [.rd 2] [.op .ge [.vw 1 [], .op .pow [.lit (.int 10), .lit (.int 16)]]] (.rd 1), .rd 3, .lit (.int 0)])]
def Γ_law_pot : Gam := { con := con, fn := fun f => none }
def d_law_pot : Den := denOf Γ_law_pot 4 io_law_pot b_law_pot
theorem ok_law_pot : mSs ⟨defScope s_law_pot, N_law_pot, bl, pats⟩ (fun _ => true) (ioS io_law_pot 0) b_law_pot (defBody s_law_pot) = true := by decide +kernel
theorem sc_law_pot : FnScope N_law_pot P_law_pot (defScope s_law_pot) := ⟨rfl, rfl, rfl, by decide +kernel, rfl, by decide +kernel, by decide +kernel⟩
abbrev s_law_draw : Stmt := top 11
def N_law_draw : List Str := ["pot", "many", "great", "turn", "mixed", "cell"]
def P_law_draw : List Str := ["pot", "many"]
def io_law_draw : List Bool := [true, false]
def b_law_draw : List Sm := [
  .bor 2 0 [.key (.inr "great")] [.ite (.op .ne [.vw 2 [], .lst []]) [.asg (.nm 5) (.mut .popAt 2 [] [.lit (.int 0)]), .ite (.op .ge [.vw 5 [], .vw 1 []]) [.ex (.mut .insert 2 [] [.lit (.int 0), .op .fdiv [.vw 5 [], .vw 1 []]])] [], .ret (.op .mod [.op .int [.vw 5 []], .vw 1 []])] []],
  .put true 0 [] (.lit (.str "turn")) (.op .add [.at 0 [.key (.inr "turn")], .lit (.int 1)]),
  .asg (.nm 3) (.at 0 [.key (.inr "turn")]),
  .asg (.nm 4) (.op .mod [.op .int [.op .add [.op .add [.op .mul [.at 0 [.key (.inr "stirred")], .lit (.int 48271)], .op .mul [.op .mul [.vw 3 [], .vw 3 []], .lit (.int 17)]], .op .mul [.lit (.int 7919), .vw 3 []]]], .lit (.int 4294967279)]),
  .asg (.nm 4) (.op .mod [.op .int [.op .add [.op .mul [.vw 4 [], .lit (.int 69621)], .op .fdiv [.vw 4 [], .lit (.int 65536)]]], .lit (.int 4294967291)]),
  .put true 0 [] (.lit (.str "stirred")) (.rd 4),
  .ret (.op .mod [.op .int [.op .fdiv [.vw 4 [], .lit (.int 1024)]], .vw 1 []])]
def Γ_law_draw : Gam := { con := con, fn := fun f => none }
def d_law_draw : Den := denOf Γ_law_draw 6 io_law_draw b_law_draw
theorem ok_law_draw : mSs ⟨defScope s_law_draw, N_law_draw, bl, pats⟩ (fun _ => true) (ioS io_law_draw 0) b_law_draw (defBody s_law_draw) = true := by decide +kernel
theorem sc_law_draw : FnScope N_law_draw P_law_draw (defScope s_law_draw) := ⟨rfl, rfl, rfl, by decide +kernel, rfl, by decide +kernel, by decide +kernel⟩
abbrev s_law_pick : Stmt := top 12
def N_law_pick : List Str := ["pot", "row"]
def P_law_pick : List Str := ["pot", "row"]
def io_law_pick : List Bool := [true, false]
def b_law_pick : List Sm := [
  .ret (.op .ix [.vw 1 [], .call "_law_draw" [.vw 0 [], .op .len [.vw 1 []]] [] [] [0, 1]])]
def Γ_law_pick : Gam := { con := con, fn := fun f => if f = "_law_draw" then some d_law_draw else none }
def d_law_pick : Den := denOf Γ_law_pick 2 io_law_pick b_law_pick
theorem ok_law_pick : mSs ⟨defScope s_law_pick, N_law_pick, bl, pats⟩ (fun _ => true) (ioS io_law_pick 0) b_law_pick (defBody s_law_pick) = true := by decide +kernel
theorem sc_law_pick : FnScope N_law_pick P_law_pick (defScope s_law_pick) := ⟨rfl, rfl, rfl, by decide +kernel, rfl, by decide +kernel, by decide +kernel⟩
abbrev s_law_mixed : Stmt := top 13
def N_law_mixed : List Str := ["pot", "row", "turn", "left", "found"]
def P_law_mixed : List Str := ["pot", "row"]
def io_law_mixed : List Bool := [true, false]
def b_law_mixed : List Sm := [
  .par [3, 4] [.op .list [.vw 1 []], .lst []],
  .lop (.nm 2) .rng [.op .len [.vw 1 []]] [.ex (.mut .append 4 [] [.mut .popAt 3 [] [.fz (.call "_law_draw" [.vw 0 [], .op .len [.vw 3 []]] [] [] [0, 1])]])],
  .ret (.mv 4)]
def Γ_law_mixed : Gam := { con := con, fn := fun f => if f = "_law_draw" then some d_law_draw else none }
def d_law_mixed : Den := denOf Γ_law_mixed 5 io_law_mixed b_law_mixed
theorem ok_law_mixed : mSs ⟨defScope s_law_mixed, N_law_mixed, bl, pats⟩ (fun _ => true) (ioS io_law_mixed 0) b_law_mixed (defBody s_law_mixed) = true := by decide +kernel
theorem sc_law_mixed : FnScope N_law_mixed P_law_mixed (defScope s_law_mixed) := ⟨rfl, rfl, rfl, by decide +kernel, rfl, by decide +kernel, by decide +kernel⟩
abbrev s_law_row : Stmt := top 14
def N_law_row : List Str := ["pot", "kinds", "many", "turn"]
def P_law_row : List Str := ["pot", "kinds", "many"]
def io_law_row : List Bool := [true, false, false]
def b_law_row : List Sm := [
  .ret (.op .tuple [.lc [3] (.nm 3) .rng [.rd 2] [] (.fz (.call "_law_draw" [.vw 0 [], .rd 1] [] [] [0, 1]))])]
def Γ_law_row : Gam := { con := con, fn := fun f => if f = "_law_draw" then some d_law_draw else none }
def d_law_row : Den := denOf Γ_law_row 4 io_law_row b_law_row
theorem ok_law_row : mSs ⟨defScope s_law_row, N_law_row, bl, pats⟩ (fun _ => true) (ioS io_law_row 0) b_law_row (defBody s_law_row) = true := by decide +kernel
theorem sc_law_row : FnScope N_law_row P_law_row (defScope s_law_row) := ⟨rfl, rfl, rfl, by decide +kernel, rfl, by decide +kernel, by decide +kernel⟩
abbrev s_law_teller : Stmt := top 15
def N_law_teller : List Str := ["pot", "kinds", "many", "most", "rows", "state", "sort", "moves", "letter", "row"]
def P_law_teller : List Str := ["pot", "kinds", "many", "most"]
def io_law_teller : List Bool := [true, false, false, false]
def b_law_teller : List Sm := [
  .par [6, 7] [.call "_law_draw" [.vw 0 [], .lit (.int 4)] [] [] [0, 1], .lst []],
  .asg (.nm 4) (.ite (.op .eq [.vw 6 [], .lit (.int 2)]) (.lc [8] (.nm 8) .rng [.rd 1] [] (.fz (.call "_law_mixed" [.vw 0 [], .fz (.op .lrng [.vw 2 []])] [] [] [0, 1]))) (.lst [])),
  .lop (.nm 5) .rng [.rd 2] [.ite (.op .eq [.vw 6 [], .lit (.int 1)]) [.ex (.mut .append 7 [] [.op .tuple [.lc [8] (.nm 8) .rng [.rd 1] [] (.fz (.op .add [.vw 5 [], .call "_law_draw" [.vw 0 [], .op .sub [.vw 2 [], .vw 5 []]] [] [] [0, 1]]))]])] [.ite (.op .eq [.vw 6 [], .lit (.int 2)]) [.frz 4, .ex (.mut .append 7 [] [.op .tuple [.lc [9] (.nm 9) .seq [.rd 4] [] (.op .ix [.vw 9 [], .vw 5 []])]])] [.ex (.mut .append 7 [] [.fz (.call "_law_row" [.vw 0 [], .rd 2, .rd 1] [] [] [0, 1, 2])])]]],
  .ret (.tup [.rd 1, .op .tuple [.vw 7 []], .call "_law_row" [.vw 0 [], .rd 3, .rd 2] [] [] [0, 1, 2]])]
def Γ_law_teller : Gam := { con := con, fn := fun f => if f = "_law_draw" then some d_law_draw else if f = "_law_mixed" then some d_law_mixed else if f = "_law_row" then some d_law_row else none }
def d_law_teller : Den := denOf Γ_law_teller 10 io_law_teller b_law_teller
theorem ok_law_teller : mSs ⟨defScope s_law_teller, N_law_teller, bl, pats⟩ (fun _ => true) (ioS io_law_teller 0) b_law_teller (defBody s_law_teller) = true := by decide +kernel
theorem sc_law_teller : FnScope N_law_teller P_law_teller (defScope s_law_teller) := ⟨rfl, rfl, rfl, by decide +kernel, rfl, by decide +kernel, by decide +kernel⟩
abbrev s_law_some_teller : Stmt := top 16
def N_law_some_teller : List Str := ["pot", "kinds", "many"]
def P_law_some_teller : List Str := ["pot"]
def io_law_some_teller : List Bool := [true]
def b_law_some_teller : List Sm := [
  .par [1, 2] [.call "_law_pick" [.vw 0 [], .fz (.lst [.lit (.int 1), .lit (.int 2), .lit (.int 2), .lit (.int 2), .lit (.int 3)])] [] [] [0, 1], .call "_law_pick" [.vw 0 [], .fz (.lst [.lit (.int 1), .lit (.int 2), .lit (.int 2), .lit (.int 3), .lit (.int 3), .lit (.int 4)])] [] [] [0, 1]],
  .frz 1,
  .frz 2,
  .ret (.call "_law_teller" [.vw 0 [], .rd 1, .rd 2, .fz (.call "_law_pick" [.vw 0 [], .fz (.lst [.lit (.int 2), .lit (.int 2), .lit (.int 3), .lit (.int 10)])] [] [] [0, 1])] [] [] [0, 1, 2, 3])]
def Γ_law_some_teller : Gam := { con := con, fn := fun f => if f = "_law_pick" then some d_law_pick else if f = "_law_teller" then some d_law_teller else none }
def d_law_some_teller : Den := denOf Γ_law_some_teller 3 io_law_some_teller b_law_some_teller
theorem ok_law_some_teller : mSs ⟨defScope s_law_some_teller, N_law_some_teller, bl, pats⟩ (fun _ => true) (ioS io_law_some_teller 0) b_law_some_teller (defBody s_law_some_teller) = true := by decide +kernel
theorem sc_law_some_teller : FnScope N_law_some_teller P_law_some_teller (defScope s_law_some_teller) := ⟨rfl, rfl, rfl, by decide +kernel, rfl, by decide +kernel, by decide +kernel⟩
abbrev s_law_closed : Stmt := top 17
def N_law_closed : List Str := ["teller", "pairs", "is_typed", "found", "todo", "letter", "one", "other", "pair"]
def P_law_closed : List Str := ["teller", "pairs", "is_typed"]
def io_law_closed : List Bool := [false, false, false]
def b_law_closed : List Sm := [
  .par [3, 4] [.op .dctP [.lc [8] (.nm 8) .seq [.rd 1] [] (.tup [.rd 8, .lit (.bool true)])], .op .list [.vw 1 []]],
  .whl (.bop true [.op .ne [.vw 4 [], .lst []], .rd 2]) [.asg (.tp [6, 7]) (.mut .pop 4 [] []), .lop (.nm 5) .rng [.op .ix [.vw 0 [], .lit (.int 0)]] [.asg (.nm 8) (.tup [.op .ix [.op .ix [.op .ix [.vw 0 [], .lit (.int 1)], .vw 6 []], .vw 5 []], .op .ix [.op .ix [.op .ix [.vw 0 [], .lit (.int 1)], .vw 7 []], .vw 5 []]]), .ite (.op .notin [.vw 8 [], .vw 3 []]) [.put true 3 [] (.rd 8) (.lit (.bool true)), .ex (.mut .append 4 [] [.rd 8])] []]],
  .ret (.op .tuple [.op .sorted [.vw 3 []]])]
def Γ_law_closed : Gam := { con := con, fn := fun f => none }
def d_law_closed : Den := denOf Γ_law_closed 9 io_law_closed b_law_closed
theorem ok_law_closed : mSs ⟨defScope s_law_closed, N_law_closed, bl, pats⟩ (fun _ => true) (ioS io_law_closed 0) b_law_closed (defBody s_law_closed) = true := by decide +kernel
theorem sc_law_closed : FnScope N_law_closed P_law_closed (defScope s_law_closed) := ⟨rfl, rfl, rfl, by decide +kernel, rfl, by decide +kernel, by decide +kernel⟩
abbrev s_law : Stmt := top 18
def N_law : List Str := ["script", "pot", "turn", "teller", "pairs", "is_typed", "many", "kept", "told", "fewer", "due", "shown", "again", "pair"]
def P_law : List Str := ["script"]
def io_law : List Bool := [false]
def b_law : List Sm := [
  .asg (.nm 1) (.call "_law_pot" [.rd 0] [] [] [0]),
  .lop (.nm 2) .rng [.lit (.int 4)] [.asg (.nm 3) (.ite (.op .eq [.vw 2 [], .lit (.int 3)]) (.call "_law_teller" [.vw 1 [], .fz (.op .add [.lit (.int 1), .call "_law_draw" [.vw 1 [], .lit (.int 3)] [] [] [0, 1]]), .lit (.int 8), .lit (.int 2)] [] [] [0, 1, 2, 3]) (.call "_law_some_teller" [.vw 1 []] [] [] [0])), .asg (.tp [6, 7]) (.tup [.op .len [.op .ix [.vw 3 [], .lit (.int 1)]], .op .repr [.vw 3 []]]), .asg (.nm 4) (.op .tuple [.lc [12] (.nm 12) .rng [.call "_law_draw" [.vw 1 [], .lit (.int 7)] [] [] [0, 1]] [] (.fz (.call "_law_row" [.vw 1 [], .rd 6, .lit (.int 2)] [] [] [0, 1, 2]))]), .ite (.bop true [.op .ne [.vw 4 [], .tup []], .op .eq [.call "_law_draw" [.vw 1 [], .lit (.int 3)] [] [] [0, 1], .lit (.int 0)]]) [.asg (.nm 4) (.op .add [.vw 4 [], .op .slH [.vw 4 [], .lit (.int 1)]])] [], .lop (.nm 5) .seq [.tup [.op .eq [.op .mod [.vw 2 [], .lit (.int 2)], .lit (.int 0)], .op .eq [.op .mod [.vw 2 [], .lit (.int 2)], .lit (.int 1)]]] [.frz 3, .asg (.tp [10, 11]) (.tup [.call "_law_closed" [.rd 3, .rd 4, .rd 5] [] [] [0, 1, 2], .op .repr [.vw 4 []]]), .frz 3, .asg (.nm 8) (.lst [.call "closed" [.rd 3, .rd 4, .rd 5] [] [] [0, 1, 2], .call "closed" [] [.rd 5, .rd 4, .rd 3] ["is_typed", "pairs", "teller"] [2, 1, 0]]), .frz 10, .frz 3, .ite (.bop false [.op .ne [.op .repr [.vw 8 []], .op .repr [.lst [.rd 10, .rd 10]]], .op .ne [.op .repr [.call "closed" [.rd 3, .rd 10, .rd 5] [] [] [0, 1, 2]], .op .repr [.vw 10 []]]]) [.ret (.lit (.bool false))] [], .frz 3, .asg (.nm 9) (.call "closed" [.rd 3, .op .slL [.vw 4 [], .lit (.int 1)], .rd 5] [] [] [0, 1, 2]), .frz 3, .ite (.op .ne [.op .repr [.vw 9 []], .op .repr [.call "_law_closed" [.rd 3, .op .slL [.vw 4 [], .lit (.int 1)], .rd 5] [] [] [0, 1, 2]]]) [.ret (.lit (.bool false))] [], .frz 9, .ite (.bop false [.op .ne [.lc [13] (.nm 13) .seq [.rd 9] [.op .notin [.vw 13 [], .vw 10 []]] (.rd 13), .lst []], .op .ne [.tup [.op .repr [.vw 3 []], .op .repr [.vw 4 []]], .tup [.rd 7, .rd 11]]]) [.ret (.lit (.bool false))] []]],
  .ret (.lit (.bool true))]
def Γ_law : Gam := { con := con, fn := fun f => if f = "closed" then some d_closed else if f = "_law_pot" then some d_law_pot else if f = "_law_draw" then some d_law_draw else if f = "_law_row" then some d_law_row else if f = "_law_teller" then some d_law_teller else if f = "_law_some_teller" then some d_law_some_teller else if f = "_law_closed" then some d_law_closed else none }
def d_law : Den := denOf Γ_law 14 io_law b_law
theorem ok_law : mSs ⟨defScope s_law, N_law, bl, pats⟩ (fun _ => true) (ioS io_law 0) b_law (defBody s_law) = true := by decide +kernel
theorem sc_law : FnScope N_law P_law (defScope s_law) := ⟨rfl, rfl, rfl, by decide +kernel, rfl, by decide +kernel, by decide +kernel⟩
theorem bl_ok {mg : Str → Option Value} (z0 : mg "sorted" = none) (z1 : mg "tuple" = none) (z2 : mg "list" = none) (z3 : mg "dict" = none) (z4 : mg "len" = none) (z5 : mg "range" = none) (z6 : mg "abs" = none) (z7 : mg "int" = none) (z8 : mg "repr" = none) : ∀ x, bl.contains x = true → mg x = none := by
  intro x h
  have h : x ∈ bl := by simpa using h
  simp only [bl, List.mem_cons, List.not_mem_nil, or_false] at h
  rcases h with rfl | rfl | rfl | rfl | rfl | rfl | rfl | rfl | rfl
  all_goals assumption
theorem pt_each_once : pats "each_once" = ([(1, [], [0])] : List Pat) := by decide +kernel
theorem bd_each_once {kV doc pm cdv ct : Value} {an : Option Addr} (us ws zs : List Value) (p : Pat) (hp : p ∈ pats "each_once") (h1 : us.length = p.1) (h2 : ws.length = p.2.1.length) (h3 : perm p.2.2 (us ++ ws) = some zs) :
    bindArgs (PySem.W.fnOf "each_once" "each_once" (defArgs s_each_once) (defBody s_each_once) (defScope s_each_once) .none kV doc pm an cdv ct) ⟨us, p.2.1.zip ws⟩ = pure (P_each_once.zip zs) := by
  rw [pt_each_once] at hp
  simp only [List.mem_cons, List.not_mem_nil, or_false] at hp
  rcases hp with rfl
  · obtain ⟨x0, rfl⟩ := len1 h1; obtain ⟨rfl⟩ := len0 h2; cases h3; rfl
theorem pt_grown : pats "grown" = ([(4, [], [0, 1, 2, 3])] : List Pat) := by decide +kernel
theorem bd_grown {kV doc pm cdv ct : Value} {an : Option Addr} (us ws zs : List Value) (p : Pat) (hp : p ∈ pats "grown") (h1 : us.length = p.1) (h2 : ws.length = p.2.1.length) (h3 : perm p.2.2 (us ++ ws) = some zs) :
    bindArgs (PySem.W.fnOf "grown" "grown" (defArgs s_grown) (defBody s_grown) (defScope s_grown) .none kV doc pm an cdv ct) ⟨us, p.2.1.zip ws⟩ = pure (P_grown.zip zs) := by
  rw [pt_grown] at hp
  simp only [List.mem_cons, List.not_mem_nil, or_false] at hp
  rcases hp with rfl
  · obtain ⟨x0, x1, x2, x3, rfl⟩ := len4 h1; obtain ⟨rfl⟩ := len0 h2; cases h3; rfl
theorem pt_closed : pats "closed" = ([(3, [], [0, 1, 2]), (0, ["is_typed", "pairs", "teller"], [2, 1, 0])] : List Pat) := by decide +kernel
theorem bd_closed {kV doc pm cdv ct : Value} {an : Option Addr} (us ws zs : List Value) (p : Pat) (hp : p ∈ pats "closed") (h1 : us.length = p.1) (h2 : ws.length = p.2.1.length) (h3 : perm p.2.2 (us ++ ws) = some zs) :
    bindArgs (PySem.W.fnOf "closed" "closed" (defArgs s_closed) (defBody s_closed) (defScope s_closed) .none kV doc pm an cdv ct) ⟨us, p.2.1.zip ws⟩ = pure (P_closed.zip zs) := by
  rw [pt_closed] at hp
  simp only [List.mem_cons, List.not_mem_nil, or_false] at hp
  rcases hp with rfl | rfl
  · obtain ⟨x0, x1, x2, rfl⟩ := len3 h1; obtain ⟨rfl⟩ := len0 h2; cases h3; rfl
  · obtain ⟨rfl⟩ := len0 h1; obtain ⟨y0, y1, y2, rfl⟩ := len3 h2; cases h3; rfl
theorem pt_law_pot : pats "_law_pot" = ([(1, [], [0])] : List Pat) := by decide +kernel
theorem bd_law_pot {kV doc pm cdv ct : Value} {an : Option Addr} (us ws zs : List Value) (p : Pat) (hp : p ∈ pats "_law_pot") (h1 : us.length = p.1) (h2 : ws.length = p.2.1.length) (h3 : perm p.2.2 (us ++ ws) = some zs) :
    bindArgs (PySem.W.fnOf "_law_pot" "_law_pot" (defArgs s_law_pot) (defBody s_law_pot) (defScope s_law_pot) .none kV doc pm an cdv ct) ⟨us, p.2.1.zip ws⟩ = pure (P_law_pot.zip zs) := by
  rw [pt_law_pot] at hp
  simp only [List.mem_cons, List.not_mem_nil, or_false] at hp
  rcases hp with rfl
  · obtain ⟨x0, rfl⟩ := len1 h1; obtain ⟨rfl⟩ := len0 h2; cases h3; rfl
theorem pt_law_draw : pats "_law_draw" = ([(2, [], [0, 1])] : List Pat) := by decide +kernel
theorem bd_law_draw {kV doc pm cdv ct : Value} {an : Option Addr} (us ws zs : List Value) (p : Pat) (hp : p ∈ pats "_law_draw") (h1 : us.length = p.1) (h2 : ws.length = p.2.1.length) (h3 : perm p.2.2 (us ++ ws) = some zs) :
    bindArgs (PySem.W.fnOf "_law_draw" "_law_draw" (defArgs s_law_draw) (defBody s_law_draw) (defScope s_law_draw) .none kV doc pm an cdv ct) ⟨us, p.2.1.zip ws⟩ = pure (P_law_draw.zip zs) := by
  rw [pt_law_draw] at hp
  simp only [List.mem_cons, List.not_mem_nil, or_false] at hp
  rcases hp with rfl
  · obtain ⟨x0, x1, rfl⟩ := len2 h1; obtain ⟨rfl⟩ := len0 h2; cases h3; rfl
theorem pt_law_pick : pats "_law_pick" = ([(2, [], [0, 1])] : List Pat) := by decide +kernel
theorem bd_law_pick {kV doc pm cdv ct : Value} {an : Option Addr} (us ws zs : List Value) (p : Pat) (hp : p ∈ pats "_law_pick") (h1 : us.length = p.1) (h2 : ws.length = p.2.1.length) (h3 : perm p.2.2 (us ++ ws) = some zs) :
    bindArgs (PySem.W.fnOf "_law_pick" "_law_pick" (defArgs s_law_pick) (defBody s_law_pick) (defScope s_law_pick) .none kV doc pm an cdv ct) ⟨us, p.2.1.zip ws⟩ = pure (P_law_pick.zip zs) := by
  rw [pt_law_pick] at hp
  simp only [List.mem_cons, List.not_mem_nil, or_false] at hp
  rcases hp with rfl
  · obtain ⟨x0, x1, rfl⟩ := len2 h1; obtain ⟨rfl⟩ := len0 h2; cases h3; rfl
theorem pt_law_mixed : pats "_law_mixed" = ([(2, [], [0, 1])] : List Pat) := by decide +kernel
theorem bd_law_mixed {kV doc pm cdv ct : Value} {an : Option Addr} (us ws zs : List Value) (p : Pat) (hp : p ∈ pats "_law_mixed") (h1 : us.length = p.1) (h2 : ws.length = p.2.1.length) (h3 : perm p.2.2 (us ++ ws) = some zs) :
    bindArgs (PySem.W.fnOf "_law_mixed" "_law_mixed" (defArgs s_law_mixed) (defBody s_law_mixed) (defScope s_law_mixed) .none kV doc pm an cdv ct) ⟨us, p.2.1.zip ws⟩ = pure (P_law_mixed.zip zs) := by
  rw [pt_law_mixed] at hp
  simp only [List.mem_cons, List.not_mem_nil, or_false] at hp
  rcases hp with rfl
  · obtain ⟨x0, x1, rfl⟩ := len2 h1; obtain ⟨rfl⟩ := len0 h2; cases h3; rfl
theorem pt_law_row : pats "_law_row" = ([(3, [], [0, 1, 2])] : List Pat) := by decide +kernel
theorem bd_law_row {kV doc pm cdv ct : Value} {an : Option Addr} (us ws zs : List Value) (p : Pat) (hp : p ∈ pats "_law_row") (h1 : us.length = p.1) (h2 : ws.length = p.2.1.length) (h3 : perm p.2.2 (us ++ ws) = some zs) :
    bindArgs (PySem.W.fnOf "_law_row" "_law_row" (defArgs s_law_row) (defBody s_law_row) (defScope s_law_row) .none kV doc pm an cdv ct) ⟨us, p.2.1.zip ws⟩ = pure (P_law_row.zip zs) := by
  rw [pt_law_row] at hp
  simp only [List.mem_cons, List.not_mem_nil, or_false] at hp
  rcases hp with rfl
  · obtain ⟨x0, x1, x2, rfl⟩ := len3 h1; obtain ⟨rfl⟩ := len0 h2; cases h3; rfl
theorem pt_law_teller : pats "_law_teller" = ([(4, [], [0, 1, 2, 3])] : List Pat) := by decide +kernel
theorem bd_law_teller {kV doc pm cdv ct : Value} {an : Option Addr} (us ws zs : List Value) (p : Pat) (hp : p ∈ pats "_law_teller") (h1 : us.length = p.1) (h2 : ws.length = p.2.1.length) (h3 : perm p.2.2 (us ++ ws) = some zs) :
    bindArgs (PySem.W.fnOf "_law_teller" "_law_teller" (defArgs s_law_teller) (defBody s_law_teller) (defScope s_law_teller) .none kV doc pm an cdv ct) ⟨us, p.2.1.zip ws⟩ = pure (P_law_teller.zip zs) := by
  rw [pt_law_teller] at hp
  simp only [List.mem_cons, List.not_mem_nil, or_false] at hp
  rcases hp with rfl
  · obtain ⟨x0, x1, x2, x3, rfl⟩ := len4 h1; obtain ⟨rfl⟩ := len0 h2; cases h3; rfl
theorem pt_law_some_teller : pats "_law_some_teller" = ([(1, [], [0])] : List Pat) := by decide +kernel
theorem bd_law_some_teller {kV doc pm cdv ct : Value} {an : Option Addr} (us ws zs : List Value) (p : Pat) (hp : p ∈ pats "_law_some_teller") (h1 : us.length = p.1) (h2 : ws.length = p.2.1.length) (h3 : perm p.2.2 (us ++ ws) = some zs) :
    bindArgs (PySem.W.fnOf "_law_some_teller" "_law_some_teller" (defArgs s_law_some_teller) (defBody s_law_some_teller) (defScope s_law_some_teller) .none kV doc pm an cdv ct) ⟨us, p.2.1.zip ws⟩ = pure (P_law_some_teller.zip zs) := by
  rw [pt_law_some_teller] at hp
  simp only [List.mem_cons, List.not_mem_nil, or_false] at hp
  rcases hp with rfl
  · obtain ⟨x0, rfl⟩ := len1 h1; obtain ⟨rfl⟩ := len0 h2; cases h3; rfl
theorem pt_law_closed : pats "_law_closed" = ([(3, [], [0, 1, 2])] : List Pat) := by decide +kernel
theorem bd_law_closed {kV doc pm cdv ct : Value} {an : Option Addr} (us ws zs : List Value) (p : Pat) (hp : p ∈ pats "_law_closed") (h1 : us.length = p.1) (h2 : ws.length = p.2.1.length) (h3 : perm p.2.2 (us ++ ws) = some zs) :
    bindArgs (PySem.W.fnOf "_law_closed" "_law_closed" (defArgs s_law_closed) (defBody s_law_closed) (defScope s_law_closed) .none kV doc pm an cdv ct) ⟨us, p.2.1.zip ws⟩ = pure (P_law_closed.zip zs) := by
  rw [pt_law_closed] at hp
  simp only [List.mem_cons, List.not_mem_nil, or_false] at hp
  rcases hp with rfl
  · obtain ⟨x0, x1, x2, rfl⟩ := len3 h1; obtain ⟨rfl⟩ := len0 h2; cases h3; rfl
abbrev sx_TooMany : Stmt := inCls (top 2) 0
theorem iz_TooMany : initO "limit" sx_TooMany = true := by decide +kernel
theorem ite_some {α : Type} {p : Prop} [Decidable p] {a b : Option α} {x : α} (h : (if p then a else b) = some x) : (p ∧ a = some x) ∨ (¬ p ∧ b = some x) := by
  by_cases q : p
  · rw [if_pos q] at h; exact .inl ⟨q, h⟩
  · rw [if_neg q] at h; exact .inr ⟨q, h⟩
set_option maxHeartbeats 0 in
theorem all_mk {l : PySem.W.OpenLaw} {w : World} {K : PySem.W.Frag} {h : Heap} {mg : Str → Option Value} {fa : Addr} (X : K.In h) (Gh : h.Ns mainGlobals mg) (hfa : mg "law" = some (.ref fa)) {kC0 : Addr} {f0 : Addr} {od0 an0 : Option Addr} {sl0 : Array (Option Value)} {oc0 kV0 dc0 pm0 cd0 ct0 : Value} {f1 : Addr} {od1 an1 : Option Addr} {sl1 : Array (Option Value)} {oc1 kV1 dc1 pm1 cd1 ct1 : Value} {f2 : Addr} {od2 an2 : Option Addr} {sl2 : Array (Option Value)} {oc2 kV2 dc2 pm2 cd2 ct2 : Value} {f3 : Addr} {od3 an3 : Option Addr} {sl3 : Array (Option Value)} {oc3 kV3 dc3 pm3 cd3 ct3 : Value} {f4 : Addr} {od4 an4 : Option Addr} {sl4 : Array (Option Value)} {oc4 kV4 dc4 pm4 cd4 ct4 : Value} {f5 : Addr} {od5 an5 : Option Addr} {sl5 : Array (Option Value)} {oc5 kV5 dc5 pm5 cd5 ct5 : Value} {f6 : Addr} {od6 an6 : Option Addr} {sl6 : Array (Option Value)} {oc6 kV6 dc6 pm6 cd6 ct6 : Value} {f7 : Addr} {od7 an7 : Option Addr} {sl7 : Array (Option Value)} {oc7 kV7 dc7 pm7 cd7 ct7 : Value} {f8 : Addr} {od8 an8 : Option Addr} {sl8 : Array (Option Value)} {oc8 kV8 dc8 pm8 cd8 ct8 : Value} {f9 : Addr} {od9 an9 : Option Addr} {sl9 : Array (Option Value)} {oc9 kV9 dc9 pm9 cd9 ct9 : Value} {f10 : Addr} {od10 an10 : Option Addr} {sl10 : Array (Option Value)} {oc10 kV10 dc10 pm10 cd10 ct10 : Value} {f11 : Addr} {od11 an11 : Option Addr} {sl11 : Array (Option Value)} {oc11 kV11 dc11 pm11 cd11 ct11 : Value} {f12 : Addr} {od12 an12 : Option Addr} {sl12 : Array (Option Value)} {oc12 kV12 dc12 pm12 cd12 ct12 : Value} {f13 : Addr} {od13 an13 : Option Addr} {sl13 : Array (Option Value)} {oc13 kV13 dc13 pm13 cd13 ct13 : Value} {eC0 eB0 eI0 ecd0 ecc0 eN0 : Addr} {enm0 eq0 efl0 : Str} {ebs0 ebm0 : List Value} {esn0 : List Str} {esub0 : List Value} {eab0 : Bool} {ecol0 : Option Bool} {edd0 edB0 eod0 ean0 eccd0 ecld0 : Option Addr} {ek00 ek10 ek20 ek30 ek50 : Option Value} {ecB0 eoc0 edoc0 epm0 ect0 eccl0 ecl0 : Value} {ecdB0 : ClassData} {esB0 eosl0 eccs0 ecsl0 : Array (Option Value)} {evs0 : Array Value} {etf0 : Tok}
    (a0 : PySem.W.nsIn K mainGlobals "each_once" = some (some (.ref f0))) (l0 : K.lookup f0 = some ⟨oc0, od0, .func (PySem.W.fnOf "each_once" "each_once" (defArgs s_each_once) (defBody s_each_once) (defScope s_each_once) .none kV0 dc0 pm0 an0 cd0 ct0), sl0⟩) (c0 : PySem.W.codeIn K cd0 "each_once" = true) (k0 : PySem.W.keepIn K (.ref f0) = true)
    (a1 : PySem.W.findIn K (.ref kC0) "__init__" = some (some (.ref f1))) (i1 : PySem.W.isFn K (.ref f1) = true) (l1 : K.lookup f1 = some ⟨oc1, od1, .func (PySem.W.fnOf "__init__" "Behind.__init__" (defArgs s_Behind_init) (defBody s_Behind_init) (defScope s_Behind_init) .none kV1 dc1 pm1 an1 cd1 ct1), sl1⟩) (c1 : PySem.W.codeIn K cd1 "Behind.__init__" = true) (k1 : PySem.W.keepIn K (.ref f1) = true)
    (a2 : PySem.W.findIn K (.ref kC0) "step" = some (some (.ref f2))) (i2 : PySem.W.isFn K (.ref f2) = true) (l2 : K.lookup f2 = some ⟨oc2, od2, .func (PySem.W.fnOf "step" "Behind.step" (defArgs s_Behind_step) (defBody s_Behind_step) (defScope s_Behind_step) .none kV2 dc2 pm2 an2 cd2 ct2), sl2⟩) (c2 : PySem.W.codeIn K cd2 "Behind.step" = true) (k2 : PySem.W.keepIn K (.ref f2) = true)
    (a3 : PySem.W.nsIn K mainGlobals "grown" = some (some (.ref f3))) (l3 : K.lookup f3 = some ⟨oc3, od3, .func (PySem.W.fnOf "grown" "grown" (defArgs s_grown) (defBody s_grown) (defScope s_grown) .none kV3 dc3 pm3 an3 cd3 ct3), sl3⟩) (c3 : PySem.W.codeIn K cd3 "grown" = true) (k3 : PySem.W.keepIn K (.ref f3) = true)
    (a4 : PySem.W.nsIn K mainGlobals "closed" = some (some (.ref f4))) (l4 : K.lookup f4 = some ⟨oc4, od4, .func (PySem.W.fnOf "closed" "closed" (defArgs s_closed) (defBody s_closed) (defScope s_closed) .none kV4 dc4 pm4 an4 cd4 ct4), sl4⟩) (c4 : PySem.W.codeIn K cd4 "closed" = true) (k4 : PySem.W.keepIn K (.ref f4) = true)
    (a5 : PySem.W.nsIn K mainGlobals "_law_pot" = some (some (.ref f5))) (l5 : K.lookup f5 = some ⟨oc5, od5, .func (PySem.W.fnOf "_law_pot" "_law_pot" (defArgs s_law_pot) (defBody s_law_pot) (defScope s_law_pot) .none kV5 dc5 pm5 an5 cd5 ct5), sl5⟩) (c5 : PySem.W.codeIn K cd5 "_law_pot" = true) (k5 : PySem.W.keepIn K (.ref f5) = true)
    (a6 : PySem.W.nsIn K mainGlobals "_law_draw" = some (some (.ref f6))) (l6 : K.lookup f6 = some ⟨oc6, od6, .func (PySem.W.fnOf "_law_draw" "_law_draw" (defArgs s_law_draw) (defBody s_law_draw) (defScope s_law_draw) .none kV6 dc6 pm6 an6 cd6 ct6), sl6⟩) (c6 : PySem.W.codeIn K cd6 "_law_draw" = true) (k6 : PySem.W.keepIn K (.ref f6) = true)
    (a7 : PySem.W.nsIn K mainGlobals "_law_pick" = some (some (.ref f7))) (l7 : K.lookup f7 = some ⟨oc7, od7, .func (PySem.W.fnOf "_law_pick" "_law_pick" (defArgs s_law_pick) (defBody s_law_pick) (defScope s_law_pick) .none kV7 dc7 pm7 an7 cd7 ct7), sl7⟩) (c7 : PySem.W.codeIn K cd7 "_law_pick" = true) (k7 : PySem.W.keepIn K (.ref f7) = true)
    (a8 : PySem.W.nsIn K mainGlobals "_law_mixed" = some (some (.ref f8))) (l8 : K.lookup f8 = some ⟨oc8, od8, .func (PySem.W.fnOf "_law_mixed" "_law_mixed" (defArgs s_law_mixed) (defBody s_law_mixed) (defScope s_law_mixed) .none kV8 dc8 pm8 an8 cd8 ct8), sl8⟩) (c8 : PySem.W.codeIn K cd8 "_law_mixed" = true) (k8 : PySem.W.keepIn K (.ref f8) = true)
    (a9 : PySem.W.nsIn K mainGlobals "_law_row" = some (some (.ref f9))) (l9 : K.lookup f9 = some ⟨oc9, od9, .func (PySem.W.fnOf "_law_row" "_law_row" (defArgs s_law_row) (defBody s_law_row) (defScope s_law_row) .none kV9 dc9 pm9 an9 cd9 ct9), sl9⟩) (c9 : PySem.W.codeIn K cd9 "_law_row" = true) (k9 : PySem.W.keepIn K (.ref f9) = true)
    (a10 : PySem.W.nsIn K mainGlobals "_law_teller" = some (some (.ref f10))) (l10 : K.lookup f10 = some ⟨oc10, od10, .func (PySem.W.fnOf "_law_teller" "_law_teller" (defArgs s_law_teller) (defBody s_law_teller) (defScope s_law_teller) .none kV10 dc10 pm10 an10 cd10 ct10), sl10⟩) (c10 : PySem.W.codeIn K cd10 "_law_teller" = true) (k10 : PySem.W.keepIn K (.ref f10) = true)
    (a11 : PySem.W.nsIn K mainGlobals "_law_some_teller" = some (some (.ref f11))) (l11 : K.lookup f11 = some ⟨oc11, od11, .func (PySem.W.fnOf "_law_some_teller" "_law_some_teller" (defArgs s_law_some_teller) (defBody s_law_some_teller) (defScope s_law_some_teller) .none kV11 dc11 pm11 an11 cd11 ct11), sl11⟩) (c11 : PySem.W.codeIn K cd11 "_law_some_teller" = true) (k11 : PySem.W.keepIn K (.ref f11) = true)
    (a12 : PySem.W.nsIn K mainGlobals "_law_closed" = some (some (.ref f12))) (l12 : K.lookup f12 = some ⟨oc12, od12, .func (PySem.W.fnOf "_law_closed" "_law_closed" (defArgs s_law_closed) (defBody s_law_closed) (defScope s_law_closed) .none kV12 dc12 pm12 an12 cd12 ct12), sl12⟩) (c12 : PySem.W.codeIn K cd12 "_law_closed" = true) (k12 : PySem.W.keepIn K (.ref f12) = true)
    (a13 : PySem.W.nsIn K mainGlobals "law" = some (some (.ref f13))) (l13 : K.lookup f13 = some ⟨oc13, od13, .func (PySem.W.fnOf "law" "law" (defArgs s_law) (defBody s_law) (defScope s_law) .none kV13 dc13 pm13 an13 cd13 ct13), sl13⟩) (c13 : PySem.W.codeIn K cd13 "law" = true) (k13 : PySem.W.keepIn K (.ref f13) = true)
    (z0 : PySem.W.nsIn K mainGlobals "sorted" = some none)
    (z1 : PySem.W.nsIn K mainGlobals "tuple" = some none)
    (z2 : PySem.W.nsIn K mainGlobals "list" = some none)
    (z3 : PySem.W.nsIn K mainGlobals "dict" = some none)
    (z4 : PySem.W.nsIn K mainGlobals "len" = some none)
    (z5 : PySem.W.nsIn K mainGlobals "range" = some none)
    (z6 : PySem.W.nsIn K mainGlobals "abs" = some none)
    (z7 : PySem.W.nsIn K mainGlobals "int" = some none)
    (z8 : PySem.W.nsIn K mainGlobals "repr" = some none)
    (zsup : PySem.W.nsIn K mainGlobals "super" = some none)
    (htp : PySem.W.nsIn K cStatics "thirdparty.any" = some none)
    (xtop : (l.prog.main.scope.names.lookup ("super" : Str)).isSome = false)
    (xsp : PySem.W.specialIn K (.builtin "object.__class__") "__get__" = some (some (.builtin "getset_descriptor.__get__")))
    (xtk : PySem.W.takesIn K (.builtin "object.__class__") = some true)
    (xa0 : PySem.W.nsIn K mainGlobals "TooMany" = some (some (.ref eC0)))
    (xl0 : K.lookup eC0 = some (excClassObj enm0 eq0 eC0 eN0 ebs0 ebm0 true esn0 esub0 eab0 ecol0 edd0 ek00 ek10 ek20 ek30 ek50 "ValueError.__new__"))
    (xr0 : PySem.HandSPX.refsVE ebm0 = true)
    (xh0 : ebm0.head? = some (.ref eB0))
    (xb0 : K.lookup eB0 = some ⟨ecB0, edB0, .cls ecdB0, esB0⟩)
    (xe0 : ecdB0.mro = ebm0)
    (xi0 : PySem.W.findIn K (.ref eB0) "__init__" = some (some (.builtin "ValueError.__init__")))
    (xv0 : PySem.W.subIn K (.ref eC0) (.type "ValueError") = some true)
    (xm0 : PySem.W.mroIn K eC0 (.ref eC0) = some true)
    (xf0 : PySem.W.findIn K (.ref eC0) "__init__" = some (some (.ref eI0)))
    (xt0 : PySem.W.typeIn K (.ref eI0) = some (.type "function"))
    (xn0 : K.lookup eI0 = some ⟨eoc0, eod0, .func (PySem.W.ksFn "__init__" "TooMany.__init__" (defArgs sx_TooMany) (defBody sx_TooMany) (defScope sx_TooMany) .none .none edoc0 epm0 ean0 (.ref ecd0) ect0 ecc0), eosl0⟩)
    (xc0 : PySem.W.codeIn K (.ref ecd0) "TooMany.__init__" = true)
    (xd0 : K.lookup ecd0 = some ⟨eccl0, eccd0, .fields evs0, eccs0⟩)
    (xw0 : evs0[2]? = some (.str efl0 etf0))
    (xg0 : ((l.prog.main.file : Str) == efl0) = true)
    (xo0 : K.lookup ecc0 = some ⟨ecl0, ecld0, .cell (some (.ref eC0)), ecsl0⟩)
    (xk0 : PySem.W.keepIn K (.ref eC0) = true)
    (xx0 : PySem.W.subIn K (.ref eC0) (.type "BaseException") = some true)
    (xy0 : PySem.W.typeIn K (.ref eC0) = some (.type "type"))
    (xga0 : PySem.W.findIn K (.ref eC0) "__getattribute__" = some (some (.builtin "BaseException.__getattribute__")))
    (xgg0 : PySem.W.findIn K (.ref eC0) "__getattr__" = some none)
    (xhd0 : PySem.W.hasDictIn K eC0 = true)
    (xcl0 : PySem.W.findIn K (.ref eC0) "__class__" = some (some (.builtin "object.__class__")))
    (xmo0 : PySem.W.mroIn K eC0 (.type "object") = some true)
    (xic0 : PySem.W.isClsIn K eC0 = true)
    (xsa0 : PySem.W.findIn K (.ref eC0) "__setattr__" = some (some (.builtin "object.__setattr__")))
    (xnf0 : PySem.W.findIn K (.ref eC0) "limit" = some none)
    (ka0 : PySem.W.nsIn K mainGlobals "Behind" = some (some (.ref kC0)))
    (kpg0 : PySem.W.plainGet K kC0 Str.empty = true)
    (khd0 : PySem.W.hasDictIn K kC0 = true)
    (kpo0 : PySem.W.plainOver K kC0 = true)
    (ksa0 : PySem.W.findIn K (.ref kC0) "__setattr__" = some (some (.builtin "object.__setattr__")))
    (kmk0 : PySem.W.makesIn K kC0 = true)
    (kkc0 : PySem.W.keepIn K (.ref kC0) = true)
    (kn0_moves : PySem.W.findIn K (.ref kC0) "moves" = some none)
    : ∃ fd : FuncData, (∀ (s : Shared) (v : Value), BindsTo s fd ⟨[v], []⟩ [("script", v)]) ∧ ∀ base : Heap, K.In base → base.Ns mainGlobals mg → FnG l.prog w K mg base 5 fa fd ["script"] (spD ⟨K, clK K, w⟩ d_law) := by
  have e := hfa.symm.trans (PySem.W.mg_of X Gh a13)
  cases e
  have zz := bl_ok (PySem.W.mg_none_of X Gh z0) (PySem.W.mg_none_of X Gh z1) (PySem.W.mg_none_of X Gh z2) (PySem.W.mg_none_of X Gh z3) (PySem.W.mg_none_of X Gh z4) (PySem.W.mg_none_of X Gh z5) (PySem.W.mg_none_of X Gh z6) (PySem.W.mg_none_of X Gh z7) (PySem.W.mg_none_of X Gh z8)
  have cc : ∀ x p, con x = some p → ∃ u v, mg x = some u ∧ RelV v u ∧ ∀ H, DpF K H v p := by
    intro x p e
    cases e
  refine ⟨PySem.W.fnOf "law" "law" (defArgs s_law) (defBody s_law) (defScope s_law) .none kV13 dc13 pm13 an13 cd13 ct13, fun s v => .of_eq rfl, fun base _ _ => ?_⟩
  have EG0 : ExcG l.prog K mg "TooMany" eC0 ["limit"] := excG_of X Gh xa0 xk0 xx0 xy0 (by decide) (excT1 (st := sx_TooMany) iz_TooMany (fun _ _ _ _ _ _ _ _ => rfl) xsa0 xnf0 (fun S hp => initF_of X Gh xl0 xr0 xb0 xe0 xi0 xv0 xm0 xf0 xt0 xn0 xc0 xd0 xw0 xg0 xo0 zsup htp xtop S hp))
  have EH0 : ExcH K eC0 := ⟨⟨xga0, xgg0, xx0, xhd0⟩, xcl0, xsp, xtk, xmo0⟩
  have M0 : Mo0 l.prog w K mg base ⟨K, clK K, w⟩ 0 Γ_each_once bl pats := by
    refine ⟨rfl, rfl, cc, fun f dn e => ?_, zz, fun _ _ e => (nomatch e), fun _ _ _ e => (nomatch e), fun _ _ _ e => (nomatch e), fun _ _ e => (nomatch e), fun _ _ e => (nomatch e)⟩
    cases e
  have F0 : FnM l.prog w K mg base ⟨K, clK K, w⟩ 1 "each_once" d_each_once (pats "each_once") := fnM_of (PySem.W.mg_of X Gh a0) l0 c0 k0 sc_each_once M0 io_each_once rfl b_each_once ok_each_once fun _ us ws zs p q0 q1 q2 q3 => bd_each_once us ws zs p q0 q1 q2 q3
  have M1 : Mo0 l.prog w K mg base ⟨K, clK K, w⟩ 0 Γ_Behind_init bl pats := by
    have xfl_Behind_init : ∀ c x, Γ_Behind_init.fld c x = true → ∀ C, clK K c = some C → L2.NoAttr K C x := by
      intro c x e C hC
      replace e : (if c = "Behind" ∧ x = "moves" then true else false) = true := e
      by_cases q : c = "Behind" ∧ x = "moves"
      · obtain ⟨q, q1⟩ := q; subst q q1; rw [clK_of ka0] at hC; cases hC; exact kn0_moves
      rw [if_neg q] at e
      cases e
    refine ⟨rfl, rfl, cc, fun f dn e => ?_, zz, fun _ _ e => (nomatch e), fun _ _ _ e => (nomatch e), fun _ _ _ e => (nomatch e), fun _ _ e => (nomatch e), xfl_Behind_init⟩
    cases e
  have F1 : FnG l.prog w K mg base 1 f1 (PySem.W.fnOf "__init__" "Behind.__init__" (defArgs s_Behind_init) (defBody s_Behind_init) (defScope s_Behind_init) .none kV1 dc1 pm1 an1 cd1 ct1) P_Behind_init (spD ⟨K, clK K, w⟩ d_Behind_init) := fnG_of l1 c1 sc_Behind_init M1 io_Behind_init rfl b_Behind_init ok_Behind_init
  have M2 : Mo0 l.prog w K mg base ⟨K, clK K, w⟩ 0 Γ_Behind_step bl pats := by
    refine ⟨rfl, rfl, cc, fun f dn e => ?_, zz, fun _ _ e => (nomatch e), fun _ _ _ e => (nomatch e), fun _ _ _ e => (nomatch e), fun _ _ e => (nomatch e), fun _ _ e => (nomatch e)⟩
    cases e
  have F2 : FnG l.prog w K mg base 1 f2 (PySem.W.fnOf "step" "Behind.step" (defArgs s_Behind_step) (defBody s_Behind_step) (defScope s_Behind_step) .none kV2 dc2 pm2 an2 cd2 ct2) P_Behind_step (spD ⟨K, clK K, w⟩ d_Behind_step) := fnG_of l2 c2 sc_Behind_step M2 io_Behind_step rfl b_Behind_step ok_Behind_step
  have M3 : Mo0 l.prog w K mg base ⟨K, clK K, w⟩ 1 Γ_grown bl pats := by
    have xcp_grown : ∀ c fs, Γ_grown.xc c = some fs → ∃ C, clK K c = some C ∧ 1 ≤ 1 ∧ ExcG l.prog K mg c C fs ∧ ExcH K C ∧ ∀ f ∈ fs, PySem.W.findIn K (.ref C) f = some none := by
      intro c fs e
      replace e : ((if c = "TooMany" then some ["limit"] else none : Option (List Str))) = some fs := e
      rcases ite_some e with ⟨q, e⟩ | ⟨_, e⟩
      · subst q; cases e; exact ⟨eC0, clK_of xa0, by decide, EG0, EH0, fun f hf => by cases List.mem_singleton.mp hf; exact xnf0⟩
      cases e
    have xsp_grown : ∀ c c' b, Γ_grown.xs c c' = some b → ∃ C, clK K c = some C ∧ ExcH K C ∧ ExcS K mg C c' b := by
      intro c c' b e
      replace e : (none) = some b := e
      cases e
    have xme_grown : ∀ c m dn, Γ_grown.me c m = some dn → MeCl ⟨K, clK K, w⟩ l.prog w K mg base 1 c m dn := by
      intro c m dn e
      replace e : (if c = "Behind" ∧ m = "step" then some d_Behind_step else none) = some dn := e
      rcases ite_some e with ⟨⟨q, q1⟩, e⟩ | ⟨_, e⟩
      · subst q q1; cases e; exact ⟨kC0, f2, _, P_Behind_step, clK_of ka0, ⟨kpg0, khd0, kpo0, ksa0⟩, ⟨a2, i2, k2⟩, (F2.mono (by decide)), fun s us _ hl => by obtain ⟨x0, x1, x2, x3, rfl⟩ := len4 hl; exact .of_eq rfl⟩
      cases e
    refine ⟨rfl, rfl, cc, fun f dn e => ?_, zz, xcp_grown, xsp_grown, xme_grown, fun _ _ e => (nomatch e), fun _ _ e => (nomatch e)⟩
    replace e : (if f = "each_once" then some d_each_once else none) = some dn := e
    rcases ite_some e with ⟨q, e⟩ | ⟨_, e⟩
    · subst q; cases e; exact F0.mono (by decide)
    cases e
  have F3 : FnM l.prog w K mg base ⟨K, clK K, w⟩ 2 "grown" d_grown (pats "grown") := fnM_of (PySem.W.mg_of X Gh a3) l3 c3 k3 sc_grown M3 io_grown rfl b_grown ok_grown fun _ us ws zs p q0 q1 q2 q3 => bd_grown us ws zs p q0 q1 q2 q3
  have M4 : Mo0 l.prog w K mg base ⟨K, clK K, w⟩ 2 Γ_closed bl pats := by
    have xin_closed : ∀ c dn, Γ_closed.ini c = some dn → 1 ≤ 2 ∧ InCl ⟨K, clK K, w⟩ l.prog w K mg base (2 - 1) c dn := by
      intro c dn e
      replace e : (if c = "Behind" then some d_Behind_init else none) = some dn := e
      rcases ite_some e with ⟨q, e⟩ | ⟨_, e⟩
      · subst q; cases e; exact ⟨by decide, kC0, f1, _, P_Behind_init, clK_of ka0, ⟨kpg0, khd0, kpo0, ksa0⟩, ⟨kmk0, a1, i1, kkc0⟩, PySem.W.mg_of X Gh ka0, (F1.mono (by decide)), fun s us _ hl => by obtain ⟨x0, x1, rfl⟩ := len2 hl; exact .of_eq rfl⟩
      cases e
    refine ⟨rfl, rfl, cc, fun f dn e => ?_, zz, fun _ _ e => (nomatch e), fun _ _ _ e => (nomatch e), fun _ _ _ e => (nomatch e), xin_closed, fun _ _ e => (nomatch e)⟩
    replace e : (if f = "grown" then some d_grown else none) = some dn := e
    rcases ite_some e with ⟨q, e⟩ | ⟨_, e⟩
    · subst q; cases e; exact F3.mono (by decide)
    cases e
  have F4 : FnM l.prog w K mg base ⟨K, clK K, w⟩ 3 "closed" d_closed (pats "closed") := fnM_of (PySem.W.mg_of X Gh a4) l4 c4 k4 sc_closed M4 io_closed rfl b_closed ok_closed fun _ us ws zs p q0 q1 q2 q3 => bd_closed us ws zs p q0 q1 q2 q3
  have M5 : Mo0 l.prog w K mg base ⟨K, clK K, w⟩ 0 Γ_law_pot bl pats := by
    refine ⟨rfl, rfl, cc, fun f dn e => ?_, zz, fun _ _ e => (nomatch e), fun _ _ _ e => (nomatch e), fun _ _ _ e => (nomatch e), fun _ _ e => (nomatch e), fun _ _ e => (nomatch e)⟩
    cases e
  have F5 : FnM l.prog w K mg base ⟨K, clK K, w⟩ 1 "_law_pot" d_law_pot (pats "_law_pot") := fnM_of (PySem.W.mg_of X Gh a5) l5 c5 k5 sc_law_pot M5 io_law_pot rfl b_law_pot ok_law_pot fun _ us ws zs p q0 q1 q2 q3 => bd_law_pot us ws zs p q0 q1 q2 q3
  have M6 : Mo0 l.prog w K mg base ⟨K, clK K, w⟩ 0 Γ_law_draw bl pats := by
    refine ⟨rfl, rfl, cc, fun f dn e => ?_, zz, fun _ _ e => (nomatch e), fun _ _ _ e => (nomatch e), fun _ _ _ e => (nomatch e), fun _ _ e => (nomatch e), fun _ _ e => (nomatch e)⟩
    cases e
  have F6 : FnM l.prog w K mg base ⟨K, clK K, w⟩ 1 "_law_draw" d_law_draw (pats "_law_draw") := fnM_of (PySem.W.mg_of X Gh a6) l6 c6 k6 sc_law_draw M6 io_law_draw rfl b_law_draw ok_law_draw fun _ us ws zs p q0 q1 q2 q3 => bd_law_draw us ws zs p q0 q1 q2 q3
  have M7 : Mo0 l.prog w K mg base ⟨K, clK K, w⟩ 1 Γ_law_pick bl pats := by
    refine ⟨rfl, rfl, cc, fun f dn e => ?_, zz, fun _ _ e => (nomatch e), fun _ _ _ e => (nomatch e), fun _ _ _ e => (nomatch e), fun _ _ e => (nomatch e), fun _ _ e => (nomatch e)⟩
    replace e : (if f = "_law_draw" then some d_law_draw else none) = some dn := e
    rcases ite_some e with ⟨q, e⟩ | ⟨_, e⟩
    · subst q; cases e; exact F6.mono (by decide)
    cases e
  have F7 : FnM l.prog w K mg base ⟨K, clK K, w⟩ 2 "_law_pick" d_law_pick (pats "_law_pick") := fnM_of (PySem.W.mg_of X Gh a7) l7 c7 k7 sc_law_pick M7 io_law_pick rfl b_law_pick ok_law_pick fun _ us ws zs p q0 q1 q2 q3 => bd_law_pick us ws zs p q0 q1 q2 q3
  have M8 : Mo0 l.prog w K mg base ⟨K, clK K, w⟩ 1 Γ_law_mixed bl pats := by
    refine ⟨rfl, rfl, cc, fun f dn e => ?_, zz, fun _ _ e => (nomatch e), fun _ _ _ e => (nomatch e), fun _ _ _ e => (nomatch e), fun _ _ e => (nomatch e), fun _ _ e => (nomatch e)⟩
    replace e : (if f = "_law_draw" then some d_law_draw else none) = some dn := e
    rcases ite_some e with ⟨q, e⟩ | ⟨_, e⟩
    · subst q; cases e; exact F6.mono (by decide)
    cases e
  have F8 : FnM l.prog w K mg base ⟨K, clK K, w⟩ 2 "_law_mixed" d_law_mixed (pats "_law_mixed") := fnM_of (PySem.W.mg_of X Gh a8) l8 c8 k8 sc_law_mixed M8 io_law_mixed rfl b_law_mixed ok_law_mixed fun _ us ws zs p q0 q1 q2 q3 => bd_law_mixed us ws zs p q0 q1 q2 q3
  have M9 : Mo0 l.prog w K mg base ⟨K, clK K, w⟩ 1 Γ_law_row bl pats := by
    refine ⟨rfl, rfl, cc, fun f dn e => ?_, zz, fun _ _ e => (nomatch e), fun _ _ _ e => (nomatch e), fun _ _ _ e => (nomatch e), fun _ _ e => (nomatch e), fun _ _ e => (nomatch e)⟩
    replace e : (if f = "_law_draw" then some d_law_draw else none) = some dn := e
    rcases ite_some e with ⟨q, e⟩ | ⟨_, e⟩
    · subst q; cases e; exact F6.mono (by decide)
    cases e
  have F9 : FnM l.prog w K mg base ⟨K, clK K, w⟩ 2 "_law_row" d_law_row (pats "_law_row") := fnM_of (PySem.W.mg_of X Gh a9) l9 c9 k9 sc_law_row M9 io_law_row rfl b_law_row ok_law_row fun _ us ws zs p q0 q1 q2 q3 => bd_law_row us ws zs p q0 q1 q2 q3
  have M10 : Mo0 l.prog w K mg base ⟨K, clK K, w⟩ 2 Γ_law_teller bl pats := by
    refine ⟨rfl, rfl, cc, fun f dn e => ?_, zz, fun _ _ e => (nomatch e), fun _ _ _ e => (nomatch e), fun _ _ _ e => (nomatch e), fun _ _ e => (nomatch e), fun _ _ e => (nomatch e)⟩
    replace e : (if f = "_law_draw" then some d_law_draw else if f = "_law_mixed" then some d_law_mixed else if f = "_law_row" then some d_law_row else none) = some dn := e
    rcases ite_some e with ⟨q, e⟩ | ⟨_, e⟩
    · subst q; cases e; exact F6.mono (by decide)
    rcases ite_some e with ⟨q, e⟩ | ⟨_, e⟩
    · subst q; cases e; exact F8.mono (by decide)
    rcases ite_some e with ⟨q, e⟩ | ⟨_, e⟩
    · subst q; cases e; exact F9.mono (by decide)
    cases e
  have F10 : FnM l.prog w K mg base ⟨K, clK K, w⟩ 3 "_law_teller" d_law_teller (pats "_law_teller") := fnM_of (PySem.W.mg_of X Gh a10) l10 c10 k10 sc_law_teller M10 io_law_teller rfl b_law_teller ok_law_teller fun _ us ws zs p q0 q1 q2 q3 => bd_law_teller us ws zs p q0 q1 q2 q3
  have M11 : Mo0 l.prog w K mg base ⟨K, clK K, w⟩ 3 Γ_law_some_teller bl pats := by
    refine ⟨rfl, rfl, cc, fun f dn e => ?_, zz, fun _ _ e => (nomatch e), fun _ _ _ e => (nomatch e), fun _ _ _ e => (nomatch e), fun _ _ e => (nomatch e), fun _ _ e => (nomatch e)⟩
    replace e : (if f = "_law_pick" then some d_law_pick else if f = "_law_teller" then some d_law_teller else none) = some dn := e
    rcases ite_some e with ⟨q, e⟩ | ⟨_, e⟩
    · subst q; cases e; exact F7.mono (by decide)
    rcases ite_some e with ⟨q, e⟩ | ⟨_, e⟩
    · subst q; cases e; exact F10.mono (by decide)
    cases e
  have F11 : FnM l.prog w K mg base ⟨K, clK K, w⟩ 4 "_law_some_teller" d_law_some_teller (pats "_law_some_teller") := fnM_of (PySem.W.mg_of X Gh a11) l11 c11 k11 sc_law_some_teller M11 io_law_some_teller rfl b_law_some_teller ok_law_some_teller fun _ us ws zs p q0 q1 q2 q3 => bd_law_some_teller us ws zs p q0 q1 q2 q3
  have M12 : Mo0 l.prog w K mg base ⟨K, clK K, w⟩ 0 Γ_law_closed bl pats := by
    refine ⟨rfl, rfl, cc, fun f dn e => ?_, zz, fun _ _ e => (nomatch e), fun _ _ _ e => (nomatch e), fun _ _ _ e => (nomatch e), fun _ _ e => (nomatch e), fun _ _ e => (nomatch e)⟩
    cases e
  have F12 : FnM l.prog w K mg base ⟨K, clK K, w⟩ 1 "_law_closed" d_law_closed (pats "_law_closed") := fnM_of (PySem.W.mg_of X Gh a12) l12 c12 k12 sc_law_closed M12 io_law_closed rfl b_law_closed ok_law_closed fun _ us ws zs p q0 q1 q2 q3 => bd_law_closed us ws zs p q0 q1 q2 q3
  have M13 : Mo0 l.prog w K mg base ⟨K, clK K, w⟩ 4 Γ_law bl pats := by
    refine ⟨rfl, rfl, cc, fun f dn e => ?_, zz, fun _ _ e => (nomatch e), fun _ _ _ e => (nomatch e), fun _ _ _ e => (nomatch e), fun _ _ e => (nomatch e), fun _ _ e => (nomatch e)⟩
    replace e : (if f = "closed" then some d_closed else if f = "_law_pot" then some d_law_pot else if f = "_law_draw" then some d_law_draw else if f = "_law_row" then some d_law_row else if f = "_law_teller" then some d_law_teller else if f = "_law_some_teller" then some d_law_some_teller else if f = "_law_closed" then some d_law_closed else none) = some dn := e
    rcases ite_some e with ⟨q, e⟩ | ⟨_, e⟩
    · subst q; cases e; exact F4.mono (by decide)
    rcases ite_some e with ⟨q, e⟩ | ⟨_, e⟩
    · subst q; cases e; exact F5.mono (by decide)
    rcases ite_some e with ⟨q, e⟩ | ⟨_, e⟩
    · subst q; cases e; exact F6.mono (by decide)
    rcases ite_some e with ⟨q, e⟩ | ⟨_, e⟩
    · subst q; cases e; exact F9.mono (by decide)
    rcases ite_some e with ⟨q, e⟩ | ⟨_, e⟩
    · subst q; cases e; exact F10.mono (by decide)
    rcases ite_some e with ⟨q, e⟩ | ⟨_, e⟩
    · subst q; cases e; exact F11.mono (by decide)
    rcases ite_some e with ⟨q, e⟩ | ⟨_, e⟩
    · subst q; cases e; exact F12.mono (by decide)
    cases e
  exact fnG_of l13 c13 sc_law M13 io_law rfl b_law ok_law
theorem walk {l : PySem.W.OpenLaw} {q : Program} {loose : List Str} {XP : (Str → Option Value) → Heap → Prop} {YP : World → Heap → Prop} {d : DefRec} {K : Params → PySem.W.Frag} (truth : ∀ ns : List Int, ns.length ≤ 63 → ∃ outs, d_law.m [.sh (.list (ns.map .int))] = .ok (.sh (.bool true)) outs)
    (hn : l.most = some 63) (hdf : d.params.defaults = []) (hY : ∀ (w : World) (h : Heap), YP w h → (K w.params).In h)
    (F : ∀ (w : World) (mg : Str → Option Value) (fa : Addr) (h : Heap), (K w.params).In h → h.Ns mainGlobals mg → mg d.name = some (.ref fa) →
      ∃ fd : FuncData, (∀ (s : Shared) (u : Value), BindsTo s fd ⟨[u], []⟩ [("script", u)]) ∧ ∀ base : Heap, (K w.params).In base → base.Ns mainGlobals mg → FnG l.prog w (K w.params) mg base 5 fa fd ["script"] (spD ⟨K w.params, clK (K w.params), w⟩ d_law)) :
    PySem.W.WalkO q loose XP YP l.row.toRowW d [] (fun f vs => PySem.call f vs) :=
  law_end (n := 63) (k := 5) (x := "script") (cl := fun p => clK (K p)) (dn := fun _ => d_law) hn (by decide) hdf ⟨rfl, by decide, by decide⟩ hY F (fun _ => rfl) fun _ ns h => truth ns h
end T19
namespace T19
open PySem PySem.Spec L2 Ab
open Vs hiding Env
open PyProof.Rows hiding St
/-! the rill: a dict of far cells, a number, a count -/
theorem gs_ : (Str.ofString "great" = Str.ofString "stirred") = False := by simp; decide +kernel
theorem gt_ : (Str.ofString "great" = Str.ofString "turn") = False := by simp; decide +kernel
theorem st_ : (Str.ofString "stirred" = Str.ofString "turn") = False := by simp; decide +kernel
def potD (gs : List Int) (st tn : Int) : D := .dk [.inr "great", .inr "stirred", .inr "turn"] [.ls ((gs.map PyData.int).map .sh), .sh (.int st), .sh (.int tn)]
def mixN (st t : Int) : Int := ((st * 48271 + t * t * 17 + 7919 * t) % 4294967279 * 69621 + (st * 48271 + t * t * 17 + 7919 * t) % 4294967279 / 65536) % 4294967291
theorem draw_nil {st tn m : Int} (h1 : 0 < m) (ht : (tn + 1).natAbs < 18446744073709551616) : d_law_draw.m [potD [] st tn, .sh (.int m)] = .ok (.sh (.int (mixN st (tn + 1) / 1024 % m))) [potD [] (mixN st (tn + 1)) (tn + 1)] := by
  unfold d_law_draw denOf runD
  simp [wrapO, io_law_draw, b_law_draw, potD, getP, setP, dkGet, dkSet, hasK, dkPut, putD, gs_, gt_, st_, oEq, small64b, ht, h1, mixN]
theorem draw_big {g : Int} {gs : List Int} {st tn m : Int} (h1 : 0 < m) (h2 : m < 1073741824) (hl : gs.length + 1 < 1000000) (hl' : gs.length < 1000000) (hg : m ≤ g) : d_law_draw.m [potD (g :: gs) st tn, .sh (.int m)] = .ok (.sh (.int (g % m))) [potD (g / m :: gs) st tn] := by
  unfold d_law_draw denOf runD
  have hz : (0 : Int) < (gs.length : Int) + 1 := by omega
  simp [wrapO, io_law_draw, b_law_draw, potD, getP, setP, dkGet, dkSet, hasK, dkPut, putD, gs_, gt_, st_, oEq, small64b, h1, h2, mo, moPopAt, moInsert, ixN, hz, hl, hg, hl']
theorem draw_small {g : Int} {gs : List Int} {st tn m : Int} (h1 : 0 < m) (h2 : m < 1073741824) (hl : gs.length + 1 < 1000000) (hg : ¬ m ≤ g) : d_law_draw.m [potD (g :: gs) st tn, .sh (.int m)] = .ok (.sh (.int (g % m))) [potD gs st tn] := by
  unfold d_law_draw denOf runD
  have hz : (0 : Int) < (gs.length : Int) + 1 := by omega
  simp [wrapO, io_law_draw, b_law_draw, potD, getP, setP, dkGet, dkSet, hasK, dkPut, putD, gs_, gt_, st_, oEq, small64b, h1, h2, mo, moPopAt, moInsert, ixN, hz, hl, hg]
theorem draw_ok {gs : List Int} {st tn m : Int} (h1 : 0 < m) (h2 : m < 1073741824) (hl : gs.length ≤ 63) (t0 : 0 ≤ tn) (t1 : tn ≤ 4000000) :
    ∃ (r : Int) (gs' : List Int) (st' tn' : Int), d_law_draw.m [potD gs st tn, .sh (.int m)] = .ok (.sh (.int r)) [potD gs' st' tn'] ∧ 0 ≤ r ∧ r < m ∧ gs'.length ≤ 63 ∧ 0 ≤ tn' ∧ tn' ≤ tn + 1 := by
  cases gs with
  | nil => exact ⟨_, _, _, _, draw_nil h1 (by omega), Int.emod_nonneg _ (by omega), Int.emod_lt_of_pos _ h1, by simp, by omega, by omega⟩
  | cons g gs =>
    have hl' : gs.length + 1 ≤ 63 := by simpa using hl
    by_cases hg : m ≤ g
    · exact ⟨_, _, _, _, draw_big h1 h2 (by omega) (by omega) hg, Int.emod_nonneg _ (by omega), Int.emod_lt_of_pos _ h1, by simpa using hl', t0, by omega⟩
    · exact ⟨_, _, _, _, draw_small h1 h2 (by omega) hg, Int.emod_nonneg _ (by omega), Int.emod_lt_of_pos _ h1, by omega, t0, by omega⟩
/-! the rill made of the script -/
def cellI (i : Int) : Int := 2 * (if i < 0 then -i else i) + (if i < 0 then 1 else 0)
def cellD : PyData → D
  | .int i => .sh (.int (cellI i))
  | _ => .sh .none
theorem e_cells (x : D) (cs : List Int) (hl : cs.length ≤ 63) : lcL [1] (Tg.nm 1) (ifT []) (ev Γ_law_pot (Ex.op Op.add [Ex.op Op.mul [Ex.lit (PyData.int 2), Ex.op Op.abs [Ex.vw 1 []]], Ex.op Op.int [Ex.op Op.lt [Ex.vw 1 [], Ex.lit (PyData.int 0)]]]))
      (cs.map .int) [some x, none, none, none] [] = some (((cs.map cellI).map PyData.int).map .sh, [some x, none, none, none]) := by
  rw [lcL_map cellD]
  · simp only [List.map_map]; rfl
  · intro p hp
    obtain ⟨i, _, rfl⟩ := List.mem_map.mp hp
    refine ⟨[some x, some (.sh (.int i)), none, none], by simp, by simp, ?_, by simp⟩
    simp [wrapO, small64b, cellD, cellI]
  · simp; omega
def bigB : PyData → Bool
  | .int i => decide ((10 : Int) ^ 16 ≤ i)
  | _ => false
theorem e_great (x : D) (y z : Option D) (cs : List Int) (hl : cs.length ≤ 63) : lcL [1] (Tg.nm 1) (ifT [evT Γ_law_pot (Ex.op Op.ge [Ex.vw 1 [], Ex.op Op.pow [Ex.lit (PyData.int 10), Ex.lit (PyData.int 16)]])]) (ev Γ_law_pot (Ex.rd 1))
      (cs.map .int) [some x, none, y, z] [] = some (((cs.filter fun i => decide ((10 : Int) ^ 16 ≤ i)).map PyData.int).map .sh, [some x, none, y, z]) := by
  rw [lcL_filter bigB .sh]
  · simp only [List.nil_append, List.filter_map]; rfl
  · intro p hp
    obtain ⟨i, _, rfl⟩ := List.mem_map.mp hp
    refine ⟨[some x, some (.sh (.int i)), y, z], by simp, ?_, by simp, by simp⟩
    simp [wrapO, small64b, bigB, powOk]
  · simp; omega
theorem pot_ok (ns : List Int) (hn : ns.length ≤ 63) : ∃ gs st, gs.length ≤ 63 ∧ d_law_pot.m [.sh (.list (ns.map .int))] = .ok (potD gs st 0) [] := by
  unfold d_law_pot denOf runD
  obtain ⟨cs, hcs, hl⟩ : ∃ cs : List Int, cutL (ns.map PyData.int) none (some 61) = cs.map .int ∧ cs.length ≤ 63 := ⟨ns.take 61, by rw [cut_H (by decide)]; simp, by simp; omega⟩
  have e1 := e_cells (.sh (.list (ns.map .int))) cs hl
  obtain ⟨es, hes, hl2⟩ : ∃ es, cs.map cellI = es ∧ es.length ≤ 63 := ⟨_, rfl, by simpa using hl⟩
  rw [hes] at e1
  obtain ⟨ρ, e2, c, st, rfl⟩ := lopL_run (t := .nm 1) (b := gos Γ_law_pot [Sm.asg (Tg.nm 3) (Ex.op Op.mod [Ex.op Op.int [Ex.op Op.add [Ex.op Op.add [Ex.op Op.mul [Ex.vw 3 [], Ex.lit (PyData.int 69069)], Ex.vw 1 []], Ex.lit (PyData.int 13)]], Ex.lit (PyData.int 4294967291)])])
    (fun _ ρ => ∃ (c : Option D) (st : Int), ρ = [some (.sh (.list (ns.map .int))), c, some (.sh (.list (es.map .int))), some (.sh (.int st))]) (es.map .int) 0
    [some (.sh (.list (ns.map .int))), none, some (.sh (.list (es.map .int))), some (.sh (.int (15914 + 3 * (ns.length : Int))))] ⟨none, _, rfl⟩ (by
      rintro i p ρ hp ⟨c, st, rfl⟩
      rw [List.getElem?_map] at hp
      obtain ⟨k, _, rfl⟩ := Option.map_eq_some_iff.mp hp
      refine ⟨[some (.sh (.list (ns.map .int))), some (.sh (.int k)), some (.sh (.list (es.map .int))), some (.sh (.int st))], [some (.sh (.list (ns.map .int))), some (.sh (.int k)), some (.sh (.list (es.map .int))), some (.sh (.int ((st * 69069 + k + 13) % 4294967291)))], by simp, .inl (by simp [wrapO, small64b]), ⟨_, _, rfl⟩⟩)
  have e3 := e_great (.sh (.list (ns.map .int))) (some (.sh (.list (es.map .int)))) (some (.sh (.int st))) es hl2
  refine ⟨es.filter fun i => decide ((10 : Int) ^ 16 ≤ i), st, Nat.le_trans (List.length_filter_le _ _) (by omega), ?_⟩
  simp [-List.map_map, wrapO, io_law_pot, b_law_pot, hcs, e1, lopF_eq, lcE_eq, e2, e3, small64b, potD, gs_, gt_, st_]
theorem at_of {l : List PyData} {i : Int} {x : PyData} (h0 : 0 ≤ i) (h : l[i.toNat]? = some x) : atI l i = some x := by
  have h1 := (List.getElem?_eq_some_iff.mp h).1
  unfold atI ixN
  rw [if_pos h0, if_pos (by omega)]
  exact h
/-! ### draws by hand -/
def PotP (n : Nat) (d : D) : Prop := ∃ gs st tn, gs.length ≤ 63 ∧ 0 ≤ tn ∧ tn ≤ (n : Int) ∧ d = potD gs st tn
theorem PotP.mono {n m : Nat} {d : D} (h : PotP n d) (q : n ≤ m) : PotP m d := by
  obtain ⟨gs, st, tn, a, b, c, e⟩ := h
  exact ⟨gs, st, tn, a, b, by omega, e⟩
theorem draw_P {n : Nat} {d : D} {m : Int} (h : PotP n d) (hn : n ≤ 2000000) (h1 : 0 < m) (h2 : m < 1073741824) : ∃ (r : Int) (d' : D), d_law_draw.m [d, .sh (.int m)] = .ok (.sh (.int r)) [d'] ∧ 0 ≤ r ∧ r < m ∧ PotP (n + 1) d' := by
  obtain ⟨gs, st, tn, a, b, c, rfl⟩ := h
  obtain ⟨r, gs', st', tn', e, r0, r1, k1, k2, k3⟩ := draw_ok (gs := gs) (st := st) h1 h2 a b (by omega)
  exact ⟨r, _, e, r0, r1, gs', st', tn', k1, k2, by omega, rfl⟩
theorem fn_od : Γ_law_pick.fn (Str.ofString "_law_draw") = some d_law_draw := by simp [Γ_law_pick]
theorem pick_P {n : Nat} {d : D} {items : List PyData} (h : PotP n d) (hn : n ≤ 2000000) (h1 : items ≠ []) (h2 : items.length < 1000000) : ∃ (x : PyData) (d' : D), x ∈ items ∧ d_law_pick.m [d, .sh (.list items)] = .ok (.sh x) [d'] ∧ PotP (n + 1) d' := by
  have hl : 0 < items.length := List.length_pos_iff.mpr h1
  obtain ⟨r, d', e, r0, r1, p⟩ := draw_P (m := items.length) h hn (by omega) (by omega)
  have hr : r.toNat < items.length := by omega
  have io : d_law_draw.io = [true, false] := rfl
  have at' : atI items r = some items[r.toNat] := at_of r0 (List.getElem?_eq_getElem hr)
  refine ⟨items[r.toNat], d', List.getElem_mem hr, ?_, p⟩
  unfold d_law_pick denOf runD
  simp [wrapO, io_law_pick, b_law_pick, fn_od, io, e, oIx, at']
end T19
namespace T19
open PySem PySem.Spec L2 Ab
open Vs hiding Env
open PyProof.Rows hiding St
theorem mkT2 {a b : PyData} : mkTup [.sh a, .sh b] = .sh (.tuple [a, b]) := rfl
theorem mkT3 {a b c : PyData} : mkTup [.sh a, .sh b, .sh c] = .sh (.tuple [a, b, c]) := rfl
abbrev nI (n : Nat) : PyData := .int (n : Int)
def rowD (l : List Nat) : PyData := .tuple (l.map nI)
def telD (k : Nat) (mv : List (List Nat)) (tl : List Nat) : PyData := .tuple [nI k, .tuple (mv.map rowD), rowD tl]
theorem seq_ls (l : List PyData) : D.seq (.ls (l.map .sh)) = some (.lst, l) := by simp [D.seq]
theorem oTup_ls (l : List PyData) : oTuple (.ls (l.map .sh)) = some (.sh (.tuple l)) := by
  unfold oTuple
  rw [seq_ls]
theorem fz_ls (l : List PyData) : D.fz (.ls (l.map .sh)) = some (.list l) := by
  have : ∀ l : List PyData, D.fzs (l.map .sh) = some l := by
    intro l
    induction l with
    | nil => rfl
    | cons a l ih => simp only [List.map_cons]; unfold D.fzs; rw [ih]; rfl
  unfold D.fz
  rw [this]
/-- a comprehension along which is drawn -/
theorem lc_pot {own : List Nat} {t : Tg} {f : EF} {n c : Nat} {d : D} (E : D → Vs.Env) (R : PyData → Prop) (ps : List PyData) (h : PotP n d)
    (hs : ∀ i p d, ps[i]? = some p → PotP (n + c * i) d → ∃ ρ1 ρ3 x d', bindT [] t (.sh p) (E d) = some ρ1 ∧ f ρ1 = .ok (.sh x, ρ3) ∧ wipeE ρ3 own = E d' ∧ R x ∧ PotP (n + c * (i + 1)) d') (hl : ps.length ≤ 1000000) :
    ∃ (xs : List PyData) (d' : D), lcL own t (ifT []) f ps (E d) [] = some (xs.map .sh, E d') ∧ xs.length = ps.length ∧ (∀ x ∈ xs, R x) ∧ PotP (n + c * ps.length) d' := by
  obtain ⟨acc, ρ, e, d', xs, rfl, rfl, v1, v2, v3⟩ := lcL_inv (own := own) (t := t) (test := ifT []) (f := f)
    (fun i ρ acc => ∃ (d' : D) (xs : List PyData), ρ = E d' ∧ acc = xs.map .sh ∧ xs.length = i ∧ (∀ x ∈ xs, R x) ∧ PotP (n + c * i) d') ps 0 (E d) [] ⟨d, [], rfl, rfl, rfl, (fun _ h => nomatch h), by simpa using h⟩ (by
      rintro i p ρ acc hp ⟨d', xs, rfl, rfl, v1, v2, v3⟩
      have hi : i < ps.length := (List.getElem?_eq_some_iff.mp hp).1
      rw [Nat.zero_add] at v1 v3
      obtain ⟨ρ1, ρ3, x, d2, e1, e2, e3, r, p2⟩ := hs i p d' hp v3
      refine ⟨by simp; omega, ρ1, e1, .inl ⟨ρ1, .sh x, ρ3, rfl, e2, d2, xs ++ [x], e3, by simp, by simp; omega, fun y hy => ?_, by rw [Nat.zero_add]; exact p2⟩⟩
      rcases List.mem_append.mp hy with hy | hy
      · exact v2 y hy
      · rw [List.mem_singleton] at hy; subst hy; exact r)
  rw [Nat.zero_add] at v1 v3
  exact ⟨xs, d', e, v1, v2, v3⟩
theorem nats_of {k : Nat} : ∀ {xs : List PyData}, (∀ x ∈ xs, ∃ r : Nat, x = nI r ∧ r < k) → ∃ L : List Nat, xs = L.map nI ∧ ∀ r ∈ L, r < k
  | [], _ => ⟨[], rfl, fun _ h => nomatch h⟩
  | x :: xs, h => by
    obtain ⟨r, rfl, hr⟩ := h x List.mem_cons_self
    obtain ⟨L, rfl, hL⟩ := nats_of fun y hy => h y (List.mem_cons_of_mem _ hy)
    exact ⟨r :: L, rfl, fun y hy => by
      rcases List.mem_cons.mp hy with rfl | hy
      · exact hr
      · exact hL y hy⟩
theorem rows_of {α : Type} {g : α → PyData} {P : α → Prop} : ∀ {xs : List PyData}, (∀ x ∈ xs, ∃ r : α, x = g r ∧ P r) → ∃ L : List α, xs = L.map g ∧ ∀ r ∈ L, P r
  | [], _ => ⟨[], rfl, fun _ h => nomatch h⟩
  | x :: xs, h => by
    obtain ⟨r, rfl, hr⟩ := h x List.mem_cons_self
    obtain ⟨L, rfl, hL⟩ := rows_of fun y hy => h y (List.mem_cons_of_mem _ hy)
    exact ⟨r :: L, rfl, fun y hy => by
      rcases List.mem_cons.mp hy with rfl | hy
      · exact hr
      · exact hL y hy⟩
theorem draw_N {n : Nat} {d : D} {m : Nat} (h : PotP n d) (hn : n ≤ 2000000) (h1 : 0 < m) (h2 : m < 1073741824) : ∃ (r : Nat) (d' : D), d_law_draw.m [d, .sh (nI m)] = .ok (.sh (nI r)) [d'] ∧ r < m ∧ PotP (n + 1) d' := by
  obtain ⟨r, d', e, r0, r1, p⟩ := draw_P (m := (m : Int)) h hn (by omega) (by omega)
  obtain ⟨rn, rfl⟩ : ∃ rn : Nat, r = (rn : Nat) := ⟨r.toNat, by omega⟩
  exact ⟨rn, d', e, by omega, p⟩
/-! ### a row -/
theorem io_draw : d_law_draw.io = [true, false] := rfl
theorem fn_row : Γ_law_row.fn (Str.ofString "_law_draw") = some d_law_draw := by simp [Γ_law_row]
theorem m_row0 : d_law_row.m = runD 4 io_law_row (gos Γ_law_row b_law_row) := rfl
theorem rowF_run {Γ : Gam} {dn : Den} {d d' : D} {k r q : Nat} {p : PyData} (hf : Γ.fn (Str.ofString "_law_draw") = some dn) (hio : dn.io = [true, false]) (e : dn.m [d, .sh (nI k)] = .ok (.sh (nI r)) [d']) :
    ev Γ (.fz (.call "_law_draw" [.vw 0 [], .rd 1] [] [] [0, 1])) [some d, some (.sh (nI k)), some (.sh (nI q)), some (.sh p)] = .ok (.sh (nI r), [some d', some (.sh (nI k)), some (.sh (nI q)), some (.sh p)]) := by
  simp [fzE_eq, D.fz, hf, hio, e]
theorem m_row {n k q : Nat} {d : D} (h : PotP n d) (hn : n + q ≤ 2000000) (h1 : 1 ≤ k) (h2 : k ≤ 100) (hq : q ≤ 1000) : ∃ (L : List Nat) (d' : D), d_law_row.m [d, .sh (nI k), .sh (nI q)] = .ok (.sh (rowD L)) [d'] ∧ L.length = q ∧ (∀ x ∈ L, x < k) ∧ PotP (n + q) d' := by
  have hrl : (rngD 0 q).length = q := by simp [rngD]
  obtain ⟨xs, d', e, l1, l2, l3⟩ := lc_pot (own := [3]) (t := .nm 3) (f := ev Γ_law_row (.fz (.call "_law_draw" [.vw 0 [], .rd 1] [] [] [0, 1]))) (c := 1) (fun d => [some d, some (.sh (nI k)), some (.sh (nI q)), none]) (fun x => ∃ r : Nat, x = nI r ∧ r < k) (rngD 0 q) h (by
    intro i p d hp hd
    have hi : i < (rngD 0 q).length := (List.getElem?_eq_some_iff.mp hp).1
    rw [hrl] at hi
    obtain ⟨r, d2, e2, r1, p2⟩ := draw_N (m := k) hd (by omega) (by omega) (by omega)
    exact ⟨[some d, some (.sh (nI k)), some (.sh (nI q)), some (.sh p)], [some d2, some (.sh (nI k)), some (.sh (nI q)), some (.sh p)], nI r, d2, rfl, rowF_run fn_row io_draw e2, rfl, ⟨r, rfl, r1⟩, by rw [show n + 1 * (i + 1) = n + 1 * i + 1 by omega]; exact p2⟩) (by omega)
  rw [hrl] at l1 l3
  obtain ⟨L, rfl, hL⟩ := nats_of l2
  refine ⟨L, d', ?_, by simpa using l1, hL, by simpa using l3⟩
  have l := lcE_run (own := [3]) (t := .nm 3) (k := .rng) (ops := [Sop.e (ev Γ_law_row (.rd 2))]) (test := ifT []) (f := ev Γ_law_row (.fz (.call "_law_draw" [.vw 0 [], .rd 1] [] [] [0, 1]))) (ρ := [some d, some (.sh (nI k)), some (.sh (nI q)), none]) (ρ1 := [some d, some (.sh (nI k)), some (.sh (nI q)), none]) (ρ3 := [some d', some (.sh (nI k)), some (.sh (nI q)), none]) (os := [.d (.sh (nI q))]) (ds := [.sh (nI q)]) (by simp) (by simp [ovs]) (itF_rngN (by omega)) e (by simp [unlock])
  rw [m_row0]
  refine runD_rt (ρ0 := [some d, some (.sh (nI k)), some (.sh (nI q)), none]) (ρ := [some d', some (.sh (nI k)), some (.sh (nI q)), none]) rfl rfl ?_ rfl
  exact gos_last (by simp [-List.map_map, wrapO, l, oTup_ls, rowD])
end T19
namespace T19
open PySem PySem.Spec L2 Ab
open Vs hiding Env
open PyProof.Rows hiding St
theorem fn_md : Γ_law_mixed.fn (Str.ofString "_law_draw") = some d_law_draw := by simp [Γ_law_mixed]
abbrev mixedB : List Sm := [.ex (.mut .append 4 [] [.mut .popAt 3 [] [.fz (.call "_law_draw" [.vw 0 [], .op .len [.vw 3 []]] [] [] [0, 1])]])]
theorem mixed_step {left found : List PyData} {pt pt' it : D} {tu : Option D} {r : Int} {y : PyData} (e : d_law_draw.m [pt, .sh (.int left.length)] = .ok (.sh (.int r)) [pt'])
    (po : mo .popAt (left.map .sh) [.sh (.int r)] = some ((left.eraseIdx r.toNat).map .sh, .sh y)) (ao : mo .append (found.map .sh) [.sh y] = some ((found ++ [y]).map .sh, .sh .none)) :
    gos Γ_law_mixed mixedB [some pt, some it, tu, some (.ls (left.map .sh)), some (.ls (found.map .sh))] = .nx [some pt', some it, tu, some (.ls ((left.eraseIdx r.toNat).map .sh)), some (.ls ((found ++ [y]).map .sh))] := by
  simp [-List.map_map, wrapO, getP, fzE_eq, D.fz, fn_md, io_draw, e, po, ao]
theorem m_mixed0 : d_law_mixed.m = runD 5 io_law_mixed (gos Γ_law_mixed b_law_mixed) := rfl
theorem m_mixed {n : Nat} {d : D} {l : List PyData} (h : PotP n d) (hl : l.length ≤ 1000) (hn : n + l.length ≤ 1900000) : ∃ (found : List PyData) (d' : D), d_law_mixed.m [d, (.sh (.list l))] = .ok (.ls (found.map .sh)) [d'] ∧ found.length = l.length ∧ (∀ p ∈ found, p ∈ l) ∧ PotP (n + l.length) d' := by
  obtain ⟨ρ, e, d', tu, left, found, rfl, y1, y2, y3, y4, y5⟩ := lopL_run (t := .nm 2) (b := gos Γ_law_mixed mixedB)
    (fun i ρ => ∃ (d' : D) (tu : Option D) (left found : List PyData), ρ = [some d', some (.sh (.list l)), tu, some (.ls (left.map .sh)), some (.ls (found.map .sh))] ∧ PotP (n + i) d' ∧ left.length + i = l.length ∧ found.length = i ∧ (∀ p ∈ left, p ∈ l) ∧ ∀ p ∈ found, p ∈ l)
    (rngD 0 l.length) 0 [some d, some (.sh (.list l)), none, some (.ls (l.map .sh)), some (.ls (([] : List PyData).map .sh))] ⟨d, none, l, [], rfl, h, rfl, rfl, (fun _ h => h), fun _ h => nomatch h⟩ (by
      rintro i p ρ hp ⟨d', tu, left, found, rfl, p1, p2, p3, p4, p5⟩
      rw [Nat.zero_add] at p1 p2 p3
      have hi : i < l.length := by
        have := (List.getElem?_eq_some_iff.mp hp).1
        simpa [rngD] using this
      obtain ⟨r, pt2, o1, o2, o3, o4⟩ := draw_P (m := left.length) p1 (by omega) (by omega) (by omega)
      have hr2 : r.toNat < left.length := by omega
      have po := popAt_ok (l := left) (r := r) (x := left[r.toNat]) o2 o3 (List.getElem?_eq_getElem hr2) (by omega)
      have ao := append_ok (l := found) (x := left[r.toNat]) (by omega)
      refine ⟨[some d', some (.sh (.list l)), some (.sh p), some (.ls (left.map .sh)), some (.ls (found.map .sh))], _, by simp [-List.map_map], .inl (mixed_step o1 po ao), pt2, some (.sh p), _, _, rfl, o4.mono (by omega), ?_, ?_, fun p hp => p4 p (mem_erase hp), fun p hp => ?_⟩
      · have := len_erase hr2
        omega
      · simp; omega
      · rcases List.mem_append.mp hp with hp | hp
        · exact p5 p hp
        · cases List.mem_singleton.mp hp
          exact p4 _ (List.getElem_mem hr2))
  have hrl : (rngD 0 l.length).length = l.length := by simp [rngD]
  rw [Nat.zero_add, hrl] at y1 y2 y3
  refine ⟨found, d', ?_, y3, y5, y1⟩
  have h1 : oList (.sh (.list l)) = some (.ls (l.map .sh)) := by simp [oList, D.seq]
  have h2 : oLen (.sh (.list l)) = some (.sh (.int (l.length : Nat))) := by simp [oLen]
  have eL : lopF (.nm 2) .rng [Sop.e (ev Γ_law_mixed (.op .len [.vw 1 []]))] (gos Γ_law_mixed mixedB) [some d, some (.sh (.list l)), none, some (.ls (l.map .sh)), some (.ls (([] : List PyData).map .sh))] = .nx [some d', some (.sh (.list l)), tu, some (.ls (left.map .sh)), some (.ls (found.map .sh))] :=
    lopF_run (ρ1 := [some d, some (.sh (.list l)), none, some (.ls (l.map .sh)), some (.ls (([] : List PyData).map .sh))]) (os := [.d (.sh (.int (l.length : Nat)))]) (ds := [.sh (.int (l.length : Nat))]) (by simp [-List.map_map, wrapO, h2]) (by simp [ovs]) (itF_rngN (by omega)) e (by simp [unlock])
  rw [m_mixed0]
  refine runD_rt (ρ0 := [some d, some (.sh (.list l)), none, none, none]) (ρ := [some d', some (.sh (.list l)), tu, some (.ls (left.map .sh)), none]) rfl rfl ?_ rfl
  refine gos_step (ρ1 := [some d, some (.sh (.list l)), none, some (.ls (l.map .sh)), some (.ls (([] : List PyData).map .sh))]) (by simp [-List.map_map, wrapO, h1]) ?_
  refine gos_step (ρ1 := [some d', some (.sh (.list l)), tu, some (.ls (left.map .sh)), some (.ls (found.map .sh))]) (by rw [go_lop]; exact eL) ?_
  exact gos_last (by simp)
end T19
namespace T19
open PySem PySem.Spec L2 Ab
open Vs hiding Env
open PyProof.Rows hiding St
/-! ### a teller -/
theorem opD_lrng (a : D) : opD .lrng [a] = oRg1 DL a := rfl
theorem rg1_int (n : Int) (h : rgOk 0 n = true) : oRg1 DL (.sh (.int n)) = some (.ls ((rgL 0 n).map .sh)) := by
  show guardO (rgOk 0 n) (DL (rgL 0 n)) = _
  rw [h]
  rfl
theorem rgL_rngD (m : Nat) : rgL 0 (m : Int) = rngD 0 m := by
  unfold rgL rngD
  rw [show ((m : Int) - 0).toNat = m by omega]
theorem rgOk_small {m : Nat} (h : m < 1000) : rgOk 0 (m : Int) = true := by
  unfold rgOk
  simp only [Bool.and_eq_true, decide_eq_true_eq]
  omega
theorem lrng_ok {m : Nat} (h : m < 1000) : opD .lrng [.sh (nI m)] = some (.ls ((rngD 0 m).map .sh)) := by
  rw [opD_lrng, rg1_int _ (rgOk_small h), rgL_rngD]
structure TelOk (k : Nat) (mv : List (List Nat)) : Prop where
  k1 : 1 ≤ k
  k3 : k ≤ 3
  m1 : 1 ≤ mv.length
  m8 : mv.length ≤ 8
  row : ∀ r ∈ mv, r.length = k ∧ ∀ x ∈ r, x < mv.length
abbrev fA : Ex := .fz (.op .add [.vw 5 [], .call "_law_draw" [.vw 0 [], .op .sub [.vw 2 [], .vw 5 []]] [] [] [0, 1]])
abbrev sA : Sm := .ex (.mut .append 7 [] [.op .tuple [.lc [8] (.nm 8) .rng [.rd 1] [] fA]])
abbrev sB : Sm := .ex (.mut .append 7 [] [.op .tuple [.lc [9] (.nm 9) .seq [.rd 4] [] (.op .ix [.vw 9 [], .vw 5 []])]])
abbrev sC : Sm := .ex (.mut .append 7 [] [.fz (.call "_law_row" [.vw 0 [], .rd 2, .rd 1] [] [] [0, 1, 2])])
abbrev tB : List Sm := [.ite (.op .eq [.vw 6 [], .lit (.int 1)]) [sA] [.ite (.op .eq [.vw 6 [], .lit (.int 2)]) [.frz 4, sB] [sC]]]
abbrev fM : Ex := .fz (.call "_law_mixed" [.vw 0 [], .fz (.op .lrng [.vw 2 []])] [] [] [0, 1])
abbrev s1 : Sm := .par [6, 7] [.call "_law_draw" [.vw 0 [], .lit (.int 4)] [] [] [0, 1], .lst []]
abbrev s2 : Sm := .asg (.nm 4) (.ite (.op .eq [.vw 6 [], .lit (.int 2)]) (.lc [8] (.nm 8) .rng [.rd 1] [] fM) (.lst []))
abbrev s3 : Sm := .lop (.nm 5) .rng [.rd 2] tB
abbrev s4 : Sm := .ret (.tup [.rd 1, .op .tuple [.vw 7 []], .call "_law_row" [.vw 0 [], .rd 3, .rd 2] [] [] [0, 1, 2]])
theorem b_tel : b_law_teller = [s1, s2, s3, s4] := rfl
def eT (k m q : Nat) (R st : Option D) (S : Nat) (M : List PyData) (l : Option D) (w : Option D) (d : D) : Vs.Env := [some d, some (.sh (nI k)), some (.sh (nI m)), some (.sh (nI q)), R, st, some (.sh (nI S)), some (.ls (M.map .sh)), l, w]
section
variable {Γ : Gam} {dn : Den} {d d' : D} {k m q r i S : Nat} {R st l w : Option D} {M xs : List PyData} {p : PyData}
theorem fA_run (hf : Γ.fn (Str.ofString "_law_draw") = some dn) (hio : dn.io = [true, false]) (hi : i < m) (e : dn.m [d, .sh (nI (m - i))] = .ok (.sh (nI r)) [d']) :
    ev Γ fA (eT k m q R (some (.sh (nI i))) S M l w d) = .ok (.sh (nI (i + r)), eT k m q R (some (.sh (nI i))) S M l w d') := by
  have e1 : ((m - i : Nat) : Int) = (m : Int) - i := by omega
  unfold nI at e
  rw [e1] at e
  have e2 : ((i + r : Nat) : Int) = (i : Int) + r := by omega
  unfold nI
  rw [e2]
  simp [-List.map_map, eT, wrapO, fzE_eq, D.fz, hf, hio, e]
theorem a_run (e : lcE [8] (.nm 8) .rng [Sop.e (ev Γ (.rd 1))] (ifT []) (ev Γ fA) (eT k m q R (some (.sh (nI i))) 1 M l w d) = .ok (.ls (xs.map .sh), eT k m q R (some (.sh (nI i))) 1 M l w d')) (hl : M.length < 1000000) :
    gos Γ tB (eT k m q R (some (.sh (nI i))) 1 M l w d) = .nx (eT k m q R (some (.sh (nI i))) 1 (M ++ [.tuple xs]) l w d') := by
  have ao := append_ok (l := M) (x := .tuple xs) hl
  have z : ((1 : Nat) : Int) = 1 := rfl
  unfold eT at *
  simp [-List.map_map, -List.map_append, wrapO, oEq, e, getP, oTup_ls, ao]
theorem b_run {L : List PyData} (hS : S = 2) (e : lcE [9] (.nm 9) .seq [Sop.e (ev Γ (.rd 4))] (ifT []) (ev Γ (.op .ix [.vw 9 [], .vw 5 []])) (eT k m q (some (.sh (.list L))) (some (.sh (nI i))) S M l w d) = .ok (.ls (xs.map .sh), eT k m q (some (.sh (.list L))) (some (.sh (nI i))) S M l w d)) (hl : M.length < 1000000)
    (hR : R = some (.ls (L.map .sh)) ∨ R = some (.sh (.list L))) :
    gos Γ tB (eT k m q R (some (.sh (nI i))) S M l w d) = .nx (eT k m q (some (.sh (.list L))) (some (.sh (nI i))) S (M ++ [.tuple xs]) l w d) := by
  subst hS
  have ao := append_ok (l := M) (x := .tuple xs) hl
  have fz : D.fz (.ls (L.map .sh)) = some (.list L) := fz_ls L
  have fz2 : D.fz (.sh (.list L)) = some (.list L) := rfl
  have z : ((2 : Nat) : Int) = 2 := rfl
  unfold eT at *
  rcases hR with rfl | rfl <;> simp [-List.map_map, -List.map_append, wrapO, oEq, e, getP, oTup_ls, ao, fz, fz2]
theorem c_run (hS : S ≠ 1) (hS2 : S ≠ 2) (hf : Γ.fn (Str.ofString "_law_row") = some dn) (hio : dn.io = [true, false, false]) (e : dn.m [d, .sh (nI m), .sh (nI k)] = .ok (.sh p) [d']) (hl : M.length < 1000000) :
    gos Γ tB (eT k m q R (some (.sh (nI i))) S M l w d) = .nx (eT k m q R (some (.sh (nI i))) S (M ++ [p]) l w d') := by
  have ao := append_ok (l := M) (x := p) hl
  have z1 : ¬ (S : Int) = 1 := by omega
  have z2 : ¬ (S : Int) = 2 := by omega
  unfold eT at *
  simp [-List.map_map, -List.map_append, wrapO, oEq, z1, z2, hf, hio, e, getP, fzE_eq, D.fz, ao]
theorem s1_run {x4 x5 : Option D} (hf : Γ.fn (Str.ofString "_law_draw") = some dn) (hio : dn.io = [true, false]) (e : dn.m [d, .sh (nI 4)] = .ok (.sh (nI S)) [d']) :
    go Γ s1 [some d, some (.sh (nI k)), some (.sh (nI m)), some (.sh (nI q)), none, none, none, none, none, none] = .nx (eT k m q none none S [] none none d') := by
  have z : ((4 : Nat) : Int) = 4 := rfl
  unfold nI at *
  rw [z] at e
  simp [eT, hf, hio, e]
theorem s2_no (hS : S ≠ 2) : go Γ s2 (eT k m q none none S M none none d) = .nx (eT k m q (some (.ls [])) none S M none none d) := by
  have z2 : ¬ (S : Int) = 2 := by omega
  simp [-List.map_map, eT, wrapO, oEq, z2]
theorem s2_yes (hS : S = 2) (e : lcE [8] (.nm 8) .rng [Sop.e (ev Γ (.rd 1))] (ifT []) (ev Γ fM) (eT k m q none none S M none none d) = .ok (.ls (xs.map .sh), eT k m q none none S M none none d')) :
    go Γ s2 (eT k m q none none S M none none d) = .nx (eT k m q (some (.ls (xs.map .sh))) none S M none none d') := by
  subst hS
  unfold eT at *
  simp [-List.map_map, wrapO, oEq, e]
theorem fO_run {L N : List PyData} {o : Op} (hf : Γ.fn (Str.ofString "_law_mixed") = some dn) (hio : dn.io = [true, false]) (f1 : opD o [.sh (nI m)] = some (.ls (N.map .sh))) (hw : ∀ l, wrapO o l = l) (e : dn.m [d, .sh (.list N)] = .ok (.ls (L.map .sh)) [d']) :
    ev Γ (.fz (.call "_law_mixed" [.vw 0 [], .fz (.op o [.vw 2 []])] [] [] [0, 1])) (eT k m q R st S M l w d) = .ok (.sh (.list L), eT k m q R st S M l w d') := by
  have f := fz_ls L
  have f0 := fz_ls N
  simp [-List.map_map, eT, hw, fzE_eq, hf, hio, e, f, f0, f1]
theorem fM_run {L : List PyData} (hf : Γ.fn (Str.ofString "_law_mixed") = some dn) (hio : dn.io = [true, false]) (hm : m < 1000) (e : dn.m [d, .sh (.list (rngD 0 m))] = .ok (.ls (L.map .sh)) [d']) :
    ev Γ fM (eT k m q R st S M l w d) = .ok (.sh (.list L), eT k m q R st S M l w d') := fO_run hf hio (lrng_ok hm) (fun _ => rfl) e
theorem s4_run {T : List Nat} (hf : Γ.fn (Str.ofString "_law_row") = some dn) (hio : dn.io = [true, false, false]) (e : dn.m [d, .sh (nI q), .sh (nI m)] = .ok (.sh (rowD T)) [d']) :
    go Γ s4 (eT k m q R st S M l w d) = .rt (.sh (.tuple [nI k, .tuple M, rowD T])) (eT k m q R st S M l w d') := by
  have mk : mkTup [.sh (nI k), .sh (.tuple M), .sh (rowD T)] = .sh (.tuple [nI k, .tuple M, rowD T]) := rfl
  generalize rowD T = Z at *
  unfold eT at *
  simp [-List.map_map, wrapO, hf, hio, e, oTup_ls, mk]
end
end T19
namespace T19
open PySem PySem.Spec L2 Ab
open Vs hiding Env
open PyProof.Rows hiding St
theorem io_mixed : d_law_mixed.io = [true, false] := rfl
theorem io_row : d_law_row.io = [true, false, false] := rfl
theorem fn_td : Γ_law_teller.fn (Str.ofString "_law_draw") = some d_law_draw := by simp [Γ_law_teller]
theorem fn_tm : Γ_law_teller.fn (Str.ofString "_law_mixed") = some d_law_mixed := by
  unfold Γ_law_teller
  dsimp only
  rw [if_neg (by decide +kernel), if_pos rfl]
theorem fn_tr : Γ_law_teller.fn (Str.ofString "_law_row") = some d_law_row := by
  unfold Γ_law_teller
  dsimp only
  rw [if_neg (by decide +kernel), if_neg (by decide +kernel), if_pos rfl]
/-- what stands as the rows of a drawn order -/
def RowsOk (k m S : Nat) (R : Option D) : Prop := S = 2 → ∃ LL : List PyData, (R = some (.ls (LL.map .sh)) ∨ R = some (.sh (.list LL))) ∧ LL.length = k ∧ ∀ x ∈ LL, ∃ L : List Nat, x = .list (L.map nI) ∧ L.length = m ∧ ∀ y ∈ L, y < m
theorem rng_item {m i : Nat} {p : PyData} (hp : (rngD 0 m)[i]? = some p) : i < m ∧ p = nI i := by
  have hi := (List.getElem?_eq_some_iff.mp hp).1
  have hl : (rngD 0 m).length = m := by simp [rngD]
  rw [hl] at hi
  refine ⟨hi, ?_⟩
  unfold rngD at hp
  rw [List.getElem?_map, List.getElem?_range hi] at hp
  cases hp
  simp
theorem rng_len (m : Nat) : (rngD 0 m).length = m := by simp [rngD]
theorem one_item {k m q i S n : Nat} {R : Option D} {M : List PyData} {d : D} (h : PotP n d) (hn : n ≤ 1000000) (hk : 1 ≤ k) (hk3 : k ≤ 3) (hm : 1 ≤ m) (hm8 : m ≤ 8) (hi : i < m) (hR : RowsOk k m S R) (hl : M.length < 1000) :
    ∃ R' L d', gos Γ_law_teller tB (eT k m q R (some (.sh (nI i))) S M none none d) = .nx (eT k m q R' (some (.sh (nI i))) S (M ++ [rowD L]) none none d') ∧ L.length = k ∧ (∀ x ∈ L, x < m) ∧ RowsOk k m S R' ∧ PotP (n + 3) d' := by
  by_cases h1 : S = 1
  · subst h1
    obtain ⟨xs, d', e, l1, l2, l3⟩ := lc_pot (own := [8]) (t := .nm 8) (f := ev Γ_law_teller fA) (c := 1) (fun d => eT k m q R (some (.sh (nI i))) 1 M none none d) (fun x => ∃ r : Nat, x = nI r ∧ r < m) (rngD 0 k) h (by
      intro j p d hp hd
      obtain ⟨hj, rfl⟩ := rng_item hp
      obtain ⟨r, d2, e2, r1, p2⟩ := draw_N (m := m - i) hd (by omega) (by omega) (by omega)
      exact ⟨eT k m q R (some (.sh (nI i))) 1 M (some (.sh (nI j))) none d, eT k m q R (some (.sh (nI i))) 1 M (some (.sh (nI j))) none d2, nI (i + r), d2, rfl, fA_run fn_td io_draw hi e2, rfl, ⟨i + r, rfl, by omega⟩, by rw [show n + 1 * (j + 1) = n + 1 * j + 1 by omega]; exact p2⟩) (by rw [rng_len]; omega)
    rw [rng_len] at l1 l3
    obtain ⟨L, rfl, hL⟩ := nats_of l2
    have l := lcE_run (own := [8]) (t := .nm 8) (k := .rng) (ops := [Sop.e (ev Γ_law_teller (.rd 1))]) (test := ifT []) (f := ev Γ_law_teller fA) (ρ := eT k m q R (some (.sh (nI i))) 1 M none none d) (ρ1 := eT k m q R (some (.sh (nI i))) 1 M none none d) (ρ3 := eT k m q R (some (.sh (nI i))) 1 M none none d') (os := [.d (.sh (nI k))]) (ds := [.sh (nI k)]) (by simp [eT]) (by simp [ovs]) (itF_rngN (by omega)) e (by simp [unlock])
    exact ⟨R, L, d', a_run l (by omega), by simpa using l1, hL, hR, l3.mono (by omega)⟩
  · by_cases h2 : S = 2
    · obtain ⟨LL, hR1, hLk, hLL⟩ := hR h2
      obtain ⟨xs, d', e, l1, l2, l3⟩ := lc_pot (own := [9]) (t := .nm 9) (f := ev Γ_law_teller (.op .ix [.vw 9 [], .vw 5 []])) (c := 0) (fun d' => eT k m q (some (.sh (.list LL))) (some (.sh (nI i))) S M none none d) (fun x => ∃ r : Nat, x = nI r ∧ r < m) LL (n := n) (d := d) h (by
        intro j p d' hp hd
        obtain ⟨L, rfl, hl, hL⟩ := hLL p (List.mem_of_getElem? hp)
        have hi' : i < L.length := by omega
        have at' : atI (L.map nI) (i : Int) = some (nI L[i]) := at_of (by omega) (by rw [Int.toNat_natCast, List.getElem?_map, List.getElem?_eq_getElem hi']; rfl)
        exact ⟨eT k m q (some (.sh (.list LL))) (some (.sh (nI i))) S M none (some (.sh (.list (L.map nI)))) d, eT k m q (some (.sh (.list LL))) (some (.sh (nI i))) S M none (some (.sh (.list (L.map nI)))) d, nI L[i], d', rfl, by simp [-List.map_map, eT, wrapO, oIx, at'], rfl, ⟨L[i], rfl, hL _ (List.getElem_mem hi')⟩, by simpa using hd⟩) (by omega)
      obtain ⟨L, rfl, hL⟩ := nats_of l2
      have l := lcE_run (own := [9]) (t := .nm 9) (k := .seq) (ops := [Sop.e (ev Γ_law_teller (.rd 4))]) (test := ifT []) (f := ev Γ_law_teller (.op .ix [.vw 9 [], .vw 5 []])) (ρ := eT k m q (some (.sh (.list LL))) (some (.sh (nI i))) S M none none d) (ρ1 := eT k m q (some (.sh (.list LL))) (some (.sh (nI i))) S M none none d) (ρ3 := eT k m q (some (.sh (.list LL))) (some (.sh (nI i))) S M none none d) (os := [.d (.sh (.list LL))]) (ds := [.sh (.list LL)]) (by simp [eT]) (by simp [ovs]) rfl e (by simp [unlock])
      exact ⟨some (.sh (.list LL)), L, d, b_run h2 l (by omega) hR1, by rw [← hLk]; simpa using l1, hL, fun _ => ⟨LL, .inr rfl, hLk, hLL⟩, h.mono (by omega)⟩
    · obtain ⟨L, d', e, l1, l2, l3⟩ := m_row (k := m) (q := k) h (by omega) (by omega) (by omega) (by omega)
      exact ⟨R, L, d', c_run h1 h2 fn_tr io_row e (by omega), l1, l2, hR, l3.mono (by omega)⟩
theorem m_tel0 : d_law_teller.m = runD 10 io_law_teller (gos Γ_law_teller b_law_teller) := rfl
theorem m_teller {k m q n : Nat} {d : D} (h : PotP n d) (hn : n ≤ 900000) (hk : 1 ≤ k) (hk3 : k ≤ 3) (hm : 1 ≤ m) (hm8 : m ≤ 8) (hq : 1 ≤ q) (hq2 : q ≤ 10) :
    ∃ mv tl d', d_law_teller.m [d, .sh (nI k), .sh (nI m), .sh (nI q)] = .ok (.sh (telD k mv tl)) [d'] ∧ TelOk k mv ∧ mv.length = m ∧ tl.length = m ∧ (∀ x ∈ tl, x < 10) ∧ PotP (n + 60) d' := by
  obtain ⟨S, d1, e1, _, p1⟩ := draw_N (m := 4) h (by omega) (by omega) (by omega)
  have st1 := s1_run (Γ := Γ_law_teller) (k := k) (m := m) (q := q) (x4 := none) (x5 := none) fn_td io_draw e1
  -- the rows
  obtain ⟨R, d2, st2, hR, p2⟩ : ∃ R d2, go Γ_law_teller s2 (eT k m q none none S [] none none d1) = .nx (eT k m q R none S [] none none d2) ∧ RowsOk k m S R ∧ PotP (n + 1 + 24) d2 := by
    by_cases h2 : S = 2
    · obtain ⟨xs, d', e, l1, l2, l3⟩ := lc_pot (own := [8]) (t := .nm 8) (f := ev Γ_law_teller fM) (c := 8) (fun d => eT k m q none none S [] none none d) (fun x => ∃ L : List Nat, x = .list (L.map nI) ∧ L.length = m ∧ ∀ y ∈ L, y < m) (rngD 0 k) p1 (by
        intro j p d hp hd
        obtain ⟨hj, rfl⟩ := rng_item hp
        obtain ⟨F, d2, e2, f1, f2, p2⟩ := m_mixed (l := rngD 0 m) hd (by rw [rng_len]; omega) (by rw [rng_len]; omega)
        obtain ⟨L, rfl, hL⟩ := nats_of (k := m) (xs := F) fun x hx => by
          obtain ⟨i, hi⟩ := List.getElem?_of_mem (f2 x hx)
          obtain ⟨a, b⟩ := rng_item hi
          exact ⟨i, b, a⟩
        rw [rng_len] at f1 p2
        exact ⟨eT k m q none none S [] (some (.sh (nI j))) none d, eT k m q none none S [] (some (.sh (nI j))) none d2, .list (L.map nI), d2, rfl, fM_run fn_tm io_mixed (by omega) e2, rfl, ⟨L, rfl, by simpa using f1, hL⟩, p2.mono (by omega)⟩) (by rw [rng_len]; omega)
      rw [rng_len] at l1 l3
      have l := lcE_run (own := [8]) (t := .nm 8) (k := .rng) (ops := [Sop.e (ev Γ_law_teller (.rd 1))]) (test := ifT []) (f := ev Γ_law_teller fM) (ρ := eT k m q none none S [] none none d1) (ρ1 := eT k m q none none S [] none none d1) (ρ3 := eT k m q none none S [] none none d') (os := [.d (.sh (nI k))]) (ds := [.sh (nI k)]) (by simp [eT]) (by simp [ovs]) (itF_rngN (by omega)) e (by simp [unlock])
      exact ⟨some (.ls (xs.map .sh)), d', s2_yes h2 l, fun _ => ⟨xs, .inl rfl, l1, l2⟩, l3.mono (by omega)⟩
    · exact ⟨some (.ls []), d1, s2_no h2, fun q => absurd q h2, p1.mono (by omega)⟩
  -- the states
  obtain ⟨ρ, e3, R', st', mv, d3, rfl, v1, v2, v3, v4⟩ := lopL_run (t := .nm 5) (b := gos Γ_law_teller tB)
    (fun i ρ => ∃ (R' : Option D) (st' : Option D) (mv : List (List Nat)) (d' : D), ρ = eT k m q R' st' S (mv.map rowD) none none d' ∧ mv.length = i ∧ (∀ r ∈ mv, r.length = k ∧ ∀ x ∈ r, x < m) ∧ RowsOk k m S R' ∧ PotP (n + 25 + 3 * i) d') (rngD 0 m) 0 (eT k m q R none S [] none none d2) ⟨R, none, [], d2, rfl, rfl, (fun _ h => nomatch h), hR, p2.mono (by omega)⟩ (by
      rintro i p ρ hp ⟨R', st', mv, d', rfl, v1, v2, v3, v4⟩
      obtain ⟨hi, rfl⟩ := rng_item hp
      rw [Nat.zero_add] at v1 v4
      obtain ⟨R2, L, d4, e4, l1, l2, l3, l4⟩ := one_item (q := q) (M := mv.map rowD) v4 (by omega) hk hk3 hm hm8 hi v3 (by simp; omega)
      refine ⟨eT k m q R' (some (.sh (nI i))) S (mv.map rowD) none none d', _, rfl, .inl e4, R2, some (.sh (nI i)), mv ++ [L], d4, by simp, by simp; omega, fun r hr => ?_, l3, l4.mono (by omega)⟩
      rcases List.mem_append.mp hr with hr | hr
      · exact v2 r hr
      · rw [List.mem_singleton] at hr; subst hr; exact ⟨l1, l2⟩)
  rw [rng_len, Nat.zero_add] at v1 v4
  have st3 : go Γ_law_teller s3 (eT k m q R none S [] none none d2) = .nx (eT k m q R' st' S (mv.map rowD) none none d3) := by
    rw [go_lop]
    exact lopF_run (ρ1 := eT k m q R none S [] none none d2) (os := [.d (.sh (nI m))]) (ds := [.sh (nI m)]) (by simp [eT]) (by simp [ovs]) (itF_rngN (by omega)) e3 (by simp [unlock])
  obtain ⟨tl, d4, e5, t1, t2, p5⟩ := m_row (k := q) (q := m) v4 (by omega) (by omega) (by omega) (by omega)
  have st4 := s4_run (Γ := Γ_law_teller) (k := k) (m := m) (q := q) (S := S) (R := R') (st := st') (l := none) (w := none) (M := mv.map rowD) fn_tr io_row e5
  refine ⟨mv, tl, d4, ?_, ⟨hk, hk3, by omega, by omega, fun r hr => by rw [v1]; exact v2 r hr⟩, v1, t1, fun x hx => by have := t2 x hx; omega, p5.mono (by omega)⟩
  rw [m_tel0]
  refine runD_rt (ρ0 := [some d, some (.sh (nI k)), some (.sh (nI m)), some (.sh (nI q)), none, none, none, none, none, none]) (ρ := eT k m q R' st' S (mv.map rowD) none none d4) rfl rfl ?_ rfl
  rw [b_tel]
  refine gos_step st1 ?_
  refine gos_step st2 ?_
  refine gos_step st3 ?_
  exact gos_last st4
end T19
namespace T19
open PySem PySem.Spec L2 Ab
open Vs hiding Env
open PyProof.Rows hiding St
def kL : List PyData := [.int 1, .int 2, .int 2, .int 2, .int 3]
def mL : List PyData := [.int 1, .int 2, .int 2, .int 3, .int 3, .int 4]
def qL : List PyData := [.int 2, .int 2, .int 3, .int 10]
theorem st_run {Γ : Gam} {dp dt : Den} {d d1 d2 d3 d4 : D} {x y z t : PyData} (hf : Γ.fn (Str.ofString "_law_pick") = some dp) (hio : dp.io = [true, false]) (hf2 : Γ.fn (Str.ofString "_law_teller") = some dt) (hio2 : dt.io = [true, false, false, false])
    (e1 : dp.m [d, .sh (.list kL)] = .ok (.sh x) [d1]) (e2 : dp.m [d1, .sh (.list mL)] = .ok (.sh y) [d2]) (e3 : dp.m [d2, .sh (.list qL)] = .ok (.sh z) [d3]) (e4 : dt.m [d3, .sh x, .sh y, .sh z] = .ok (.sh t) [d4]) :
    gos Γ b_law_some_teller [some d, none, none] = .rt (.sh t) [some d4, some (.sh x), some (.sh y)] := by
  have f1 : D.fz (.ls [.sh (.int 1), .sh (.int 2), .sh (.int 2), .sh (.int 2), .sh (.int 3)]) = some (.list kL) := rfl
  have f2 : D.fz (.ls [.sh (.int 1), .sh (.int 2), .sh (.int 2), .sh (.int 3), .sh (.int 3), .sh (.int 4)]) = some (.list mL) := rfl
  have f3 : D.fz (.ls [.sh (.int 2), .sh (.int 2), .sh (.int 3), .sh (.int 10)]) = some (.list qL) := rfl
  have f4 : ∀ x : PyData, D.fz (.sh x) = some x := fun _ => rfl
  generalize PyData.list kL = A at *
  generalize PyData.list mL = B at *
  generalize PyData.list qL = C at *
  simp [b_law_some_teller, wrapO, hf, hio, hf2, hio2, e1, e2, e3, e4, f1, f2, f3, f4, fzE_eq]
theorem io_pick : d_law_pick.io = [true, false] := rfl
theorem io_tel : d_law_teller.io = [true, false, false, false] := rfl
theorem fn_sp : Γ_law_some_teller.fn (Str.ofString "_law_pick") = some d_law_pick := by simp [Γ_law_some_teller]
theorem fn_st : Γ_law_some_teller.fn (Str.ofString "_law_teller") = some d_law_teller := by
  unfold Γ_law_some_teller
  dsimp only
  rw [if_neg (by decide +kernel), if_pos rfl]
theorem m_some {n : Nat} {d : D} (h : PotP n d) (hn : n ≤ 800000) : ∃ k mv tl d', d_law_some_teller.m [d] = .ok (.sh (telD k mv tl)) [d'] ∧ TelOk k mv ∧ tl.length = mv.length ∧ (∀ x ∈ tl, x < 10) ∧ PotP (n + 70) d' := by
  obtain ⟨x, d1, hx, e1, p1⟩ := pick_P (items := kL) h (by omega) (by decide) (by decide)
  obtain ⟨y, d2, hy, e2, p2⟩ := pick_P (items := mL) p1 (by omega) (by decide) (by decide)
  obtain ⟨z, d3, hz, e3, p3⟩ := pick_P (items := qL) p2 (by omega) (by decide) (by decide)
  obtain ⟨k, rfl, hk1, hk3⟩ : ∃ k : Nat, x = nI k ∧ 1 ≤ k ∧ k ≤ 3 := by
    simp only [kL, List.mem_cons, List.not_mem_nil, or_false] at hx
    rcases hx with rfl | rfl | rfl | rfl | rfl
    · exact ⟨1, rfl, by omega, by omega⟩
    · exact ⟨2, rfl, by omega, by omega⟩
    · exact ⟨2, rfl, by omega, by omega⟩
    · exact ⟨2, rfl, by omega, by omega⟩
    · exact ⟨3, rfl, by omega, by omega⟩
  obtain ⟨m, rfl, hm1, hm8⟩ : ∃ m : Nat, y = nI m ∧ 1 ≤ m ∧ m ≤ 8 := by
    simp only [mL, List.mem_cons, List.not_mem_nil, or_false] at hy
    rcases hy with rfl | rfl | rfl | rfl | rfl | rfl
    · exact ⟨1, rfl, by omega, by omega⟩
    · exact ⟨2, rfl, by omega, by omega⟩
    · exact ⟨2, rfl, by omega, by omega⟩
    · exact ⟨3, rfl, by omega, by omega⟩
    · exact ⟨3, rfl, by omega, by omega⟩
    · exact ⟨4, rfl, by omega, by omega⟩
  obtain ⟨q, rfl, hq1, hq2⟩ : ∃ q : Nat, z = nI q ∧ 1 ≤ q ∧ q ≤ 10 := by
    simp only [qL, List.mem_cons, List.not_mem_nil, or_false] at hz
    rcases hz with rfl | rfl | rfl | rfl
    · exact ⟨2, rfl, by omega, by omega⟩
    · exact ⟨2, rfl, by omega, by omega⟩
    · exact ⟨3, rfl, by omega, by omega⟩
    · exact ⟨10, rfl, by omega, by omega⟩
  obtain ⟨mv, tl, d4, e4, ok, l1, l2, l3, p4⟩ := m_teller p3 (by omega) hk1 hk3 hm1 hm8 hq1 hq2
  refine ⟨k, mv, tl, d4, ?_, ok, by omega, l3, p4.mono (by omega)⟩
  have m0 : d_law_some_teller.m = runD 3 io_law_some_teller (gos Γ_law_some_teller b_law_some_teller) := rfl
  rw [m0]
  exact runD_rt (ρ0 := [some d, none, none]) (ρ := [some d4, some (.sh (nI k)), some (.sh (nI m))]) rfl rfl (st_run fn_sp io_pick fn_st io_tel e1 e2 e3 e4) rfl
end T19
namespace T19
open PySem PySem.Spec L2 Ab
open Vs hiding Env
open PyProof.Rows hiding St
/-! ### pairs -/
abbrev Pt := Nat × Nat
def pD (p : Pt) : PyData := .tuple [nI p.1, nI p.2]
theorem pD_inj {p q : Pt} (h : pD p = pD q) : p = q := by
  obtain ⟨a, b⟩ := p
  obtain ⟨c, d⟩ := q
  simp [pD] at h
  obtain ⟨h1, h2⟩ := h
  rw [Prod.mk.injEq]
  omega
def leP (p q : Pt) : Bool := decide (p.1 < q.1) || (decide (p.1 = q.1) && decide (p.2 ≤ q.2))
theorem leP_iff {p q : Pt} : leP p q = true ↔ p.1 < q.1 ∨ (p.1 = q.1 ∧ p.2 ≤ q.2) := by
  unfold leP
  simp [Bool.or_eq_true, Bool.and_eq_true]
theorem le_pD (p q : Pt) : PySem.W.dataLe false id (pD p) (pD q) = leP p q := by
  obtain ⟨a, b⟩ := p
  obtain ⟨c, d⟩ := q
  have e : PySem.W.dataLe false id (pD (a, b)) (pD (c, d)) = !(PyProof.Rows.lexLt PyProof.Rows.itemOrd (PySem.W.keyToks (pD (c, d))) (PySem.W.keyToks (pD (a, b)))) := rfl
  rw [e]
  have k1 : ∀ x y : Nat, PySem.W.keyToks (pD (x, y)) = [.inl 1, .inl (x : Int), .inl 1, .inl (y : Int), .inl 0] := fun x y => by
    simp [pD, PySem.W.keyToks, PySem.W.keyToksAll]
  rw [k1, k1]
  have b1 : ∀ x y : Int, PyProof.Rows.itemLt (.inl x) (.inl y) = decide (x < y) := fun _ _ => rfl
  simp only [PyProof.Rows.lexLt]
  rw [Bool.eq_iff_iff, leP_iff]
  have z0 : ¬ (1 : Int) < 1 := by omega
  have z1 : ¬ (0 : Int) < 0 := by omega
  rcases Nat.lt_trichotomy a c with h | h | h
  · have g1 : (a : Int) < c := by omega
    have g2 : ¬ (c : Int) < a := by omega
    simp [b1, z0, g1, g2, h]
  · subst h
    have g1 : ¬ (a : Int) < a := by omega
    rcases Nat.lt_trichotomy b d with h | h | h
    · have g2 : (b : Int) < d := by omega
      have g3 : ¬ (d : Int) < b := by omega
      simp [b1, z0, z1, g1, g2, g3]
      omega
    · subst h
      simp [b1]
    · have g2 : (d : Int) < b := by omega
      have g3 : ¬ (b : Int) < d := by omega
      simp [b1, z0, z1, g1, g2, g3]
      omega
  · have g1 : (c : Int) < a := by omega
    have g2 : ¬ (a : Int) < c := by omega
    have g3 : ¬ a < c := by omega
    have g4 : ¬ a = c := by omega
    simp [b1, z0, g1, g2, g3, g4]
end T19
namespace T19
open PySem PySem.Spec L2 Ab
open Vs hiding Env
open PyProof.Rows hiding St
theorem leP_trans (a b c : Pt) (h : leP a b = true) (g : leP b c = true) : leP a c = true := by
  rw [leP_iff] at *; omega
theorem leP_total (a b : Pt) : (leP a b || leP b a) = true := by
  rw [Bool.or_eq_true, leP_iff, leP_iff]; omega
theorem leP_anti {a b : Pt} (h : leP a b = true) (g : leP b a = true) : a = b := by
  rw [leP_iff] at *
  obtain ⟨a1, a2⟩ := a
  obtain ⟨b1, b2⟩ := b
  rw [Prod.mk.injEq]
  simp only at h g
  omega
def sortP (L : List Pt) : List Pt := L.mergeSort leP
theorem sort_map (L : List Pt) : (L.map pD).mergeSort (PySem.W.dataLe false id) = (sortP L).map pD :=
  (List.map_mergeSort fun a _ b _ => (le_pD a b).symm).symm
theorem sortP_perm (L : List Pt) : (sortP L).Perm L := List.mergeSort_perm L leP
theorem sortP_mem {L : List Pt} {x : Pt} : x ∈ sortP L ↔ x ∈ L := (sortP_perm L).mem_iff
theorem sortP_pw (L : List Pt) : (sortP L).Pairwise fun a b => leP a b = true := List.pairwise_mergeSort leP_trans leP_total L
/-- ascending, each once -/
def Asc (L : List Pt) : Prop := (L.Pairwise fun a b => leP a b = true) ∧ L.Nodup
theorem asc_sort {L : List Pt} (h : L.Nodup) : Asc (sortP L) := ⟨sortP_pw L, (sortP_perm L).nodup_iff.mpr h⟩
theorem asc_ext : ∀ {L M : List Pt}, Asc L → Asc M → (∀ x, x ∈ L ↔ x ∈ M) → L = M
  | [], [], _, _, _ => rfl
  | [], b :: M, _, _, e => nomatch (e b).mpr List.mem_cons_self
  | a :: L, [], _, _, e => nomatch (e a).mp List.mem_cons_self
  | a :: L, b :: M, ⟨h1, h2⟩, ⟨g1, g2⟩, e => by
    have h1' := List.pairwise_cons.mp h1
    have g1' := List.pairwise_cons.mp g1
    have h2' := List.nodup_cons.mp h2
    have g2' := List.nodup_cons.mp g2
    have hab : a = b := by
      rcases List.mem_cons.mp ((e a).mp List.mem_cons_self) with q | q
      · exact q
      · rcases List.mem_cons.mp ((e b).mpr List.mem_cons_self) with r | r
        · exact r.symm
        · exact leP_anti (h1'.1 b r) (g1'.1 a q)
    subst hab
    rw [asc_ext ⟨h1'.2, h2'.2⟩ ⟨g1'.2, g2'.2⟩ fun x => ?_]
    constructor
    · intro hx
      rcases List.mem_cons.mp ((e x).mp (List.mem_cons_of_mem _ hx)) with q | q
      · subst q; exact absurd hx h2'.1
      · exact q
    · intro hx
      rcases List.mem_cons.mp ((e x).mpr (List.mem_cons_of_mem _ hx)) with q | q
      · subst q; exact absurd hx g2'.1
      · exact q
/-! ### the operations -/
theorem pD_alike (L : List Pt) : allAlike (L.map pD) = true := by
  unfold allAlike
  simp only [List.all_eq_true, List.mem_map]
  rintro _ ⟨a, _, rfl⟩ _ ⟨b, _, rfl⟩
  simp [pD, PySem.W.alike, PySem.W.alikeAll]
theorem pD_sb2 (L : List Pt) : sortable2B (L.map pD) = true := by
  unfold sortable2B
  rw [Bool.or_eq_true]
  left
  simp only [List.all_eq_true, List.mem_map]
  rintro _ ⟨a, _, rfl⟩
  rfl
theorem pD_sb (L : List Pt) : sortableB (L.map pD) = true := by
  unfold sortableB
  rw [Bool.or_eq_true, Bool.or_eq_true]
  left; left
  simp only [List.all_eq_true, List.mem_map]
  rintro _ ⟨a, _, rfl⟩
  rfl
theorem pD_depth : ∀ L : List Pt, PyData.depthAll (L.map pD) ≤ 2
  | [] => by simp [PyData.depthAll]
  | a :: L => by
    have := pD_depth L
    simp only [List.map_cons, PyData.depthAll]
    have : (pD a).depth ≤ 2 := by simp [pD, PyData.depth, PyData.depthAll]
    omega
theorem sortD_pD (L : List Pt) : sortD (L.map pD) = some (.ls (((sortP L).map pD).map .sh)) := by
  unfold sortD
  have d : decide (PyData.depthAll (L.map pD) ≤ 60) = true := decide_eq_true (Nat.le_trans (pD_depth L) (by omega))
  rw [pD_alike, pD_sb2, d, sort_map]
  rfl
theorem sorted_tup (L : List Pt) : oSorted (.sh (.tuple (L.map pD))) = some (.ls (((sortP L).map pD).map .sh)) := by
  have : oSorted (.sh (.tuple (L.map pD))) = sortD (L.map pD) := rfl
  rw [this, sortD_pD]
theorem sorted_dd (L : List Pt) (ds : List D) : oSorted (.dd (L.map pD) ds) = some (.ls (((sortP L).map pD).map .sh)) := by
  have : oSorted (.dd (L.map pD) ds) = sortD (L.map pD) := rfl
  rw [this, sortD_pD]
theorem sorted_ls (L : List Pt) : oSorted (.ls ((L.map pD).map .sh)) = some (.ls (((sortP L).map pD).map .sh)) := by
  unfold oSorted
  rw [seq_ls]
  have d : decide (PyData.depthAll (L.map pD) ≤ 60) = true := decide_eq_true (Nat.le_trans (pD_depth L) (by omega))
  dsimp only
  rw [pD_alike, pD_sb, d, sort_map]
  rfl
/-! dicts -/
def ky (p : Pt) : NestedKey := (tkey (pD p)).getD (.tup [])
theorem ky_ok (p : Pt) : tkey (pD p) = some (ky p) := rfl
theorem ky_inj {p q : Pt} (h : ky p = ky q) : p = q := by
  obtain ⟨a, b⟩ := p
  obtain ⟨c, d⟩ := q
  have e : ky (a, b) = .tup [.num (a : Int), .num (b : Int)] := rfl
  have e2 : ky (c, d) = .tup [.num (c : Int), .num (d : Int)] := rfl
  rw [e, e2] at h
  injection h with h
  injection h with h1 h2
  injection h2 with h2 _
  injection h1 with h1
  injection h2 with h2
  rw [Prod.mk.injEq]
  omega
abbrev tr : D := .sh (.bool true)
def kn (L : List Pt) : D := .dd (L.map pD) (L.map fun _ => tr)
def addK (L : List Pt) (p : Pt) : List Pt := if p ∈ L then L else L ++ [p]
theorem put_kn : ∀ (L : List Pt) (p : Pt), ddPut (L.map pD) (L.map fun _ => tr) (pD p) (ky p) tr = ((addK L p).map pD, (addK L p).map fun _ => tr)
  | [], p => by simp [ddPut, addK]
  | q :: L, p => by
    simp only [List.map_cons, ddPut]
    by_cases h : q = p
    · subst h
      rw [if_pos (ky_ok q)]
      simp [addK]
    · have h' : ¬ tkey (pD q) = some (ky p) := fun e => h (ky_inj (by rw [ky_ok] at e; exact Option.some.inj e))
      have h2 : ¬ p = q := fun e => h e.symm
      rw [if_neg h', put_kn L p]
      unfold addK
      by_cases g : p ∈ L
      · simp [g]
      · simp [g, h2]
theorem get_kn : ∀ (L : List Pt) (p : Pt), (ddGet (L.map pD) (L.map fun _ => tr) (ky p)).isSome = decide (p ∈ L)
  | [], p => by simp [ddGet]
  | q :: L, p => by
    simp only [List.map_cons, ddGet]
    by_cases h : q = p
    · subst h
      rw [if_pos (ky_ok q)]
      simp
    · have h' : ¬ tkey (pD q) = some (ky p) := fun e => h (ky_inj (by rw [ky_ok] at e; exact Option.some.inj e))
      have h2 : ¬ p = q := fun e => h e.symm
      rw [if_neg h', get_kn L p]
      simp [h2]
theorem notin_kn (L : List Pt) (p : Pt) : oIn true (.sh (pD p)) (kn L) = some (.sh (.bool (!decide (p ∈ L)))) := by
  have : oIn true (.sh (pD p)) (kn L) = some (DB (true != (ddGet (L.map pD) (L.map fun _ => tr) (ky p)).isSome)) := rfl
  rw [this, get_kn]
  simp [DB]
theorem kn_put (L : List Pt) (p : Pt) (hl : L.length < 1000000) : putD true (kn L) (pD p) tr = some (kn (addK L p)) := by
  unfold kn
  have e1 : putD true (.dd (L.map pD) (L.map fun _ => tr)) (pD p) tr = ddStore (L.map pD) (L.map fun _ => tr) (pD p) tr := by simp [putD]
  rw [e1]
  unfold ddStore
  rw [ky_ok]
  dsimp only
  rw [put_kn, if_pos (by simpa using hl)]
def pT (p : Pt) : PyData := .tuple [pD p, .bool true]
theorem dct_fold : ∀ (l K : List Pt), dctF (l.map pT) (K.map pD) (K.map fun _ => tr) = some (((l.foldl addK K).map pD), (l.foldl addK K).map fun _ => tr)
  | [], K => rfl
  | p :: l, K => by
    simp only [List.map_cons, List.foldl_cons]
    unfold pT dctF
    rw [ky_ok]
    dsimp only
    rw [put_kn]
    exact dct_fold l _
theorem dct_ok (l : List Pt) (h : l.length ≤ 1000000) : oDct (.ls ((l.map pT).map .sh)) = some (kn (l.foldl addK [])) := by
  unfold oDct
  rw [seq_ls]
  dsimp only
  rw [if_pos (by simpa using h)]
  have := dct_fold l []
  simp only [List.map_nil] at this
  rw [this]
  rfl
theorem addK_mem {K : List Pt} {p x : Pt} : x ∈ addK K p ↔ x ∈ K ∨ x = p := by
  unfold addK
  by_cases h : p ∈ K
  · rw [if_pos h]
    exact ⟨.inl, fun q => q.elim id fun e => e ▸ h⟩
  · rw [if_neg h, List.mem_append, List.mem_singleton]
theorem addK_nd {K : List Pt} {p : Pt} (h : K.Nodup) : (addK K p).Nodup := by
  unfold addK
  by_cases g : p ∈ K
  · rw [if_pos g]; exact h
  · rw [if_neg g]
    refine List.nodup_append.mpr ⟨h, by simp, fun a ha b hb e => ?_⟩
    rw [List.mem_singleton] at hb
    subst hb e
    exact g ha
theorem foldK_mem {x : Pt} : ∀ {l K : List Pt}, x ∈ l.foldl addK K ↔ x ∈ K ∨ x ∈ l
  | [], K => by simp
  | p :: l, K => by rw [List.foldl_cons, foldK_mem, addK_mem, List.mem_cons, or_assoc]
theorem foldK_nd : ∀ {l K : List Pt}, K.Nodup → (l.foldl addK K).Nodup
  | [], K, h => h
  | p :: l, K, h => foldK_nd (l := l) (addK_nd h)
theorem foldK_id : ∀ {l K : List Pt}, (K ++ l).Nodup → l.foldl addK K = K ++ l
  | [], K, h => by simp
  | p :: l, K, h => by
    have hp : p ∉ K := fun q => by
      have := (List.nodup_append.mp h).2.2 p q p List.mem_cons_self
      exact this rfl
    have : addK K p = K ++ [p] := by unfold addK; rw [if_neg hp]
    rw [List.foldl_cons, this, foldK_id (by simpa using h)]
    simp
end T19
namespace T19
open PySem PySem.Spec L2 Ab
open Vs hiding Env
open PyProof.Rows hiding St
theorem pDs_lay : ∀ L : List Pt, PyData.canLayAll0 (L.map pD) = true
  | [] => rfl
  | _ :: L => by simp [PyData.canLayAll0, PyData.canLay0, pD, pDs_lay L]
theorem pD_shaped (p : Pt) : SeqAt.shaped (pD p) = true := by
  simp [SeqAt.shaped, pD, PyData.canLay0, PyData.canLayAll0, PyData.depth, PyData.depthAll]
theorem pDs_shaped (L : List Pt) : SeqAt.shaped (.list (L.map pD)) = true := by
  have := pD_depth L
  have h : (PyData.list (L.map pD)).depth ≤ 64 := by
    simp only [PyData.depth]
    omega
  have h2 : (PyData.list (L.map pD)).canLay0 = true := by simp only [PyData.canLay0, pDs_lay]
  unfold SeqAt.shaped
  rw [h2, decide_eq_true h]
  rfl
theorem eqv_pD (p q : Pt) : PyData.eqv (pD p) (pD q) = decide (p = q) := by
  obtain ⟨a, b⟩ := p
  obtain ⟨c, d⟩ := q
  simp only [pD, PyData.eqv, PyData.eqvAll, Bool.and_true]
  rw [Bool.eq_iff_iff, Bool.and_eq_true, decide_eq_true_eq, Prod.mk.injEq]
  simp
  omega
theorem eq_pD (neg : Bool) (p q : Pt) : oEq neg (.sh (pD p)) (.sh (pD q)) = some (DB (neg != decide (p = q))) := by
  have : oEq neg (.sh (pD p)) (.sh (pD q)) = guardO (SeqAt.shaped (pD p) && SeqAt.shaped (pD q)) (DB (neg != PyData.eqv (pD p) (pD q))) := rfl
  rw [this, pD_shaped, pD_shaped, eqv_pD]
  rfl
theorem eq_nilP (neg : Bool) (L : List Pt) : oEq neg (.ls ((L.map pD).map .sh)) (.ls []) = some (DB (neg != L.isEmpty)) := by
  have h2 : SeqAt.shaped (.list []) = true := by decide
  have h3 : PyData.eqv (.list (L.map pD)) (.list []) = L.isEmpty := by
    cases L <;> simp [PyData.eqv, PyData.eqvAll]
  simp only [oEq, D.py, pys_map, D.pys, pDs_shaped, h2, h3, Bool.and_self, guardO_true]
theorem itF_seq {x : D} {k : SK} {l : List PyData} (h : x.seq = some (k, l)) : itF .seq [x] = some l := by
  have : itF .seq [x] = match x.seq with
    | some (_, l) => some l
    | none => none := rfl
  rw [this, h]
/-! ### each once -/
theorem m_each0 : d_each_once.m = runD 3 io_each_once (gos Γ_each_once b_each_once) := rfl
abbrev bE : List Sm := [.ite (.bop false [.op .eq [.vw 1 [], .lst []], .op .ne [.op .ix [.vw 1 [], .op .neg [.lit (.int 1)]], .vw 2 []]]) [.ex (.mut .append 1 [] [.rd 2])] []]
theorem b_each : b_each_once = [.asg (.nm 1) (.lst []), .lop (.nm 2) .seq [.op .sorted [.vw 0 []]] bE, .ret (.op .tuple [.vw 1 []])] := rfl
theorem ix_last {L : List Pt} {q : Pt} : oIx (.ls (((L ++ [q]).map pD).map .sh)) (.sh (.int (-1))) = some (.sh (pD q)) := by
  have h : atI (((L ++ [q]).map pD).map D.sh) (-1) = some (.sh (pD q)) := by
    have hl : (((L ++ [q]).map pD).map D.sh).length = L.length + 1 := by simp
    have ix : ixN (L.length + 1) (-1) = some L.length := by
      unfold ixN
      rw [if_neg (by omega), if_pos (by omega)]
      congr 1
      omega
    unfold atI
    rw [hl, ix]
    simp
  show shOnly (atI (((L ++ [q]).map pD).map D.sh) (-1)) = _
  rw [h]
  rfl
theorem be_nil {x0 : Option D} {p : Pt} : gos Γ_each_once bE [x0, some (.ls []), some (.sh (pD p))] = .nx [x0, some (.ls (([p].map pD).map .sh)), some (.sh (pD p))] := by
  have e := eq_nilP false []
  have ap := append_ok (l := []) (x := pD p) (by simp)
  have e : oEq false (.ls []) (.ls []) = some (.sh (.bool true)) := e
  have ap : mo .append [] [.sh (pD p)] = some ([.sh (pD p)], .sh .none) := ap
  have g : [p].map pD = [pD p] := rfl
  rw [g]
  generalize pD p = P at *
  simp [wrapO, e, getP, ap]
theorem be_some {x0 : Option D} {p q : Pt} {L : List Pt} (hl : L.length < 1000) : gos Γ_each_once bE [x0, some (.ls (((L ++ [q]).map pD).map .sh)), some (.sh (pD p))] = .nx [x0, some (.ls (((if q = p then L ++ [q] else L ++ [q] ++ [p]).map pD).map .sh)), some (.sh (pD p))] := by
  have e := eq_nilP false (L ++ [q])
  have e : oEq false (.ls (((L ++ [q]).map pD).map .sh)) (.ls []) = some (.sh (.bool false)) := by
    rw [e]; cases L <;> rfl
  have i := ix_last (L := L) (q := q)
  have n := eq_pD true q p
  have ap := append_ok (l := (L ++ [q]).map pD) (x := pD p) (by simp; omega)
  by_cases h : q = p
  · have n : oEq true (.sh (pD q)) (.sh (pD p)) = some (.sh (.bool false)) := by rw [n]; simp [h, DB]
    rw [if_pos h]
    generalize ((L ++ [q]).map pD).map D.sh = M at *
    generalize pD p = P at *
    generalize pD q = Q at *
    simp [wrapO, e, i, n, getP]
  · have n : oEq true (.sh (pD q)) (.sh (pD p)) = some (.sh (.bool true)) := by rw [n]; simp [h, DB]
    rw [if_neg h]
    have ap : mo .append (((L ++ [q]).map pD).map .sh) [.sh (pD p)] = some (((L ++ [q] ++ [p]).map pD).map .sh, .sh .none) := by rw [ap]; simp
    generalize ((L ++ [q] ++ [p]).map pD).map D.sh = M' at *
    generalize ((L ++ [q]).map pD).map D.sh = M at *
    generalize pD p = P at *
    generalize pD q = Q at *
    simp [wrapO, e, i, n, getP, ap]
theorem m_each (L : List Pt) (hl : L.length ≤ 900) : ∃ S, d_each_once.m [.sh (.tuple (L.map pD))] = .ok (.sh (.tuple (S.map pD))) [] ∧ Asc S ∧ (∀ x, x ∈ S ↔ x ∈ L) ∧ S.length ≤ L.length := by
  have pw := sortP_pw L
  have hsl : (sortP L).length = L.length := (sortP_perm L).length_eq
  obtain ⟨ρ, e1, F, x2, rfl, f1, f2, f3, f4⟩ := lopL_run (t := .nm 2) (b := gos Γ_each_once bE)
    (fun i ρ => ∃ (F : List Pt) (x2 : Option D), ρ = [some (.sh (.tuple (L.map pD))), some (.ls ((F.map pD).map .sh)), x2] ∧ (F.Pairwise fun a b => leP a b = true) ∧ F.Nodup ∧ (∀ x, x ∈ F ↔ x ∈ (sortP L).take i) ∧ F.length ≤ i)
    ((sortP L).map pD) 0 [some (.sh (.tuple (L.map pD))), some (.ls []), none] ⟨[], none, rfl, List.Pairwise.nil, List.nodup_nil, (fun x => by simp), by simp⟩ (by
      rintro i p ρ hp ⟨F, x2, rfl, f1, f2, f3, f4⟩
      rw [Nat.zero_add] at *
      rw [List.getElem?_map] at hp
      obtain ⟨q, hq, rfl⟩ := Option.map_eq_some_iff.mp hp
      have hi := (List.getElem?_eq_some_iff.mp hq).1
      have tk : (sortP L).take (i + 1) = (sortP L).take i ++ [q] := by
        rw [List.take_add_one, hq]; rfl
      have le_q : ∀ x ∈ F, leP x q = true := fun x hx => by
        have hx := (f3 x).mp hx
        have pw' := pw.sublist (List.take_sublist (i + 1) (sortP L))
        rw [tk] at pw'
        exact (List.pairwise_append.mp pw').2.2 x hx q (by simp)
      have hb : bindT [] (.nm 2) (.sh (pD q)) [some (.sh (.tuple (L.map pD))), some (.ls ((F.map pD).map .sh)), x2] = some [some (.sh (.tuple (L.map pD))), some (.ls ((F.map pD).map .sh)), some (.sh (pD q))] := rfl
      rcases List.eq_nil_or_concat F with rfl | ⟨G, z, rfl⟩
      · refine ⟨_, _, hb, .inl be_nil, [q], _, rfl, List.pairwise_singleton _ _, by simp, fun x => ?_, by simp⟩
        rw [tk, List.mem_append]
        have := f3 x
        constructor
        · exact fun h => .inr h
        · rintro (h | h)
          · exact absurd (this.mpr h) (by simp)
          · exact h
      · rw [List.concat_eq_append] at *
        have hG : G.length < 1000 := by simp at f4; omega
        refine ⟨_, _, hb, .inl (be_some hG), if z = q then G ++ [z] else G ++ [z] ++ [q], _, rfl, ?_⟩
        by_cases h : z = q
        · subst h
          rw [if_pos rfl]
          refine ⟨f1, f2, fun x => ?_, by omega⟩
          rw [tk, List.mem_append (s := List.take i (sortP L)), f3 x]
          constructor
          · exact .inl
          · rintro (h | h)
            · exact h
            · rw [List.mem_singleton] at h
              subst h
              exact (f3 x).mp (by simp)
        · rw [if_neg h]
          refine ⟨List.pairwise_append.mpr ⟨f1, List.pairwise_singleton _ _, fun a ha b hb => ?_⟩, List.nodup_append.mpr ⟨f2, by simp, fun a ha b hb e => ?_⟩, fun x => ?_, by simp at f4 ⊢; omega⟩
          · rw [List.mem_singleton] at hb
            subst hb
            exact le_q a ha
          · rw [List.mem_singleton] at hb
            subst hb
            subst e
            rcases List.mem_append.mp ha with ha' | ha'
            · have := (List.pairwise_append.mp f1).2.2 a ha' z (by simp)
              exact h (leP_anti (le_q z (by simp)) this)
            · rw [List.mem_singleton] at ha'
              exact h ha'.symm
          · rw [tk, List.mem_append (s := G ++ [z]), List.mem_append (s := List.take i (sortP L)), f3 x])
  have hml : ((sortP L).map pD).length = L.length := by rw [List.length_map, hsl]
  rw [Nat.zero_add, hml, ← hsl, List.take_length] at f3
  rw [Nat.zero_add, hml] at f4
  have l2 : go Γ_each_once (.lop (.nm 2) .seq [.op .sorted [.vw 0 []]] bE) [some (.sh (.tuple (L.map pD))), some (.ls []), none] = .nx [some (.sh (.tuple (L.map pD))), some (.ls ((F.map pD).map .sh)), x2] := by
    rw [go_lop]
    have so := sorted_tup L
    refine lopF_run (os := [.d (.ls (((sortP L).map pD).map .sh))]) (ds := [.ls (((sortP L).map pD).map .sh)]) (ρ1 := [some (.sh (.tuple (L.map pD))), some (.ls []), none]) ?_ (by simp [ovs]) ?_ e1 (by simp [unlock])
    · generalize ((sortP L).map pD).map D.sh = M at *
      generalize L.map pD = N at *
      simp [wrapO, so]
    · exact itF_seq (seq_ls _)
  have l1 : go Γ_each_once (.asg (.nm 1) (.lst [])) [some (.sh (.tuple (L.map pD))), none, none] = .nx [some (.sh (.tuple (L.map pD))), some (.ls []), none] := rfl
  have l3 : go Γ_each_once (.ret (.op .tuple [.vw 1 []])) [some (.sh (.tuple (L.map pD))), some (.ls ((F.map pD).map .sh)), x2] = .rt (.sh (.tuple (F.map pD))) [some (.sh (.tuple (L.map pD))), some (.ls ((F.map pD).map .sh)), x2] := by
    have t := oTup_ls (F.map pD)
    generalize (F.map pD).map D.sh = M at *
    generalize L.map pD = N at *
    simp [wrapO, t]
  refine ⟨F, ?_, ⟨f1, f2⟩, fun x => by rw [f3 x, sortP_mem], f4⟩
  rw [m_each0, b_each]
  exact runD_rt rfl rfl (gos_step l1 (gos_step l2 (gos_last l3))) rfl
end T19
namespace T19
open PySem PySem.Spec L2 Ab
open Vs hiding Env
open PyProof.Rows hiding St
theorem getD_lt {α : Type} {l : List α} {i : Nat} {d : α} (h : i < l.length) : l.getD i d = l[i] := by
  rw [List.getD_eq_getElem?_getD, List.getElem?_eq_getElem h]
  rfl
/-! ### where letters lead -/
def mvs (mv : List (List Nat)) (a l : Nat) : Nat := (mv.getD a []).getD l 0
def st (mv : List (List Nat)) (p : Pt) (l : Nat) : Pt := (mvs mv p.1 l, mvs mv p.2 l)
def In (mv : List (List Nat)) (p : Pt) : Prop := p.1 < mv.length ∧ p.2 < mv.length
section
variable {k : Nat} {mv : List (List Nat)} {tl : List Nat} {p : Pt} {l : Nat}
theorem mvs_lt (ok : TelOk k mv) {a : Nat} (ha : a < mv.length) (hl : l < k) : mvs mv a l < mv.length := by
  obtain ⟨h1, h2⟩ := ok.row mv[a] (List.getElem_mem ha)
  unfold mvs
  rw [getD_lt ha, getD_lt (by omega)]
  exact h2 _ (List.getElem_mem _)
theorem st_in (ok : TelOk k mv) (h : In mv p) (hl : l < k) : In mv (st mv p l) := ⟨mvs_lt ok h.1 hl, mvs_lt ok h.2 hl⟩
theorem ix_row {a : Nat} (ha : a < mv.length) : oIx (.sh (.tuple (mv.map rowD))) (.sh (nI a)) = some (.sh (rowD (mv.getD a []))) := by
  have : atI (mv.map rowD) (a : Int) = some (rowD (mv.getD a [])) := at_of (by omega) (by rw [Int.toNat_natCast, List.getElem?_map, List.getElem?_eq_getElem ha, getD_lt ha]; rfl)
  show (atI (mv.map rowD) (a : Int)).map D.sh = _
  rw [this]
  rfl
theorem ix_let (ok : TelOk k mv) {a : Nat} (ha : a < mv.length) (hl : l < k) : oIx (.sh (rowD (mv.getD a []))) (.sh (nI l)) = some (.sh (nI (mvs mv a l))) := by
  obtain ⟨h1, h2⟩ := ok.row mv[a] (List.getElem_mem ha)
  have hl' : l < (mv.getD a []).length := by rw [getD_lt ha]; omega
  have : atI ((mv.getD a []).map nI) (l : Int) = some (nI (mvs mv a l)) := at_of (by omega) (by rw [Int.toNat_natCast, List.getElem?_map, List.getElem?_eq_getElem hl']; unfold mvs; rw [getD_lt hl']; rfl)
  show (atI ((mv.getD a []).map nI) (l : Int)).map D.sh = _
  rw [this]
  rfl
theorem ix_p0 : oIx (.sh (pD p)) (.sh (.int 0)) = some (.sh (nI p.1)) := rfl
theorem ix_p1 : oIx (.sh (pD p)) (.sh (.int 1)) = some (.sh (nI p.2)) := rfl
theorem ix_t0 : oIx (.sh (telD k mv tl)) (.sh (.int 0)) = some (.sh (nI k)) := rfl
theorem ix_t1 : oIx (.sh (telD k mv tl)) (.sh (.int 1)) = some (.sh (.tuple (mv.map rowD))) := rfl
end
/-! ### Behind -/
def ob (mv : List (List Nat)) : D := .ob "Behind" ["moves"] [.sh (.tuple (mv.map rowD))]
theorem m_init {t m : PyData} (e : oIx (.sh t) (.sh (.int 1)) = some (.sh m)) : d_Behind_init.m [.ob "Behind" [] [], .sh t] = .ok (.sh .none) [.ob "Behind" ["moves"] [.sh m]] := by
  have m0 : d_Behind_init.m = runD 2 io_Behind_init (gos Γ_Behind_init b_Behind_init) := rfl
  have hf : Γ_Behind_init.fld (Str.ofString "Behind") (Str.ofString "moves") = true := by
    unfold Γ_Behind_init
    dsimp only
    rw [if_pos ⟨rfl, rfl⟩]
  rw [m0]
  unfold runD
  simp [io_Behind_init, b_Behind_init, wrapO, e, fstF, hf, obPut, outsE, Res.out]
theorem m_step0 : d_Behind_step.m = runD 4 io_Behind_step (gos Γ_Behind_step b_Behind_step) := rfl
theorem step_run {M P r0 r1 : PyData} {c : Str} {a b a' b' l : Nat} (e1 : oIx (.sh P) (.sh (.int 0)) = some (.sh (nI a))) (e2 : oIx (.sh P) (.sh (.int 1)) = some (.sh (nI b))) (e3 : oIx (.sh M) (.sh (nI a)) = some (.sh r0)) (e4 : oIx (.sh M) (.sh (nI b)) = some (.sh r1))
    (e5 : oIx (.sh r0) (.sh (nI l)) = some (.sh (nI a'))) (e6 : oIx (.sh r1) (.sh (nI l)) = some (.sh (nI b'))) :
    d_Behind_step.m [.ob c ["moves"] [.sh M], .sh P, .sh (nI l), .sh (nI l)] = .ok (.sh (.tuple [nI a', nI b'])) [.ob c ["moves"] [.sh M]] := by
  rw [m_step0]
  unfold runD
  simp [io_Behind_step, b_Behind_step, wrapO, e1, e2, e3, e4, e5, e6, fldE, obGet, outsE, mkT2]
theorem m_step {k l : Nat} {mv : List (List Nat)} {p : Pt} (ok : TelOk k mv) (h : In mv p) (hl : l < k) : d_Behind_step.m [ob mv, .sh (pD p), .sh (nI l), .sh (nI l)] = .ok (.sh (pD (st mv p l))) [ob mv] :=
  step_run ix_p0 ix_p1 (ix_row h.1) (ix_row h.2) (ix_let ok h.1 hl) (ix_let ok h.2 hl)
end T19
namespace T19
open PySem PySem.Spec L2 Ab
open Vs hiding Env
open PyProof.Rows hiding St
/-! ### what is reached -/
inductive Rch (mv : List (List Nat)) (k : Nat) (ps : List Pt) : Pt → Prop
  | base {p : Pt} : p ∈ ps → Rch mv k ps p
  | step {p : Pt} {l : Nat} : Rch mv k ps p → l < k → Rch mv k ps (st mv p l)
theorem Rch.inn {mv : List (List Nat)} {k0 k : Nat} {ps : List Pt} {p : Pt} (ok : TelOk k0 mv) (hk : k ≤ k0) (hp : ∀ q ∈ ps, In mv q) (h : Rch mv k ps p) : In mv p := by
  induction h with
  | base h => exact hp _ h
  | step _ hl ih => exact st_in ok ih (by omega)
/-- all pairs of states -/
def allP (m : Nat) : List Pt := (List.range m).flatMap fun a => (List.range m).map fun b => (a, b)
theorem mem_allP {m : Nat} {p : Pt} (h : p.1 < m ∧ p.2 < m) : p ∈ allP m := by
  unfold allP
  rw [List.mem_flatMap]
  exact ⟨p.1, List.mem_range.mpr h.1, List.mem_map.mpr ⟨p.2, List.mem_range.mpr h.2, rfl⟩⟩
theorem allP_len (m : Nat) : (allP m).length = m * m := by
  have : ∀ l : List Nat, (l.map fun _ => m).sum = l.length * m := by
    intro l
    induction l with
    | nil => simp
    | cons a l ih => simp [ih, Nat.succ_mul]; omega
  unfold allP
  simp [List.length_flatMap, this]
theorem nd_sub {α : Type} : ∀ {L M : List α}, L.Nodup → (∀ x ∈ L, x ∈ M) → L.length ≤ M.length
  | [], M, _, _ => by simp
  | a :: L, M, h, s => by
    have h' := List.nodup_cons.mp h
    have ha := s a List.mem_cons_self
    obtain ⟨M1, M2, rfl⟩ := List.append_of_mem ha
    have := nd_sub (L := L) (M := M1 ++ M2) h'.2 fun x hx => by
      have := s x (List.mem_cons_of_mem _ hx)
      simp only [List.mem_append, List.mem_cons] at this ⊢
      rcases this with q | q | q
      · exact .inl q
      · subst q; exact absurd hx h'.1
      · exact .inr q
    simp only [List.length_append, List.length_cons] at this ⊢
    omega
theorem few {mv : List (List Nat)} (hm : mv.length ≤ 8) {L : List Pt} (h : L.Nodup) (s : ∀ x ∈ L, In mv x) : L.length ≤ 64 := by
  have := nd_sub (M := allP mv.length) h fun x hx => mem_allP (s x hx)
  rw [allP_len] at this
  have : mv.length * mv.length ≤ 8 * 8 := Nat.mul_le_mul hm hm
  omega
/-! ### grown -/
abbrev bI : List Sm := [.asg (.nm 8) (.mcl "Behind" "step" 0 [.op .ix [.vw 5 [], .vw 6 []], .rd 7, .rd 7]), .ite (.op .notin [.vw 8 [], .vw 4 []]) [.put true 4 [] (.rd 8) (.lit (.bool true)), .ex (.mut .append 5 [] [.rd 8])] []]
abbrev sR : Sm := .ite (.bop true [.op .isnot [.vw 3 [], .lit .none], .op .gt [.op .len [.vw 5 []], .vw 3 []]]) [.rai1 "TooMany" (.rd 3)] []
abbrev sL : Sm := .lop (.nm 7) .rng [.rd 2] bI
abbrev sN : Sm := .asg (.nm 6) (.op .add [.vw 6 [], .lit (.int 1)])
abbrev gC : Ex := .op .lt [.vw 6 [], .op .len [.vw 5 []]]
abbrev g1 : Sm := .par [5, 6] [.op .list [.call "each_once" [.rd 1] [] [] [0]], .lit (.int 0)]
abbrev g2 : Sm := .asg (.nm 4) (.op .dctP [.lc [9] (.nm 9) .seq [.vw 5 []] [] (.tup [.rd 9, .lit (.bool true)])])
abbrev g4 : Sm := .ret (.op .tuple [.op .sorted [.vw 5 []]])
theorem b_gr : b_grown = [g1, g2, .whl gC [sR, sL, sN], g4] := rfl
def eG (o pr : D) (k : Nat) (K : D) (M : List D) (i : Nat) (x7 x8 : Option D) : Vs.Env := [some o, some pr, some (.sh (nI k)), some (.sh .none), some K, some (.ls M), some (.sh (nI i)), x7, x8, none]
section
variable {Γ : Gam} {dn : Den} {o pr K K' : D} {k i l : Nat} {M M' : List D} {x7 x8 : Option D} {P Q : PyData}
theorem bi_no (hme : Γ.me (Str.ofString "Behind") (Str.ofString "step") = some dn) (hio : dn.io = [true, false, false, false]) (hob : obB (Str.ofString "Behind") (Str.ofString "step") (some (some o)) = true) (ix : oIx (.ls M) (.sh (nI i)) = some (.sh P)) (e : dn.m [o, .sh P, .sh (nI l), .sh (nI l)] = .ok (.sh Q) [o]) (n : oIn true (.sh Q) K = some (.sh (.bool false))) :
    gos Γ bI (eG o pr k K M i (some (.sh (nI l))) x8) = .nx (eG o pr k K M i (some (.sh (nI l))) (some (.sh Q))) := by
  simp [eG, wrapO, hme, mclE, hio, hob, ix, e, n]
theorem bi_yes (hme : Γ.me (Str.ofString "Behind") (Str.ofString "step") = some dn) (hio : dn.io = [true, false, false, false]) (hob : obB (Str.ofString "Behind") (Str.ofString "step") (some (some o)) = true) (ix : oIx (.ls M) (.sh (nI i)) = some (.sh P)) (e : dn.m [o, .sh P, .sh (nI l), .sh (nI l)] = .ok (.sh Q) [o]) (n : oIn true (.sh Q) K = some (.sh (.bool true)))
    (pt : putD true K Q (.sh (.bool true)) = some K') (ap : mo .append M [.sh Q] = some (M', .sh .none)) :
    gos Γ bI (eG o pr k K M i (some (.sh (nI l))) x8) = .nx (eG o pr k K' M' i (some (.sh (nI l))) (some (.sh Q))) := by
  simp [eG, wrapO, hme, mclE, hio, hob, ix, e, n, getP, setP, pt, ap]
theorem sr_run : go Γ sR (eG o pr k K M i x7 x8) = .nx (eG o pr k K M i x7 x8) := by
  have e : oIs true (.sh .none) (.sh .none) = some (.sh (.bool false)) := rfl
  simp [eG, wrapO, e]
theorem sn_run : go Γ sN (eG o pr k K M i x7 x8) = .nx (eG o pr k K M (i + 1) x7 x8) := by
  simp [eG, wrapO]
theorem gc_run {n : Nat} (e : oLen (.ls M) = some (.sh (nI n))) : evT Γ gC (eG o pr k K M i x7 x8) = .ok (decide (i < n), eG o pr k K M i x7 x8) := by
  simp [eG, wrapO, e]
theorem g2_run {A KD : D} (e : lcE [9] (.nm 9) .seq [.p 5 []] (ifT []) (ev Γ (.tup [.rd 9, .lit (.bool true)])) [some o, some pr, some (.sh (nI k)), some (.sh .none), none, some (.ls M), some (.sh (nI i)), none, none, none] = .ok (A, [some o, some pr, some (.sh (nI k)), some (.sh .none), none, some (.ls M), some (.sh (nI i)), none, none, none])) (d : oDct A = some KD) :
    go Γ g2 [some o, some pr, some (.sh (nI k)), some (.sh .none), none, some (.ls M), some (.sh (nI i)), none, none, none] = .nx (eG o pr k KD M i none none) := by
  simp [eG, wrapO, e, d]
theorem g1_run {A : PyData} (hf : Γ.fn (Str.ofString "each_once") = some dn) (hio : dn.io = [false]) (e : dn.m [.sh P] = .ok (.sh A) []) (d : oList (.sh A) = some (.ls M)) :
    go Γ g1 [some o, some (.sh P), some (.sh (nI k)), some (.sh .none), none, none, none, none, none, none] = .nx [some o, some (.sh P), some (.sh (nI k)), some (.sh .none), none, some (.ls M), some (.sh (nI 0)), none, none, none] := by
  have z : ((0 : Nat) : Int) = 0 := rfl
  simp [wrapO, hf, hio, e, d]
theorem g4_run {A B : D} (so : oSorted (.ls M) = some A) (t : oTuple A = some B) : go Γ g4 (eG o pr k K M i x7 x8) = .rt B (eG o pr k K M i x7 x8) := by
  simp [eG, wrapO, so, t]
end
end T19
namespace T19
open PySem PySem.Spec L2 Ab
open Vs hiding Env
open PyProof.Rows hiding St
theorem mx_ls {L : List Pt} : oLen (.ls ((L.map pD).map .sh)) = some (.sh (nI L.length)) := by simp [oLen]
theorem mx_ix {L : List Pt} {i : Nat} {p : Pt} (h : L[i]? = some p) : oIx (.ls ((L.map pD).map .sh)) (.sh (nI i)) = some (.sh (pD p)) := by
  have hl : i < L.length := (List.getElem?_eq_some_iff.mp h).1
  have ix : ixN ((L.map pD).map D.sh).length (i : Int) = some i := by
    have hl2 : ((L.map pD).map D.sh).length = L.length := by simp
    rw [hl2]
    unfold ixN
    rw [if_pos (by omega), if_pos (by omega)]
    simp
  have a : atI ((L.map pD).map D.sh) (i : Int) = some (.sh (pD p)) := by
    unfold atI
    rw [ix]
    simp [h]
  show shOnly (atI ((L.map pD).map D.sh) (i : Int)) = _
  rw [a]
  rfl
theorem mx_app {L : List Pt} {p : Pt} (h : L.length < 1000) : mo .append ((L.map pD).map .sh) [.sh (pD p)] = some (((L ++ [p]).map pD).map .sh, .sh .none) := by
  rw [append_ok (l := L.map pD) (x := pD p) (by simp; omega)]
  simp
theorem fn_me : Γ_grown.me (Str.ofString "Behind") (Str.ofString "step") = some d_Behind_step := by
  unfold Γ_grown
  dsimp only
  rw [if_pos ⟨rfl, rfl⟩]
theorem fn_eo : Γ_grown.fn (Str.ofString "each_once") = some d_each_once := by simp [Γ_grown]
theorem io_step : d_Behind_step.io = [true, false, false, false] := rfl
theorem io_each : d_each_once.io = [false] := rfl
theorem ob_ok (mv : List (List Nat)) : obB (Str.ofString "Behind") (Str.ofString "step") (some (some (ob mv))) = true := by
  show (decide (("Behind" : Str) = ("Behind" : Str)) && !(["moves"] : List Str).contains ("step" : Str)) = true
  decide +kernel
section
variable {k0 k : Nat} {mv : List (List Nat)} {ps : List Pt} {pr : D}
/-- one pair's letters -/
theorem inner (ok : TelOk k0 mv) (hk : k ≤ k0) {L : List Pt} {i : Nat} {p : Pt} {x7' x8 : Option D} (hp : L[i]? = some p) (nd : L.Nodup) (hL : ∀ x ∈ L, In mv x) :
    ∃ N x7 x8', go Γ_grown sL (eG (ob mv) pr k (kn L) ((L.map pD).map .sh) i x7' x8) = .nx (eG (ob mv) pr k (kn (L ++ N)) (((L ++ N).map pD).map .sh) i x7 x8') ∧ (L ++ N).Nodup ∧ (∀ x ∈ N, ∃ l, l < k ∧ x = st mv p l) ∧ ∀ l, l < k → st mv p l ∈ L ++ N := by
  have pin : In mv p := hL p (List.mem_of_getElem? hp)
  have hil := (List.getElem?_eq_some_iff.mp hp).1
  obtain ⟨ρ, e, N, x7, x8', rfl, n1, n2, n3⟩ := lopL_run (t := .nm 7) (b := gos Γ_grown bI)
    (fun j ρ => ∃ (N : List Pt) (x7 x8' : Option D), ρ = eG (ob mv) pr k (kn (L ++ N)) (((L ++ N).map pD).map .sh) i x7 x8' ∧ (L ++ N).Nodup ∧ (∀ x ∈ N, ∃ l, l < k ∧ x = st mv p l) ∧ ∀ l, l < j → st mv p l ∈ L ++ N)
    (rngD 0 k) 0 (eG (ob mv) pr k (kn L) ((L.map pD).map .sh) i x7' x8) ⟨[], x7', x8, by rw [List.append_nil], by rw [List.append_nil]; exact nd, (fun _ h => nomatch h), fun l h => absurd h (Nat.not_lt_zero _)⟩ (by
      rintro j q ρ hq ⟨N, x7, x8', rfl, n1, n2, n3⟩
      obtain ⟨hj, rfl⟩ := rng_item hq
      rw [Nat.zero_add] at *
      have all : ∀ x ∈ L ++ N, In mv x := fun x hx => by
        rcases List.mem_append.mp hx with hx | hx
        · exact hL x hx
        · obtain ⟨l, hl, rfl⟩ := n2 x hx
          exact st_in ok pin (by omega)
      have hlen := few ok.m8 n1 all
      have hp' : (L ++ N)[i]? = some p := by rw [List.getElem?_append_left hil]; exact hp
      have hb : bindT [] (.nm 7) (.sh (nI j)) (eG (ob mv) pr k (kn (L ++ N)) (((L ++ N).map pD).map .sh) i x7 x8') = some (eG (ob mv) pr k (kn (L ++ N)) (((L ++ N).map pD).map .sh) i (some (.sh (nI j))) x8') := rfl
      have e := m_step (l := j) ok pin (by omega)
      have n := notin_kn (L ++ N) (st mv p j)
      by_cases h : st mv p j ∈ L ++ N
      · rw [decide_eq_true h] at n
        refine ⟨_, _, hb, .inl (bi_no fn_me io_step (ob_ok mv) (mx_ix hp') e n), N, _, _, rfl, n1, n2, fun l hl => ?_⟩
        by_cases g : l = j
        · subst g; exact h
        · exact n3 l (by omega)
      · rw [decide_eq_false h] at n
        have pt := kn_put (L ++ N) (st mv p j) (by omega)
        have ad : addK (L ++ N) (st mv p j) = L ++ (N ++ [st mv p j]) := by unfold addK; rw [if_neg h, List.append_assoc]
        have ap := mx_app (L := L ++ N) (p := st mv p j) (by omega)
        rw [ad] at pt
        rw [List.append_assoc] at ap
        refine ⟨_, _, hb, .inl (bi_yes fn_me io_step (ob_ok mv) (mx_ix hp') e n pt ap), N ++ [st mv p j], _, _, rfl, ?_, fun x hx => ?_, fun l hl => ?_⟩
        · rw [← ad]; exact addK_nd n1
        · rcases List.mem_append.mp hx with hx | hx
          · exact n2 x hx
          · rw [List.mem_singleton] at hx
            exact ⟨j, hj, hx⟩
        · rw [← List.append_assoc, List.mem_append, List.mem_singleton]
          by_cases g : l = j
          · subst g; exact .inr rfl
          · exact .inl (n3 l (by omega)))
  rw [rng_len, Nat.zero_add] at n3
  refine ⟨N, x7, x8', ?_, n1, n2, n3⟩
  rw [go_lop]
  exact lopF_run (ρ1 := eG (ob mv) pr k (kn L) ((L.map pD).map .sh) i x7' x8) (os := [.d (.sh (nI k))]) (ds := [.sh (nI k)]) (by simp [eG]) (by simp [ovs]) (itF_rngN (by have := ok.k3; omega)) e (by simp [unlock])
theorem e_pairs {Γ : Gam} {a b c d : Option D} {x6 x7 x8 : Option D} (S : List Pt) (h : S.length ≤ 1000) :
    lcL [9] (.nm 9) (ifT []) (ev Γ (.tup [.rd 9, .lit (.bool true)])) (S.map pD) [a, b, c, d, none, none, x6, x7, x8, none] [] = some ((S.map pT).map .sh, [a, b, c, d, none, none, x6, x7, x8, none]) := by
  have := lcL_map (own := [9]) (t := .nm 9) (test := ifT []) (f := ev Γ (.tup [.rd 9, .lit (.bool true)])) (ρ := [a, b, c, d, none, none, x6, x7, x8, none]) (fun p => .sh (.tuple [p, .bool true])) (S.map pD) (fun p hp => by
    refine ⟨[a, b, c, d, none, none, x6, x7, x8, some (.sh p)], rfl, rfl, ?_, rfl⟩
    simp [mkT2]) (by simp; omega)
  rw [this]
  simp only [List.map_map]
  rfl
theorem m_gr0 : d_grown.m = runD 10 io_grown (gos Γ_grown b_grown) := rfl
theorem m_grown (ok : TelOk k0 mv) (hk : k ≤ k0) (hp : ∀ q ∈ ps, In mv q) (hl : ps.length ≤ 900) :
    ∃ R, d_grown.m [ob mv, .sh (.tuple (ps.map pD)), .sh (nI k), .sh .none] = .ok (.sh (.tuple (R.map pD))) [] ∧ Asc R ∧ ∀ x, x ∈ R ↔ Rch mv k ps x := by
  obtain ⟨S, e1, sA, sM, sL'⟩ := m_each ps hl
  have hSlen := few ok.m8 sA.2 fun x hx => hp x ((sM x).mp hx)
  have l1 := g1_run (Γ := Γ_grown) (o := ob mv) (k := k) (P := .tuple (ps.map pD)) (A := .tuple (S.map pD)) (M := (S.map pD).map .sh) fn_eo io_each e1 rfl
  have l2 : go Γ_grown g2 [some (ob mv), some (.sh (.tuple (ps.map pD))), some (.sh (nI k)), some (.sh .none), none, some (.ls ((S.map pD).map .sh)), some (.sh (nI 0)), none, none, none] = .nx (eG (ob mv) (.sh (.tuple (ps.map pD))) k (kn S) ((S.map pD).map .sh) 0 none none) := by
    have ep := e_pairs (Γ := Γ_grown) (a := some (ob mv)) (b := some (.sh (.tuple (ps.map pD)))) (c := some (.sh (nI k))) (d := some (.sh .none)) (x6 := some (.sh (nI 0))) (x7 := none) (x8 := none) S (by omega)
    have dc := dct_ok S (by omega)
    rw [foldK_id (by simpa using sA.2), List.nil_append] at dc
    refine g2_run (A := .ls ((S.map pT).map .sh)) ?_ dc
    have sq := itF_seq (seq_ls (S.map pD))
    generalize (S.map pT).map D.sh = A at *
    generalize S.map pD = B at *
    generalize B.map D.sh = C at *
    simp [lcE_eq, getP, sq, ep]
  obtain ⟨ρ, e3, i, L, x7, x8, rfl, w1, w2, w3, w4, w5, w6, w7⟩ := whL_run (c := evT Γ_grown gC) (b := gos Γ_grown [sR, Sm.lop (.nm 7) .rng [.rd 2] bI, sN])
    (fun m ρ => ∃ (i : Nat) (L : List Pt) (x7 x8 : Option D), ρ = eG (ob mv) (.sh (.tuple (ps.map pD))) k (kn L) ((L.map pD).map .sh) i x7 x8 ∧ L.Nodup ∧ i ≤ L.length ∧ (∀ x ∈ ps, x ∈ L) ∧ (∀ x ∈ L, Rch mv k ps x) ∧ (∀ j p, j < i → L[j]? = some p → ∀ l, l < k → st mv p l ∈ L) ∧ (m = 0 → i = L.length) ∧ (m = 0 ∨ m + i = 65)) (by
      rintro m ρ ⟨i, L, x7, x8, rfl, w1, w2, w3, w4, w5, w6, w7⟩
      have all : ∀ x ∈ L, In mv x := fun x hx => (w4 x hx).inn ok hk hp
      have hlen := few ok.m8 w1 all
      have gc := gc_run (Γ := Γ_grown) (o := ob mv) (pr := .sh (.tuple (ps.map pD))) (k := k) (K := kn L) (i := i) (x7 := x7) (x8 := x8) (mx_ls (L := L))
      by_cases h : i < L.length
      · right
        rw [decide_eq_true h] at gc
        have hq : L[i]? = some L[i] := List.getElem?_eq_getElem h
        obtain ⟨N, y7, y8, e, n1, n2, n3⟩ := inner (pr := .sh (.tuple (ps.map pD))) (x7' := x7) (x8 := x8) ok hk hq w1 all
        have hb : gos Γ_grown [sR, Sm.lop (.nm 7) .rng [.rd 2] bI, sN] (eG (ob mv) (.sh (.tuple (ps.map pD))) k (kn L) ((L.map pD).map .sh) i x7 x8) = .nx (eG (ob mv) (.sh (.tuple (ps.map pD))) k (kn (L ++ N)) (((L ++ N).map pD).map .sh) (i + 1) y7 y8) :=
          gos_step sr_run (gos_step e (gos_step sn_run rfl))
        have hm : m + i = 65 := by rcases w7 with q | q
                                   · have := w6 q; omega
                                   · exact q
        have hR : ∀ x ∈ L ++ N, Rch mv k ps x := fun x hx => by
          rcases List.mem_append.mp hx with hx | hx
          · exact w4 x hx
          · obtain ⟨l, hl, rfl⟩ := n2 x hx
            exact .step (w4 _ (List.getElem_mem h)) hl
        have hlen2 := few ok.m8 n1 fun x hx => (hR x hx).inn ok hk hp
        have hNl : (L ++ N).length = L.length + N.length := List.length_append
        refine ⟨_, _, m - 1, gc, .inl hb, by omega, i + 1, L ++ N, y7, y8, rfl, n1, by omega, fun x hx => List.mem_append_left _ (w3 x hx), hR, fun j p hj hp' l hl => ?_, fun q => by omega, .inr (by omega)⟩
        rw [List.getElem?_append_left (by omega)] at hp'
        by_cases g : j = i
        · subst g
          rw [hq] at hp'
          cases hp'
          exact n3 l hl
        · exact List.mem_append_left _ (w5 j p (by omega) hp' l hl)
      · left
        rw [decide_eq_false h] at gc
        exact ⟨_, gc, i, L, x7, x8, rfl, w1, w2, w3, w4, w5, fun _ => by omega, .inl rfl⟩)
    fuel 65 (eG (ob mv) (.sh (.tuple (ps.map pD))) k (kn S) ((S.map pD).map .sh) 0 none none) ⟨0, S, none, none, rfl, sA.2, Nat.zero_le _, fun x hx => (sM x).mpr hx, fun x hx => .base ((sM x).mp hx), fun j p hj => absurd hj (Nat.not_lt_zero _), (fun q => by omega), .inr rfl⟩ (by unfold fuel; omega)
  have hi := w6 rfl
  have l3 : go Γ_grown (.whl gC [sR, sL, sN]) (eG (ob mv) (.sh (.tuple (ps.map pD))) k (kn S) ((S.map pD).map .sh) 0 none none) = .nx (eG (ob mv) (.sh (.tuple (ps.map pD))) k (kn L) ((L.map pD).map .sh) i x7 x8) := by
    rw [go_whl]; exact e3
  have l4 := g4_run (Γ := Γ_grown) (o := ob mv) (pr := .sh (.tuple (ps.map pD))) (k := k) (K := kn L) (i := i) (x7 := x7) (x8 := x8) (sorted_ls L) (oTup_ls ((sortP L).map pD))
  refine ⟨sortP L, ?_, asc_sort w1, fun x => ?_⟩
  · rw [m_gr0, b_gr]
    exact runD_rt rfl rfl (gos_step l1 (gos_step l2 (gos_step l3 (gos_last l4)))) rfl
  · rw [sortP_mem]
    constructor
    · exact w4 x
    · intro h
      induction h with
      | base h => exact w3 _ h
      | step _ hl ih =>
        obtain ⟨j, hj⟩ := List.getElem?_of_mem ih
        exact w5 j _ (by have := (List.getElem?_eq_some_iff.mp hj).1; omega) hj _ hl
end
end T19
namespace T19
open PySem PySem.Spec L2 Ab
open Vs hiding Env
open PyProof.Rows hiding St
/-! ### closed -/
def kk (b : Bool) (k : Nat) : Nat := if b then k else 0
theorem cl_run {Γ : Gam} {di dg : Den} {t P R : PyData} {o : D} {b : Bool} {k : Nat} (hi : Γ.ini (Str.ofString "Behind") = some di) (hio : di.io = [true, false]) (hf : Γ.fn (Str.ofString "grown") = some dg) (hio2 : dg.io = [false, false, false, false])
    (e0 : oIx (.sh t) (.sh (.int 0)) = some (.sh (nI k))) (e1 : di.m [.ob "Behind" [] [], .sh t] = .ok (.sh .none) [o]) (e2 : dg.m [o, .sh P, .sh (nI (kk b k)), .sh .none] = .ok (.sh R) []) :
    gos Γ b_closed [some (.sh t), some (.sh P), some (.sh (.bool b))] = .rt (.sh R) [some (.sh t), some (.sh P), some (.sh (.bool b))] := by
  cases b with
  | true =>
    have e2 : dg.m [o, .sh P, .sh (nI k), .sh .none] = .ok (.sh R) [] := e2
    simp [b_closed, wrapO, newE, hi, hio, hf, hio2, e0, e1, e2]
  | false =>
    have e2 : dg.m [o, .sh P, .sh (.int 0), .sh .none] = .ok (.sh R) [] := e2
    simp [b_closed, wrapO, newE, hi, hio, hf, hio2, e0, e1, e2]
theorem fn_ci : Γ_closed.ini (Str.ofString "Behind") = some d_Behind_init := by simp [Γ_closed]
theorem fn_cg : Γ_closed.fn (Str.ofString "grown") = some d_grown := by simp [Γ_closed]
theorem io_init : d_Behind_init.io = [true, false] := rfl
theorem io_gr : d_grown.io = [false, false, false, false] := rfl
theorem m_cl0 : d_closed.m = runD 3 io_closed (gos Γ_closed b_closed) := rfl
section
variable {k : Nat} {mv : List (List Nat)} {tl : List Nat} {ps : List Pt}
theorem m_closed (b : Bool) (ok : TelOk k mv) (hp : ∀ q ∈ ps, In mv q) (hl : ps.length ≤ 900) :
    ∃ R, d_closed.m [.sh (telD k mv tl), .sh (.tuple (ps.map pD)), .sh (.bool b)] = .ok (.sh (.tuple (R.map pD))) [] ∧ Asc R ∧ ∀ x, x ∈ R ↔ Rch mv (kk b k) ps x := by
  obtain ⟨R, e, a, m⟩ := m_grown (k := kk b k) (ps := ps) ok (by unfold kk; split <;> omega) hp hl
  refine ⟨R, ?_, a, m⟩
  rw [m_cl0]
  exact runD_rt (ρ0 := [some (.sh (telD k mv tl)), some (.sh (.tuple (ps.map pD))), some (.sh (.bool b))]) rfl rfl (cl_run fn_ci io_init fn_cg io_gr ix_t0 (m_init ix_t1) e) rfl
end
/-! ### the law's own -/
abbrev bJ : List Sm := [.asg (.nm 8) (.tup [.op .ix [.op .ix [.op .ix [.vw 0 [], .lit (.int 1)], .vw 6 []], .vw 5 []], .op .ix [.op .ix [.op .ix [.vw 0 [], .lit (.int 1)], .vw 7 []], .vw 5 []]]), .ite (.op .notin [.vw 8 [], .vw 3 []]) [.put true 3 [] (.rd 8) (.lit (.bool true)), .ex (.mut .append 4 [] [.rd 8])] []]
abbrev sPop : Sm := .asg (.tp [6, 7]) (.mut .pop 4 [] [])
abbrev sLet : Sm := .lop (.nm 5) .rng [.op .ix [.vw 0 [], .lit (.int 0)]] bJ
abbrev lC : Ex := .bop true [.op .ne [.vw 4 [], .lst []], .rd 2]
abbrev l1 : Sm := .par [3, 4] [.op .dctP [.lc [8] (.nm 8) .seq [.rd 1] [] (.tup [.rd 8, .lit (.bool true)])], .op .list [.vw 1 []]]
abbrev l3 : Sm := .ret (.op .tuple [.op .sorted [.vw 3 []]])
theorem b_lc : b_law_closed = [l1, .whl lC [sPop, sLet], l3] := rfl
def eL (t pr : PyData) (b : Bool) (K : D) (M : List D) (x5 x6 x7 x8 : Option D) : Vs.Env := [some (.sh t), some (.sh pr), some (.sh (.bool b)), some K, some (.ls M), x5, x6, x7, x8]
section
variable {Γ : Gam} {t pr r0 r1 mm : PyData} {b : Bool} {K K' : D} {M M' : List D} {x5 x6 x7 x8 : Option D} {u v u' v' l : Nat}
theorem bj_no (e0 : oIx (.sh t) (.sh (.int 1)) = some (.sh mm)) (e3 : oIx (.sh mm) (.sh (nI u)) = some (.sh r0)) (e4 : oIx (.sh mm) (.sh (nI v)) = some (.sh r1)) (e5 : oIx (.sh r0) (.sh (nI l)) = some (.sh (nI u'))) (e6 : oIx (.sh r1) (.sh (nI l)) = some (.sh (nI v')))
    (n : oIn true (.sh (pD (u', v'))) K = some (.sh (.bool false))) :
    gos Γ bJ (eL t pr b K M (some (.sh (nI l))) (some (.sh (nI u))) (some (.sh (nI v))) x8) = .nx (eL t pr b K M (some (.sh (nI l))) (some (.sh (nI u))) (some (.sh (nI v))) (some (.sh (pD (u', v'))))) := by
  have mk : mkTup [.sh (nI u'), .sh (nI v')] = .sh (pD (u', v')) := rfl
  generalize pD (u', v') = Q at *
  simp [eL, wrapO, e0, e3, e4, e5, e6, mk, n]
theorem bj_yes (e0 : oIx (.sh t) (.sh (.int 1)) = some (.sh mm)) (e3 : oIx (.sh mm) (.sh (nI u)) = some (.sh r0)) (e4 : oIx (.sh mm) (.sh (nI v)) = some (.sh r1)) (e5 : oIx (.sh r0) (.sh (nI l)) = some (.sh (nI u'))) (e6 : oIx (.sh r1) (.sh (nI l)) = some (.sh (nI v')))
    (n : oIn true (.sh (pD (u', v'))) K = some (.sh (.bool true))) (pt : putD true K (pD (u', v')) (.sh (.bool true)) = some K') (ap : mo .append M [.sh (pD (u', v'))] = some (M', .sh .none)) :
    gos Γ bJ (eL t pr b K M (some (.sh (nI l))) (some (.sh (nI u))) (some (.sh (nI v))) x8) = .nx (eL t pr b K' M' (some (.sh (nI l))) (some (.sh (nI u))) (some (.sh (nI v))) (some (.sh (pD (u', v'))))) := by
  have mk : mkTup [.sh (nI u'), .sh (nI v')] = .sh (pD (u', v')) := rfl
  generalize pD (u', v') = Q at *
  simp [eL, wrapO, e0, e3, e4, e5, e6, mk, n, getP, setP, pt, ap]
theorem pop_run (e : mo .pop M [] = some (M', .sh (.tuple [nI u, nI v]))) : go Γ sPop (eL t pr b K M x5 x6 x7 x8) = .nx (eL t pr b K M' x5 (some (.sh (nI u))) (some (.sh (nI v))) x8) := by
  simp [eL, wrapO, getP, e]
theorem lc_run {z : Bool} (e : oEq true (.ls M) (.ls []) = some (.sh (.bool z))) : evT Γ lC (eL t pr b K M x5 x6 x7 x8) = .ok (z && b, eL t pr b K M x5 x6 x7 x8) := by
  cases z <;> cases b <;> simp [eL, wrapO, e]
theorem l1_run {A KD : D} (e : lcE [8] (.nm 8) .seq [.e (ev Γ (.rd 1))] (ifT []) (ev Γ (.tup [.rd 8, .lit (.bool true)])) [some (.sh t), some (.sh pr), some (.sh (.bool b)), none, none, none, none, none, none] = .ok (A, [some (.sh t), some (.sh pr), some (.sh (.bool b)), none, none, none, none, none, none])) (d : oDct A = some KD) (o : oList (.sh pr) = some (.ls M)) :
    go Γ l1 [some (.sh t), some (.sh pr), some (.sh (.bool b)), none, none, none, none, none, none] = .nx (eL t pr b KD M none none none none) := by
  simp [eL, wrapO, e, d, o]
theorem l3_run {A B : D} (so : oSorted K = some A) (tt : oTuple A = some B) : go Γ l3 (eL t pr b K M x5 x6 x7 x8) = .rt B (eL t pr b K M x5 x6 x7 x8) := by
  simp [eL, wrapO, so, tt]
end
end T19
namespace T19
open PySem PySem.Spec L2 Ab
open Vs hiding Env
open PyProof.Rows hiding St
section
variable {k : Nat} {mv : List (List Nat)} {tl : List Nat} {ps : List Pt} {pr : PyData} {b : Bool}
/-- one popped pair's letters -/
theorem innerL (ok : TelOk k mv) {K T : List Pt} {p : Pt} {x5 x8 : Option D} (pin : In mv p) (nd : K.Nodup) (hK : ∀ x ∈ K, In mv x) (hT : T.length ≤ 900) :
    ∃ N y5 y8, go Γ_law_closed sLet (eL (telD k mv tl) pr b (kn K) ((T.map pD).map .sh) x5 (some (.sh (nI p.1))) (some (.sh (nI p.2))) x8) = .nx (eL (telD k mv tl) pr b (kn (K ++ N)) (((T ++ N).map pD).map .sh) y5 (some (.sh (nI p.1))) (some (.sh (nI p.2))) y8) ∧ (K ++ N).Nodup ∧ (∀ x ∈ N, ∃ l, l < k ∧ x = st mv p l) ∧ ∀ l, l < k → st mv p l ∈ K ++ N := by
  obtain ⟨ρ, e, N, y5, y8, rfl, n1, n2, n3⟩ := lopL_run (t := .nm 5) (b := gos Γ_law_closed bJ)
    (fun j ρ => ∃ (N : List Pt) (y5 y8 : Option D), ρ = eL (telD k mv tl) pr b (kn (K ++ N)) (((T ++ N).map pD).map .sh) y5 (some (.sh (nI p.1))) (some (.sh (nI p.2))) y8 ∧ (K ++ N).Nodup ∧ (∀ x ∈ N, ∃ l, l < k ∧ x = st mv p l) ∧ ∀ l, l < j → st mv p l ∈ K ++ N)
    (rngD 0 k) 0 (eL (telD k mv tl) pr b (kn K) ((T.map pD).map .sh) x5 (some (.sh (nI p.1))) (some (.sh (nI p.2))) x8) ⟨[], x5, x8, by rw [List.append_nil, List.append_nil], by rw [List.append_nil]; exact nd, (fun _ h => nomatch h), fun l h => absurd h (Nat.not_lt_zero _)⟩ (by
      rintro j q ρ hq ⟨N, y5, y8, rfl, n1, n2, n3⟩
      obtain ⟨hj, rfl⟩ := rng_item hq
      rw [Nat.zero_add] at *
      have all : ∀ x ∈ K ++ N, In mv x := fun x hx => by
        rcases List.mem_append.mp hx with hx | hx
        · exact hK x hx
        · obtain ⟨l, hl, rfl⟩ := n2 x hx
          exact st_in ok pin (by omega)
      have hlen := few ok.m8 n1 all
      rw [List.length_append] at hlen
      have hb : bindT [] (.nm 5) (.sh (nI j)) (eL (telD k mv tl) pr b (kn (K ++ N)) (((T ++ N).map pD).map .sh) y5 (some (.sh (nI p.1))) (some (.sh (nI p.2))) y8) = some (eL (telD k mv tl) pr b (kn (K ++ N)) (((T ++ N).map pD).map .sh) (some (.sh (nI j))) (some (.sh (nI p.1))) (some (.sh (nI p.2))) y8) := rfl
      have n := notin_kn (K ++ N) (st mv p j)
      by_cases h : st mv p j ∈ K ++ N
      · rw [decide_eq_true h] at n
        refine ⟨_, _, hb, .inl (bj_no ix_t1 (ix_row pin.1) (ix_row pin.2) (ix_let ok pin.1 hj) (ix_let ok pin.2 hj) n), N, _, _, rfl, n1, n2, fun l hl => ?_⟩
        by_cases g : l = j
        · subst g; exact h
        · exact n3 l (by omega)
      · rw [decide_eq_false h] at n
        have pt := kn_put (K ++ N) (st mv p j) (by rw [List.length_append]; omega)
        have ad : addK (K ++ N) (st mv p j) = K ++ (N ++ [st mv p j]) := by unfold addK; rw [if_neg h, List.append_assoc]
        have ap := mx_app (L := T ++ N) (p := st mv p j) (by rw [List.length_append]; omega)
        rw [ad] at pt
        rw [List.append_assoc] at ap
        refine ⟨_, _, hb, .inl (bj_yes ix_t1 (ix_row pin.1) (ix_row pin.2) (ix_let ok pin.1 hj) (ix_let ok pin.2 hj) n pt ap), N ++ [st mv p j], _, _, rfl, ?_, fun x hx => ?_, fun l hl => ?_⟩
        · rw [← ad]; exact addK_nd n1
        · rcases List.mem_append.mp hx with hx | hx
          · exact n2 x hx
          · rw [List.mem_singleton] at hx
            exact ⟨j, hj, hx⟩
        · rw [← List.append_assoc, List.mem_append, List.mem_singleton]
          by_cases g : l = j
          · subst g; exact .inr rfl
          · exact .inl (n3 l (by omega)))
  rw [rng_len, Nat.zero_add] at n3
  refine ⟨N, y5, y8, ?_, n1, n2, n3⟩
  rw [go_lop]
  have i0 := ix_t0 (k := k) (mv := mv) (tl := tl)
  refine lopF_run (ρ1 := eL (telD k mv tl) pr b (kn K) ((T.map pD).map .sh) x5 (some (.sh (nI p.1))) (some (.sh (nI p.2))) x8) (os := [.d (.sh (nI k))]) (ds := [.sh (nI k)]) ?_ (by simp [ovs]) (itF_rngN (by have := ok.k3; omega)) e (by simp [unlock])
  generalize telD k mv tl = tt at *
  simp [eL, wrapO, i0]
theorem e_pairsL {Γ : Gam} {a b c d e x5 x6 x7 : Option D} (S : List Pt) (h : S.length ≤ 1000) :
    lcL [8] (.nm 8) (ifT []) (ev Γ (.tup [.rd 8, .lit (.bool true)])) (S.map pD) [a, b, c, d, e, x5, x6, x7, none] [] = some ((S.map pT).map .sh, [a, b, c, d, e, x5, x6, x7, none]) := by
  have := lcL_map (own := [8]) (t := .nm 8) (test := ifT []) (f := ev Γ (.tup [.rd 8, .lit (.bool true)])) (ρ := [a, b, c, d, e, x5, x6, x7, none]) (fun p => .sh (.tuple [p, .bool true])) (S.map pD) (fun p hp => by
    refine ⟨[a, b, c, d, e, x5, x6, x7, some (.sh p)], rfl, rfl, ?_, rfl⟩
    simp [mkT2]) (by simp; omega)
  rw [this]
  simp only [List.map_map]
  rfl
theorem ne_pD (T : List Pt) : oEq true (.ls ((T.map pD).map .sh)) (.ls []) = some (.sh (.bool (!T.isEmpty))) := by
  rw [eq_nilP]
  cases T <;> rfl
theorem m_lc0 : d_law_closed.m = runD 9 io_law_closed (gos Γ_law_closed b_law_closed) := rfl
theorem m_lclosed (b : Bool) (ok : TelOk k mv) (hp : ∀ q ∈ ps, In mv q) (hl : ps.length ≤ 800) :
    ∃ R, d_law_closed.m [.sh (telD k mv tl), .sh (.tuple (ps.map pD)), .sh (.bool b)] = .ok (.sh (.tuple (R.map pD))) [] ∧ Asc R ∧ ∀ x, x ∈ R ↔ Rch mv (kk b k) ps x := by
  let K0 := ps.foldl addK []
  have k0n : K0.Nodup := foldK_nd List.nodup_nil
  have k0m : ∀ x, x ∈ K0 ↔ x ∈ ps := fun x => by
    show x ∈ ps.foldl addK [] ↔ _
    rw [foldK_mem]; simp
  have s1 : go Γ_law_closed l1 [some (.sh (telD k mv tl)), some (.sh (.tuple (ps.map pD))), some (.sh (.bool b)), none, none, none, none, none, none] = .nx (eL (telD k mv tl) (.tuple (ps.map pD)) b (kn K0) ((ps.map pD).map .sh) none none none none) := by
    have ep := e_pairsL (Γ := Γ_law_closed) (a := some (.sh (telD k mv tl))) (b := some (.sh (.tuple (ps.map pD)))) (c := some (.sh (.bool b))) (d := none) (e := none) (x5 := none) (x6 := none) (x7 := none) ps (by omega)
    refine l1_run (A := .ls ((ps.map pT).map .sh)) ?_ (dct_ok ps (by omega)) rfl
    generalize (ps.map pT).map D.sh = A at *
    refine lcE_run (ρ1 := [some (.sh (telD k mv tl)), some (.sh (.tuple (ps.map pD))), some (.sh (.bool b)), none, none, none, none, none, none]) (os := [.d (.sh (.tuple (ps.map pD)))]) (ds := [.sh (.tuple (ps.map pD))]) (by simp) (by simp [ovs]) rfl ep (by simp [unlock])
  obtain ⟨ρ, e2, K, T, x5, x6, x7, x8, rfl, w1, w2, w3, w4, w5, w6, w7⟩ := whL_run (c := evT Γ_law_closed lC) (b := gos Γ_law_closed [sPop, sLet])
    (fun m ρ => ∃ (K T : List Pt) (x5 x6 x7 x8 : Option D), ρ = eL (telD k mv tl) (.tuple (ps.map pD)) b (kn K) ((T.map pD).map .sh) x5 x6 x7 x8 ∧ K.Nodup ∧ (∀ x ∈ T, x ∈ K) ∧ (∀ x ∈ ps, x ∈ K) ∧ (∀ x ∈ K, Rch mv (kk b k) ps x) ∧ (∀ x ∈ K, x ∉ T → ∀ l, l < kk b k → st mv x l ∈ K) ∧ T.length ≤ ps.length + K.length ∧ ((m = 0 ∧ (T = [] ∨ b = false)) ∨ m = T.length + (64 - K.length) + 1)) (by
      rintro m ρ ⟨K, T, x5, x6, x7, x8, rfl, w1, w2, w3, w4, w5, w6, w7⟩
      have all : ∀ x ∈ K, In mv x := fun x hx => (w4 x hx).inn ok (by unfold kk; split <;> omega) hp
      have hlen := few ok.m8 w1 all
      have lc := lc_run (Γ := Γ_law_closed) (t := telD k mv tl) (pr := .tuple (ps.map pD)) (b := b) (K := kn K) (x5 := x5) (x6 := x6) (x7 := x7) (x8 := x8) (ne_pD T)
      rcases List.eq_nil_or_concat T with rfl | ⟨T0, p, rfl⟩
      · exact .inl ⟨_, lc, K, [], x5, x6, x7, x8, rfl, w1, w2, w3, w4, w5, w6, .inl ⟨rfl, .inl rfl⟩⟩
      · rw [List.concat_eq_append] at *
        have hne : (T0 ++ [p]).isEmpty = false := by cases T0 <;> rfl
        rw [hne] at lc
        cases b with
        | false => exact .inl ⟨_, lc, K, T0 ++ [p], x5, x6, x7, x8, rfl, w1, w2, w3, w4, w5, w6, .inl ⟨rfl, .inr rfl⟩⟩
        | true =>
          right
          have hm : m = (T0 ++ [p]).length + (64 - K.length) + 1 := by
            rcases w7 with ⟨_, q | q⟩ | q
            · simp at q
            · cases q
            · exact q
          rw [List.length_append, List.length_singleton] at hm w6
          have pin : In mv p := all p (w2 p (by simp))
          have pop : mo .pop (((T0 ++ [p]).map pD).map .sh) [] = some ((T0.map pD).map .sh, .sh (.tuple [nI p.1, nI p.2])) := by
            rw [pop_ok (l := (T0 ++ [p]).map pD) (x := pD p) (by simp)]
            simp [pD]
          have p1 := pop_run (Γ := Γ_law_closed) (t := telD k mv tl) (pr := .tuple (ps.map pD)) (b := true) (K := kn K) (x5 := x5) (x6 := x6) (x7 := x7) (x8 := x8) pop
          obtain ⟨N, y5, y8, e, n1, n2, n3⟩ := innerL (tl := tl) (pr := .tuple (ps.map pD)) (b := true) (x5 := x5) (x8 := x8) (T := T0) ok pin w1 all (by omega)
          have hR : ∀ x ∈ K ++ N, Rch mv (kk true k) ps x := fun x hx => by
            rcases List.mem_append.mp hx with hx | hx
            · exact w4 x hx
            · obtain ⟨l, hl, rfl⟩ := n2 x hx
              exact .step (w4 p (w2 p (by simp))) hl
          have hlen2 := few ok.m8 n1 fun x hx => (hR x hx).inn ok (by unfold kk; simp) hp
          rw [List.length_append] at hlen2
          refine ⟨_, _, m - 1, lc, .inl (gos_step p1 (gos_step e rfl)), by omega, K ++ N, T0 ++ N, y5, _, _, y8, rfl, n1, fun x hx => ?_, fun x hx => List.mem_append_left _ (w3 x hx), hR, fun x hx hnx l hl => ?_, by rw [List.length_append, List.length_append]; omega, .inr (by rw [List.length_append, List.length_append]; omega)⟩
          · rcases List.mem_append.mp hx with hx | hx
            · exact List.mem_append_left _ (w2 x (List.mem_append_left _ hx))
            · exact List.mem_append_right _ hx
          · rcases List.mem_append.mp hx with hx | hx
            · by_cases g : x = p
              · subst g
                exact n3 l hl
              · refine List.mem_append_left _ (w5 x hx (fun q => ?_) l hl)
                rcases List.mem_append.mp q with q | q
                · exact hnx (List.mem_append_left _ q)
                · rw [List.mem_singleton] at q; exact g q
            · exact absurd (List.mem_append_right _ hx) hnx)
    fuel (ps.length + (64 - K0.length) + 1) (eL (telD k mv tl) (.tuple (ps.map pD)) b (kn K0) ((ps.map pD).map .sh) none none none none) ⟨K0, ps, none, none, none, none, rfl, k0n, fun x hx => (k0m x).mpr hx, fun x hx => (k0m x).mpr hx, fun x hx => .base ((k0m x).mp hx), fun x hx hn => absurd ((k0m x).mp hx) hn, by omega, .inr rfl⟩ (by unfold fuel; omega)
  have s2 : go Γ_law_closed (.whl lC [sPop, sLet]) (eL (telD k mv tl) (.tuple (ps.map pD)) b (kn K0) ((ps.map pD).map .sh) none none none none) = .nx (eL (telD k mv tl) (.tuple (ps.map pD)) b (kn K) ((T.map pD).map .sh) x5 x6 x7 x8) := by
    rw [go_whl]; exact e2
  have s3 := l3_run (Γ := Γ_law_closed) (t := telD k mv tl) (pr := .tuple (ps.map pD)) (b := b) (M := (T.map pD).map .sh) (x5 := x5) (x6 := x6) (x7 := x7) (x8 := x8) (show oSorted (kn K) = _ from sorted_dd K (K.map fun _ => tr)) (oTup_ls ((sortP K).map pD))
  refine ⟨sortP K, ?_, asc_sort w1, fun x => ?_⟩
  · rw [m_lc0, b_lc]
    exact runD_rt rfl rfl (gos_step s1 (gos_step s2 (gos_last s3))) rfl
  · rw [sortP_mem]
    constructor
    · exact w4 x
    · intro h
      induction h with
      | base h => exact w3 _ h
      | step _ hl ih =>
        rcases w7 with ⟨_, q | q⟩ | q
        · exact w5 _ ih (by rw [q]; simp) _ hl
        · subst q
          unfold kk at hl
          simp at hl
        · omega
end
end T19
namespace T19
open PySem PySem.Spec L2 Ab
open Vs hiding Env
open PyProof.Rows hiding St
/-! ### what can be shown -/
theorem gs_tup {l : List PyData} {a w n : Nat} (h : ∀ p ∈ l, Gs a w p) (hl : l.length ≤ n) : Gs (a + 1) (n * (w + 1) + 1) (.tuple l) := by
  obtain ⟨x, y, z⟩ := gss_of h
  refine ⟨by simpa [gdS] using x, by simp only [PyData.depth]; omega, ?_⟩
  simp only [PyData.weight]
  have := Nat.mul_le_mul_right (w + 1) hl
  omega
theorem gs_list {l : List PyData} {a w n : Nat} (h : ∀ p ∈ l, Gs a w p) (hl : l.length ≤ n) : Gs (a + 1) (n * (w + 1) + 1) (.list l) := by
  obtain ⟨x, y, z⟩ := gss_of h
  refine ⟨by simpa [gdS] using x, by simp only [PyData.depth]; omega, ?_⟩
  simp only [PyData.weight]
  have := Nat.mul_le_mul_right (w + 1) hl
  omega
theorem gs_nI {n : Nat} (h : n < 100) : Gs 0 100 (nI n) := by
  refine ⟨?_, Nat.le_refl _, ?_⟩
  · simp only [gdS, decide_eq_true_eq, Int.natAbs_natCast]
    have : (100 : Nat) < 10 ^ 44 := by decide
    omega
  · simp only [PyData.weight, Int.natAbs_natCast]
    split
    · omega
    · have := Nat.log2_le_self n
      omega
theorem gs_row {L : List Nat} {n : Nat} (hn : L.length ≤ n) (h : ∀ x ∈ L, x < 100) : Gs 1 (n * 101 + 1) (rowD L) := gs_tup (fun p hp => by
  obtain ⟨x, hx, rfl⟩ := List.mem_map.mp hp
  exact gs_nI (h x hx)) (by simpa using hn)
theorem gs_pD {p : Pt} (h1 : p.1 < 100) (h2 : p.2 < 100) : Gs 1 203 (pD p) := gs_tup (l := [nI p.1, nI p.2]) (n := 2) (fun q hq => by
  simp only [List.mem_cons, List.not_mem_nil, or_false] at hq
  rcases hq with rfl | rfl
  · exact gs_nI h1
  · exact gs_nI h2) (by simp)
theorem gs_pDs {L : List Pt} (hl : L.length ≤ 64) (h : ∀ p ∈ L, p.1 < 100 ∧ p.2 < 100) : Gs 2 (64 * 204 + 1) (.tuple (L.map pD)) := gs_tup (fun q hq => by
  obtain ⟨p, hp, rfl⟩ := List.mem_map.mp hq
  exact gs_pD (h p hp).1 (h p hp).2) (by simpa using hl)
theorem gs_tel {k : Nat} {mv : List (List Nat)} {tl : List Nat} (ok : TelOk k mv) (h1 : tl.length = mv.length) (h2 : ∀ x ∈ tl, x < 10) : Gs 3 (3 * 10001 + 1) (telD k mv tl) := by
  have := ok.m8
  have := ok.k3
  refine gs_tup (n := 3) (fun q hq => ?_) (by simp)
  simp only [List.mem_cons, List.not_mem_nil, or_false] at hq
  rcases hq with rfl | rfl | rfl
  · exact (gs_nI (by omega)).mono (by omega) (by omega)
  · refine (gs_tup (a := 1) (w := 3 * 101 + 1) (n := 8) (fun q hq => ?_) (by simpa using ok.m8)).mono (by omega) (by omega)
    obtain ⟨r, hr, rfl⟩ := List.mem_map.mp hq
    obtain ⟨a, b⟩ := ok.row r hr
    exact gs_row (by omega) fun x hx => by have := b x hx; omega
  · exact (gs_row (n := 8) (by omega) fun x hx => by have := h2 x hx; omega).mono (by omega) (by omega)
theorem sh_str {p : PyData} (h : gdS p = true) : SeqAt.shaped (.str p.shown) = true := by
  have := ok_iff.mpr (ok_shownS h)
  simp [SeqAt.shaped, PyData.canLay0, PyData.depth, this]
theorem sh_str2 {p q : PyData} (h : gdS p = true) (g : gdS q = true) : SeqAt.shaped (.tuple [.str p.shown, .str q.shown]) = true := by
  have h1 := ok_iff.mpr (ok_shownS h)
  have h2 := ok_iff.mpr (ok_shownS g)
  simp [SeqAt.shaped, PyData.canLay0, PyData.canLayAll0, PyData.depth, PyData.depthAll, h1, h2]
theorem eqvS (s : Str) : PyData.eqv (.str s) (.str s) = true := by simp [PyData.eqv]
theorem ne_str {p : PyData} (h : gdS p = true) : oEq true (.sh (.str p.shown)) (.sh (.str p.shown)) = some (.sh (.bool false)) := by
  have : oEq true (.sh (.str p.shown)) (.sh (.str p.shown)) = guardO (SeqAt.shaped (.str p.shown) && SeqAt.shaped (.str p.shown)) (DB (true != PyData.eqv (.str p.shown) (.str p.shown))) := rfl
  rw [this, sh_str h, eqvS]
  rfl
theorem ne_str2 {p q : PyData} (h : gdS p = true) (g : gdS q = true) : oEq true (.sh (.tuple [.str p.shown, .str q.shown])) (.sh (.tuple [.str p.shown, .str q.shown])) = some (.sh (.bool false)) := by
  have e : PyData.eqv (.tuple [.str p.shown, .str q.shown]) (.tuple [.str p.shown, .str q.shown]) = true := by simp [PyData.eqv, PyData.eqvAll]
  have : oEq true (.sh (.tuple [.str p.shown, .str q.shown])) (.sh (.tuple [.str p.shown, .str q.shown])) = guardO (SeqAt.shaped (.tuple [.str p.shown, .str q.shown]) && SeqAt.shaped (.tuple [.str p.shown, .str q.shown])) (DB (true != PyData.eqv (.tuple [.str p.shown, .str q.shown]) (.tuple [.str p.shown, .str q.shown]))) := rfl
  rw [this, sh_str2 h g, e]
  rfl
/-! ### the inner loop -/
abbrev u1 : List Sm := [.frz 3, .asg (.tp [10, 11]) (.tup [.call "_law_closed" [.rd 3, .rd 4, .rd 5] [] [] [0, 1, 2], .op .repr [.vw 4 []]])]
abbrev u2 : List Sm := [.frz 3, .asg (.nm 8) (.lst [.call "closed" [.rd 3, .rd 4, .rd 5] [] [] [0, 1, 2], .call "closed" [] [.rd 5, .rd 4, .rd 3] ["is_typed", "pairs", "teller"] [2, 1, 0]])]
abbrev u3 : List Sm := [.frz 10, .frz 3, .ite (.bop false [.op .ne [.op .repr [.vw 8 []], .op .repr [.lst [.rd 10, .rd 10]]], .op .ne [.op .repr [.call "closed" [.rd 3, .rd 10, .rd 5] [] [] [0, 1, 2]], .op .repr [.vw 10 []]]]) [.ret (.lit (.bool false))] []]
abbrev u4 : List Sm := [.frz 3, .asg (.nm 9) (.call "closed" [.rd 3, .op .slL [.vw 4 [], .lit (.int 1)], .rd 5] [] [] [0, 1, 2])]
abbrev u5 : List Sm := [.frz 3, .ite (.op .ne [.op .repr [.vw 9 []], .op .repr [.call "_law_closed" [.rd 3, .op .slL [.vw 4 [], .lit (.int 1)], .rd 5] [] [] [0, 1, 2]]]) [.ret (.lit (.bool false))] []]
abbrev u6 : List Sm := [.frz 9, .ite (.bop false [.op .ne [.lc [13] (.nm 13) .seq [.rd 9] [.op .notin [.vw 13 [], .vw 10 []]] (.rd 13), .lst []], .op .ne [.tup [.op .repr [.vw 3 []], .op .repr [.vw 4 []]], .tup [.rd 7, .rd 11]]]) [.ret (.lit (.bool false))] []]
abbrev bIn : List Sm := u1 ++ (u2 ++ (u3 ++ (u4 ++ (u5 ++ u6))))
def eI (x0 x1 x2 : Option D) (T P : PyData) (b : Bool) (x6 : Option D) (sT : Str) (x8 x9 x10 x11 : Option D) : Vs.Env := [x0, x1, x2, some (.sh T), some (.sh P), some (.sh (.bool b)), x6, some (.sh (.str sT)), x8, x9, x10, x11, none, none]
section
variable {Γ : Gam} {dl dc : Den} {T P Q R F : PyData} {b : Bool} {x0 x1 x2 x6 x8 x9 x10 x11 : Option D} {sT sP sR sF sL : Str}
theorem u1_run (hl : Γ.fn (Str.ofString "_law_closed") = some dl) (hio : dl.io = [false, false, false]) (e1 : dl.m [.sh T, .sh P, .sh (.bool b)] = .ok (.sh R) []) (rP : oRepr (.sh P) = some (.sh (.str sP))) :
    gos Γ u1 (eI x0 x1 x2 T P b x6 sT x8 x9 x10 x11) = .nx (eI x0 x1 x2 T P b x6 sT x8 x9 (some (.sh R)) (some (.sh (.str sP)))) := by
  have mk : mkTup [.sh R, .sh (.str sP)] = .sh (.tuple [R, .str sP]) := rfl
  simp [eI, wrapO, hl, hio, e1, rP, mk, D.fz]
theorem u2_run (hc : Γ.fn (Str.ofString "closed") = some dc) (hio : dc.io = [false, false, false]) (e2 : dc.m [.sh T, .sh P, .sh (.bool b)] = .ok (.sh R) []) :
    gos Γ u2 (eI x0 x1 x2 T P b x6 sT x8 x9 x10 x11) = .nx (eI x0 x1 x2 T P b x6 sT (some (.ls [.sh R, .sh R])) x9 x10 x11) := by
  have ar : arr [Str.ofString "is_typed", Str.ofString "pairs", Str.ofString "teller"] [2, 1, 0] [Ov.d (.sh (.bool b)), Ov.d (.sh P), Ov.d (.sh T)] = some [Ov.d (.sh T), Ov.d (.sh P), Ov.d (.sh (.bool b))] := rfl
  simp [eI, wrapO, hc, hio, e2, D.fz, ar]
theorem u3_run (hc : Γ.fn (Str.ofString "closed") = some dc) (hio : dc.io = [false, false, false]) (e3 : dc.m [.sh T, .sh R, .sh (.bool b)] = .ok (.sh R) []) (rL : oRepr (.ls [.sh R, .sh R]) = some (.sh (.str sL))) (rR : oRepr (.sh R) = some (.sh (.str sR)))
    (n1 : oEq true (.sh (.str sL)) (.sh (.str sL)) = some (.sh (.bool false))) (n2 : oEq true (.sh (.str sR)) (.sh (.str sR)) = some (.sh (.bool false))) :
    gos Γ u3 (eI x0 x1 x2 T P b x6 sT (some (.ls [.sh R, .sh R])) x9 (some (.sh R)) x11) = .nx (eI x0 x1 x2 T P b x6 sT (some (.ls [.sh R, .sh R])) x9 (some (.sh R)) x11) := by
  simp [eI, wrapO, hc, hio, e3, rL, rR, n1, n2, D.fz]
theorem u4_run (hc : Γ.fn (Str.ofString "closed") = some dc) (hio : dc.io = [false, false, false]) (sl : oSl (some 1) none (.sh P) = some (.sh Q)) (e4 : dc.m [.sh T, .sh Q, .sh (.bool b)] = .ok (.sh F) []) :
    gos Γ u4 (eI x0 x1 x2 T P b x6 sT x8 x9 x10 x11) = .nx (eI x0 x1 x2 T P b x6 sT x8 (some (.sh F)) x10 x11) := by
  simp [eI, wrapO, hc, hio, sl, e4, D.fz]
theorem u5_run (hl : Γ.fn (Str.ofString "_law_closed") = some dl) (hio : dl.io = [false, false, false]) (sl : oSl (some 1) none (.sh P) = some (.sh Q)) (e5 : dl.m [.sh T, .sh Q, .sh (.bool b)] = .ok (.sh F) []) (rF : oRepr (.sh F) = some (.sh (.str sF))) (n : oEq true (.sh (.str sF)) (.sh (.str sF)) = some (.sh (.bool false))) :
    gos Γ u5 (eI x0 x1 x2 T P b x6 sT x8 (some (.sh F)) x10 x11) = .nx (eI x0 x1 x2 T P b x6 sT x8 (some (.sh F)) x10 x11) := by
  simp [eI, wrapO, hl, hio, sl, e5, rF, n, D.fz]
theorem u6_run (lc : lcE [13] (.nm 13) .seq [.e (ev Γ (.rd 9))] (ifT [evT Γ (.op .notin [.vw 13 [], .vw 10 []])]) (ev Γ (.rd 13)) (eI x0 x1 x2 T P b x6 sT x8 (some (.sh F)) x10 (some (.sh (.str sP)))) = .ok (.ls [], eI x0 x1 x2 T P b x6 sT x8 (some (.sh F)) x10 (some (.sh (.str sP)))))
    (rT : oRepr (.sh T) = some (.sh (.str sT))) (rP : oRepr (.sh P) = some (.sh (.str sP))) (n : oEq true (.sh (.tuple [.str sT, .str sP])) (.sh (.tuple [.str sT, .str sP])) = some (.sh (.bool false))) :
    gos Γ u6 (eI x0 x1 x2 T P b x6 sT x8 (some (.sh F)) x10 (some (.sh (.str sP)))) = .nx (eI x0 x1 x2 T P b x6 sT x8 (some (.sh F)) x10 (some (.sh (.str sP)))) := by
  have mk : mkTup [.sh (.str sT), .sh (.str sP)] = .sh (.tuple [.str sT, .str sP]) := rfl
  have nl : oEq true (.ls []) (.ls []) = some (.sh (.bool false)) := by
    have := ne_pD []
    exact this
  unfold eI at *
  simp [wrapO, lc, rT, rP, n, mk, nl, D.fz]
end
end T19
namespace T19
open PySem PySem.Spec L2 Ab
open Vs hiding Env
open PyProof.Rows hiding St
theorem gos_append {Γ : Gam} : ∀ {a b : List Sm} {ρ : Vs.Env}, gos Γ (a ++ b) ρ = (gos Γ a ρ).seq (gos Γ b)
  | [], b, ρ => rfl
  | s :: a, b, ρ => by
    rw [List.cons_append, gos_cons, gos_cons]
    cases go Γ s ρ with
    | nx ρ1 => rw [seq_nx, seq_nx]; exact gos_append
    | _ => rfl
theorem seq_step {Γ : Gam} {a b : List Sm} {ρ ρ1 : Vs.Env} {o : Out} (h : gos Γ a ρ = .nx ρ1) (g : gos Γ b ρ1 = o) : gos Γ (a ++ b) ρ = o := by
  rw [gos_append, h, seq_nx]; exact g
theorem sIx_pos {n : Nat} {z : Nat} {i : Int} (h : 0 ≤ i) : HT.sIx n z (some i) = min i.toNat n := by
  simp only [HT.sIx]
  rw [if_neg (by omega)]
theorem cut_from {l : List PyData} {k : Int} (h : 0 ≤ k) : cutL l (some k) none = l.drop k.toNat := by
  unfold cutL
  rw [sIx_pos h, HT.sIx_none]
  by_cases h2 : k.toNat ≤ l.length
  · rw [Nat.min_eq_left h2]
    rw [List.take_of_length_le (by simp)]
  · rw [Nat.min_eq_right (by omega), List.drop_of_length_le (Nat.le_refl _), List.drop_of_length_le (by omega)]
    simp
theorem sl_drop (L : List Pt) : oSl (some 1) none (.sh (.tuple (L.map pD))) = some (.sh (.tuple ((L.drop 1).map pD))) := by
  show some (D.sh (.tuple (cutL (L.map pD) (some 1) none))) = _
  rw [cut_from (by omega), List.map_drop]
  rfl
theorem sl_take (L : List Pt) : oSl none (some 1) (.sh (.tuple (L.map pD))) = some (.sh (.tuple ((L.take 1).map pD))) := by
  show some (D.sh (.tuple (cutL (L.map pD) none (some 1)))) = _
  rw [cut_H (by omega), List.map_take]
  rfl
theorem pDt_shaped (L : List Pt) : SeqAt.shaped (.tuple (L.map pD)) = true := by
  have := pD_depth L
  have h : (PyData.tuple (L.map pD)).depth ≤ 64 := by
    simp only [PyData.depth]
    omega
  have h2 : (PyData.tuple (L.map pD)).canLay0 = true := by simp only [PyData.canLay0, pDs_lay]
  unfold SeqAt.shaped
  rw [h2, decide_eq_true h]
  rfl
theorem in_pDs {L : List Pt} {p : Pt} (h : p ∈ L) : oIn true (.sh (pD p)) (.sh (.tuple (L.map pD))) = some (.sh (.bool false)) := by
  have a : ((L.map pD).any fun z => PyData.eqv z (pD p)) = true := by
    rw [List.any_eq_true]
    exact ⟨pD p, List.mem_map.mpr ⟨p, h, rfl⟩, by rw [eqv_pD]; simp⟩
  have e : oIn true (.sh (pD p)) (.sh (.tuple (L.map pD))) = guardO (SeqAt.shaped (pD p) && SeqAt.shaped (.tuple (L.map pD))) (DB (true != (L.map pD).any fun z => PyData.eqv z (pD p))) := rfl
  rw [e, pD_shaped, pDt_shaped, a]
  rfl
section
variable {k : Nat} {mv : List (List Nat)} {tl : List Nat} {ps : List Pt}
theorem rch_closed {R : List Pt} (h : ∀ x, x ∈ R ↔ Rch mv k ps x) (x : Pt) : Rch mv k R x ↔ x ∈ R := by
  constructor
  · intro g
    induction g with
    | base g => exact g
    | step _ hl ih => exact (h _).mpr (.step ((h _).mp ih) hl)
  · exact .base
theorem rch_sub {qs : List Pt} (h : ∀ x ∈ qs, x ∈ ps) {x : Pt} (g : Rch mv k qs x) : Rch mv k ps x := by
  induction g with
  | base g => exact .base (h _ g)
  | step _ hl ih => exact .step ih hl
theorem fn_Lc : Γ_law.fn (Str.ofString "closed") = some d_closed := by simp [Γ_law]
theorem fn_Ll : Γ_law.fn (Str.ofString "_law_closed") = some d_law_closed := by
  unfold Γ_law
  dsimp only
  iterate 6 rw [if_neg (by decide +kernel)]
  rw [if_pos rfl]
theorem io_cl : d_closed.io = [false, false, false] := rfl
theorem io_lc : d_law_closed.io = [false, false, false] := rfl
theorem in_ok (b : Bool) (ok : TelOk k mv) (h1 : tl.length = mv.length) (h2 : ∀ x ∈ tl, x < 10) (hp : ∀ q ∈ ps, In mv q) (hl : ps.length ≤ 60) {x0 x1 x2 x6 x8 x9 x10 x11 : Option D} :
    ∃ y8 y9 y10 y11, gos Γ_law bIn (eI x0 x1 x2 (telD k mv tl) (.tuple (ps.map pD)) b x6 (telD k mv tl).shown x8 x9 x10 x11) = .nx (eI x0 x1 x2 (telD k mv tl) (.tuple (ps.map pD)) b x6 (telD k mv tl).shown y8 y9 y10 y11) := by
  have hkk : kk b k ≤ k := by unfold kk; split <;> omega
  obtain ⟨R, e1, rA, rM⟩ := m_lclosed (tl := tl) (ps := ps) b ok hp (by omega)
  have rIn : ∀ x ∈ R, In mv x := fun x hx => ((rM x).mp hx).inn ok hkk hp
  have rl := few ok.m8 rA.2 rIn
  have e2 : d_closed.m [.sh (telD k mv tl), .sh (.tuple (ps.map pD)), .sh (.bool b)] = .ok (.sh (.tuple (R.map pD))) [] := by
    obtain ⟨R', e2, rA', rM'⟩ := m_closed (tl := tl) (ps := ps) b ok hp (by omega)
    rw [e2, asc_ext rA' rA fun x => by rw [rM', rM]]
  have e3 : d_closed.m [.sh (telD k mv tl), .sh (.tuple (R.map pD)), .sh (.bool b)] = .ok (.sh (.tuple (R.map pD))) [] := by
    obtain ⟨R', e2, rA', rM'⟩ := m_closed (tl := tl) (ps := R) b ok rIn (by omega)
    rw [e2, asc_ext rA' rA fun x => by rw [rM', rch_closed rM]]
  have qs : ∀ x ∈ ps.drop 1, x ∈ ps := fun x hx => List.mem_of_mem_drop hx
  have ql : (ps.drop 1).length ≤ 60 := by simp; omega
  obtain ⟨F, e5, fA, fM⟩ := m_lclosed (tl := tl) (ps := ps.drop 1) b ok (fun x hx => hp x (qs x hx)) (by omega)
  have fIn : ∀ x ∈ F, In mv x := fun x hx => ((fM x).mp hx).inn ok hkk fun x hx => hp x (qs x hx)
  have fl := few ok.m8 fA.2 fIn
  have e4 : d_closed.m [.sh (telD k mv tl), .sh (.tuple ((ps.drop 1).map pD)), .sh (.bool b)] = .ok (.sh (.tuple (F.map pD))) [] := by
    obtain ⟨R', e2, rA', rM'⟩ := m_closed (tl := tl) (ps := ps.drop 1) b ok (fun x hx => hp x (qs x hx)) (by omega)
    rw [e2, asc_ext rA' fA fun x => by rw [rM', fM]]
  have sub : ∀ x ∈ F, x ∈ R := fun x hx => (rM x).mpr (rch_sub qs ((fM x).mp hx))
  have m8 := ok.m8
  have small : ∀ {L : List Pt}, (∀ x ∈ L, In mv x) → ∀ p ∈ L, p.1 < 100 ∧ p.2 < 100 := fun h p hp => ⟨by have := (h p hp).1; omega, by have := (h p hp).2; omega⟩
  have gT := gs_tel ok h1 h2
  have gP := gs_pDs (L := ps) (by omega) (small hp)
  have gR := gs_pDs (L := R) rl (small rIn)
  have gF := gs_pDs (L := F) fl (small fIn)
  have gL := gs_list (l := [.tuple (R.map pD), .tuple (R.map pD)]) (n := 2) (fun p hp => by
    simp only [List.mem_cons, List.not_mem_nil, or_false, or_self] at hp
    subst hp
    exact gR) (by simp)
  have rT := gT.repr (x := .sh (telD k mv tl)) rfl (by omega) (by omega)
  have rP := gP.repr (x := .sh (.tuple (ps.map pD))) rfl (by omega) (by omega)
  have rR := gR.repr (x := .sh (.tuple (R.map pD))) rfl (by omega) (by omega)
  have rF := gF.repr (x := .sh (.tuple (F.map pD))) rfl (by omega) (by omega)
  have rL := gL.repr (x := .ls [.sh (.tuple (R.map pD)), .sh (.tuple (R.map pD))]) rfl (by omega) (by omega)
  have lc : lcL [13] (.nm 13) (ifT [evT Γ_law (.op .notin [.vw 13 [], .vw 10 []])]) (ev Γ_law (.rd 13)) (F.map pD) (eI x0 x1 x2 (telD k mv tl) (.tuple (ps.map pD)) b x6 (telD k mv tl).shown (some (.ls [.sh (.tuple (R.map pD)), .sh (.tuple (R.map pD))])) (some (.sh (.tuple (F.map pD)))) (some (.sh (.tuple (R.map pD)))) (some (.sh (.str (PyData.tuple (ps.map pD)).shown)))) [] = some ([], eI x0 x1 x2 (telD k mv tl) (.tuple (ps.map pD)) b x6 (telD k mv tl).shown (some (.ls [.sh (.tuple (R.map pD)), .sh (.tuple (R.map pD))])) (some (.sh (.tuple (F.map pD)))) (some (.sh (.tuple (R.map pD)))) (some (.sh (.str (PyData.tuple (ps.map pD)).shown)))) := by
    rw [lcL_filter (fun _ => false) .sh]
    · simp
    · intro p hp
      obtain ⟨q, hq, rfl⟩ := List.mem_map.mp hp
      have n := in_pDs (sub q hq)
      refine ⟨[x0, x1, x2, some (.sh (telD k mv tl)), some (.sh (.tuple (ps.map pD))), some (.sh (.bool b)), x6, some (.sh (.str (telD k mv tl).shown)), (some (.ls [.sh (.tuple (R.map pD)), .sh (.tuple (R.map pD))])), (some (.sh (.tuple (F.map pD)))), (some (.sh (.tuple (R.map pD)))), (some (.sh (.str (PyData.tuple (ps.map pD)).shown))), none, some (.sh (pD q))], rfl, ?_, (fun h => by cases h), rfl⟩
      generalize pD q = Q at *
      generalize PyData.tuple (R.map pD) = RR at *
      generalize PyData.tuple (F.map pD) = FF at *
      generalize PyData.tuple (ps.map pD) = PP at *
      generalize telD k mv tl = TT at *
      simp [wrapO, n]
    · simp; omega
  have lc' := lcE_run (k := .seq) (ops := [Sop.e (ev Γ_law (.rd 9))]) (ρ := eI x0 x1 x2 (telD k mv tl) (.tuple (ps.map pD)) b x6 (telD k mv tl).shown (some (.ls [.sh (.tuple (R.map pD)), .sh (.tuple (R.map pD))])) (some (.sh (.tuple (F.map pD)))) (some (.sh (.tuple (R.map pD)))) (some (.sh (.str (PyData.tuple (ps.map pD)).shown)))) (ρ1 := eI x0 x1 x2 (telD k mv tl) (.tuple (ps.map pD)) b x6 (telD k mv tl).shown (some (.ls [.sh (.tuple (R.map pD)), .sh (.tuple (R.map pD))])) (some (.sh (.tuple (F.map pD)))) (some (.sh (.tuple (R.map pD)))) (some (.sh (.str (PyData.tuple (ps.map pD)).shown)))) (os := [.d (.sh (.tuple (F.map pD)))]) (ds := [.sh (.tuple (F.map pD))]) (by simp [eI]) (by simp [ovs]) rfl lc rfl
  exact ⟨_, _, _, _, seq_step (u1_run fn_Ll io_lc e1 rP) (seq_step (u2_run fn_Lc io_cl e2) (seq_step (u3_run fn_Lc io_cl e3 rL rR (ne_str gL.ok) (ne_str gR.ok)) (seq_step (u4_run fn_Lc io_cl (sl_drop ps) e4) (seq_step (u5_run fn_Ll io_lc (sl_drop ps) e5 rF (ne_str gF.ok)) (u6_run lc' rT rP (ne_str2 gT.ok gP.ok))))))⟩
end
end T19
namespace T19
open PySem PySem.Spec L2 Ab
open Vs hiding Env
open PyProof.Rows hiding St
abbrev c1 : Sm := .asg (.nm 3) (.ite (.op .eq [.vw 2 [], .lit (.int 3)]) (.call "_law_teller" [.vw 1 [], .fz (.op .add [.lit (.int 1), .call "_law_draw" [.vw 1 [], .lit (.int 3)] [] [] [0, 1]]), .lit (.int 8), .lit (.int 2)] [] [] [0, 1, 2, 3]) (.call "_law_some_teller" [.vw 1 []] [] [] [0]))
abbrev c2 : Sm := .asg (.tp [6, 7]) (.tup [.op .len [.op .ix [.vw 3 [], .lit (.int 1)]], .op .repr [.vw 3 []]])
abbrev fR : Ex := .fz (.call "_law_row" [.vw 1 [], .rd 6, .lit (.int 2)] [] [] [0, 1, 2])
abbrev c3 : Sm := .asg (.nm 4) (.op .tuple [.lc [12] (.nm 12) .rng [.call "_law_draw" [.vw 1 [], .lit (.int 7)] [] [] [0, 1]] [] fR])
abbrev c4 : Sm := .ite (.bop true [.op .ne [.vw 4 [], .tup []], .op .eq [.call "_law_draw" [.vw 1 [], .lit (.int 3)] [] [] [0, 1], .lit (.int 0)]]) [.asg (.nm 4) (.op .add [.vw 4 [], .op .slH [.vw 4 [], .lit (.int 1)]])] []
abbrev tT : Ex := .tup [.op .eq [.op .mod [.vw 2 [], .lit (.int 2)], .lit (.int 0)], .op .eq [.op .mod [.vw 2 [], .lit (.int 2)], .lit (.int 1)]]
abbrev c5 : Sm := .lop (.nm 5) .seq [tT] bIn
theorem b_law_eq : b_law = [.asg (.nm 1) (.call "_law_pot" [.rd 0] [] [] [0]), .lop (.nm 2) .rng [.lit (.int 4)] [c1, c2, c3, c4, c5], .ret (.lit (.bool true))] := rfl
def eO (x0 : Option D) (d : D) (i : Nat) (x3 x4 x5 x6 x7 x8 x9 x10 x11 : Option D) : Vs.Env := [x0, some d, some (.sh (nI i)), x3, x4, x5, x6, x7, x8, x9, x10, x11, none, none]
section
variable {Γ : Gam} {dd dt ds dr : Den} {d d1 d2 : D} {T P P2 M : PyData} {i r m q : Nat} {x0 x3 x4 x5 x6 x7 x8 x9 x10 x11 : Option D} {sT : Str}
theorem c1_a (hs : Γ.fn (Str.ofString "_law_some_teller") = some ds) (hio : ds.io = [true]) (hi : i ≠ 3) (e : ds.m [d] = .ok (.sh T) [d1]) :
    go Γ c1 (eO x0 d i x3 x4 x5 x6 x7 x8 x9 x10 x11) = .nx (eO x0 d1 i (some (.sh T)) x4 x5 x6 x7 x8 x9 x10 x11) := by
  have z : ¬ (i : Int) = 3 := by omega
  simp [eO, wrapO, hs, hio, oEq, z, e]
theorem c1_b (ht : Γ.fn (Str.ofString "_law_teller") = some dt) (hio : dt.io = [true, false, false, false]) (hd : Γ.fn (Str.ofString "_law_draw") = some dd) (hio2 : dd.io = [true, false]) (hi : i = 3) (e : dd.m [d, .sh (nI 3)] = .ok (.sh (nI r)) [d1]) (e2 : dt.m [d1, .sh (nI (1 + r)), .sh (nI 8), .sh (nI 2)] = .ok (.sh T) [d2]) :
    go Γ c1 (eO x0 d i x3 x4 x5 x6 x7 x8 x9 x10 x11) = .nx (eO x0 d2 i (some (.sh T)) x4 x5 x6 x7 x8 x9 x10 x11) := by
  subst hi
  have z : ((3 : Nat) : Int) = 3 := rfl
  have z1 : ((1 + r : Nat) : Int) = 1 + (r : Int) := by omega
  have z2 : ((8 : Nat) : Int) = 8 := rfl
  have z3 : ((2 : Nat) : Int) = 2 := rfl
  unfold nI at e e2
  rw [z] at e
  rw [z1, z2, z3] at e2
  simp [eO, wrapO, ht, hio, hd, hio2, oEq, e, e2, D.fz, fzE_eq]
theorem c2_run (ix : oIx (.sh T) (.sh (.int 1)) = some (.sh M)) (ln : oLen (.sh M) = some (.sh (nI m))) (rT : oRepr (.sh T) = some (.sh (.str sT))) :
    go Γ c2 (eO x0 d i (some (.sh T)) x4 x5 x6 x7 x8 x9 x10 x11) = .nx (eO x0 d i (some (.sh T)) x4 x5 (some (.sh (nI m))) (some (.sh (.str sT))) x8 x9 x10 x11) := by
  have mk : mkTup [.sh (nI m), .sh (.str sT)] = .sh (.tuple [nI m, .str sT]) := rfl
  simp [eO, wrapO, ix, ln, rT, mk]
theorem fR_run {p : PyData} (hr : Γ.fn (Str.ofString "_law_row") = some dr) (hio : dr.io = [true, false, false]) (e : dr.m [d, .sh (nI m), .sh (nI 2)] = .ok (.sh p) [d1]) {y : Option D} :
    ev Γ fR [x0, some d, some (.sh (nI i)), x3, x4, x5, some (.sh (nI m)), x7, x8, x9, x10, x11, y, none] = .ok (.sh p, [x0, some d1, some (.sh (nI i)), x3, x4, x5, some (.sh (nI m)), x7, x8, x9, x10, x11, y, none]) := by
  have z3 : ((2 : Nat) : Int) = 2 := rfl
  unfold nI at e
  rw [z3] at e
  simp [hr, hio, e, D.fz, fzE_eq]
theorem c3_run {xs : List PyData} (e : lcE [12] (.nm 12) .rng [.e (ev Γ (.call "_law_draw" [.vw 1 [], .lit (.int 7)] [] [] [0, 1]))] (ifT []) (ev Γ fR) (eO x0 d i x3 x4 x5 x6 x7 x8 x9 x10 x11) = .ok (.ls (xs.map .sh), eO x0 d1 i x3 x4 x5 x6 x7 x8 x9 x10 x11)) :
    go Γ c3 (eO x0 d i x3 x4 x5 x6 x7 x8 x9 x10 x11) = .nx (eO x0 d1 i x3 (some (.sh (.tuple xs))) x5 x6 x7 x8 x9 x10 x11) := by
  have t := oTup_ls xs
  unfold eO at *
  generalize xs.map D.sh = X at *
  simp [wrapO, e, t]
theorem c4_nil (n : oEq true (.sh P) (.sh (.tuple [])) = some (.sh (.bool false))) : go Γ c4 (eO x0 d i x3 (some (.sh P)) x5 x6 x7 x8 x9 x10 x11) = .nx (eO x0 d i x3 (some (.sh P)) x5 x6 x7 x8 x9 x10 x11) := by
  have mk : mkTup [] = .sh (.tuple []) := rfl
  simp [eO, wrapO, mk, n]
theorem c4_no (n : oEq true (.sh P) (.sh (.tuple [])) = some (.sh (.bool true))) (hd : Γ.fn (Str.ofString "_law_draw") = some dd) (hio2 : dd.io = [true, false]) (e : dd.m [d, .sh (nI 3)] = .ok (.sh (nI r)) [d1]) (hr : r ≠ 0) :
    go Γ c4 (eO x0 d i x3 (some (.sh P)) x5 x6 x7 x8 x9 x10 x11) = .nx (eO x0 d1 i x3 (some (.sh P)) x5 x6 x7 x8 x9 x10 x11) := by
  have mk : mkTup [] = .sh (.tuple []) := rfl
  have z : ((3 : Nat) : Int) = 3 := rfl
  unfold nI at e
  rw [z] at e
  have hz : ¬ (r : Int) = 0 := by omega
  have q : oEq false (.sh (.int (r : Int))) (.sh (.int 0)) = some (.sh (.bool false)) := by simp [oEq, hr]
  simp [eO, wrapO, mk, n, hd, hio2, e, q]
theorem c4_yes (n : oEq true (.sh P) (.sh (.tuple [])) = some (.sh (.bool true))) (hd : Γ.fn (Str.ofString "_law_draw") = some dd) (hio2 : dd.io = [true, false]) (e : dd.m [d, .sh (nI 3)] = .ok (.sh (nI r)) [d1]) (hr : r = 0) (sl : oSl none (some 1) (.sh P) = some (.sh P2)) (ad : oAdd (.sh P) (.sh P2) = some (.sh M)) :
    go Γ c4 (eO x0 d i x3 (some (.sh P)) x5 x6 x7 x8 x9 x10 x11) = .nx (eO x0 d1 i x3 (some (.sh M)) x5 x6 x7 x8 x9 x10 x11) := by
  subst hr
  have mk : mkTup [] = .sh (.tuple []) := rfl
  have z : ((3 : Nat) : Int) = 3 := rfl
  have z0 : ((0 : Nat) : Int) = 0 := rfl
  have q : oEq false (.sh (.int 0)) (.sh (.int 0)) = some (.sh (.bool true)) := rfl
  unfold nI at e
  rw [z, z0] at e
  simp [eO, wrapO, mk, n, hd, hio2, e, q, sl, ad]
theorem tT_run : runO [Sop.e (ev Γ tT)] (eO x0 d i x3 x4 x5 x6 x7 x8 x9 x10 x11) = .ok ([.d (.sh (.tuple [.bool (decide ((i : Int) % 2 = 0)), .bool (decide ((i : Int) % 2 = 1))]))], eO x0 d i x3 x4 x5 x6 x7 x8 x9 x10 x11) := by
  have mk : ∀ a b : Bool, mkTup [.sh (.bool a), .sh (.bool b)] = .sh (.tuple [.bool a, .bool b]) := fun _ _ => rfl
  simp [eO, wrapO, oEq, mk]
  constructor <;> rw [Bool.eq_iff_iff] <;> simp
end
end T19
namespace T19
open PySem PySem.Spec L2 Ab
open Vs hiding Env
open PyProof.Rows hiding St
theorem fn_Lp : Γ_law.fn (Str.ofString "_law_pot") = some d_law_pot := by
  unfold Γ_law
  dsimp only
  rw [if_neg (by decide +kernel), if_pos rfl]
theorem fn_Ld : Γ_law.fn (Str.ofString "_law_draw") = some d_law_draw := by
  unfold Γ_law
  dsimp only
  iterate 2 rw [if_neg (by decide +kernel)]
  rw [if_pos rfl]
theorem fn_Lr : Γ_law.fn (Str.ofString "_law_row") = some d_law_row := by
  unfold Γ_law
  dsimp only
  iterate 3 rw [if_neg (by decide +kernel)]
  rw [if_pos rfl]
theorem fn_Lt : Γ_law.fn (Str.ofString "_law_teller") = some d_law_teller := by
  unfold Γ_law
  dsimp only
  iterate 4 rw [if_neg (by decide +kernel)]
  rw [if_pos rfl]
theorem fn_Ls : Γ_law.fn (Str.ofString "_law_some_teller") = some d_law_some_teller := by
  unfold Γ_law
  dsimp only
  iterate 5 rw [if_neg (by decide +kernel)]
  rw [if_pos rfl]
theorem io_so : d_law_some_teller.io = [true] := rfl
theorem io_po : d_law_pot.io = [false] := rfl
/-- a turn's teller -/
theorem tel_ok {n i : Nat} {d : D} {x0 x3 x4 x5 x6 x7 x8 x9 x10 x11 : Option D} (h : PotP n d) (hn : n ≤ 100000) :
    ∃ k mv tl d', go Γ_law c1 (eO x0 d i x3 x4 x5 x6 x7 x8 x9 x10 x11) = .nx (eO x0 d' i (some (.sh (telD k mv tl))) x4 x5 x6 x7 x8 x9 x10 x11) ∧ TelOk k mv ∧ tl.length = mv.length ∧ (∀ x ∈ tl, x < 10) ∧ PotP (n + 70) d' := by
  by_cases hi : i = 3
  · obtain ⟨r, d1, e1, hr, p1⟩ := draw_N (m := 3) h (by omega) (by omega) (by omega)
    obtain ⟨mv, tl, d2, e2, ok, l1, l2, l3, p2⟩ := m_teller (k := 1 + r) (m := 8) (q := 2) p1 (by omega) (by omega) (by omega) (by omega) (by omega) (by omega) (by omega)
    exact ⟨1 + r, mv, tl, d2, c1_b fn_Lt io_tel fn_Ld io_draw hi e1 e2, ok, by omega, l3, p2.mono (by omega)⟩
  · obtain ⟨k, mv, tl, d1, e1, ok, l1, l2, p1⟩ := m_some h (by omega)
    exact ⟨k, mv, tl, d1, c1_a fn_Ls io_so hi e1, ok, l1, l2, p1⟩
/-- a turn's pairs -/
theorem prs_ok {n i m : Nat} {d : D} {x0 x3 x4 x5 x7 x8 x9 x10 x11 : Option D} (h : PotP n d) (hn : n ≤ 100000) (h1 : 1 ≤ m) (h8 : m ≤ 8) :
    ∃ (ps : List Pt) (d' : D), go Γ_law c3 (eO x0 d i x3 x4 x5 (some (.sh (nI m))) x7 x8 x9 x10 x11) = .nx (eO x0 d' i x3 (some (.sh (.tuple (ps.map pD)))) x5 (some (.sh (nI m))) x7 x8 x9 x10 x11) ∧ ps.length ≤ 6 ∧ (∀ p ∈ ps, p.1 < m ∧ p.2 < m) ∧ PotP (n + 20) d' := by
  obtain ⟨q, d1, e1, hq, p1⟩ := draw_N (m := 7) h (by omega) (by omega) (by omega)
  have hrl := rng_len q
  obtain ⟨xs, d2, e2, l1, l2, l3⟩ := lc_pot (own := [12]) (t := .nm 12) (f := ev Γ_law fR) (c := 2) (fun d => eO x0 d i x3 x4 x5 (some (.sh (nI m))) x7 x8 x9 x10 x11) (fun x => ∃ p : Pt, x = pD p ∧ (p.1 < m ∧ p.2 < m)) (rngD 0 q) p1 (by
    intro j p d hp hd
    obtain ⟨hj, rfl⟩ := rng_item hp
    obtain ⟨L, d2, e2, r1, r2, p2⟩ := m_row (k := m) (q := 2) hd (by omega) (by omega) (by omega) (by omega)
    obtain ⟨a, b, rfl⟩ : ∃ a b, L = [a, b] := by
      match L, r1 with
      | [a, b], _ => exact ⟨a, b, rfl⟩
    exact ⟨[x0, some d, some (.sh (nI i)), x3, x4, x5, some (.sh (nI m)), x7, x8, x9, x10, x11, some (.sh (nI j)), none], [x0, some d2, some (.sh (nI i)), x3, x4, x5, some (.sh (nI m)), x7, x8, x9, x10, x11, some (.sh (nI j)), none], pD (a, b), d2, rfl, fR_run fn_Lr io_row e2, rfl, ⟨(a, b), rfl, r2 a (by simp), r2 b (by simp)⟩, p2.mono (by omega)⟩) (by omega)
  rw [hrl] at l1 l3
  obtain ⟨ps, rfl, hps⟩ := rows_of (g := pD) (P := fun p => p.1 < m ∧ p.2 < m) l2
  have z7 : ((7 : Nat) : Int) = 7 := rfl
  have e1' : d_law_draw.m [d, .sh (.int 7)] = .ok (.sh (nI q)) [d1] := e1
  have l := lcE_run (own := [12]) (t := .nm 12) (k := .rng) (ops := [Sop.e (ev Γ_law (.call "_law_draw" [.vw 1 [], .lit (.int 7)] [] [] [0, 1]))]) (test := ifT []) (f := ev Γ_law fR) (ρ := eO x0 d i x3 x4 x5 (some (.sh (nI m))) x7 x8 x9 x10 x11) (ρ1 := eO x0 d1 i x3 x4 x5 (some (.sh (nI m))) x7 x8 x9 x10 x11) (ρ3 := eO x0 d2 i x3 x4 x5 (some (.sh (nI m))) x7 x8 x9 x10 x11) (os := [.d (.sh (nI q))]) (ds := [.sh (nI q)]) (by simp [eO, fn_Ld, io_draw, e1']) (by simp [ovs]) (itF_rngN (by omega)) e2 (by simp [unlock])
  exact ⟨ps, d2, c3_run l, by have := l1; simp at this; omega, hps, l3.mono (by omega)⟩
theorem ne_tup (ps : List Pt) : oEq true (.sh (.tuple (ps.map pD))) (.sh (.tuple [])) = some (.sh (.bool (!ps.isEmpty))) := by
  have h2 : SeqAt.shaped (.tuple []) = true := by decide
  have h3 : PyData.eqv (.tuple (ps.map pD)) (.tuple []) = ps.isEmpty := by
    cases ps <;> simp [PyData.eqv, PyData.eqvAll]
  have e : oEq true (.sh (.tuple (ps.map pD))) (.sh (.tuple [])) = guardO (SeqAt.shaped (.tuple (ps.map pD)) && SeqAt.shaped (.tuple [])) (DB (true != PyData.eqv (.tuple (ps.map pD)) (.tuple []))) := rfl
  rw [e, pDt_shaped, h2, h3]
  cases ps <;> rfl
theorem twice_ok {n i m : Nat} {d : D} {ps : List Pt} {x0 x3 x5 x6 x7 x8 x9 x10 x11 : Option D} (h : PotP n d) (hn : n ≤ 100000) (hl : ps.length ≤ 6) (hp : ∀ p ∈ ps, p.1 < m ∧ p.2 < m) :
    ∃ (ps' : List Pt) (d' : D), go Γ_law c4 (eO x0 d i x3 (some (.sh (.tuple (ps.map pD)))) x5 x6 x7 x8 x9 x10 x11) = .nx (eO x0 d' i x3 (some (.sh (.tuple (ps'.map pD)))) x5 x6 x7 x8 x9 x10 x11) ∧ ps'.length ≤ 7 ∧ (∀ p ∈ ps', p.1 < m ∧ p.2 < m) ∧ PotP (n + 1) d' := by
  have ne := ne_tup ps
  cases ps with
  | nil => exact ⟨[], d, c4_nil ne, by simp, (fun p h => nomatch h), h.mono (by omega)⟩
  | cons p ps =>
    obtain ⟨r, d1, e1, hr, p1⟩ := draw_N (m := 3) h (by omega) (by omega) (by omega)
    by_cases h0 : r = 0
    · have ad : oAdd (.sh (.tuple ((p :: ps).map pD))) (.sh (.tuple (((p :: ps).take 1).map pD))) = some (.sh (.tuple (((p :: ps) ++ [p]).map pD))) := by
        rw [oAdd_tups (by simp at hl ⊢; omega), ← List.map_append]
        rfl
      refine ⟨(p :: ps) ++ [p], d1, c4_yes ne fn_Ld io_draw e1 h0 (sl_take (p :: ps)) ad, by simp at hl ⊢; omega, fun q hq => ?_, p1⟩
      rcases List.mem_append.mp hq with hq | hq
      · exact hp q hq
      · rw [List.mem_singleton] at hq
        subst hq
        exact hp q List.mem_cons_self
    · exact ⟨p :: ps, d1, c4_no ne fn_Ld io_draw e1 h0, by omega, hp, p1⟩
theorem turn_ok {n i : Nat} {d : D} {x0 x3 x4 x5 x6 x7 x8 x9 x10 x11 : Option D} (h : PotP n d) (hn : n ≤ 10000) :
    ∃ (d' : D) (y3 y4 y5 y6 y7 y8 y9 y10 y11 : Option D), gos Γ_law [c1, c2, c3, c4, c5] (eO x0 d i x3 x4 x5 x6 x7 x8 x9 x10 x11) = .nx (eO x0 d' i y3 y4 y5 y6 y7 y8 y9 y10 y11) ∧ PotP (n + 100) d' := by
  obtain ⟨k, mv, tl, d1, s1, ok, t1, t2, p1⟩ := tel_ok (i := i) (x0 := x0) (x3 := x3) (x4 := x4) (x5 := x5) (x6 := x6) (x7 := x7) (x8 := x8) (x9 := x9) (x10 := x10) (x11 := x11) h (by omega)
  have gT := gs_tel ok t1 t2
  have rT := gT.repr (x := .sh (telD k mv tl)) rfl (by omega) (by omega)
  have ln : oLen (.sh (.tuple (mv.map rowD))) = some (.sh (nI mv.length)) := by simp [oLen]
  have s2 := c2_run (Γ := Γ_law) (d := d1) (i := i) (x0 := x0) (x4 := x4) (x5 := x5) (x6 := x6) (x7 := x7) (x8 := x8) (x9 := x9) (x10 := x10) (x11 := x11) (ix_t1 (k := k) (mv := mv) (tl := tl)) ln rT
  obtain ⟨ps, d2, s3, q1, q2, p2⟩ := prs_ok (i := i) (x0 := x0) (x3 := some (.sh (telD k mv tl))) (x4 := x4) (x5 := x5) (x7 := some (.sh (.str (telD k mv tl).shown))) (x8 := x8) (x9 := x9) (x10 := x10) (x11 := x11) p1 (by omega) ok.m1 ok.m8
  obtain ⟨qs, d3, s4, r1, r2, p3⟩ := twice_ok (i := i) (x0 := x0) (x3 := some (.sh (telD k mv tl))) (x5 := x5) (x6 := some (.sh (nI mv.length))) (x7 := some (.sh (.str (telD k mv tl).shown))) (x8 := x8) (x9 := x9) (x10 := x10) (x11 := x11) p2 (by omega) q1 q2
  obtain ⟨ρ, e5, y5, y8, y9, y10, y11, rfl⟩ := lopL_run (t := .nm 5) (b := gos Γ_law bIn)
    (fun j ρ => ∃ (y5 y8 y9 y10 y11 : Option D), ρ = eO x0 d3 i (some (.sh (telD k mv tl))) (some (.sh (.tuple (qs.map pD)))) y5 (some (.sh (nI mv.length))) (some (.sh (.str (telD k mv tl).shown))) y8 y9 y10 y11)
    [.bool (decide ((i : Int) % 2 = 0)), .bool (decide ((i : Int) % 2 = 1))] 0 (eO x0 d3 i (some (.sh (telD k mv tl))) (some (.sh (.tuple (qs.map pD)))) x5 (some (.sh (nI mv.length))) (some (.sh (.str (telD k mv tl).shown))) x8 x9 x10 x11) ⟨x5, x8, x9, x10, x11, rfl⟩ (by
      rintro j p ρ hp ⟨y5, y8, y9, y10, y11, rfl⟩
      obtain ⟨b, rfl⟩ : ∃ b : Bool, p = .bool b := by
        have hm := List.mem_of_getElem? hp
        simp only [List.mem_cons, List.not_mem_nil, or_false] at hm
        rcases hm with rfl | rfl <;> exact ⟨_, rfl⟩
      obtain ⟨z8, z9, z10, z11, e⟩ := in_ok (tl := tl) (x0 := x0) (x1 := some d3) (x2 := some (.sh (nI i))) (x6 := some (.sh (nI mv.length))) (x8 := y8) (x9 := y9) (x10 := y10) (x11 := y11) b ok t1 t2 (ps := qs) (fun q hq => r2 q hq) (by omega)
      exact ⟨eI x0 (some d3) (some (.sh (nI i))) (telD k mv tl) (.tuple (qs.map pD)) b (some (.sh (nI mv.length))) (telD k mv tl).shown y8 y9 y10 y11, _, rfl, .inl e, some (.sh (.bool b)), z8, z9, z10, z11, rfl⟩)
  have s5 : go Γ_law c5 (eO x0 d3 i (some (.sh (telD k mv tl))) (some (.sh (.tuple (qs.map pD)))) x5 (some (.sh (nI mv.length))) (some (.sh (.str (telD k mv tl).shown))) x8 x9 x10 x11) = .nx (eO x0 d3 i (some (.sh (telD k mv tl))) (some (.sh (.tuple (qs.map pD)))) y5 (some (.sh (nI mv.length))) (some (.sh (.str (telD k mv tl).shown))) y8 y9 y10 y11) := by
    rw [go_lop]
    exact lopF_run tT_run rfl rfl e5 rfl
  exact ⟨d3, _, _, _, _, _, _, _, _, _, gos_step s1 (gos_step s2 (gos_step s3 (gos_step s4 (gos_step s5 rfl)))), p3.mono (by omega)⟩
theorem m_law0 : d_law.m = runD 14 io_law (gos Γ_law b_law) := rfl
theorem truth (ns : List Int) (hn : ns.length ≤ 63) : ∃ outs, d_law.m [.sh (.list (ns.map .int))] = .ok (.sh (.bool true)) outs := by
  obtain ⟨gs, st, hg, e⟩ := pot_ok ns hn
  have p0 : PotP 0 (potD gs st 0) := ⟨gs, st, 0, hg, by omega, by omega, rfl⟩
  generalize potD gs st 0 = d0 at e p0
  generalize PyData.list (ns.map .int) = A at e ⊢
  have s1 : go Γ_law (.asg (.nm 1) (.call "_law_pot" [.rd 0] [] [] [0])) [some (.sh A), none, none, none, none, none, none, none, none, none, none, none, none, none] = .nx [some (.sh A), some d0, none, none, none, none, none, none, none, none, none, none, none, none] := by
    simp [fn_Lp, io_po, e]
  obtain ⟨ρ, el, d', y2, y3, y4, y5, y6, y7, y8, y9, y10, y11, rfl, _⟩ := lopL_run (t := .nm 2) (b := gos Γ_law [c1, c2, c3, c4, c5]) (fun j ρ => ∃ (d2 : D) (y2 y3 y4 y5 y6 y7 y8 y9 y10 y11 : Option D), ρ = [some (.sh A), some d2, y2, y3, y4, y5, y6, y7, y8, y9, y10, y11, none, none] ∧ PotP (100 * j) d2) (rngD 0 4) 0
    [some (.sh A), some d0, none, none, none, none, none, none, none, none, none, none, none, none] ⟨d0, none, none, none, none, none, none, none, none, none, none, rfl, p0⟩ (by
      rintro j p ρ hp ⟨d2, y2, y3, y4, y5, y6, y7, y8, y9, y10, y11, rfl, q⟩
      obtain ⟨hj, rfl⟩ := rng_item hp
      obtain ⟨d3, z3, z4, z5, z6, z7, z8, z9, z10, z11, e3, p3⟩ := turn_ok (i := j) (x0 := some (.sh A)) (x3 := y3) (x4 := y4) (x5 := y5) (x6 := y6) (x7 := y7) (x8 := y8) (x9 := y9) (x10 := y10) (x11 := y11) q (by omega)
      exact ⟨eO (some (.sh A)) d2 j y3 y4 y5 y6 y7 y8 y9 y10 y11, _, rfl, .inl e3, d3, _, _, _, _, _, _, _, _, _, _, rfl, p3.mono (by omega)⟩)
  have s2 : go Γ_law (.lop (.nm 2) .rng [.lit (.int 4)] [c1, c2, c3, c4, c5]) [some (.sh A), some d0, none, none, none, none, none, none, none, none, none, none, none, none] = .nx [some (.sh A), some d', y2, y3, y4, y5, y6, y7, y8, y9, y10, y11, none, none] := by
    rw [go_lop]
    exact lopF_run (os := [.d (.sh (nI 4))]) (ds := [.sh (nI 4)]) rfl rfl (itF_rngN (by omega)) el rfl
  refine ⟨[], ?_⟩
  rw [m_law0, b_law_eq]
  exact runD_rt rfl rfl (gos_step s1 (gos_step s2 (gos_last rfl))) rfl
end T19
open PySem PySem.W PyProof.Rows in
set_option maxRecDepth 100000 in
set_option maxHeartbeats 0 in
theorem PySem.Challenge.cw_markkeepers_k19_whole_closed_pairs_of_st_holds : PySem.Challenge.rw_markkeepers_k19_whole_closed_pairs_of_st.Holds := by
  w_on; o_law; k_head; (case hw => w_witness2)
  k_fill
  refine T19.walk (l := PySem.Challenge.rw_markkeepers_k19_whole_closed_pairs_of_st) T19.truth rfl rfl (fun w h Y => PySem.W.kIn_of Y) ?F
  case F =>
    intro w mg fa h KX G hmg
    refine' T19.all_mk KX G hmg ?a0 ?l0 ?c0 ?k0 ?a1 ?i1 ?l1 ?c1 ?k1 ?a2 ?i2 ?l2 ?c2 ?k2 ?a3 ?l3 ?c3 ?k3 ?a4 ?l4 ?c4 ?k4 ?a5 ?l5 ?c5 ?k5 ?a6 ?l6 ?c6 ?k6 ?a7 ?l7 ?c7 ?k7 ?a8 ?l8 ?c8 ?k8 ?a9 ?l9 ?c9 ?k9 ?a10 ?l10 ?c10 ?k10 ?a11 ?l11 ?c11 ?k11 ?a12 ?l12 ?c12 ?k12 ?a13 ?l13 ?c13 ?k13 ?z0 ?z1 ?z2 ?z3 ?z4 ?z5 ?z6 ?z7 ?z8 ?zsup ?htp ?xtop ?xsp ?xtk ?xa0 ?xl0 ?xr0 ?xh0 ?xb0 ?xe0 ?xi0 ?xv0 ?xm0 ?xf0 ?xt0 ?xn0 ?xc0 ?xd0 ?xw0 ?xg0 ?xo0 ?xk0 ?xx0 ?xy0 ?xga0 ?xgg0 ?xhd0 ?xcl0 ?xmo0 ?xic0 ?xsa0 ?xnf0 ?ka0 ?kpg0 ?khd0 ?kpo0 ?ksa0 ?kmk0 ?kkc0 ?kn0_moves
    (case ka0 => k_is)
    (case a0 => k_is)
    (case l0 => k_is)
    (case c0 => k_is)
    (case k0 => k_is)
    (case a1 => k_is)
    (case i1 => k_is)
    (case l1 => k_is)
    (case c1 => k_is)
    (case k1 => k_is)
    (case a2 => k_is)
    (case i2 => k_is)
    (case l2 => k_is)
    (case c2 => k_is)
    (case k2 => k_is)
    (case a3 => k_is)
    (case l3 => k_is)
    (case c3 => k_is)
    (case k3 => k_is)
    (case a4 => k_is)
    (case l4 => k_is)
    (case c4 => k_is)
    (case k4 => k_is)
    (case a5 => k_is)
    (case l5 => k_is)
    (case c5 => k_is)
    (case k5 => k_is)
    (case a6 => k_is)
    (case l6 => k_is)
    (case c6 => k_is)
    (case k6 => k_is)
    (case a7 => k_is)
    (case l7 => k_is)
    (case c7 => k_is)
    (case k7 => k_is)
    (case a8 => k_is)
    (case l8 => k_is)
    (case c8 => k_is)
    (case k8 => k_is)
    (case a9 => k_is)
    (case l9 => k_is)
    (case c9 => k_is)
    (case k9 => k_is)
    (case a10 => k_is)
    (case l10 => k_is)
    (case c10 => k_is)
    (case k10 => k_is)
    (case a11 => k_is)
    (case l11 => k_is)
    (case c11 => k_is)
    (case k11 => k_is)
    (case a12 => k_is)
    (case l12 => k_is)
    (case c12 => k_is)
    (case k12 => k_is)
    (case a13 => k_is)
    (case l13 => k_is)
    (case c13 => k_is)
    (case k13 => k_is)
    (case z0 => k_is)
    (case z1 => k_is)
    (case z2 => k_is)
    (case z3 => k_is)
    (case z4 => k_is)
    (case z5 => k_is)
    (case z6 => k_is)
    (case z7 => k_is)
    (case z8 => k_is)
    (case zsup => k_is)
    (case htp => k_is)
    (case xtop => first | rfl | decide +kernel)
    (case xsp => k_is)
    (case xtk => k_is)
    (case xa0 => k_is)
    (case xl0 => k_is)
    (case xr0 => first | rfl | decide +kernel)
    (case xh0 => first | rfl | decide +kernel)
    (case xb0 => k_is)
    (case xe0 => first | rfl | decide +kernel)
    (case xi0 => k_is)
    (case xv0 => k_is)
    (case xm0 => k_is)
    (case xf0 => k_is)
    (case xt0 => k_is)
    (case xn0 => k_is)
    (case xc0 => k_is)
    (case xd0 => k_is)
    (case xw0 => first | rfl | decide +kernel)
    (case xg0 => first | rfl | decide +kernel)
    (case xo0 => k_is)
    (case xk0 => k_is)
    (case xx0 => k_is)
    (case xy0 => k_is)
    (case xga0 => k_is)
    (case xgg0 => k_is)
    (case xhd0 => k_is)
    (case xcl0 => k_is)
    (case xmo0 => k_is)
    (case xic0 => k_is)
    (case xsa0 => k_is)
    (case xnf0 => k_is)
    (case kpg0 => k_is)
    (case khd0 => k_is)
    (case kpo0 => k_is)
    (case ksa0 => k_is)
    (case kmk0 => k_is)
    (case kkc0 => k_is)
    (case kn0_moves => k_is)
