import PyProof.Rows.All
import Wide.All
import OpenK.AllK
import Wide.FinOn
import HandS.ForMost
import HandS.Deep
import HandS.Exc
import HandS.CallSlots
import HandS.TupAny
import HandS.Conv
import HandS.IsInst
import HandS.RaiseMore
import HandS.TupMul
import HandS.Style
import HandS.Rev
import KE.SortData
import HandS.WordsExc
import HandS.Iter
import HandS.More
import HandS.Walk
import HandS.Zip
import HandS.Small
import HandS.Ends
import PySem.Challenge.RW_markkeepers_k21_whole_sides_of_books
set_option Elab.async false
set_option linter.all false
set_option maxRecDepth 100000
/-! V0: values as trees (D), how the abstract heap bears them (Rep), frames. -/
namespace Vs
open PySem PySem.Spec L2
open PyProof.Rows hiding St

/-- what is fixed through a law: the written part, the classes by name -/
structure Ga where
  K : PySem.W.Frag
  cl : Str → Option Addr

/-- a list that nobody may write -/
def SqF (K : PySem.W.Frag) (H : Hp) (a : Addr) (xs : List V) : Prop :=
  (∃ o, H a = some (.frz o (.lst xs))) ∨ SqL K (fun _ => none) a xs
theorem SqF.seq {K : PySem.W.Frag} {H : Hp} {a : Addr} {xs : List V} (h : SqF K H a xs) : SqL K H a xs := by
  rcases h with ⟨o, h⟩ | h
  · exact .inl (.inr ⟨o, h⟩)
  · rcases h with (h | ⟨_, h⟩) | h
    · cases h
    · cases h
    · exact .inr h

mutual
/-- shared data: nothing of it is ever written -/
inductive DpF (K : PySem.W.Frag) (H : Hp) : V → PyData → Prop
  | non : DpF K H .non .none
  | bl (b : Bool) : DpF K H (.bl b) (.bool b)
  | int (i : Int) : DpF K H (.int i) (.int i)
  | str (x : Str) : DpF K H (.str x) (.str x)
  | lst {a : Addr} {xs : List V} {ds : List PyData} : SqF K H a xs → DpFs K H xs ds → DpF K H (.ref a) (.list ds)
  | tup {a : Addr} {xs : List V} {ds : List PyData} : SqT K H a xs → DpFs K H xs ds → DpF K H (.ref a) (.tuple ds)
inductive DpFs (K : PySem.W.Frag) (H : Hp) : List V → List PyData → Prop
  | nil : DpFs K H [] []
  | cons {v : V} {vs : List V} {d : PyData} {ds : List PyData} : DpF K H v d → DpFs K H vs ds → DpFs K H (v :: vs) (d :: ds)
end

/-- a value: shared data, or a tree whose nodes may be written by who holds it -/
inductive D where
  | sh (d : PyData)
  | tp (ds : List D)
  | ls (ds : List D)
  | dk (ks : List Key) (ds : List D)
  | ob (c : Str) (ns : List Str) (ds : List D)
  | fn (c : Str)

mutual
inductive Rep (G : Ga) (H : Hp) : V → D → List Addr → Prop
  | sh {v : V} {d : PyData} : DpF G.K H v d → Rep G H v (.sh d) []
  | tp {a : Addr} {xs : List V} {ds : List D} {O : List Addr} : SqT G.K H a xs → Reps G H xs ds O → Rep G H (.ref a) (.tp ds) O
  | ls {a : Addr} {xs : List V} {ds : List D} {O : List Addr} : H a = some (.lst xs) → Reps G H xs ds O → Rep G H (.ref a) (.ls ds) (a :: O)
  | dk {a : Addr} {kvs : List (Key × V)} {ds : List D} {O : List Addr} : H a = some (.dK kvs) → Reps G H (kvs.map (·.2)) ds O → Rep G H (.ref a) (.dk (kvs.map (·.1)) ds) (a :: O)
  | ob {a C dx : Addr} {c : Str} {fs : List (Str × V)} {ds : List D} {O : List Addr} : H a = some (.ins C dx fs) → G.cl c = some C → Reps G H (fs.map (·.2)) ds O → Rep G H (.ref a) (.ob c (fs.map (·.1)) ds) (a :: O)
  | fn {c : Str} {C : Addr} : G.cl c = some C → Rep G H (.ref C) (.fn c) []
inductive Reps (G : Ga) (H : Hp) : List V → List D → List Addr → Prop
  | nil : Reps G H [] [] []
  | cons {v : V} {vs : List V} {d : D} {ds : List D} {O O' : List Addr} : Rep G H v d O → Reps G H vs ds O' → Reps G H (v :: vs) (d :: ds) (O ++ O')
end

/-! ### frames -/
def MutA (H : Hp) (S : List Addr) : Prop := ∀ a ∈ S, Mut (H a)
/-- what stands outside S stays -/
def Frm (S : List Addr) (H H' : Hp) : Prop := ∀ a o, H a = some o → a ∉ S → H' a = some o
/-- S' comes from S, or is new -/
def Sub (S S' : List Addr) (H : Hp) : Prop := ∀ a ∈ S', a ∈ S ∨ H a = none
structure Go (S : List Addr) (H : Hp) (S' : List Addr) (H' : Hp) : Prop where
  frm : Frm S H H'
  sub : Sub S S' H
theorem Go.refl {S : List Addr} {H : Hp} : Go S H S H := ⟨fun _ _ h _ => h, fun _ h => .inl h⟩
theorem Go.trans {S S1 S2 : List Addr} {H H1 H2 : Hp} (a : Go S H S1 H1) (b : Go S1 H1 S2 H2) : Go S H S2 H2 where
  frm := fun x o h n => by
    refine b.frm x o (a.frm x o h n) fun q => ?_
    rcases a.sub x q with q | q
    · exact n q
    · rw [h] at q; cases q
  sub := fun x h => by
    rcases b.sub x h with q | q
    · exact a.sub x q
    · cases e : H x with
      | none => exact .inr rfl
      | some o =>
        refine .inl (Classical.byContradiction fun n => ?_)
        rw [a.frm x o e n] at q; cases q
/-- less is held behind -/
theorem Go.less {S S1 S2 : List Addr} {H H1 : Hp} (a : Go S H S1 H1) (h : ∀ x ∈ S2, x ∈ S1) : Go S H S2 H1 := ⟨a.frm, fun x q => a.sub x (h x q)⟩
/-- more might have been written ahead -/
theorem Go.more {S T S1 : List Addr} {H H1 : Hp} (a : Go S H S1 H1) (h : ∀ x ∈ S, x ∈ T) : Go T H S1 H1 :=
  ⟨fun x o e n => a.frm x o e fun q => n (h x q), fun x q => (a.sub x q).imp (h x) id⟩
/-- what is held besides is carried over -/
theorem Go.keep {S S1 T : List Addr} {H H1 : Hp} (a : Go S H S1 H1) (hT : ∀ x ∈ T, x ∉ S ∧ ∃ o, H x = some o) : ∀ x ∈ T, x ∉ S1 := fun x h q => by
  obtain ⟨n, o, e⟩ := hT x h
  rcases a.sub x q with z | z
  · exact n z
  · rw [e] at z; cases z
/-- a new object -/
theorem Go.new {S : List Addr} {H : Hp} {a : Addr} {o : HO} (h : H a = none) : Go S H (a :: S) (upd H a o) where
  frm := fun b u e _ => by rw [upd_ne (ne_of_none e h)]; exact e
  sub := fun b q => by
    rcases List.mem_cons.mp q with rfl | q
    · exact .inr h
    · exact .inl q
/-- a held object is written -/
theorem Go.put {S : List Addr} {H : Hp} {a : Addr} {o : HO} (h : a ∈ S) : Go S H S (upd H a o) where
  frm := fun b u e n => by rw [upd_ne (fun q : b = a => n (by rw [q]; exact h))]; exact e
  sub := fun b q => .inl q

section
variable {G : Ga} {H H' : Hp} {S : List Addr}
theorem SqT.fr {a : Addr} {xs : List V} (h : SqT G.K H a xs) (f : Frm S H H') (m : MutA H S) : SqT G.K H' a xs := by
  rcases h with (h | ⟨o, h⟩) | h
  · exact .inl (.inl (f _ _ h fun q => by have z := m _ q; rw [h] at z; exact z))
  · exact .inl (.inr ⟨o, f _ _ h fun q => by have z := m _ q; rw [h] at z; exact z⟩)
  · exact .inr h
theorem SqF.fr {a : Addr} {xs : List V} (h : SqF G.K H a xs) (f : Frm S H H') (m : MutA H S) : SqF G.K H' a xs := by
  rcases h with ⟨o, h⟩ | h
  · exact .inl ⟨o, f _ _ h fun q => by have z := m _ q; rw [h] at z; exact z⟩
  · exact .inr h
mutual
theorem DpF.fr : ∀ {v : V} {d : PyData}, DpF G.K H v d → Frm S H H' → MutA H S → DpF G.K H' v d
  | _, _, .non, _, _ => .non
  | _, _, .bl b, _, _ => .bl b
  | _, _, .int i, _, _ => .int i
  | _, _, .str x, _, _ => .str x
  | _, _, .lst h hs, f, m => .lst (SqF.fr h f m) (DpFs.fr hs f m)
  | _, _, .tup h hs, f, m => .tup (SqT.fr h f m) (DpFs.fr hs f m)
theorem DpFs.fr : ∀ {vs : List V} {ds : List PyData}, DpFs G.K H vs ds → Frm S H H' → MutA H S → DpFs G.K H' vs ds
  | _, _, .nil, _, _ => .nil
  | _, _, .cons h hs, f, m => .cons (DpF.fr h f m) (DpFs.fr hs f m)
end
mutual
theorem Rep.fr : ∀ {v : V} {d : D} {O : List Addr}, Rep G H v d O → Frm S H H' → MutA H S → (∀ a ∈ O, a ∉ S) → Rep G H' v d O
  | _, _, _, .sh h, f, m, _ => .sh (DpF.fr h f m)
  | _, _, _, .tp h hs, f, m, n => .tp (SqT.fr h f m) (Reps.fr hs f m n)
  | _, _, _, .ls h hs, f, m, n => .ls (f _ _ h (n _ List.mem_cons_self)) (Reps.fr hs f m fun a q => n a (List.mem_cons_of_mem _ q))
  | _, _, _, .dk h hs, f, m, n => .dk (f _ _ h (n _ List.mem_cons_self)) (Reps.fr hs f m fun a q => n a (List.mem_cons_of_mem _ q))
  | _, _, _, .ob h c hs, f, m, n => .ob (f _ _ h (n _ List.mem_cons_self)) c (Reps.fr hs f m fun a q => n a (List.mem_cons_of_mem _ q))
  | _, _, _, .fn c, _, _, _ => .fn c
theorem Reps.fr : ∀ {vs : List V} {ds : List D} {O : List Addr}, Reps G H vs ds O → Frm S H H' → MutA H S → (∀ a ∈ O, a ∉ S) → Reps G H' vs ds O
  | _, _, _, .nil, _, _, _ => .nil
  | _, _, _, .cons h hs, f, m, n => .cons (Rep.fr h f m fun a q => n a (List.mem_append_left _ q)) (Reps.fr hs f m fun a q => n a (List.mem_append_right _ q))
end
mutual
theorem Rep.mut : ∀ {v : V} {d : D} {O : List Addr}, Rep G H v d O → MutA H O
  | _, _, _, .sh h => fun _ q => nomatch q
  | _, _, _, .tp h hs => Reps.mut hs
  | _, _, _, .ls h hs => fun a q => by
    rcases List.mem_cons.mp q with rfl | q
    · rw [h]; trivial
    · exact Reps.mut hs a q
  | _, _, _, .dk h hs => fun a q => by
    rcases List.mem_cons.mp q with rfl | q
    · rw [h]; trivial
    · exact Reps.mut hs a q
  | _, _, _, .ob h _ hs => fun a q => by
    rcases List.mem_cons.mp q with rfl | q
    · rw [h]; trivial
    · exact Reps.mut hs a q
  | _, _, _, .fn _ => fun _ q => nomatch q
theorem Reps.mut : ∀ {vs : List V} {ds : List D} {O : List Addr}, Reps G H vs ds O → MutA H O
  | _, _, _, .nil => fun _ q => nomatch q
  | _, _, _, .cons h hs => fun a q => by
    rcases List.mem_append.mp q with q | q
    · exact Rep.mut h a q
    · exact Reps.mut hs a q
end
theorem MutA.some {S : List Addr} (m : MutA H S) : ∀ a ∈ S, ∃ o, H a = some o := fun a q => by
  have z := m a q
  cases e : H a with
  | none => rw [e] at z; exact z.elim
  | some o => exact ⟨o, rfl⟩
theorem MutA.app {S T : List Addr} (m : MutA H S) (n : MutA H T) : MutA H (S ++ T) := fun a q => (List.mem_append.mp q).elim (m a) (n a)
theorem MutA.sub {S T : List Addr} (m : MutA H S) (h : ∀ a ∈ T, a ∈ S) : MutA H T := fun a q => m a (h a q)
end

/-! ### the names of a def -/
abbrev Env := List (Option D)
inductive RepE (G : Ga) (H : Hp) : St → Env → List Addr → Prop
  | nil : RepE G H [] [] []
  | no {v : Option V} {σ : St} {ρ : Env} {O : List Addr} : RepE G H σ ρ O → RepE G H (v :: σ) (none :: ρ) O
  | va {v : V} {d : D} {σ : St} {ρ : Env} {O1 O : List Addr} : Rep G H v d O1 → RepE G H σ ρ O → RepE G H (some v :: σ) (some d :: ρ) (O1 ++ O)
section
variable {G : Ga} {H H' : Hp} {S : List Addr}
theorem RepE.len : ∀ {σ : St} {ρ : Env} {O : List Addr}, RepE G H σ ρ O → ρ.length = σ.length
  | _, _, _, .nil => rfl
  | _, _, _, .no h => congrArg (· + 1) (RepE.len h)
  | _, _, _, .va _ h => congrArg (· + 1) (RepE.len h)
theorem RepE.fr : ∀ {σ : St} {ρ : Env} {O : List Addr}, RepE G H σ ρ O → Frm S H H' → MutA H S → (∀ a ∈ O, a ∉ S) → RepE G H' σ ρ O
  | _, _, _, .nil, _, _, _ => .nil
  | _, _, _, .no h, f, m, n => .no (RepE.fr h f m n)
  | _, _, _, .va r h, f, m, n => .va (Rep.fr r f m fun a q => n a (List.mem_append_left _ q)) (RepE.fr h f m fun a q => n a (List.mem_append_right _ q))
theorem RepE.mut : ∀ {σ : St} {ρ : Env} {O : List Addr}, RepE G H σ ρ O → MutA H O
  | _, _, _, .nil => fun _ q => nomatch q
  | _, _, _, .no h => RepE.mut h
  | _, _, _, .va r h => MutA.app (Rep.mut r) (RepE.mut h)
/-- one name taken out -/
theorem RepE.out : ∀ {σ : St} {ρ : Env} {O : List Addr} {i : Nat} {d : D}, RepE G H σ ρ O → ρ[i]? = some (some d) →
    ∃ v O1 O2, σ[i]? = some (some v) ∧ Rep G H v d O1 ∧ O.Perm (O1 ++ O2) ∧ RepE G H σ (ρ.set i none) O2
  | _, _, _, i, d, .nil, e => by simp at e
  | _, _, _, 0, d, .no h, e => by simp at e
  | _, _, _, 0, d, .va r h, e => by
    simp at e; subst e
    exact ⟨_, _, _, rfl, r, .refl _, .no h⟩
  | _, _, _, i + 1, d, .no h, e => by
    obtain ⟨v, O1, O2, a, b, c, q⟩ := RepE.out (i := i) h (by simpa using e)
    exact ⟨v, O1, O2, by simpa using a, b, c, .no q⟩
  | _, _, _, i + 1, d, .va (O1 := P) r h, e => by
    obtain ⟨v, O1, O2, a, b, c, q⟩ := RepE.out (i := i) h (by simpa using e)
    refine ⟨v, O1, P ++ O2, by simpa using a, b, ?_, .va r q⟩
    exact (List.Perm.append_left P c).trans (by rw [← List.append_assoc, ← List.append_assoc]; exact List.Perm.append_right O2 List.perm_append_comm)
/-- a name forgotten -/
theorem RepE.drop : ∀ {σ : St} {ρ : Env} {O : List Addr} (i : Nat), RepE G H σ ρ O → ∃ O2, O2.Sublist O ∧ RepE G H σ (ρ.set i none) O2
  | _, _, _, i, .nil => ⟨[], .refl _, by simpa using .nil⟩
  | _, _, _, 0, .no h => ⟨_, .refl _, .no h⟩
  | _, _, _, 0, .va r h => ⟨_, List.sublist_append_right _ _, .no h⟩
  | _, _, _, i + 1, .no h => by
    obtain ⟨O2, a, q⟩ := RepE.drop i h
    exact ⟨O2, a, .no q⟩
  | _, _, _, i + 1, .va r h => by
    obtain ⟨O2, a, q⟩ := RepE.drop i h
    exact ⟨_, List.Sublist.append (.refl _) a, .va r q⟩
/-- a slot's value does not matter where the name is forgotten -/
theorem RepE.any : ∀ {σ : St} {ρ : Env} {O : List Addr} (i : Nat) (x : Option V), RepE G H σ ρ O → ρ[i]? = some none → RepE G H (σ.set i x) ρ O
  | _, _, _, i, x, .nil, e => by simp at e
  | _, _, _, 0, x, .no h, e => .no h
  | _, _, _, 0, x, .va r h, e => by simp at e
  | _, _, _, i + 1, x, .no h, e => .no (RepE.any i x h (by simpa using e))
  | _, _, _, i + 1, x, .va r h, e => .va r (RepE.any i x h (by simpa using e))
/-- a forgotten name is given a value -/
theorem RepE.put : ∀ {σ : St} {ρ : Env} {O O1 : List Addr} {i : Nat} {v : V} {d : D}, RepE G H σ ρ O → ρ[i]? = some none → σ[i]? = some (some v) → Rep G H v d O1 →
    ∃ O2, O2.Perm (O1 ++ O) ∧ RepE G H σ (ρ.set i (some d)) O2
  | _, _, _, _, i, v, d, .nil, e, _, _ => by simp at e
  | _, _, _, _, 0, v, d, .no h, e, es, r => by
    simp at es; subst es
    exact ⟨_, .refl _, .va r h⟩
  | _, _, _, _, 0, v, d, .va r h, e, _, _ => by simp at e
  | _, _, _, _, i + 1, v, d, .no h, e, es, r => by
    obtain ⟨O2, a, q⟩ := RepE.put (i := i) h (by simpa using e) (by simpa using es) r
    exact ⟨O2, a, .no q⟩
  | _, _, _, O1, i + 1, v, d, .va (O1 := P) (O := O) r h, e, es, r1 => by
    obtain ⟨O2, a, q⟩ := RepE.put (i := i) h (by simpa using e) (by simpa using es) r1
    refine ⟨_, ?_, .va r q⟩
    exact (List.Perm.append_left P a).trans (by rw [← List.append_assoc, ← List.append_assoc]; exact List.Perm.append_right O List.perm_append_comm)
end
end Vs
/-! V1: what an evaluation gives, as HandS readings. -/
namespace Vs
open PySem PySem.Spec L2
open PyProof.Rows hiding St

/-- an exception of one of the program's own classes, by its fields -/
structure Exc where
  cls : Str
  fs : List (Str × PyData)
inductive Res (α : Type) where
  | ok (a : α)
  | ex (x : Exc) (ρ : Env)
  | no
def Res.bind {α β : Type} : Res α → (α → Res β) → Res β
  | .ok a, k => k a
  | .ex x ρ, _ => .ex x ρ
  | .no, _ => .no
abbrev EF := Env → Res (D × Env)
def XR (G : Ga) (H : Hp) (cls : Value) (d : Option Addr) (x : Exc) : Prop := ∃ C, G.cl x.cls = some C ∧ cls = .ref C ∧
  ∀ f v, x.fs.lookup f = some v → ∃ dd fs u, d = some dd ∧ H dd = some (.xd fs) ∧ fs.lookup f = some u ∧ DpF G.K H u v
/-- behind an expression that gives d -/
def EvR (G : Ga) (O : List Addr) (σ : L2.St) (H : Hp) (ρ : Env) (d : D) (v : V) (H' : Hp) : Prop :=
  ∃ O' T, RepE G H' σ ρ O' ∧ Rep G H' v d T ∧ (T ++ O').Nodup ∧ Go O H (T ++ O') H'
/-- behind an exception -/
def ExR (G : Ga) (O : List Addr) (H : Hp) (ρ : Env) (x : Exc) (cls : Value) (dd : Option Addr) (σ : L2.St) (H' : Hp) : Prop :=
  ∃ O', RepE G H' σ ρ O' ∧ O'.Nodup ∧ Go O H O' H' ∧ XR G H' cls dd x
def tE (G : Ga) (W : WX) (f : EF) : TE := fun σ H Q => ∃ ρ O, RepE G H σ ρ O ∧ O.Nodup ∧
  match f ρ with
  | .ok (d, ρ') => ∀ v H', EvR G O σ H ρ' d v H' → Q v H'
  | .ex x ρ' => ∀ cls dd H', ExR G O H ρ' x cls dd σ H' → W cls dd σ H'
  | .no => False

end Vs
/-! V2: built-in operations on values: what they give, and the rules. -/
namespace Vs
open PySem PySem.Spec L2
open PyProof.Rows hiding St

/-- all shared -/
def unsh : List D → Option (List PyData)
  | [] => some []
  | .sh d :: r => match unsh r with
    | some l => some (d :: l)
    | none => none
  | _ :: _ => none
@[simp] theorem unsh_map (l : List PyData) : unsh (l.map .sh) = some l := by
  induction l with
  | nil => rfl
  | cons d l ih => simp [unsh, ih]
@[simp] theorem unsh_nil : unsh [] = some [] := rfl
inductive SK where
  | lst
  | tup
  deriving DecidableEq
/-- a list or tuple of shared things -/
def D.seq : D → Option (SK × List PyData)
  | .sh (.list l) => some (.lst, l)
  | .sh (.tuple l) => some (.tup, l)
  | .ls ds => match unsh ds with
    | some l => some (.lst, l)
    | none => none
  | _ => none
mutual
/-- as plain data -/
def D.py : D → Option PyData
  | .sh d => some d
  | .ls ds => match D.pys ds with
    | some l => some (.list l)
    | none => none
  | .tp ds => match D.pys ds with
    | some l => some (.tuple l)
    | none => none
  | _ => none
def D.pys : List D → Option (List PyData)
  | [] => some []
  | d :: ds => match D.py d, D.pys ds with
    | some x, some l => some (x :: l)
    | _, _ => none
end
@[simp] theorem pys_map (l : List PyData) : D.pys (l.map .sh) = some l := by
  induction l with
  | nil => rfl
  | cons d l ih => simp [D.pys, D.py, ih]

/-- read: the footprints do not matter -/
inductive RVs (G : Ga) (H : Hp) : List V → List D → Prop
  | nil : RVs G H [] []
  | cons {v : V} {vs : List V} {d : D} {ds : List D} {T : List Addr} : Rep G H v d T → RVs G H vs ds → RVs G H (v :: vs) (d :: ds)
def SqK (K : PySem.W.Frag) (H : Hp) (a : Addr) (xs : List V) : SK → Prop
  | .lst => SqL K H a xs
  | .tup => SqT K H a xs
section
variable {G : Ga} {H H' : Hp}
theorem Reps.of_unsh : ∀ {vs : List V} {ds : List D} {T : List Addr} {l : List PyData}, Reps G H vs ds T → unsh ds = some l → DpFs G.K H vs l ∧ T = []
  | _, _, _, _, .nil, e => by
    unfold unsh at e; cases e; exact ⟨.nil, rfl⟩
  | _, _, _, l, .cons (d := d) (ds := ds) h hs, e => by
    cases h with
    | sh h =>
      unfold unsh at e
      cases e2 : unsh ds with
      | none => rw [e2] at e; cases e
      | some m =>
        rw [e2] at e; cases e
        obtain ⟨a, b⟩ := Reps.of_unsh hs e2
        exact ⟨.cons h a, by rw [b]; rfl⟩
    | tp _ _ => unfold unsh at e; cases e
    | ls _ _ => unfold unsh at e; cases e
    | dk _ _ => unfold unsh at e; cases e
    | ob _ _ _ => unfold unsh at e; cases e
    | fn _ => unfold unsh at e; cases e
theorem Reps.to_sh : ∀ {vs : List V} {l : List PyData}, DpFs G.K H vs l → Reps G H vs (l.map .sh) []
  | _, _, .nil => .nil
  | _, _, .cons h hs => .cons (O := []) (O' := []) (.sh h) (Reps.to_sh hs)
theorem Rep.seq {v : V} {d : D} {T : List Addr} {k : SK} {l : List PyData} (h : Rep G H v d T) (e : d.seq = some (k, l)) : ∃ a xs, v = .ref a ∧ SqK G.K H a xs k ∧ DpFs G.K H xs l := by
  cases h with
  | sh h =>
    cases h with
    | lst q hs => unfold D.seq at e; cases e; exact ⟨_, _, rfl, q.seq, hs⟩
    | tup q hs => unfold D.seq at e; cases e; exact ⟨_, _, rfl, q, hs⟩
    | non => unfold D.seq at e; cases e
    | bl _ => unfold D.seq at e; cases e
    | int _ => unfold D.seq at e; cases e
    | str _ => unfold D.seq at e; cases e
  | @ls a xs ds O q hs =>
    cases e2 : unsh ds with
    | none => simp only [D.seq, e2] at e; cases e
    | some m =>
      simp only [D.seq, e2] at e; cases e
      exact ⟨_, _, rfl, SqL.of q, (hs.of_unsh e2).1⟩
  | tp _ _ => unfold D.seq at e; cases e
  | dk _ _ => unfold D.seq at e; cases e
  | ob _ _ _ => unfold D.seq at e; cases e
  | fn _ => unfold D.seq at e; cases e
mutual
theorem DpF.dp : ∀ {v : V} {d : PyData}, DpF G.K H v d → Dp G.K H v d
  | _, _, .non => .non
  | _, _, .bl b => .bl b
  | _, _, .int i => .int i
  | _, _, .str x => .str x
  | _, _, .lst h hs => .lst h.seq (DpFs.dp hs)
  | _, _, .tup h hs => .tup h (DpFs.dp hs)
theorem DpFs.dp : ∀ {vs : List V} {ds : List PyData}, DpFs G.K H vs ds → DpAll G.K H vs ds
  | _, _, .nil => .nil
  | _, _, .cons h hs => .cons (DpF.dp h) (DpFs.dp hs)
end
mutual
theorem Rep.dp : ∀ {v : V} {d : D} {T : List Addr} {p : PyData}, Rep G H v d T → d.py = some p → Dp G.K H v p
  | _, _, _, _, .sh h, e => by unfold D.py at e; cases e; exact h.dp
  | _, _, _, _, .tp (ds := ds) q hs, e => by
    unfold D.py at e
    cases e2 : D.pys ds with
    | none => rw [e2] at e; cases e
    | some l => rw [e2] at e; cases e; exact .tup q (Reps.dp hs e2)
  | _, _, _, _, .ls (ds := ds) q hs, e => by
    unfold D.py at e
    cases e2 : D.pys ds with
    | none => rw [e2] at e; cases e
    | some l => rw [e2] at e; cases e; exact .lst (SqL.of q) (Reps.dp hs e2)
  | _, _, _, _, .dk _ _, e => by unfold D.py at e; cases e
  | _, _, _, _, .ob _ _ _, e => by unfold D.py at e; cases e
  | _, _, _, _, .fn _, e => by unfold D.py at e; cases e
theorem Reps.dp : ∀ {vs : List V} {ds : List D} {T : List Addr} {l : List PyData}, Reps G H vs ds T → D.pys ds = some l → DpAll G.K H vs l
  | _, _, _, _, .nil, e => by unfold D.pys at e; cases e; exact .nil
  | _, _, _, _, .cons (d := d) (ds := ds) h hs, e => by
    unfold D.pys at e
    cases e1 : D.py d with
    | none => rw [e1] at e; cases e
    | some x =>
      cases e2 : D.pys ds with
      | none => rw [e1, e2] at e; cases e
      | some m => rw [e1, e2] at e; cases e; exact .cons (Rep.dp h e1) (Reps.dp hs e2)
end
theorem RVs.one {v : V} {ds : List D} (h : RVs G H [v] ds) : ∃ d T, ds = [d] ∧ Rep G H v d T := by
  cases h with | cons a b => cases b; exact ⟨_, _, rfl, a⟩
theorem RVs.two {v u : V} {ds : List D} (h : RVs G H [v, u] ds) : ∃ d e T T', ds = [d, e] ∧ Rep G H v d T ∧ Rep G H u e T' := by
  cases h with | cons a b => cases b with | cons c f => cases f; exact ⟨_, _, _, _, rfl, a, c⟩
theorem RVs.of1 {vs : List V} {d : D} (h : RVs G H vs [d]) : ∃ v T, vs = [v] ∧ Rep G H v d T := by
  cases h with | cons a b => cases b; exact ⟨_, _, rfl, a⟩
theorem RVs.of2 {vs : List V} {d e : D} (h : RVs G H vs [d, e]) : ∃ v u T T', vs = [v, u] ∧ Rep G H v d T ∧ Rep G H u e T' := by
  cases h with | cons a b => cases b with | cons c f => cases f; exact ⟨_, _, _, _, rfl, a, c⟩
theorem Rep.int_of {v : V} {i : Int} {T : List Addr} (h : Rep G H v (.sh (.int i)) T) : v = .int i := by
  cases h with | sh h => cases h; rfl
theorem Rep.bl_of {v : V} {b : Bool} {T : List Addr} (h : Rep G H v (.sh (.bool b)) T) : v = .bl b := by
  cases h with | sh h => cases h; rfl
theorem Rep.str_of {v : V} {x : Str} {T : List Addr} (h : Rep G H v (.sh (.str x)) T) : v = .str x := by
  cases h with | sh h => cases h; rfl
theorem Rep.non_of {v : V} {T : List Addr} (h : Rep G H v (.sh .none) T) : v = .non := by
  cases h with | sh h => cases h; rfl
theorem DpFs.len : ∀ {vs : List V} {l : List PyData}, DpFs G.K H vs l → vs.length = l.length
  | _, _, .nil => rfl
  | _, _, .cons _ hs => congrArg (· + 1) (DpFs.len hs)
theorem DpFs.app : ∀ {vs us : List V} {l m : List PyData}, DpFs G.K H vs l → DpFs G.K H us m → DpFs G.K H (vs ++ us) (l ++ m)
  | _, _, _, _, .nil, q => q
  | _, _, _, _, .cons h hs, q => .cons h (DpFs.app hs q)
theorem DpFs.get : ∀ {vs : List V} {l : List PyData} {i : Nat} {d : PyData}, DpFs G.K H vs l → l[i]? = some d → ∃ v, vs[i]? = some v ∧ DpF G.K H v d
  | _, _, i, d, .nil, e => by simp at e
  | _, _, 0, d, .cons h hs, e => by simp at e; subst e; exact ⟨_, rfl, h⟩
  | _, _, i + 1, d, .cons h hs, e => by
    obtain ⟨v, a, b⟩ := DpFs.get (i := i) hs (by simpa using e)
    exact ⟨v, by simpa using a, b⟩
theorem DpFs.take : ∀ {vs : List V} {l : List PyData} (n : Nat), DpFs G.K H vs l → DpFs G.K H (vs.take n) (l.take n)
  | _, _, 0, _ => .nil
  | _, _, n + 1, .nil => .nil
  | _, _, n + 1, .cons h hs => .cons h (DpFs.take n hs)
theorem DpFs.drop : ∀ {vs : List V} {l : List PyData} (n : Nat), DpFs G.K H vs l → DpFs G.K H (vs.drop n) (l.drop n)
  | _, _, 0, h => h
  | _, _, n + 1, .nil => .nil
  | _, _, n + 1, .cons h hs => DpFs.drop n hs
theorem DpFs.rep {vs : List V} {l : List PyData} (h : DpFs G.K H vs l) : ∀ k : Nat, DpFs G.K H (List.replicate k vs).flatten (List.replicate k l).flatten
  | 0 => .nil
  | k + 1 => by
    simp only [List.replicate_succ, List.flatten_cons]
    exact DpFs.app h (DpFs.rep h k)
theorem DpFs.rev : ∀ {vs : List V} {l : List PyData}, DpFs G.K H vs l → DpFs G.K H vs.reverse l.reverse
  | _, _, .nil => .nil
  | _, _, .cons h hs => by
    simp only [List.reverse_cons]
    exact DpFs.app (DpFs.rev hs) (.cons h .nil)
theorem DpFs.nil_iff {vs : List V} {l : List PyData} (h : DpFs G.K H vs l) : vs = [] ↔ l = [] := by
  cases h with
  | nil => simp
  | cons _ _ => simp

/-- a new value: nothing that stood is touched -/
def NewR (G : Ga) (H : Hp) (d : D) (Q : VK) : Prop := ∀ v H' T, Rep G H' v d T → T.Nodup → (∀ a ∈ T, H a = none) → Frm [] H H' → Q v H'
theorem NewR.sh {p : PyData} {Q : VK} (h : NewR G H (.sh p) Q) {v : V} (r : DpF G.K H v p) : Q v H := h v H [] (.sh r) .nil (fun _ q => nomatch q) fun _ _ e _ => e
theorem frm_new {a : Addr} {o : HO} (h : H a = none) : Frm [] H (upd H a o) := fun b u e _ => by rw [upd_ne (ne_of_none e h)]; exact e
theorem mut_nil : MutA H [] := fun _ q => nomatch q
/-- a new tuple of shared things -/
theorem NewR.tup {l : List PyData} {Q : VK} (h : NewR G H (.sh (.tuple l)) Q) {xs : List V} (r : DpFs G.K H xs l) {p : Addr} (hp : H p = none) : Q (.ref p) (upd H p (.tup xs)) :=
  h (.ref p) _ [] (.sh (.tup (SqT.of upd_same) (DpFs.fr (G := G) (S := []) r (frm_new hp) mut_nil))) .nil (fun _ q => nomatch q) (frm_new hp)
/-- a new list of shared things -/
theorem NewR.lst {l : List PyData} {Q : VK} (h : NewR G H (.ls (l.map .sh)) Q) {xs : List V} (r : DpFs G.K H xs l) {p : Addr} (hp : H p = none) : Q (.ref p) (upd H p (.lst xs)) :=
  h (.ref p) _ [p] (.ls upd_same (Reps.to_sh (DpFs.fr (G := G) (S := []) r (frm_new hp) mut_nil))) (by simp) (fun a q => by simp at q; subst q; exact hp) (frm_new hp)
end
end Vs
/-! V3: operators and built-ins on values, with their rules. -/
namespace Vs
open PySem PySem.Spec L2
open PyProof.Rows hiding St

abbrev DI (i : Int) : D := .sh (.int i)
abbrev DB (b : Bool) : D := .sh (.bool b)
abbrev DS (x : Str) : D := .sh (.str x)
/-- an owned list of shared things -/
abbrev DL (l : List PyData) : D := .ls (l.map .sh)
abbrev DT (l : List PyData) : D := .sh (.tuple l)
def guardO (c : Bool) (d : D) : Option D := if c = true then some d else none
theorem guardO_some {c : Bool} {d e : D} (h : guardO c d = some e) : c = true ∧ d = e := by
  unfold guardO at h
  split at h
  · exact ⟨by assumption, Option.some.inj h⟩
  · cases h
@[simp] theorem guardO_true {d : D} : guardO true d = some d := rfl

/-- an owned list of shared things -/
def D.own : D → Option (List PyData)
  | .ls ds => unsh ds
  | _ => none
def oAdd : D → D → Option D
  | .sh (.int i), .sh (.int j) => some (DI (i + j))
  | .sh (.str x), .sh (.str y) => guardO (decide (x.length + y.length ≤ sizeLine)) (DS (x ++ y))
  | .sh (.tuple l), .sh (.tuple m) => guardO (decide (l.length + m.length ≤ sizeLine)) (DT (l ++ m))
  | .ls ds, .ls es => match unsh ds, unsh es with
    | some l, some m => guardO (decide (l.length + m.length ≤ sizeLine)) (DL (l ++ m))
    | _, _ => none
  | _, _ => none
def oInt2 (f : Int → Int → Int) (c : Int → Int → Bool) : D → D → Option D
  | .sh (.int i), .sh (.int j) => guardO (c i j) (DI (f i j))
  | _, _ => none
def small64b (i : Int) : Bool := decide (i.natAbs < 18446744073709551616)
def oMul : D → D → Option D
  | .sh (.int i), .sh (.int j) => guardO (small64b i || small64b j) (DI (i * j))
  | .ls ds, .sh (.int k) => match unsh ds with
    | some l => guardO (decide (k < 16777216) && decide (-16777216 < k) && decide (l.length * k.toNat ≤ sizeLine)) (DL (List.replicate k.toNat l).flatten)
    | none => none
  | .sh (.tuple l), .sh (.int k) => guardO (decide (2 ≤ k) && decide (k ≤ 1000) && decide (l.length ≤ 1000) && !l.isEmpty) (DT (List.replicate k.toNat l).flatten)
  | _, _ => none
def oCmpI (f : Int → Int → Bool) : D → D → Option D
  | .sh (.int i), .sh (.int j) => some (DB (f i j))
  | _, _ => none
def oEq (neg : Bool) (x y : D) : Option D := match x.py, y.py with
  | some p, some q => guardO (SeqAt.shaped p && SeqAt.shaped q) (DB (neg != PyData.eqv p q))
  | _, _ => none
def oIn (neg : Bool) (x y : D) : Option D := match x.py, y.py with
  | some p, some (.list l) => guardO (SeqAt.shaped p && SeqAt.shaped (.list l)) (DB (neg != l.any fun z => PyData.eqv z p))
  | some p, some (.tuple l) => guardO (SeqAt.shaped p && SeqAt.shaped (.tuple l)) (DB (neg != l.any fun z => PyData.eqv z p))
  | _, _ => none
def oIs (neg : Bool) : D → D → Option D
  | .sh p, .sh .none => some (DB (neg != match p with | .none => true | _ => false))
  | _, .sh .none => some (DB neg)
  | _, _ => none
def shOnly : Option D → Option D
  | some (.sh p) => some (.sh p)
  | _ => none
def oIx : D → D → Option D
  | .ls ds, .sh (.int i) => shOnly (atI ds i)
  | .tp ds, .sh (.int i) => shOnly (atI ds i)
  | .sh (.list l), .sh (.int i) => (atI l i).map .sh
  | .sh (.tuple l), .sh (.int i) => (atI l i).map .sh
  | .sh (.str z), .sh (.int i) => if z.length ≤ sizeLine then (atI z.cps.toList i).map fun c => DS ⟨#[c]⟩ else none
  | _, _ => none
def cutL (xs : List PyData) (lo hi : Option Int) : List PyData := (xs.drop (HT.sIx xs.length 0 lo)).take (HT.sIx xs.length xs.length hi - HT.sIx xs.length 0 lo)
def oSl (lo hi : Option Int) : D → Option D
  | .ls ds => match unsh ds with
    | some l => some (DL (cutL l lo hi))
    | none => none
  | .sh (.list l) => some (DL (cutL l lo hi))
  | .sh (.tuple l) => some (DT (cutL l lo hi))
  | _ => none
def oLen : D → Option D
  | .sh (.list l) => some (DI l.length)
  | .sh (.tuple l) => some (DI l.length)
  | .sh (.str x) => guardO (decide (x.length ≤ sizeLine)) (DI x.length)
  | .ls ds => some (DI ds.length)
  | .tp ds => some (DI ds.length)
  | _ => none
def oNeg : D → Option D
  | .sh (.int i) => some (DI (-i))
  | _ => none
def oAbs : D → Option D
  | .sh (.int i) => some (DI (if i < 0 then -i else i))
  | _ => none
def oInt : D → Option D
  | .sh (.int i) => some (DI i)
  | .sh (.bool b) => some (DI (if b then 1 else 0))
  | _ => none
def oRepr (x : D) : Option D := match x.py with
  | some p => guardO (p.showable && !p.hasDict && decide (p.depth ≤ 60) && decide (p.shown.length ≤ sizeLine)) (DS p.shown)
  | none => none
def oList (x : D) : Option D := match x.seq with
  | some (_, l) => some (DL l)
  | none => none
def oTuple (x : D) : Option D := match x.seq with
  | some (_, l) => some (DT l)
  | none => none
def allAlike (l : List PyData) : Bool := l.all fun a => l.all fun b => PySem.W.alike a b
def sortableB (l : List PyData) : Bool := (l.all fun d => match d with | .tuple (_ :: _) => true | _ => false) || (l.all fun d => match d with | .none => false | .tuple _ => false | _ => true)
def oSorted (x : D) : Option D := match x.seq with
  | some (.lst, l) => guardO (allAlike l && sortableB l && decide (PyData.depthAll l ≤ 60)) (DL (l.mergeSort (PySem.W.dataLe false id)))
  | _ => none
def intsOf : List PyData → Option (List Int)
  | [] => some []
  | .int i :: r => match intsOf r with
    | some l => some (i :: l)
    | none => none
  | _ :: _ => none
@[simp] theorem intsOf_map (l : List Int) : intsOf (l.map .int) = some l := by
  induction l with
  | nil => rfl
  | cons d l ih => simp [intsOf, ih]
def oSum (x : D) : Option D := match x.seq with
  | some (.lst, l) => match intsOf l with
    | some ns => some (DI ns.sum)
    | none => none
  | _ => none
def boolsOf : List PyData → Option (List Bool)
  | [] => some []
  | .bool i :: r => match boolsOf r with
    | some l => some (i :: l)
    | none => none
  | _ :: _ => none
@[simp] theorem boolsOf_map (l : List Bool) : boolsOf (l.map .bool) = some l := by
  induction l with
  | nil => rfl
  | cons d l ih => simp [boolsOf, ih]
def oAll (x : D) : Option D := match x.seq with
  | some (.lst, l) => match boolsOf l with
    | some ns => some (DB (ns.all id))
    | none => none
  | _ => none
def oAny (x : D) : Option D := match x.seq with
  | some (.lst, l) => match boolsOf l with
    | some ns => some (DB (ns.any id))
    | none => none
  | _ => none
inductive Ty where
  | int | bool | str | list | tuple | dict
  deriving DecidableEq
def Ty.nm : Ty → String
  | .int => "int" | .bool => "bool" | .str => "str" | .list => "list" | .tuple => "tuple" | .dict => "dict"
def D.ty : D → Option String
  | .sh .none => some "NoneType"
  | .sh (.bool _) => some "bool"
  | .sh (.int _) => some "int"
  | .sh (.str _) => some "str"
  | .sh (.list _) => some "list"
  | .sh (.tuple _) => some "tuple"
  | .ls _ => some "list"
  | .tp _ => some "tuple"
  | .dk _ _ => some "dict"
  | _ => none
def isiTab (a : String) (t : Ty) : Bool := match t with
  | .int => a == "int" || a == "bool"
  | t => a == t.nm
def oIsi (t : Ty) (x : D) : Option D := match x.ty with
  | some a => some (DB (isiTab a t))
  | none => none
end Vs
/-! V4: the rules of the operators and built-ins. -/
namespace Vs
open PySem PySem.Spec L2
open PyProof.Rows hiding St
def r2 (G : Ga) (o : D → D → Option D) : R2 := fun x y H Q => ∃ d e z T T', Rep G H x d T ∧ Rep G H y e T' ∧ o d e = some z ∧ NewR G H z Q
def r1 (G : Ga) (o : D → Option D) : List V → Hp → VK → Prop := fun vs H Q => ∃ x d z T, vs = [x] ∧ Rep G H x d T ∧ o d = some z ∧ NewR G H z Q
section
variable {X : Cx} {G : Ga} {H : Hp}
theorem NewR.int {i : Int} {Q : VK} (h : NewR G H (DI i) Q) : Q (.int i) H := h.sh (.int i)
theorem NewR.bl {i : Bool} {Q : VK} (h : NewR G H (DB i) Q) : Q (.bl i) H := h.sh (.bl i)
theorem NewR.str {i : Str} {Q : VK} (h : NewR G H (DS i) Q) : Q (.str i) H := h.sh (.str i)
theorem Rep.tup_of {v : V} {l : List PyData} {T : List Addr} (h : Rep G H v (.sh (.tuple l)) T) : ∃ a xs, v = .ref a ∧ SqT G.K H a xs ∧ DpFs G.K H xs l := by
  cases h with | sh h => cases h with | tup a b => exact ⟨_, _, rfl, a, b⟩
theorem Rep.fl_of {v : V} {l : List PyData} {T : List Addr} (h : Rep G H v (.sh (.list l)) T) : ∃ a xs, v = .ref a ∧ SqL G.K H a xs ∧ DpFs G.K H xs l := by
  cases h with | sh h => cases h with | lst a b => exact ⟨_, _, rfl, a.seq, b⟩
theorem Rep.ls_of {v : V} {ds : List D} {l : List PyData} {T : List Addr} (h : Rep G H v (.ls ds) T) (e : unsh ds = some l) : ∃ a xs, v = .ref a ∧ H a = some (.lst xs) ∧ DpFs G.K H xs l := by
  cases h with | ls a b => exact ⟨_, _, rfl, a, (b.of_unsh e).1⟩
theorem int2_of {o : Int → Int → Int} {c : Int → Int → Bool} {x y : V} {d e z : D} {T T' : List Addr} (hx : Rep G H x d T) (hy : Rep G H y e T') (h : oInt2 o c d e = some z) : ∃ i j, x = .int i ∧ y = .int j ∧ c i j = true ∧ z = DI (o i j) := by
  unfold oInt2 at h
  split at h
  · obtain ⟨a, b⟩ := guardO_some h
    exact ⟨_, _, hx.int_of, hy.int_of, a, b.symm⟩
  · cases h
theorem opImp {f : Value → Value → Sem Value} {r r' : R2} (h : OpR X f r) (i : ∀ x y H Q, r' x y H Q → r x y H Q) : OpR X f r' := fun pins s σ H x y v u Q I rx ry q => h pins s σ H x y v u Q I rx ry (i _ _ _ _ q)
theorem callImp {f : Value} {r r' : List V → Hp → VK → Prop} (h : CallR X f r) (i : ∀ xs H Q, r' xs H Q → r xs H Q) : CallR X f r' := fun pins s σ H xs us Q I rx q => h pins s σ H xs us Q I rx (i _ _ _ q)
theorem OpR.cases {f : Value → Value → Sem Value} {r : R2} (h : ∀ x y H Q, r x y H Q → ∃ r', OpR X f r' ∧ r' x y H Q) : OpR X f r := fun pins s σ H x y v u Q I rx ry q => by
  obtain ⟨r', a, b⟩ := h _ _ _ _ q
  exact a pins s σ H x y v u Q I rx ry b
theorem CallR.cases {f : Value} {r : List V → Hp → VK → Prop} (h : ∀ xs H Q, r xs H Q → ∃ r', CallR X f r' ∧ r' xs H Q) : CallR X f r := fun pins s σ H x v Q I rx q => by
  obtain ⟨r', a, b⟩ := h _ _ _ q
  exact a pins s σ H x v Q I rx b

theorem v_add (hG : G.K = X.K) : OpR X (binaryOp .Add) (r2 G oAdd) := OpR.cases fun x y H Q ⟨d, e, z, T, T', hx, hy, ho, hn⟩ => by
  unfold oAdd at ho
  split at ho
  · cases ho
    exact ⟨_, op_add, _, _, hx.int_of, hy.int_of, hn.int⟩
  · obtain ⟨c, rfl⟩ := guardO_some ho
    exact ⟨_, op_add_str, _, _, hx.str_of, hy.str_of, of_decide_eq_true c, hn.str⟩
  · obtain ⟨c, rfl⟩ := guardO_some ho
    obtain ⟨a, xs, rfl, ha, da⟩ := hx.tup_of
    obtain ⟨b, ys, rfl, hb, db⟩ := hy.tup_of
    have c := of_decide_eq_true c
    refine ⟨_, op_catA, a, b, xs, ys, rfl, rfl, hG ▸ ha, hG ▸ hb, by rw [da.len, db.len]; exact c, fun e => ?_, fun _ e => ?_, fun _ _ p hp => ?_⟩
    · have : _ = _ := da.nil_iff.mp e
      subst this
      exact hn.sh (.tup hb db)
    · have : _ = _ := db.nil_iff.mp e
      subst this
      rw [List.append_nil] at hn
      exact hn.sh (.tup ha da)
    · exact hn.tup (da.app db) hp
  · split at ho
    · obtain ⟨c, rfl⟩ := guardO_some ho
      obtain ⟨a, xs, rfl, ha, da⟩ := hx.ls_of (by assumption)
      obtain ⟨b, ys, rfl, hb, db⟩ := hy.ls_of (by assumption)
      have c := of_decide_eq_true c
      exact ⟨_, op_cat, a, b, xs, ys, rfl, rfl, ha, hb, by rw [da.len, db.len]; exact c, fun p hp => hn.lst (da.app db) hp⟩
    · cases ho
  · cases ho
theorem v_int2 {op : Operator} {o : Int → Int → Int} {c : Int → Int → Bool} {C : Int → Int → Prop} (h : OpR X (binaryOp op) (rI C fun i j => .int (o i j))) (hc : ∀ i j, c i j = true → C i j) : OpR X (binaryOp op) (r2 G (oInt2 o c)) :=
  opImp h fun x y H Q ⟨d, e, z, T, T', hx, hy, ho, hn⟩ => by
    obtain ⟨i, j, rfl, rfl, a, rfl⟩ := int2_of hx hy ho
    exact ⟨i, j, rfl, rfl, hc i j a, hn.int⟩
theorem v_int20 {op : Operator} {o : Int → Int → Int} (h : OpR X (binaryOp op) (rI0 fun i j => .int (o i j))) : OpR X (binaryOp op) (r2 G (oInt2 o fun _ _ => true)) :=
  opImp h fun x y H Q ⟨d, e, z, T, T', hx, hy, ho, hn⟩ => by
    obtain ⟨i, j, rfl, rfl, a, rfl⟩ := int2_of hx hy ho
    exact ⟨i, j, rfl, rfl, hn.int⟩
theorem small64_mul {i j : Int} (h : (small64b i || small64b j) = true) : CMul i j := by
  rcases (Bool.or_eq_true _ _).mp h with h | h
  · have := of_decide_eq_true h; left; omega
  · have := of_decide_eq_true h; right; omega
theorem v_mul (hG : G.K = X.K) : OpR X (binaryOp .Mult) (r2 G oMul) := OpR.cases fun x y H Q ⟨d, e, z, T, T', hx, hy, ho, hn⟩ => by
  unfold oMul at ho
  split at ho
  · obtain ⟨c, rfl⟩ := guardO_some ho
    exact ⟨_, op_mul, _, _, hx.int_of, hy.int_of, small64_mul c, hn.int⟩
  · split at ho
    · obtain ⟨c, rfl⟩ := guardO_some ho
      simp only [Bool.and_eq_true, decide_eq_true_eq] at c
      obtain ⟨a, xs, rfl, ha, da⟩ := hx.ls_of (by assumption)
      exact ⟨_, op_rep, a, _, xs, rfl, hy.int_of, ha, by omega, by omega, by rw [da.len]; exact c.2, fun p hp => hn.lst (da.rep _) hp⟩
    · cases ho
  · obtain ⟨c, rfl⟩ := guardO_some ho
    simp only [Bool.and_eq_true, decide_eq_true_eq] at c
    obtain ⟨a, xs, rfl, ha, da⟩ := hx.tup_of
    refine ⟨_, op_repT, a, _, xs, rfl, hy.int_of, hG ▸ ha, fun e => ?_, c.1.1.1, c.1.1.2, by rw [da.len]; exact c.1.2, fun p hp => hn.tup (da.rep _) hp⟩
    have z := da.nil_iff.mp e
    rw [z] at c; exact absurd c.2 (by decide)
  · cases ho
theorem v_cmpI {op : CmpOp} {o : Int → Int → Bool} (h : OpR X (compareOp op) (rI0 fun i j => .bl (o i j))) : OpR X (compareOp op) (r2 G (oCmpI o)) :=
  opImp h fun x y H Q ⟨d, e, z, T, T', hx, hy, ho, hn⟩ => by
    unfold oCmpI at ho
    split at ho
    · cases ho; exact ⟨_, _, hx.int_of, hy.int_of, hn.bl⟩
    · cases ho
theorem v_eq (hG : G.K = X.K) (hu : X.A.units + 64 < cLine) : OpR X (compareOp .Eq) (r2 G (oEq false)) := opImp (op_eqD hu) fun x y H Q ⟨d, e, z, T, T', hx, hy, ho, hn⟩ => by
  unfold oEq at ho
  split at ho
  · obtain ⟨c, rfl⟩ := guardO_some ho
    simp only [Bool.and_eq_true] at c
    exact ⟨_, _, hG ▸ hx.dp (by assumption), hG ▸ hy.dp (by assumption), c.1, c.2, by have := hn.bl; simpa using this⟩
  · cases ho
theorem v_ne (hG : G.K = X.K) (hu : X.A.units + 64 < cLine) : OpR X (compareOp .NotEq) (r2 G (oEq true)) := opImp (op_neD hu) fun x y H Q ⟨d, e, z, T, T', hx, hy, ho, hn⟩ => by
  unfold oEq at ho
  split at ho
  · obtain ⟨c, rfl⟩ := guardO_some ho
    simp only [Bool.and_eq_true] at c
    exact ⟨_, _, hG ▸ hx.dp (by assumption), hG ▸ hy.dp (by assumption), c.1, c.2, by have := hn.bl; simpa using this⟩
  · cases ho
def rInT (K : PySem.W.Frag) (neg : Bool) : R2 := fun x y H Q => ∃ d ds, Dp K H x d ∧ Dp K H y (.tuple ds) ∧ SeqAt.shaped d = true ∧ SeqAt.shaped (.tuple ds) = true ∧ Q (.bl (neg != ds.any fun z => PyData.eqv z d)) H
theorem in_room {K : PySem.W.Frag} {A : Around} {d : PyData} {ds : List PyData} (sd : SeqAt.shaped d = true) (hu : A.units + 65 < cLine) : A.units + 1 + min (PyData.depthAll ds) d.depth < cLine := by
  have h1 := SeqAt.depth_of_shaped sd
  have h2 : min (PyData.depthAll ds) d.depth ≤ d.depth := Nat.min_le_right _ _
  omega
theorem op_inT (hu : X.A.units + 65 < cLine) : OpR X (compareOp .In) (rInT X.K false) := by
  intro pins s σ H x y v u Q I rx ry ⟨d, ds, hd, he, sd, se, q⟩
  obtain ⟨as, r1⟩ := Dp.reads I d x v hd rx
  obtain ⟨bs, r2⟩ := Dp.reads I (.tuple ds) y u he ry
  exact SeqAt.in_tuple_reads r2 r1 (SeqAt.canLay_of_shaped se) (SeqAt.canLay_of_shaped sd) (in_room (K := X.K) sd hu) ⟨.bl _, H, I, rfl, by simpa using q⟩
theorem op_notInT (hu : X.A.units + 65 < cLine) : OpR X (compareOp .NotIn) (rInT X.K true) := by
  intro pins s σ H x y v u Q I rx ry ⟨d, ds, hd, he, sd, se, q⟩
  obtain ⟨as, r1⟩ := Dp.reads I d x v hd rx
  obtain ⟨bs, r2⟩ := Dp.reads I (.tuple ds) y u he ry
  exact SeqAt.notIn_tuple_reads r2 r1 (SeqAt.canLay_of_shaped se) (SeqAt.canLay_of_shaped sd) (in_room (K := X.K) sd hu) ⟨.bl _, H, I, rfl, by simpa using q⟩
theorem v_in (hG : G.K = X.K) (hu : X.A.units + 65 < cLine) : OpR X (compareOp .In) (r2 G (oIn false)) := OpR.cases fun x y H Q ⟨d, e, z, T, T', hx, hy, ho, hn⟩ => by
  unfold oIn at ho
  split at ho
  · obtain ⟨c, rfl⟩ := guardO_some ho
    simp only [Bool.and_eq_true] at c
    exact ⟨_, op_inD hu, _, _, hG ▸ hx.dp (by assumption), hG ▸ hy.dp (by assumption), c.1, c.2, by have := hn.bl; simpa using this⟩
  · obtain ⟨c, rfl⟩ := guardO_some ho
    simp only [Bool.and_eq_true] at c
    exact ⟨_, op_inT hu, _, _, hG ▸ hx.dp (by assumption), hG ▸ hy.dp (by assumption), c.1, c.2, hn.bl⟩
  · cases ho
theorem v_notin (hG : G.K = X.K) (hu : X.A.units + 65 < cLine) : OpR X (compareOp .NotIn) (r2 G (oIn true)) := OpR.cases fun x y H Q ⟨d, e, z, T, T', hx, hy, ho, hn⟩ => by
  unfold oIn at ho
  split at ho
  · obtain ⟨c, rfl⟩ := guardO_some ho
    simp only [Bool.and_eq_true] at c
    exact ⟨_, op_notInD hu, _, _, hG ▸ hx.dp (by assumption), hG ▸ hy.dp (by assumption), c.1, c.2, by have := hn.bl; simpa using this⟩
  · obtain ⟨c, rfl⟩ := guardO_some ho
    simp only [Bool.and_eq_true] at c
    exact ⟨_, op_notInT hu, _, _, hG ▸ hx.dp (by assumption), hG ▸ hy.dp (by assumption), c.1, c.2, hn.bl⟩
  · cases ho
theorem is_of {neg : Bool} {x y : V} {d e z : D} {T T' : List Addr} (hx : Rep G H x d T) (hy : Rep G H y e T') (ho : oIs neg d e = some z) : y = .non ∧ z = DB (neg != decide (x = .non)) := by
  unfold oIs at ho
  split at ho
  · cases ho
    refine ⟨hy.non_of, ?_⟩
    cases hx with
    | sh hx => cases hx <;> simp
  · cases ho
    refine ⟨hy.non_of, ?_⟩
    cases hx with
    | sh hx => exact absurd rfl (by rename_i h; exact h _)
    | tp _ _ => simp
    | ls _ _ => simp
    | dk _ _ => simp
    | ob _ _ _ => simp
    | fn _ => simp
  · cases ho
theorem v_is : OpR X (compareOp .Is) (r2 G (oIs false)) := opImp op_isN fun x y H Q ⟨d, e, z, T, T', hx, hy, ho, hn⟩ => by
  obtain ⟨a, rfl⟩ := is_of hx hy ho
  exact ⟨a, by have := hn.bl; simpa using this⟩
theorem v_isnot : OpR X (compareOp .IsNot) (r2 G (oIs true)) := opImp op_notN fun x y H Q ⟨d, e, z, T, T', hx, hy, ho, hn⟩ => by
  obtain ⟨a, rfl⟩ := is_of hx hy ho
  exact ⟨a, by have := hn.bl; simpa using this⟩
end
end Vs
/-! V5: the rules of built-in calls, items, slices. -/
namespace Vs
open PySem PySem.Spec L2
open PyProof.Rows hiding St
section
variable {X : Cx} {G : Ga} {H : Hp}
theorem Reps.get : ∀ {vs : List V} {ds : List D} {O : List Addr} {i : Nat} {d : D}, Reps G H vs ds O → ds[i]? = some d → ∃ v T, vs[i]? = some v ∧ Rep G H v d T
  | _, _, _, i, d, .nil, e => by simp at e
  | _, _, _, 0, d, .cons h hs, e => by simp at e; subst e; exact ⟨_, _, rfl, h⟩
  | _, _, _, i + 1, d, .cons h hs, e => by
    obtain ⟨v, T, a, b⟩ := Reps.get (i := i) hs (by simpa using e)
    exact ⟨v, T, by simpa using a, b⟩
theorem Reps.len : ∀ {vs : List V} {ds : List D} {O : List Addr}, Reps G H vs ds O → vs.length = ds.length
  | _, _, _, .nil => rfl
  | _, _, _, .cons _ hs => congrArg (· + 1) (Reps.len hs)
theorem atI_to {α β : Type} {xs : List α} {ys : List β} {i : Int} {y : β} (hl : xs.length = ys.length) (h : atI ys i = some y) : ∃ j : Nat, ys[j]? = some y ∧ ∀ x, xs[j]? = some x → atI xs i = some x := by
  unfold atI at h
  cases e : ixN ys.length i with
  | none => rw [e] at h; cases h
  | some j =>
    rw [e] at h
    refine ⟨j, h, fun x hx => ?_⟩
    unfold atI
    rw [hl, e]
    exact hx
theorem shOnly_some {o : Option D} {z : D} (h : shOnly o = some z) : ∃ p, z = .sh p ∧ o = some (.sh p) := by
  unfold shOnly at h
  split at h
  · cases h; exact ⟨_, rfl, rfl⟩
  · cases h
theorem Rep.sh_of {v : V} {p : PyData} {T : List Addr} (h : Rep G H v (.sh p) T) : DpF G.K H v p := by cases h; assumption
theorem ixCases {r : R2} (h : ∀ x y H Q, r x y H Q → ∃ r', IxR X r' ∧ r' x y H Q) : IxR X r := fun a b pins s σ H x y v u Q I rx ry q hs => by
  obtain ⟨r', k, z⟩ := h _ _ _ _ q
  exact k a b pins s σ H x y v u Q I rx ry z hs
theorem v_ix (hG : G.K = X.K) : IxR X (r2 G oIx) := ixCases fun x y H Q ⟨d, e, z, T, T', hx, hy, ho, hn⟩ => by
  unfold oIx at ho
  split at ho
  · obtain ⟨p, rfl, ha⟩ := shOnly_some ho
    cases hx with
    | ls q hs =>
      obtain ⟨j, e1, e2⟩ := atI_to hs.len ha
      obtain ⟨v, T, e3, r⟩ := hs.get e1
      exact ⟨_, ix_list, _, _, _, v, rfl, hy.int_of, hG ▸ SqL.of q, e2 v e3, hn.sh r.sh_of⟩
  · obtain ⟨p, rfl, ha⟩ := shOnly_some ho
    cases hx with
    | tp q hs =>
      obtain ⟨j, e1, e2⟩ := atI_to hs.len ha
      obtain ⟨v, T, e3, r⟩ := hs.get e1
      exact ⟨_, ix_tup, _, _, _, v, rfl, hy.int_of, hG ▸ q, e2 v e3, hn.sh r.sh_of⟩
  · obtain ⟨p, ha, rfl⟩ := Option.map_eq_some_iff.mp ho
    obtain ⟨a, xs, rfl, q, hs⟩ := hx.fl_of
    obtain ⟨j, e1, e2⟩ := atI_to hs.len ha
    obtain ⟨v, e3, r⟩ := hs.get e1
    exact ⟨_, ix_list, _, _, _, v, rfl, hy.int_of, hG ▸ q, e2 v e3, hn.sh r⟩
  · obtain ⟨p, ha, rfl⟩ := Option.map_eq_some_iff.mp ho
    obtain ⟨a, xs, rfl, q, hs⟩ := hx.tup_of
    obtain ⟨j, e1, e2⟩ := atI_to hs.len ha
    obtain ⟨v, e3, r⟩ := hs.get e1
    exact ⟨_, ix_tup, _, _, _, v, rfl, hy.int_of, hG ▸ q, e2 v e3, hn.sh r⟩
  · split at ho
    · obtain ⟨c, ha, rfl⟩ := Option.map_eq_some_iff.mp ho
      exact ⟨_, ix_str, _, _, c, hx.str_of, hy.int_of, by assumption, ha, hn.str⟩
    · cases ho
  · cases ho
/-! ### slices -/
def rSl (G : Ga) : V → Option Int → Option Int → Hp → VK → Prop := fun x lo hi H Q => ∃ d z T, Rep G H x d T ∧ oSl lo hi d = some z ∧ NewR G H z Q
theorem slCases {r : V → Option Int → Option Int → Hp → VK → Prop} (h : ∀ x lo hi H Q, r x lo hi H Q → ∃ r', SlR X r' ∧ r' x lo hi H Q) : SlR X r := fun pins s σ H x v vl vu lo hi sl Q I rx hs pl pu q => by
  obtain ⟨r', k, z⟩ := h _ _ _ _ _ q
  exact k pins s σ H x v vl vu lo hi sl Q I rx hs pl pu z
theorem DpFs.cut {vs : List V} {l : List PyData} (lo hi : Option Int) (h : DpFs G.K H vs l) : DpFs G.K H (cutV vs lo hi) (cutL l lo hi) := by
  unfold cutV cutL
  rw [h.len]
  exact (h.drop _).take _
theorem cut_whole {l : List PyData} {lo hi : Option Int} (h : HT.sIx l.length 0 lo = 0 ∧ HT.sIx l.length l.length hi = l.length) : cutL l lo hi = l := by
  unfold cutL
  rw [h.1, h.2]
  simp
theorem v_sl (hG : G.K = X.K) : SlR X (rSl G) := slCases fun x lo hi H Q ⟨d, z, T, hx, ho, hn⟩ => by
  unfold oSl at ho
  split at ho
  · split at ho
    · cases ho
      obtain ⟨a, xs, rfl, q, hs⟩ := hx.ls_of (by assumption)
      exact ⟨_, sl_list, a, xs, rfl, SqL.of q, fun p hp => hn.lst (hs.cut lo hi) hp⟩
    · cases ho
  · cases ho
    obtain ⟨a, xs, rfl, q, hs⟩ := hx.fl_of
    exact ⟨_, sl_list, a, xs, rfl, hG ▸ q, fun p hp => hn.lst (hs.cut lo hi) hp⟩
  · cases ho
    obtain ⟨a, xs, rfl, q, hs⟩ := hx.tup_of
    refine ⟨_, sl_tupA, a, xs, rfl, hG ▸ q, fun w => ?_, fun w p hp => hn.tup (hs.cut lo hi) hp⟩
    rw [hs.len] at w
    rw [cut_whole w] at hn
    exact hn.sh (.tup q hs)
  · cases ho
/-! ### calls -/
theorem v_len (hG : G.K = X.K) : CallR X (.builtin "len") (r1 G oLen) := CallR.cases fun vs H Q ⟨x, d, z, T, e, hx, ho, hn⟩ => by
  subst e
  unfold oLen at ho
  split at ho
  · cases ho
    obtain ⟨a, xs, rfl, q, hs⟩ := hx.fl_of
    exact ⟨_, call_len_seq, a, xs, rfl, .inl (hG ▸ q), by rw [hs.len]; exact hn.int⟩
  · cases ho
    obtain ⟨a, xs, rfl, q, hs⟩ := hx.tup_of
    exact ⟨_, call_len_seq, a, xs, rfl, .inr (hG ▸ q), by rw [hs.len]; exact hn.int⟩
  · obtain ⟨c, rfl⟩ := guardO_some ho
    exact ⟨_, call_len_str, _, by rw [hx.str_of], of_decide_eq_true c, hn.int⟩
  · cases ho
    cases hx with
    | ls q hs => exact ⟨_, call_len_seq, _, _, rfl, .inl (SqL.of q), by rw [hs.len]; exact hn.int⟩
  · cases ho
    cases hx with
    | tp q hs => exact ⟨_, call_len_seq, _, _, rfl, .inr (hG ▸ q), by rw [hs.len]; exact hn.int⟩
  · cases ho
theorem v_abs : CallR X (.builtin "abs") (r1 G oAbs) := callImp call_abs fun vs H Q ⟨x, d, z, T, e, hx, ho, hn⟩ => by
  subst e
  unfold oAbs at ho
  split at ho
  · cases ho
    exact ⟨_, by rw [hx.int_of], hn.int⟩
  · cases ho
theorem v_int : CallR X (.type "int") (r1 G oInt) := callImp call_int1 fun vs H Q ⟨x, d, z, T, e, hx, ho, hn⟩ => by
  subst e
  unfold oInt at ho
  split at ho
  · cases ho
    exact .inl ⟨_, by rw [hx.int_of], hn.int⟩
  · cases ho
    exact .inr ⟨_, by rw [hx.bl_of], hn.int⟩
  · cases ho
theorem v_list (hG : G.K = X.K) : CallR X (.type "list") (r1 G oList) := callImp call_list_of fun vs H Q ⟨x, d, z, T, e, hx, ho, hn⟩ => by
  subst e
  unfold oList at ho
  split at ho
  · rename_i k l e
    cases ho
    obtain ⟨a, xs, rfl, q, hs⟩ := hx.seq e
    refine ⟨a, xs, rfl, ?_, fun p hp => hn.lst hs hp⟩
    cases k with
    | lst => exact .inl (hG ▸ q)
    | tup => exact .inr (hG ▸ q)
  · cases ho
theorem v_tuple (hG : G.K = X.K) : CallR X (.type "tuple") (r1 G oTuple) := callImp call_tuple_of fun vs H Q ⟨x, d, z, T, e, hx, ho, hn⟩ => by
  subst e
  unfold oTuple at ho
  split at ho
  · rename_i k l e
    cases ho
    obtain ⟨a, xs, rfl, q, hs⟩ := hx.seq e
    refine ⟨a, xs, rfl, ?_⟩
    cases k with
    | lst => exact .inl ⟨hG ▸ q, fun p hp => hn.tup hs hp⟩
    | tup => exact .inr ⟨hG ▸ q, hn.sh (.tup q hs)⟩
  · cases ho
theorem ints_of : ∀ {l : List PyData} {ns : List Int} {xs : List V}, intsOf l = some ns → DpFs G.K H xs l → xs = ns.map V.int
  | [], ns, xs, e, h => by unfold intsOf at e; cases e; cases h; rfl
  | d :: l, ns, xs, e, h => by
    cases h with
    | cons h hs =>
      cases h with
      | int i =>
        unfold intsOf at e
        cases e2 : intsOf l with
        | none => rw [e2] at e; cases e
        | some m => rw [e2] at e; cases e; rw [ints_of e2 hs]; rfl
      | non => unfold intsOf at e; cases e
      | bl _ => unfold intsOf at e; cases e
      | str _ => unfold intsOf at e; cases e
      | lst _ _ => unfold intsOf at e; cases e
      | tup _ _ => unfold intsOf at e; cases e
theorem bools_of : ∀ {l : List PyData} {ns : List Bool} {xs : List V}, boolsOf l = some ns → DpFs G.K H xs l → xs = ns.map V.bl
  | [], ns, xs, e, h => by unfold boolsOf at e; cases e; cases h; rfl
  | d :: l, ns, xs, e, h => by
    cases h with
    | cons h hs =>
      cases h with
      | bl i =>
        unfold boolsOf at e
        cases e2 : boolsOf l with
        | none => rw [e2] at e; cases e
        | some m => rw [e2] at e; cases e; rw [bools_of e2 hs]; rfl
      | non => unfold boolsOf at e; cases e
      | int _ => unfold boolsOf at e; cases e
      | str _ => unfold boolsOf at e; cases e
      | lst _ _ => unfold boolsOf at e; cases e
      | tup _ _ => unfold boolsOf at e; cases e
theorem v_sum (hG : G.K = X.K) (hc : X.calm = true) : CallR X (.builtin "sum") (r1 G oSum) := callImp (cr_sum hc) fun vs H Q ⟨x, d, z, T, e, hx, ho, hn⟩ => by
  subst e
  unfold oSum at ho
  split at ho
  · split at ho
    · cases ho
      obtain ⟨a, xs, rfl, q, hs⟩ := hx.seq (by assumption)
      rw [ints_of (by assumption) hs] at q
      exact ⟨a, _, rfl, hG ▸ q, hn.int⟩
    · cases ho
  · cases ho
theorem v_all (hG : G.K = X.K) (hc : X.calm = true) : CallR X (.builtin "all") (r1 G oAll) := callImp (cr_all hc) fun vs H Q ⟨x, d, z, T, e, hx, ho, hn⟩ => by
  subst e
  unfold oAll at ho
  split at ho
  · split at ho
    · cases ho
      obtain ⟨a, xs, rfl, q, hs⟩ := hx.seq (by assumption)
      rw [bools_of (by assumption) hs] at q
      exact ⟨a, _, rfl, hG ▸ q, hn.bl⟩
    · cases ho
  · cases ho
theorem v_any (hG : G.K = X.K) (hc : X.calm = true) : CallR X (.builtin "any") (r1 G oAny) := callImp (cr_any hc) fun vs H Q ⟨x, d, z, T, e, hx, ho, hn⟩ => by
  subst e
  unfold oAny at ho
  split at ho
  · split at ho
    · cases ho
      obtain ⟨a, xs, rfl, q, hs⟩ := hx.seq (by assumption)
      rw [bools_of (by assumption) hs] at q
      exact ⟨a, _, rfl, hG ▸ q, hn.bl⟩
    · cases ho
  · cases ho
theorem v_repr (hG : G.K = X.K) (hg : X.A.guards = some []) (hu : X.A.units + 64 < cLine) : CallR X (.builtin "repr") (r1 G oRepr) := fun pins s σ H xs us Q I rx ⟨x, d, z, T, e, hx, ho, hn⟩ => by
  subst e
  unfold oRepr at ho
  split at ho
  · rename_i p ep
    obtain ⟨c, rfl⟩ := guardO_some ho
    simp only [Bool.and_eq_true, decide_eq_true_eq, Bool.not_eq_true'] at c
    obtain ⟨u, rfl, ru⟩ := vals1 rx
    have hd : Dp X.K H x p := hG ▸ hx.dp ep
    have hq := hn.str
    obtain ⟨as, rd⟩ := Dp.reads I p x u hd ru
    cases rd with
    | none => exact PySem.P.repr_of_none ⟨.str _, H, I.tok _, ⟨_, rfl⟩, hq⟩
    | bool b => exact PySem.P.repr_of_bool ⟨.str _, H, I.tok _, ⟨_, by unfold PyData.shown; rfl⟩, hq⟩
    | int i t =>
      refine PySem.P.repr_of_int ?_ ⟨.str _, H, I.tok _, ⟨_, by unfold PyData.shown; rfl⟩, hq⟩
      have := c.1.1.1
      unfold PyData.showable at this
      exact of_decide_eq_true this
    | str y t =>
      refine PySem.P.repr_of_str ⟨.str _, H, I.tok _, ⟨_, by unfold PyData.shown; rfl⟩, hq⟩ ?_
      have := c.2
      unfold PyData.shown at this
      exact this
    | list h1 h2 h3 h4 =>
      exact PySem.repr_of_reads' (.list h1 h2 h3 h4) c.1.1.1 (PyData.noDict_hsm c.1.1.2) hg (by omega) (fun _ _ e => e) (fun h' u tk hk => ⟨.str _, H, I.kept (t' := tk) hk, ⟨_, rfl⟩, hq⟩) c.2
    | tuple h1 h2 h3 h4 =>
      exact PySem.repr_of_reads' (.tuple h1 h2 h3 h4) c.1.1.1 (PyData.noDict_hsm c.1.1.2) hg (by omega) (fun _ _ e => e) (fun h' u tk hk => ⟨.str _, H, I.kept (t' := tk) hk, ⟨_, rfl⟩, hq⟩) c.2
    | dict _ _ _ _ _ => cases hd
  · cases ho
/-! ### sorted -/
theorem each_of : ∀ {xs : List V} {us : List Value} {l : List PyData}, Vals xs us → DpFs G.K H xs l → PySem.W.EachIs (fun u d => ∃ x, RelV x u ∧ DpF G.K H x d) us l
  | _, _, _, .nil, .nil => .nil
  | _, _, _, .cons r rs, .cons h hs => .cons ⟨_, r, h⟩ (each_of rs hs)
theorem of_each : ∀ {us : List Value} {l : List PyData}, PySem.W.EachIs (fun u d => ∃ x, RelV x u ∧ DpF G.K H x d) us l → ∃ xs, Vals xs us ∧ DpFs G.K H xs l
  | _, _, .nil => ⟨[], .nil, .nil⟩
  | _, _, .cons ⟨x, r, h⟩ hs => by
    obtain ⟨xs, a, b⟩ := of_each hs
    exact ⟨x :: xs, .cons r a, .cons h b⟩
theorem alike_all {l : List PyData} (h : allAlike l = true) : PySem.W.AllAlike l := fun d hd e he => List.all_eq_true.mp (List.all_eq_true.mp h d hd) e he
theorem sortable_of {l : List PyData} (h : sortableB l = true) : PySem.W.Sortable l := by
  rcases (Bool.or_eq_true _ _).mp h with h | h
  · refine .inl fun d hd => ?_
    have := List.all_eq_true.mp h d hd
    split at this
    · exact ⟨_, _, rfl⟩
    · cases this
  · refine .inr fun d hd => ?_
    have := List.all_eq_true.mp h d hd
    split at this
    · cases this
    · cases this
    · exact ⟨fun e => by simp_all, fun xs e => by simp_all⟩
theorem depth_mem : ∀ {l : List PyData} {d : PyData}, d ∈ l → d.depth ≤ PyData.depthAll l
  | [], _, h => nomatch h
  | e :: l, d, h => by
    unfold PyData.depthAll
    rcases List.mem_cons.mp h with rfl | h
    · omega
    · have := depth_mem h
      omega
theorem v_sorted (hG : G.K = X.K) (hu : X.A.units + 64 < cLine) : CallR X (.builtin "sorted") (r1 G oSorted) := fun pins s σ H xs us Q I rx ⟨x, d, z, T, e, hx, ho, hn⟩ => by
  subst e
  unfold oSorted at ho
  split at ho
  · obtain ⟨c, rfl⟩ := guardO_some ho
    simp only [Bool.and_eq_true, decide_eq_true_eq] at c
    obtain ⟨a, ys, rfl, q, hs⟩ := hx.seq (by assumption)
    rw [Vals.ref1 rx]
    obtain ⟨its, rv, hl, hz⟩ := I.list (hG ▸ q : SqL X.K H a ys)
    rename_i l _ _
    have e0 := hs.len
    have er : PySem.W.EachIs (fun u d => ∃ as, Reads s.heap u (id d) as) its l := by
      have r1 : DpAll X.K H ys l := hG ▸ hs.dp
      obtain ⟨as, r2⟩ := Dp.readsAll I l ys its r1 rv
      exact PySem.W.readsAll_each id (by simpa using r2)
    refine PySem.W.sorted_data (enc := id) (bs := l) (vs := its) hl.isList (each_of rv hs) er (by simpa using alike_all c.1.1) (by simpa using sortable_of c.1.2) (by omega) (fun b hb => ?_) fun out ho2 eo => ?_
    · have := depth_mem hb
      show X.A.units + 2 + b.depth < cLine
      omega
    · obtain ⟨zs, k1, k2⟩ := of_each eo
      obtain ⟨ep, he'⟩ := PyProof.Rows.sortedAll_at s.heap its (List.toArray out)
      have hlen : zs.length ≤ sizeLine := by rw [k1.length, ho2]; omega
      exact ⟨.ref _, upd H (s.heap.objs.size + 1) (.lst zs), I.laid (t' := s.toks) (fun _ _ => PyProof.Rows.sortedAll_old) (Nat.le_succ _) ⟨hlen, out, ep, k1, by simpa using he'⟩, rfl, hn.lst k2 (I.hok.fresh (Nat.le_succ _))⟩
  · cases ho
/-! ### isinstance -/
theorem ty_of {v : V} {d : D} {T : List Addr} {a : String} (h : Rep G H v d T) (e : d.ty = some a) : TyX G.K H v (.type a) := by
  cases h with
  | sh h =>
    cases h with
    | non => cases e; exact .base .non
    | bl b => cases e; exact .base (.bl b)
    | int b => cases e; exact .base (.int b)
    | str b => cases e; exact .base (.str b)
    | lst q _ =>
      cases e
      rcases q with ⟨o, q⟩ | ((q | ⟨_, q⟩) | ⟨o, its, n, q, c, _⟩)
      · exact .base (.frz q)
      · cases q
      · cases q
      · exact .kList q c
    | tup q _ =>
      cases e
      rcases q with (q | ⟨o, q⟩) | ⟨o, its, n, q, c, _⟩
      · exact .base (.tup q)
      · exact .fTuple q
      · exact .kTuple q c
  | ls q _ => cases e; exact .base (.lst q)
  | tp q _ =>
    cases e
    rcases q with (q | ⟨o, q⟩) | ⟨o, its, n, q, c, _⟩
    · exact .base (.tup q)
    · exact .fTuple q
    · exact .kTuple q c
  | dk q _ => cases e; exact .base (.dK q)
  | ob _ _ _ => cases e
  | fn _ => cases e
theorem isi_tab {a : String} (t : Ty) (h : a = "NoneType" ∨ a = "bool" ∨ a = "int" ∨ a = "str" ∨ a = "list" ∨ a = "tuple" ∨ a = "dict") : kitB a t.nm = some (isiTab a t) := by
  rcases h with rfl | rfl | rfl | rfl | rfl | rfl | rfl <;> cases t <;> decide +kernel
theorem ty_in {d : D} {a : String} (e : d.ty = some a) : a = "NoneType" ∨ a = "bool" ∨ a = "int" ∨ a = "str" ∨ a = "list" ∨ a = "tuple" ∨ a = "dict" := by
  unfold D.ty at e
  split at e <;> cases e <;> simp
/-- isinstance(x, t), the class named -/
def rIsiV (G : Ga) (t : Ty) : List V → Hp → VK → Prop := fun vs H Q => ∃ x d z T, vs = [x, .ty t.nm] ∧ Rep G H x d T ∧ oIsi t d = some z ∧ NewR G H z Q
theorem v_isi (hG : G.K = X.K) (t : Ty) : CallR X (.builtin "isinstance") (rIsiV G t) := callImp call_isi fun vs H Q ⟨x, d, z, T, e, hx, ho, hn⟩ => by
  subst e
  unfold oIsi at ho
  split at ho
  · cases ho
    rename_i a e
    exact ⟨x, .ty t.nm, .type a, .type t.nm, _, rfl, .ty _, hG ▸ ty_of hx e, kit_ty (isi_tab t (ty_in e)), hn.bl⟩
  · cases ho
end
end Vs
/-! V6: the own syntax and its evaluator. -/
namespace Vs
open PySem PySem.Spec L2
open PyProof.Rows hiding St

inductive PK where
  | ix (n : Int)
  | key (k : Key)
def dkGet : List Key → List D → Key → Option D
  | k :: ks, d :: ds, q => if k = q then some d else dkGet ks ds q
  | _, _, _ => none
def dkSet : List Key → List D → Key → D → List D
  | k :: ks, d :: ds, q, x => if k = q then x :: ds else d :: dkSet ks ds q x
  | _, ds, _, _ => ds
def getP : List PK → D → Option D
  | [], d => some d
  | .ix n :: p, .ls ds => match atI ds n with
    | some d => getP p d
    | none => none
  | .key k :: p, .dk ks ds => match dkGet ks ds k with
    | some d => getP p d
    | none => none
  | _, _ => none
def setAt (ds : List D) (n : Int) (d : D) : List D := match ixN ds.length n with
  | some j => ds.set j d
  | none => ds
def setP : List PK → D → D → D
  | [], _, x => x
  | .ix n :: p, .ls ds, x => match atI ds n with
    | some d => .ls (setAt ds n (setP p d x))
    | none => .ls ds
  | .key k :: p, .dk ks ds, x => match dkGet ks ds k with
    | some d => .dk ks (dkSet ks ds k (setP p d x))
    | none => .dk ks ds
  | _, d, _ => d

/-! ### operands -/
inductive Sop where
  | e (f : EF)
  | v (i : Nat)
  | p (i : Nat) (path : List PK)
inductive Ov where
  | d (d : D)
  | v (i : Nat)
  | p (i : Nat) (path : List PK) (root : D)
def runO : List Sop → Env → Res (List Ov × Env)
  | [], ρ => .ok ([], ρ)
  | .e f :: r, ρ => (f ρ).bind fun p => (runO r p.2).bind fun q => .ok (.d p.1 :: q.1, q.2)
  | .v i :: r, ρ => match ρ[i]? with
    | some (some _) => (runO r ρ).bind fun q => .ok (.v i :: q.1, q.2)
    | _ => .no
  | .p i path :: r, ρ => match ρ[i]? with
    | some (some d) => match getP path d with
      | some _ => (runO r (ρ.set i none)).bind fun q => .ok (.p i path d :: q.1, q.2)
      | none => .no
    | _ => .no
/-- the locked names are given back -/
def unlock : List Ov → Env → Option Env
  | [], ρ => some ρ
  | .d _ :: r, ρ => unlock r ρ
  | .v _ :: r, ρ => unlock r ρ
  | .p i _ d :: r, ρ => match unlock r ρ with
    | some ρ' => match ρ'[i]? with
      | some none => some (ρ'.set i (some d))
      | _ => none
    | none => none
/-- the operands' values, once all stand -/
def ovs : List Ov → Env → Option (List D)
  | [], _ => some []
  | .d d :: r, ρ => match ovs r ρ with
    | some l => some (d :: l)
    | none => none
  | .v i :: r, ρ => match ρ[i]?, ovs r ρ with
    | some (some d), some l => some (d :: l)
    | _, _ => none
  | .p _ path d :: r, ρ => match getP path d, ovs r ρ with
    | some x, some l => some (x :: l)
    | _, _ => none
/-- owned values alone -/
def ods : List Ov → Option (List D)
  | [] => some []
  | .d d :: r => match ods r with
    | some l => some (d :: l)
    | none => none
  | _ :: _ => none
/-- an operation that reads its operands and makes something new -/
def opE (o : List D → Option D) (ops : List Sop) : EF := fun ρ => (runO ops ρ).bind fun q => match ovs q.1 q.2 with
  | some ds => match o ds with
    | some d => match unlock q.1 q.2 with
      | some ρ' => .ok (d, ρ')
      | none => .no
    | none => .no
  | none => .no
def mkTup (ds : List D) : D := match unsh ds with
  | some l => .sh (.tuple l)
  | none => .tp ds
/-- a display -/
def dispE (mk : List D → D) (ops : List Sop) : EF := fun ρ => (runO ops ρ).bind fun q => match ods q.1 with
  | some ds => if ds.length ≤ 1000 then .ok (mk ds, q.2) else .no
  | none => .no

inductive Op where
  | add | sub | mul | fdiv | mod | pow | band | bor | shl | shr
  | neg
  | lt | le | gt | ge | eq | ne | isin | notin | is_ | isnot
  | ix | sl | slL | slH | slLH
  | len | abs | int | repr | list | tuple | sorted | sum | all | any
  | isi (t : Ty)
def un1 (o : D → Option D) : List D → Option D
  | [a] => o a
  | _ => none
def bi2 (o : D → D → Option D) : List D → Option D
  | [a, b] => o a b
  | _ => none
def powOk (i j : Int) : Bool := decide (0 ≤ j) && decide (j ≤ 1000000) && small64b i
def opD : Op → List D → Option D
  | .add => bi2 oAdd
  | .sub => bi2 (oInt2 (fun i j => i - j) fun _ _ => true)
  | .mul => bi2 oMul
  | .fdiv => bi2 (oInt2 (fun i j => i / j) fun _ j => decide (0 < j) && decide (j < 1073741824))
  | .mod => bi2 (oInt2 (fun i j => i % j) fun _ j => decide (0 < j))
  | .pow => bi2 (oInt2 (fun i j => i ^ j.toNat) powOk)
  | .band => bi2 (oInt2 (fun i j => Builtin.bitAnd i j) fun _ _ => true)
  | .bor => bi2 (oInt2 (fun i j => Builtin.bitOr i j) fun _ _ => true)
  | .shl => bi2 (oInt2 (fun i j => i * 2 ^ j.toNat) powOk)
  | .shr => bi2 (oInt2 (fun i j => i / 2 ^ j.toNat) fun _ j => decide (0 ≤ j))
  | .neg => un1 oNeg
  | .lt => bi2 (oCmpI fun i j => decide (i < j))
  | .le => bi2 (oCmpI fun i j => decide (i ≤ j))
  | .gt => bi2 (oCmpI fun i j => decide (j < i))
  | .ge => bi2 (oCmpI fun i j => decide (j ≤ i))
  | .eq => bi2 (oEq false)
  | .ne => bi2 (oEq true)
  | .isin => bi2 (oIn false)
  | .notin => bi2 (oIn true)
  | .is_ => bi2 (oIs false)
  | .isnot => bi2 (oIs true)
  | .ix => bi2 oIx
  | .sl => un1 (oSl none none)
  | .slL => bi2 fun a b => match b with
    | .sh (.int lo) => oSl (some lo) none a
    | _ => none
  | .slH => bi2 fun a b => match b with
    | .sh (.int hi) => oSl none (some hi) a
    | _ => none
  | .slLH => fun
    | [a, .sh (.int lo), .sh (.int hi)] => oSl (some lo) (some hi) a
    | _ => none
  | .len => un1 oLen
  | .abs => un1 oAbs
  | .int => un1 oInt
  | .repr => un1 oRepr
  | .list => un1 oList
  | .tuple => un1 oTuple
  | .sorted => un1 oSorted
  | .sum => un1 oSum
  | .all => un1 oAll
  | .any => un1 oAny
  | .isi t => un1 (oIsi t)

/-! ### targets, what is walked -/
inductive Tg where
  | nm (i : Nat)
  | tp (is : List Nat)
def Tg.sl : Tg → List Nat
  | .nm i => [i]
  | .tp is => is
inductive ItK where
  | seq | rng | rng2 | enum | zip
def setN (pr : List Nat) (i : Nat) (d : D) (ρ : Env) : Option Env := if pr.contains i then none else if i < ρ.length then some (ρ.set i (some d)) else none
def setAll (pr : List Nat) : List Nat → List D → Env → Option Env
  | [], [], ρ => some ρ
  | i :: is, d :: ds, ρ => match setN pr i d ρ with
    | some ρ' => setAll pr is ds ρ'
    | none => none
  | _, _, _ => none
def bindT (pr : List Nat) : Tg → D → Env → Option Env
  | .nm i, d, ρ => setN pr i d ρ
  | .tp is, .sh (.tuple l), ρ => setAll pr is (l.map .sh) ρ
  | .tp is, .tp ds, ρ => setAll pr is ds ρ
  | _, _, _ => none
def zipD : List PyData → List PyData → List PyData
  | a :: l, b :: m => .tuple [a, b] :: zipD l m
  | _, _ => []
def enumD : Int → List PyData → List PyData
  | i, a :: l => .tuple [.int i, a] :: enumD (i + 1) l
  | _, [] => []
def rngD (lo : Int) (n : Nat) : List PyData := (List.range n).map fun k => .int (lo + (k : Nat))
def itF : ItK → List D → Option (List PyData)
  | .seq, [d] => match d.seq with
    | some (_, l) => some l
    | none => none
  | .rng, [.sh (.int n)] => if n < 16777216 ∧ -16777216 < n then some (rngD 0 n.toNat) else none
  | .rng2, [.sh (.int a), .sh (.int b)] => if (a < 16777216 ∧ -16777216 < a) ∧ (b < 16777216 ∧ -16777216 < b) then some (rngD a (b - a).toNat) else none
  | .enum, [d] => match d.seq with
    | some (.lst, l) => some (enumD 0 l)
    | _ => none
  | .zip, [d, e] => match d.seq, e.seq with
    | some (.lst, l), some (.lst, m) => some (zipD l m)
    | some (.tup, l), some (.tup, m) => some (zipD l m)
    | _, _ => none
  | _, _ => none

/-! ### methods that change a list -/
inductive Mo where
  | append | extend | pop | popAt | insert
def moAppend (ds : List D) : List D → Option (List D × D)
  | [d] => if ds.length < 1000000 then some (ds ++ [d], .sh .none) else none
  | _ => none
def moExtend (ds : List D) : List D → Option (List D × D)
  | [.ls es] => if ds.length + es.length ≤ 1000000 then some (ds ++ es, .sh .none) else none
  | _ => none
def moPop (ds : List D) : List D → Option (List D × D)
  | [] => match ds.getLast? with
    | some d => some (ds.dropLast, d)
    | none => none
  | _ => none
def moPopAt (ds : List D) : List D → Option (List D × D)
  | [.sh (.int i)] => match ixN ds.length i with
    | some j => match ds[j]? with
      | some d => if ds.length < 1000000 then some (ds.eraseIdx j, d) else none
      | none => none
    | none => none
  | _ => none
def moInsert (ds : List D) : List D → Option (List D × D)
  | [.sh (.int i), d] => if ds.length < 1000000 ∧ 0 ≤ i ∧ i < 4611686018427387904 then some (ds.take i.toNat ++ [d] ++ ds.drop i.toNat, .sh .none) else none
  | _ => none
def mo : Mo → List D → List D → Option (List D × D)
  | .append => moAppend
  | .extend => moExtend
  | .pop => moPop
  | .popAt => moPopAt
  | .insert => moInsert

/-! ### what a def computes -/
inductive FR where
  | ok (r : D) (outs : List D)
  | ex (x : Exc) (outs : List D)
  | no
structure Den where
  io : List Bool
  m : List D → FR
structure Gam where
  con : Str → Option PyData
  fn : Str → Option Den

inductive Ex where
  | lit (d : PyData)
  | rd (i : Nat)
  | mv (i : Nat)
  | vw (i : Nat) (path : List PK)
  | gl (x : Str)
  | tup (es : List Ex)
  | lst (es : List Ex)
  | op (o : Op) (as : List Ex)
  | chn (o o' : Op) (a b c : Ex)
  | bop (k : Bool) (es : List Ex)
  | not (a : Ex)
  | ite (c a b : Ex)
  | call (f : Str) (as bs : List Ex) (ks : List Str) (π : List Nat)
  | mut (m : Mo) (i : Nat) (path : List PK) (as : List Ex)
  | lc (own : List Nat) (t : Tg) (k : ItK) (as : List Ex) (ifs : List Ex) (e : Ex)
  | fz (a : Ex)
  | at (i : Nat) (path : List PK)
  | dct (ks : List Key) (es : List Ex)

/-- the values in a call's order put into the parameters' order -/
def perm {α : Type} (π : List Nat) (l : List α) : Option (List α) := match π with
  | [] => some []
  | j :: π => match l[j]?, perm π l with
    | some x, some r => some (x :: r)
    | _, _ => none
/-- the arguments' values: owned ones, and names that the callee may change -/
def argD : List Bool → List Ov → Env → Option (List D × Env)
  | [], [], ρ => some ([], ρ)
  | false :: io, .d d :: r, ρ => match argD io r ρ with
    | some (l, ρ') => some (d :: l, ρ')
    | none => none
  | true :: io, .v i :: r, ρ => match ρ[i]? with
    | some (some d) => match argD io r (ρ.set i none) with
      | some (l, ρ') => some (d :: l, ρ')
      | none => none
    | _ => none
  | _, _, _ => none
/-- the changed ones given back -/
def backD : List Bool → List Ov → List D → Env → Option Env
  | [], [], [], ρ => some ρ
  | false :: io, _ :: r, outs, ρ => backD io r outs ρ
  | true :: io, .v i :: r, d :: outs, ρ => match ρ[i]? with
    | some none => backD io r outs (ρ.set i (some d))
    | _ => none
  | _, _, _, _ => none
def Ov.isSh : Ov → Bool
  | .d (.sh _) => true
  | .v _ => true
  | _ => false
/-- the operands of a call in the parameters' order -/
def arr (ks : List Str) (π : List Nat) (os : List Ov) : Option (List Ov) := match ks with
  | [] => some os
  | _ => if os.all Ov.isSh then perm π os else none
def callD (dn : Den) (ks : List Str) (ops : List Sop) (π : List Nat) : EF := fun ρ => (runO ops ρ).bind fun q => match arr ks π q.1 with
  | some os => match argD dn.io os q.2 with
    | some (ds, ρ1) => match dn.m ds with
      | .ok r outs => match backD dn.io os outs ρ1 with
        | some ρ2 => .ok (r, ρ2)
        | none => .no
      | .ex x outs => match backD dn.io os outs ρ1 with
        | some ρ2 => .ex x ρ2
        | none => .no
      | .no => .no
    | none => .no
  | none => .no
def callE (dn : Option Den) (ks : List Str) (ops : List Sop) (π : List Nat) : EF := match dn with
  | some dn => callD dn ks ops π
  | none => fun _ => .no
def mutE (m : Mo) (i : Nat) (path : List PK) (ops : List Sop) : EF := fun ρ => match ρ[i]? with
  | some (some root) => match getP path root with
    | some (.ls _) => match path with
      | [] => (runO ops ρ).bind fun q => match ods q.1, q.2[i]? with
        | some as, some (some (.ls ds)) => match mo m ds as with
          | some (ds', r) => .ok (r, q.2.set i (some (.ls ds')))
          | none => .no
        | _, _ => .no
      | path => (runO ops (ρ.set i none)).bind fun q => match ods q.1, getP path root, q.2[i]? with
        | some as, some (.ls ds), some none => match mo m ds as with
          | some (ds', r) => .ok (r, q.2.set i (some (setP path root (.ls ds'))))
          | none => .no
        | _, _, _ => .no
    | _ => .no
  | _ => .no
def wipeE (ρ : Env) : List Nat → Env
  | [] => ρ
  | i :: is => (wipeE ρ is).set i none
/-- a comprehension's loop -/
def lcL (own : List Nat) (t : Tg) (test : Env → Res (Bool × Env)) (f : EF) : List PyData → Env → List D → Option (List D × Env)
  | [], ρ, acc => some (acc, ρ)
  | p :: ps, ρ, acc => match bindT [] t (.sh p) ρ with
    | none => none
    | some ρ1 => match test ρ1 with
      | .ok (true, ρ2) => match f ρ2 with
        | .ok (d, ρ3) => if acc.length < 1000000 then lcL own t test f ps (wipeE ρ3 own) (acc ++ [d]) else none
        | _ => none
      | .ok (false, ρ2) => lcL own t test f ps (wipeE ρ2 own) acc
      | _ => none
def lcE (own : List Nat) (t : Tg) (k : ItK) (ops : List Sop) (test : Env → Res (Bool × Env)) (f : EF) : EF := fun ρ => (runO ops ρ).bind fun q => match ovs q.1 [] with
  | some ds => match itF k ds with
    | some ps => match lcL own t test f ps (wipeE q.2 own) [] with
      | some z => match unlock q.1 z.2 with
        | some ρ' => .ok (.ls z.1, ρ')
        | none => .no
      | none => .no
    | none => .no
  | none => .no
mutual
/-- all is shared now -/
def D.fz : D → Option PyData
  | .sh d => some d
  | .tp ds => match D.fzs ds with
    | some l => some (.tuple l)
    | none => none
  | .ls ds => match D.fzs ds with
    | some l => some (.list l)
    | none => none
  | _ => none
def D.fzs : List D → Option (List PyData)
  | [] => some []
  | d :: ds => match D.fz d, D.fzs ds with
    | some x, some l => some (x :: l)
    | _, _ => none
end
def boolE (f : EF) : Env → Res (Bool × Env) := fun ρ => (f ρ).bind fun q => match q.1 with
  | .sh (.bool b) => .ok (b, q.2)
  | _ => .no
def notE (f : EF) : EF := fun ρ => (f ρ).bind fun q => match q.1 with
  | .sh (.bool b) => .ok (DB (!b), q.2)
  | _ => .no
def iteE (c : Env → Res (Bool × Env)) (a b : EF) : EF := fun ρ => (c ρ).bind fun q => if q.1 = true then a q.2 else b q.2
def bopE (k : Bool) : List EF → EF
  | [] => fun _ => .no
  | [f] => f
  | f :: g :: r => fun ρ => (f ρ).bind fun q => match q.1 with
    | .sh (.bool b) => if b = k then bopE k (g :: r) q.2 else .ok (DB b, q.2)
    | _ => .no
/-- .. as a test: the last one a bool too -/
def bopT (k : Bool) : List (Env → Res (Bool × Env)) → Env → Res (Bool × Env)
  | [] => fun _ => .no
  | [f] => f
  | f :: g :: r => fun ρ => (f ρ).bind fun q => if q.1 = k then bopT k (g :: r) q.2 else .ok (q.1, q.2)
def chnE (o o' : List D → Option D) (a b c : EF) : EF := fun ρ => (runO [.e a, .e b] ρ).bind fun q => match ods q.1 with
  | some [x, y] => match o [x, y] with
    | some (.sh (.bool true)) => (c q.2).bind fun z => match o' [y, z.1] with
      | some d => .ok (d, z.2)
      | none => .no
    | some (.sh (.bool false)) => .ok (DB false, q.2)
    | _ => .no
  | _ => .no
def fzE (f : EF) : EF := fun ρ => (f ρ).bind fun q => match q.1.fz with
  | some d => .ok (.sh d, q.2)
  | none => .no
def noE : EF := fun _ => .no
/-- what stands at a place, shared -/
def atE (i : Nat) (path : List PK) : EF := fun ρ => match ρ[i]? with
  | some (some root) => match getP path root with
    | some (.sh d) => .ok (.sh d, ρ)
    | _ => .no
  | _ => .no
/-- a dict's display -/
def dctE (ks : List Key) (ops : List Sop) : EF := fun ρ => (runO ops ρ).bind fun q => match ods q.1 with
  | some ds => if ks.length = ds.length ∧ ks.Nodup then .ok (.dk ks ds, q.2) else .no
  | none => .no
def litE (d : PyData) : EF := fun ρ => .ok (.sh d, ρ)
def rdE (i : Nat) : EF := fun ρ => match ρ[i]? with
  | some (some (.sh d)) => .ok (.sh d, ρ)
  | _ => .no
def mvE (i : Nat) : EF := fun ρ => match ρ[i]? with
  | some (some d) => .ok (d, ρ.set i none)
  | _ => .no
def glE (o : Option PyData) : EF := match o with
  | some d => litE d
  | none => noE
def intE (f : EF) : EF := fun ρ => (f ρ).bind fun q => match q.1 with
  | .sh (.int i) => .ok (DI i, q.2)
  | _ => .no
/-- the bounds of a slice are looked at as they are made -/
def wrapO : Op → List Sop → List Sop
  | .slLH, [p, .e f, .e g] => [p, .e (intE f), .e (intE g)]
  | .slLH, _ => [.e noE]
  | _, l => l
abbrev TF := Env → Res (Bool × Env)
def ifT : List TF → TF
  | [] => fun ρ => .ok (true, ρ)
  | [c] => c
  | _ => fun _ => .no
mutual
def ev (Γ : Gam) : Ex → EF
  | .lit d => litE d
  | .rd i => rdE i
  | .mv i => mvE i
  | .vw _ _ => noE
  | .gl x => glE (Γ.con x)
  | .tup es => dispE mkTup (sops Γ es)
  | .lst es => dispE .ls (sops Γ es)
  | .op o as => opE (opD o) (wrapO o (sops Γ as))
  | .chn o o' a b c => chnE (opD o) (opD o') (ev Γ a) (ev Γ b) (ev Γ c)
  | .bop k es => bopE k (evs Γ es)
  | .not a => notE (ev Γ a)
  | .ite c a b => iteE (evT Γ c) (ev Γ a) (ev Γ b)
  | .call f as bs ks π => callE (Γ.fn f) ks (sops Γ as ++ sops Γ bs) π
  | .mut m i path as => mutE m i path (sops Γ as)
  | .lc own t k as ifs e => lcE own t k (lops Γ as) (ifT (evTs Γ ifs)) (ev Γ e)
  | .fz a => fzE (ev Γ a)
  | .at i p => atE i p
  | .dct ks es => dctE ks (sops Γ es)
def evT (Γ : Gam) : Ex → Env → Res (Bool × Env)
  | .bop k es => bopT k (evTs Γ es)
  | .not a => fun ρ => (evT Γ a ρ).bind fun q => .ok (!q.1, q.2)
  | .lit d => boolE (litE d)
  | .rd i => boolE (rdE i)
  | .op o as => boolE (opE (opD o) (wrapO o (sops Γ as)))
  | .chn o o' a b c => boolE (chnE (opD o) (opD o') (ev Γ a) (ev Γ b) (ev Γ c))
  | .call f as bs ks π => boolE (callE (Γ.fn f) ks (sops Γ as ++ sops Γ bs) π)
  | _ => fun _ => .no
def evs (Γ : Gam) : List Ex → List EF
  | [] => []
  | e :: es => ev Γ e :: evs Γ es
def evTs (Γ : Gam) : List Ex → List (Env → Res (Bool × Env))
  | [] => []
  | e :: es => evT Γ e :: evTs Γ es
def sops (Γ : Gam) : List Ex → List Sop
  | [] => []
  | .vw i [] :: es => .v i :: sops Γ es
  | .vw i p :: es => .p i p :: sops Γ es
  | e :: es => .e (ev Γ e) :: sops Γ es
/-- a loop's: locked -/
def lops (Γ : Gam) : List Ex → List Sop
  | [] => []
  | .vw i p :: es => .p i p :: lops Γ es
  | e :: es => .e (ev Γ e) :: lops Γ es
end
end Vs
/-! V7: operands run; what an operation, a display gives, as HandS readings. -/
namespace Vs
open PySem PySem.Spec L2
open PyProof.Rows hiding St

theorem nd_app {A B : List Addr} : (A ++ B).Nodup ↔ A.Nodup ∧ B.Nodup ∧ ∀ a ∈ A, a ∉ B := by
  rw [List.nodup_append]
  exact ⟨fun ⟨a, b, c⟩ => ⟨a, b, fun x h z => c x h x z rfl⟩, fun ⟨a, b, c⟩ => ⟨a, b, fun x h y k e => c x h (e ▸ k)⟩⟩

/-- from v along a path -/
inductive VAt (H : Hp) : V → List PK → V → Prop
  | nil {v : V} : VAt H v [] v
  | ix {a : Addr} {xs : List V} {n : Int} {u w : V} {p : List PK} : H a = some (.lst xs) → atI xs n = some u → VAt H u p w → VAt H (.ref a) (.ix n :: p) w
  | key {a : Addr} {kvs : List (Key × V)} {k : Key} {u w : V} {p : List PK} : H a = some (.dK kvs) → valV kvs k = some u → VAt H u p w → VAt H (.ref a) (.key k :: p) w
inductive RepO (G : Ga) (H : Hp) (σ : L2.St) : List V → List Ov → List Addr → Prop
  | nil : RepO G H σ [] [] []
  | d {v : V} {vs : List V} {d : D} {os : List Ov} {O T : List Addr} : Rep G H v d O → RepO G H σ vs os T → RepO G H σ (v :: vs) (.d d :: os) (O ++ T)
  | v {v : V} {vs : List V} {i : Nat} {os : List Ov} {T : List Addr} : σ[i]? = some (some v) → RepO G H σ vs os T → RepO G H σ (v :: vs) (.v i :: os) T
  | p {v v0 : V} {vs : List V} {i : Nat} {path : List PK} {root x : D} {os : List Ov} {T0 T : List Addr} : σ[i]? = some (some v0) → Rep G H v0 root T0 → VAt H v0 path v → getP path root = some x → RepO G H σ vs os T →
      RepO G H σ (v :: vs) (.p i path root :: os) (T0 ++ T)
def tPath (i : Nat) (path : List PK) : TE := fun σ H Q => ∃ v0 u, σ[i]? = some (some v0) ∧ VAt H v0 path u ∧ Q u H
def tO (G : Ga) (W : WX) : List Sop → TA
  | [] => tNil
  | .e f :: r => tCons (tE G W f) (tO G W r)
  | .v i :: r => tCons (tVar i) (tO G W r)
  | .p i path :: r => tCons (tPath i path) (tO G W r)
section
variable {G : Ga} {W : WX} {σ : L2.St} {H H' : Hp} {S : List Addr}
theorem atI_map {α β : Type} {xs : List α} {ys : List β} {i : Int} {y : β} (hl : xs.length = ys.length) (h : atI ys i = some y) : ∃ (j : Nat) (x : α), ys[j]? = some y ∧ xs[j]? = some x ∧ atI xs i = some x ∧ ixN ys.length i = some j := by
  unfold atI at h
  cases e : ixN ys.length i with
  | none => rw [e] at h; cases h
  | some j =>
    rw [e] at h
    have hj : j < ys.length := (List.getElem?_eq_some_iff.mp h).1
    have e' : ixN xs.length i = some j := by rw [hl]; exact e
    have hx : xs[j]? = some (xs[j]'(by omega)) := List.getElem?_eq_getElem _
    refine ⟨j, _, h, hx, ?_, rfl⟩
    unfold atI
    rw [e']
    exact hx
theorem dk_at : ∀ {kvs : List (Key × V)} {ds : List D} {T : List Addr} {k : Key} {d : D}, Reps G H (kvs.map (·.2)) ds T → dkGet (kvs.map (·.1)) ds k = some d → ∃ v T', valV kvs k = some v ∧ Rep G H v d T' ∧ ∀ a ∈ T', a ∈ T
  | [], ds, T, k, d, h, e => by simp [dkGet] at e
  | (q, v) :: kvs, ds, T, k, d, h, e => by
    cases h with
    | cons h hs =>
      simp only [List.map_cons, dkGet] at e
      by_cases hk : q = k
      · rw [if_pos hk] at e
        cases e
        exact ⟨v, _, valV_pos hk, h, fun a z => List.mem_append_left _ z⟩
      · rw [if_neg hk] at e
        obtain ⟨u, T', a, b, c⟩ := dk_at hs e
        exact ⟨u, T', by rw [valV_neg hk]; exact a, b, fun x z => List.mem_append_right _ (c x z)⟩
theorem Reps.getS : ∀ {vs : List V} {ds : List D} {O : List Addr} {i : Nat} {d : D}, Reps G H vs ds O → ds[i]? = some d → ∃ v T, vs[i]? = some v ∧ Rep G H v d T ∧ ∀ a ∈ T, a ∈ O
  | _, _, _, i, d, .nil, e => by simp at e
  | _, _, _, 0, d, .cons h hs, e => by simp at e; subst e; exact ⟨_, _, rfl, h, fun a z => List.mem_append_left _ z⟩
  | _, _, _, i + 1, d, .cons h hs, e => by
    obtain ⟨v, T, a, b, c⟩ := Reps.getS (i := i) hs (by simpa using e)
    exact ⟨v, T, by simpa using a, b, fun x z => List.mem_append_right _ (c x z)⟩
/-- a place within a tree -/
theorem Rep.place : ∀ {p : List PK} {v : V} {d x : D} {T : List Addr}, Rep G H v d T → getP p d = some x → ∃ u T', VAt H v p u ∧ Rep G H u x T' ∧ ∀ a ∈ T', a ∈ T
  | [], v, d, x, T, h, e => by
    unfold getP at e; cases e
    exact ⟨v, T, .nil, h, fun a z => z⟩
  | .ix n :: p, v, d, x, T, h, e => by
    cases h with
    | @ls a xs ds O q hs =>
      unfold getP at e
      split at e
      · rename_i y ey
        obtain ⟨j, u, e1, e2, e3, _⟩ := atI_map hs.len ey
        obtain ⟨v', T', a1, a2, a3⟩ := hs.getS e1
        rw [e2] at a1; cases a1
        obtain ⟨w, T2, b1, b2, b3⟩ := Rep.place a2 e
        exact ⟨w, T2, .ix q e3 b1, b2, fun z hz => List.mem_cons_of_mem _ (a3 z (b3 z hz))⟩
      · cases e
    | sh _ => simp [getP] at e
    | tp _ _ => simp [getP] at e
    | dk _ _ => simp [getP] at e
    | ob _ _ _ => simp [getP] at e
    | fn _ => simp [getP] at e
  | .key k :: p, v, d, x, T, h, e => by
    cases h with
    | dk q hs =>
      unfold getP at e
      split at e
      · rename_i y ey
        obtain ⟨u, T', e3, a2, a3⟩ := dk_at hs ey
        obtain ⟨w, T2, b1, b2, b3⟩ := Rep.place a2 e
        exact ⟨w, T2, .key q e3 b1, b2, fun z hz => List.mem_cons_of_mem _ (a3 z (b3 z hz))⟩
      · cases e
    | sh _ => simp [getP] at e
    | tp _ _ => simp [getP] at e
    | ls _ _ => simp [getP] at e
    | ob _ _ _ => simp [getP] at e
    | fn _ => simp [getP] at e
theorem VAt.inj {v u w : V} {p : List PK} (h : VAt H v p u) : VAt H v p w → u = w := by
  induction h with
  | nil => intro q; cases q; rfl
  | ix a b c ih =>
    intro q
    cases q with
    | ix a' b' c' =>
      rw [a] at a'; cases a'
      rw [b] at b'; cases b'
      exact ih c'
  | key a b c ih =>
    intro q
    cases q with
    | key a' b' c' =>
      rw [a] at a'; cases a'
      rw [b] at b'; cases b'
      exact ih c'
/-- .. stays while what is held stays -/
theorem VAt.fr {p : List PK} {v u : V} {d x : D} {T : List Addr} (h : VAt H v p u) (r : Rep G H v d T) (e : getP p d = some x) (f : Frm S H H') (m : MutA H S) (n : ∀ a ∈ T, a ∉ S) : VAt H' v p u := by
  obtain ⟨u', T', a, b, c⟩ := Rep.place (Rep.fr r f m n) e
  obtain ⟨u2, T2, a2, b2, c2⟩ := Rep.place r e
  have : ∀ {p : List PK} {v u : V} {d x : D} {T : List Addr}, VAt H v p u → Rep G H v d T → getP p d = some x → (∀ a ∈ T, a ∉ S) → VAt H' v p u := by
    intro p
    induction p with
    | nil => intro v u d x T h _ _ _; cases h; exact .nil
    | cons k p ih =>
      intro v u d x T h r e n
      cases h with
      | ix q1 q2 q3 =>
        cases r with
        | ls z hs =>
          rw [q1] at z; cases z
          unfold getP at e
          split at e
          · rename_i y ey
            obtain ⟨j, u', e1, e2, e3, _⟩ := atI_map hs.len ey
            rw [q2] at e3; cases e3
            obtain ⟨v', T', a1, a2, a3⟩ := hs.getS e1
            rw [e2] at a1; cases a1
            exact .ix (f _ _ q1 (n _ List.mem_cons_self)) q2 (ih q3 a2 e fun b hb => n b (List.mem_cons_of_mem _ (a3 b hb)))
          · cases e
        | sh _ => simp [getP] at e
        | tp _ _ => simp [getP] at e
        | dk _ _ => simp [getP] at e
        | ob _ _ _ => simp [getP] at e
        | fn _ => simp [getP] at e
      | key q1 q2 q3 =>
        cases r with
        | dk z hs =>
          rw [q1] at z; cases z
          unfold getP at e
          split at e
          · rename_i y ey
            obtain ⟨u', T', e3, a2, a3⟩ := dk_at hs ey
            rw [q2] at e3; cases e3
            exact .key (f _ _ q1 (n _ List.mem_cons_self)) q2 (ih q3 a2 e fun b hb => n b (List.mem_cons_of_mem _ (a3 b hb)))
          · cases e
        | sh _ => simp [getP] at e
        | tp _ _ => simp [getP] at e
        | ls _ _ => simp [getP] at e
        | ob _ _ _ => simp [getP] at e
        | fn _ => simp [getP] at e
  exact this h r e n
theorem RepO.fr : ∀ {vs : List V} {os : List Ov} {O : List Addr}, RepO G H σ vs os O → Frm S H H' → MutA H S → (∀ a ∈ O, a ∉ S) → RepO G H' σ vs os O
  | _, _, _, .nil, _, _, _ => .nil
  | _, _, _, .d h hs, f, m, n => .d (Rep.fr h f m fun a q => n a (List.mem_append_left _ q)) (RepO.fr hs f m fun a q => n a (List.mem_append_right _ q))
  | _, _, _, .v e hs, f, m, n => .v e (RepO.fr hs f m n)
  | _, _, _, .p e r va g hs, f, m, n => .p e (Rep.fr r f m fun a q => n a (List.mem_append_left _ q)) (va.fr r g f m fun a q => n a (List.mem_append_left _ q)) g (RepO.fr hs f m fun a q => n a (List.mem_append_right _ q))
theorem RepO.mut : ∀ {vs : List V} {os : List Ov} {O : List Addr}, RepO G H σ vs os O → MutA H O
  | _, _, _, .nil => fun _ q => nomatch q
  | _, _, _, .d h hs => MutA.app (Rep.mut h) (RepO.mut hs)
  | _, _, _, .v e hs => RepO.mut hs
  | _, _, _, .p e r _ _ hs => MutA.app (Rep.mut r) (RepO.mut hs)

/-- what follows when the operands stand -/
def OpsR (G : Ga) (W : WX) (ops : List Sop) (σ : L2.St) (H : Hp) (ρ : Env) (O : List Addr) (R : List V → Hp → Prop) : Prop :=
  match runO ops ρ with
  | .ok (os, ρ') => ∀ vs H' O' T, RepE G H' σ ρ' O' → RepO G H' σ vs os T → (T ++ O').Nodup → Go O H (T ++ O') H' → R vs H'
  | .ex x ρ' => ∀ cls dd H', ExR G O H ρ' x cls dd σ H' → W cls dd σ H'
  | .no => False
theorem Go.held {O T S1 : List Addr} {H1 : Hp} (g : Go O H S1 H1) : Go (T ++ O) H (T ++ S1) H1 := by
  refine ⟨fun a o e n => g.frm a o e fun q => n (List.mem_append_right _ q), fun a q => ?_⟩
  rcases List.mem_append.mp q with q | q
  · exact .inl (List.mem_append_left _ q)
  · exact (g.sub a q).imp (fun z => List.mem_append_right _ z) id
/-- the operands run, from the left -/
theorem run_ops : ∀ (ops : List Sop) {σ : L2.St} {H : Hp} {R : List V → Hp → Prop} (ρ : Env) (O : List Addr), RepE G H σ ρ O → O.Nodup → OpsR G W ops σ H ρ O R → tO G W ops σ H R
  | [], σ, H, R, ρ, O, rE, nd, h => h [] H O [] rE .nil nd Go.refl
  | .v i :: r, σ, H, R, ρ, O, rE, nd, h => by
    unfold OpsR runO at h
    cases e : ρ[i]? with
    | none => rw [e] at h; exact h.elim
    | some o =>
      cases o with
      | none => rw [e] at h; exact h.elim
      | some d =>
        rw [e] at h
        obtain ⟨v, _, _, ev, _⟩ := rE.out e
        refine ⟨v, ev, ?_⟩
        refine run_ops r ρ O rE nd ?_
        unfold OpsR
        have h : (match (runO r ρ).bind fun q => .ok (.v i :: q.1, q.2) with
          | .ok (os, ρ') => ∀ vs H' O' T, RepE G H' σ ρ' O' → RepO G H' σ vs os T → (T ++ O').Nodup → Go O H (T ++ O') H' → R vs H'
          | .ex x ρ' => ∀ cls dd H', ExR G O H ρ' x cls dd σ H' → W cls dd σ H'
          | .no => False) := h
        cases er : runO r ρ with
        | no => rw [er] at h; exact h.elim
        | ex x ρ' => rw [er] at h; exact h
        | ok q =>
          obtain ⟨os, ρ2⟩ := q
          rw [er] at h
          intro vs H2 O2 T2 rE2 rO2 nd2 go2
          exact h (v :: vs) H2 O2 T2 rE2 (.v ev rO2) nd2 go2
  | .p i path :: r, σ, H, R, ρ, O, rE, nd, h => by
    unfold OpsR runO at h
    cases e : ρ[i]? with
    | none => rw [e] at h; exact h.elim
    | some o =>
      cases o with
      | none => rw [e] at h; exact h.elim
      | some d =>
        simp only [e] at h
        cases eg : getP path d with
        | none => rw [eg] at h; exact h.elim
        | some x =>
        rw [eg] at h
        obtain ⟨v0, O1, O2, ev, rv, pm, rE'⟩ := rE.out e
        obtain ⟨u, T', va, _, _⟩ := rv.place eg
        refine ⟨v0, u, ev, va, ?_⟩
        have nd' := nd_app.mp (pm.nodup nd)
        refine run_ops r (ρ.set i none) O2 rE' nd'.2.1 ?_
        unfold OpsR
        have h : (match (runO r (ρ.set i none)).bind fun q => .ok (.p i path d :: q.1, q.2) with
          | .ok (os, ρ') => ∀ vs H' O' T, RepE G H' σ ρ' O' → RepO G H' σ vs os T → (T ++ O').Nodup → Go O H (T ++ O') H' → R vs H'
          | .ex x ρ' => ∀ cls dd H', ExR G O H ρ' x cls dd σ H' → W cls dd σ H'
          | .no => False) := h
        cases er : runO r (ρ.set i none) with
        | no => rw [er] at h; exact h.elim
        | ex x ρ' =>
          rw [er] at h
          intro cls dd H' ⟨O', a, b, c, e⟩
          exact h cls dd H' ⟨O', a, b, c.more fun x q => pm.mem_iff.mpr (List.mem_append_right _ q), e⟩
        | ok q =>
          obtain ⟨os, ρ2⟩ := q
          rw [er] at h
          intro vs H2 O3 T2 rE2 rO2 nd2 go2
          have m1 : MutA H O2 := rE'.mut
          have dis : ∀ a ∈ O1, a ∉ O2 := nd'.2.2
          have keep := go2.keep (T := O1) fun a q => ⟨dis a q, rv.mut.some a q⟩
          refine h (u :: vs) H2 O3 (O1 ++ T2) rE2 (.p ev (rv.fr go2.frm m1 dis) (va.fr rv eg go2.frm m1 dis) eg rO2) ?_ ?_
          · rw [List.append_assoc]
            exact nd_app.mpr ⟨nd'.1, nd2, keep⟩
          · rw [List.append_assoc]
            exact (go2.held (T := O1)).more fun x q => pm.mem_iff.mpr q
  | .e f :: r, σ, H, R, ρ, O, rE, nd, h => by
    unfold OpsR runO at h
    refine ⟨ρ, O, rE, nd, ?_⟩
    cases ef : f ρ with
    | no => rw [ef] at h; exact h.elim
    | ex x ρ' => rw [ef] at h; exact h
    | ok p =>
      obtain ⟨d, ρ1⟩ := p
      rw [ef] at h
      intro v H1 ⟨O1, T1, rE1, rv, nd1, go1⟩
      have nd1' := nd_app.mp nd1
      refine run_ops r ρ1 O1 rE1 nd1'.2.1 ?_
      unfold OpsR
      have h : (match (runO r ρ1).bind fun q => .ok (.d d :: q.1, q.2) with
        | .ok (os, ρ') => ∀ vs H' O' T, RepE G H' σ ρ' O' → RepO G H' σ vs os T → (T ++ O').Nodup → Go O H (T ++ O') H' → R vs H'
        | .ex x ρ' => ∀ cls dd H', ExR G O H ρ' x cls dd σ H' → W cls dd σ H'
        | .no => False) := h
      cases er : runO r ρ1 with
      | no => rw [er] at h; exact h.elim
      | ex x ρ' =>
        rw [er] at h
        intro cls dd H' ⟨O', a, b, c, e⟩
        exact h cls dd H' ⟨O', a, b, (go1.less fun x q => List.mem_append_right _ q).trans c, e⟩
      | ok q =>
        obtain ⟨os, ρ2⟩ := q
        rw [er] at h
        intro vs H2 O2 T2 rE2 rO2 nd2 go2
        have m1 : MutA H1 O1 := rE1.mut
        have dis : ∀ a ∈ T1, a ∉ O1 := nd1'.2.2
        have keep := go2.keep (T := T1) fun a q => ⟨dis a q, rv.mut.some a q⟩
        refine h (v :: vs) H2 O2 (T1 ++ T2) rE2 (.d (rv.fr go2.frm m1 dis) rO2) ?_ ?_
        · rw [List.append_assoc]
          exact nd_app.mpr ⟨nd1'.1, nd2, keep⟩
        · rw [List.append_assoc]
          exact go1.trans (go2.held (T := T1))
/-- the operands' values -/
theorem ovs_ok : ∀ {os : List Ov} {vs : List V} {T O : List Addr} {ρ : Env} {ds : List D}, RepO G H σ vs os T → RepE G H σ ρ O → ovs os ρ = some ds → RVs G H vs ds
  | _, _, _, _, _, _, .nil, _, e => by unfold ovs at e; cases e; exact .nil
  | _, _, _, _, ρ, _, .d (os := os) r hs, rE, e => by
    unfold ovs at e
    cases e2 : ovs os ρ with
    | none => rw [e2] at e; cases e
    | some l => rw [e2] at e; cases e; exact .cons r (ovs_ok hs rE e2)
  | _, _, _, _, ρ, _, .v (i := i) (os := os) q hs, rE, e => by
    unfold ovs at e
    split at e
    · rename_i d l e1 e2
      cases e
      obtain ⟨v, O1, O2, a, b, _⟩ := rE.out e1
      rw [q] at a; cases a
      exact .cons b (ovs_ok hs rE e2)
    · cases e
  | _, _, _, _, ρ, _, .p (os := os) q r va g hs, rE, e => by
    unfold ovs at e
    split at e
    · rename_i d l e1 e2
      cases e
      obtain ⟨u, T', a, b, _⟩ := r.place e1
      cases a.inj va
      exact .cons b (ovs_ok hs rE e2)
    · cases e
/-- .. and the names given back -/
theorem unlock_ok : ∀ {os : List Ov} {vs : List V} {T O : List Addr} {ρ ρ' : Env}, RepO G H σ vs os T → RepE G H σ ρ O → (T ++ O).Nodup → unlock os ρ = some ρ' → ∃ O', RepE G H σ ρ' O' ∧ O'.Nodup ∧ ∀ a ∈ O', a ∈ T ++ O
  | _, _, _, _, _, _, .nil, rE, nd, e => by unfold unlock at e; cases e; exact ⟨_, rE, nd, fun a q => q⟩
  | _, _, _, _, ρ, _, .d (os := os) r hs, rE, nd, e => by
    unfold unlock at e
    rw [List.append_assoc] at nd ⊢
    obtain ⟨O', a, b, c⟩ := unlock_ok hs rE (nd_app.mp nd).2.1 e
    exact ⟨O', a, b, fun x q => List.mem_append_right _ (c x q)⟩
  | _, _, _, _, ρ, _, .v (i := i) (os := os) q hs, rE, nd, e => by
    unfold unlock at e
    exact unlock_ok hs rE nd e
  | _, _, _, O, ρ, _, .p (os := os) (T0 := T0) (T := T) q r va g hs, rE, nd, e => by
    unfold unlock at e
    split at e
    · rename_i ρ1 e1
      split at e
      · rename_i en
        cases e
        rw [List.append_assoc] at nd ⊢
        have nd' := nd_app.mp nd
        obtain ⟨O', a, b, c⟩ := unlock_ok hs rE nd'.2.1 e1
        obtain ⟨O2, pm, r2⟩ := a.put en q r
        refine ⟨O2, r2, pm.nodup_iff.mpr (nd_app.mpr ⟨nd'.1, b, fun x hx z => nd'.2.2 x hx (c x z)⟩), fun x hx => ?_⟩
        rcases List.mem_append.mp (pm.mem_iff.mp hx) with z | z
        · exact List.mem_append_left _ z
        · exact List.mem_append_right _ (c x z)
      · cases e
    · cases e
/-- behind an operation: something new, the names as they were -/
theorem new_ev {O O2 : List Addr} {ρ : Env} {d : D} {Q : VK} {H2 : Hp} (rE : RepE G H2 σ ρ O2) (nd : O2.Nodup) (go : Go O H O2 H2) (h : ∀ v H', EvR G O σ H ρ d v H' → Q v H') : NewR G H2 d Q := fun v H' T r ndT new fr => by
  refine h v H' ⟨O2, T, rE.fr (S := []) fr mut_nil (fun a _ z => nomatch z), r, nd_app.mpr ⟨ndT, nd, fun a q z => ?_⟩, go.trans ⟨fun a o e n => fr a o e (fun z => nomatch z), fun a q => ?_⟩⟩
  · obtain ⟨o, e⟩ := rE.mut.some a z
    rw [new a q] at e; cases e
  · rcases List.mem_append.mp q with q | q
    · exact .inr (new a q)
    · exact .inl q
theorem op_logic {o : List D → Option D} {ops : List Sop} {Q : VK} (h : tE G W (opE o ops) σ H Q) : tO G W ops σ H fun vs H2 => ∃ ds d, RVs G H2 vs ds ∧ o ds = some d ∧ NewR G H2 d Q := by
  obtain ⟨ρ, O, rE, nd, h⟩ := h
  refine run_ops ops ρ O rE nd ?_
  unfold OpsR
  unfold opE at h
  cases er : runO ops ρ with
  | no => rw [er] at h; exact h.elim
  | ex x ρ' => rw [er] at h; exact h
  | ok q =>
    obtain ⟨os, ρ2⟩ := q
    rw [er] at h
    intro vs H2 O2 T rE2 rO nd2 go
    simp only [Res.bind] at h
    cases e1 : ovs os ρ2 with
    | none => rw [e1] at h; exact h.elim
    | some ds =>
      cases e2 : o ds with
      | none => simp only [e1, e2] at h
      | some d =>
        cases e3 : unlock os ρ2 with
        | none => simp only [e1, e2, e3] at h
        | some ρ' =>
          simp only [e1, e2, e3] at h
          obtain ⟨O', rE3, nd3, sub⟩ := unlock_ok rO rE2 nd2 e3
          exact ⟨ds, d, ovs_ok rO rE2 e1, e2, new_ev rE3 nd3 (go.less sub) h⟩
/-! ### displays -/
theorem ods_ok : ∀ {os : List Ov} {vs : List V} {T : List Addr} {ds : List D}, RepO G H σ vs os T → ods os = some ds → Reps G H vs ds T
  | _, _, _, _, .nil, e => by unfold ods at e; cases e; exact .nil
  | _, _, _, _, .d (os := os) r hs, e => by
    unfold ods at e
    cases e2 : ods os with
    | none => rw [e2] at e; cases e
    | some l => rw [e2] at e; cases e; exact .cons r (ods_ok hs e2)
  | _, _, _, _, .v _ _, e => by unfold ods at e; cases e
  | _, _, _, _, .p _ _ _ _ _, e => by unfold ods at e; cases e
theorem disp_logic {mk : List D → D} {ops : List Sop} {Q : VK} (h : tE G W (dispE mk ops) σ H Q) : tO G W ops σ H fun vs H2 => ∃ ds T O2 ρ, vs.length ≤ 1000 ∧ Reps G H2 vs ds T ∧ RepE G H2 σ ρ O2 ∧ (T ++ O2).Nodup ∧
    ∀ v H3 T3, Rep G H3 v (mk ds) T3 → RepE G H3 σ ρ O2 → (T3 ++ O2).Nodup → Go (T ++ O2) H2 (T3 ++ O2) H3 → Q v H3 := by
  obtain ⟨ρ, O, rE, nd, h⟩ := h
  refine run_ops ops ρ O rE nd ?_
  unfold OpsR
  unfold dispE at h
  cases er : runO ops ρ with
  | no => rw [er] at h; exact h.elim
  | ex x ρ' => rw [er] at h; exact h
  | ok q =>
    obtain ⟨os, ρ2⟩ := q
    rw [er] at h
    intro vs H2 O2 T rE2 rO nd2 go
    simp only [Res.bind] at h
    cases e1 : ods os with
    | none => rw [e1] at h; exact h.elim
    | some ds =>
      simp only [e1] at h
      by_cases hl : ds.length ≤ 1000
      · rw [if_pos hl] at h
        have rs := ods_ok rO e1
        exact ⟨ds, T, O2, ρ2, by rw [rs.len]; exact hl, rs, rE2, nd2, fun v H3 T3 r rE3 nd3 go3 => h v H3 ⟨O2, T3, rE3, r, nd3, go.trans go3⟩⟩
      · rw [if_neg hl] at h; exact h.elim
theorem Reps.mkTup {vs : List V} {ds : List D} {T : List Addr} {a : Addr} (h : Reps G H vs ds T) (q : SqT G.K H a vs) : Rep G H (.ref a) (mkTup ds) T := by
  unfold Vs.mkTup
  split
  · rename_i l e
    obtain ⟨a1, a2⟩ := h.of_unsh e
    rw [a2]
    exact .sh (.tup q a1)
  · exact .tp q h
end
end Vs
/-! V8: when a piece of the model's syntax is an instance of the own one (positions do not matter). -/
namespace Vs
open PySem PySem.Spec L2
open PyProof.Rows hiding St

/-- where a text stands: its scope, the names by slot, the built-in names that the module leaves alone -/
structure Sc where
  sc : Scope
  N : List Str
  bl : List Str
  pats : Str → List (Nat × List Str × List Nat)
def relB (scope sc : Scope) : Scope :=
  { scope with names := scope.names.map fun (n, k) => if (k == .free && sc.kind == .function && sc.names.lookup n == some .cell) then (n, .cell) else (n, k) }
def Sc.blk (S : Sc) (scope : Scope) : Sc := { S with sc := relB scope S.sc }
def plainB (x : Str) : Bool := !(x == ("__debug__" : Str)) && !(x == ("__classdict__" : Str)) && decide (x ≠ "__name__")
def visB (S : Sc) (i : Nat) (x : Str) : Bool := decide (S.N[i]? = some x) && plainB x && (match S.sc.names.lookup x with
  | some .local | some .cell | some .free => true
  | _ => false)
def glB (S : Sc) (x : Str) : Bool := plainB x && decide (S.sc.names.lookup x = some .globalImplicit)
def bltB (S : Sc) (x : Str) : Bool := glB S x && S.bl.contains x
def litB : PyData → Const → Bool
  | .none, .none => true
  | .bool a, .bool b => a == b
  | .int a, .int b => decide (a = b)
  | .str a, .str b => decide (a = b)
  | _, _ => false
def notStar : PySem.Expr → Bool
  | .Starred _ _ => false
  | _ => true
def notSet : PySem.Expr → Bool
  | .Set _ _ _ => false
  | _ => true
def notSlice : PySem.Expr → Bool
  | .Slice _ _ _ _ => false
  | _ => true
def binOf : Op → Option Operator
  | .add => some .Add
  | .sub => some .Sub
  | .mul => some .Mult
  | .fdiv => some .FloorDiv
  | .mod => some .Mod
  | .pow => some .Pow
  | .band => some .BitAnd
  | .bor => some .BitOr
  | .shl => some .LShift
  | .shr => some .RShift
  | _ => none
def cmpOf : Op → Option CmpOp
  | .lt => some .Lt
  | .le => some .LtE
  | .gt => some .Gt
  | .ge => some .GtE
  | .eq => some .Eq
  | .ne => some .NotEq
  | .isin => some .In
  | .notin => some .NotIn
  | .is_ => some .Is
  | .isnot => some .IsNot
  | _ => none
def f1Of : Op → Option Str
  | .len => some "len"
  | .abs => some "abs"
  | .int => some "int"
  | .repr => some "repr"
  | .list => some "list"
  | .tuple => some "tuple"
  | .sorted => some "sorted"
  | .sum => some "sum"
  | .all => some "all"
  | .any => some "any"
  | _ => none
/-- the operands' texts -/
def opArgs (S : Sc) (o : Op) : PySem.Expr → Option (List PySem.Expr)
  | .BinOp a p b _ => if binOf o = some p then some [a, b] else none
  | .Compare a [p] [b] _ => if cmpOf o = some p && notSet b then some [a, b] else none
  | .UnaryOp .USub a _ => match o with
    | .neg => some [a]
    | _ => none
  | .Subscript a (.Slice none none none _) _ => match o with
    | .sl => some [a]
    | _ => none
  | .Subscript a (.Slice (some b) none none _) _ => match o with
    | .slL => some [a, b]
    | _ => none
  | .Subscript a (.Slice none (some b) none _) _ => match o with
    | .slH => some [a, b]
    | _ => none
  | .Subscript a (.Slice (some b) (some c) none _) _ => match o with
    | .slLH => some [a, b, c]
    | _ => none
  | .Subscript a b _ => match o with
    | .ix => if notSlice b then some [a, b] else none
    | _ => none
  | .Call (.Name f _) [a] [] _ => if f1Of o = some f && bltB S f then some [a] else none
  | .Call (.Name f _) [a, .Name t _] [] _ => match o with
    | .isi ty => if decide (f = "isinstance") && bltB S "isinstance" && bltB S t && decide (t = Str.ofString ty.nm) then some [a] else none
    | _ => none
  | _ => none
/-- x[k1][k2].., the last step first -/
def mPathR (S : Sc) (i : Nat) : List PK → PySem.Expr → Bool
  | [], .Name x _ => visB S i x
  | .ix n :: p, .Subscript e (.Constant (.int k) _ _) _ => decide (k = n) && mPathR S i p e
  | .key k :: p, .Subscript e (.Constant (.str x) _ _) _ => decide (k = .inr x) && mPathR S i p e
  | _, _ => false
def mName (S : Sc) (i : Nat) : PySem.Expr → Bool
  | .Name x _ => visB S i x
  | _ => false
/-- a name that may be stored in (fn: a cell made here) -/
def stB (S : Sc) (fn : Str → Bool) (i : Nat) (x : Str) : Bool := decide (S.N[i]? = some x) && (match S.sc.names.lookup x with
  | some .local => true
  | some .cell => fn x
  | _ => false)
def mNames (S : Sc) (fn : Str → Bool) : List Nat → List PySem.Expr → Bool
  | [], [] => true
  | i :: is, .Name x _ :: es => stB S fn i x && mNames S fn is es
  | _, _ => false
def mTg (S : Sc) (fn : Str → Bool) : Tg → PySem.Expr → Bool
  | .nm i, .Name x _ => stB S fn i x
  | .tp is, .Tuple es _ _ => mNames S fn is es
  | _, _ => false
def itArgs (S : Sc) : ItK → PySem.Expr → Option (List PySem.Expr)
  | .seq, e => some [e]
  | .rng, .Call (.Name f _) [a] [] _ => if decide (f = "range") && bltB S f then some [a] else none
  | .rng2, .Call (.Name f _) [a, b] [] _ => if decide (f = "range") && bltB S f then some [a, b] else none
  | .enum, .Call (.Name f _) [a] [] _ => if decide (f = "enumerate") && bltB S f then some [a] else none
  | .zip, .Call (.Name f _) [a, b] [] _ => if decide (f = "zip") && bltB S f then some [a, b] else none
  | _, _ => none
/-- an iterable that makes tuples wants a target of names -/
def itTup : ItK → Bool
  | .enum => true
  | .zip => true
  | _ => false
def isTup : PySem.Expr → Bool
  | .Tuple _ _ _ => true
  | _ => false
def moName : Mo → Str
  | .append => "append"
  | .extend => "extend"
  | .pop => "pop"
  | .popAt => "pop"
  | .insert => "insert"
def kwB : List Keyword → Option (List PySem.Expr)
  | [] => some []
  | ⟨_, v, _⟩ :: r => match kwB r with
    | some l => some (v :: l)
    | none => none
def kwN : List Keyword → List (Option Str)
  | [] => []
  | ⟨n, _, _⟩ :: r => n :: kwN r
def bopOf : Bool → BoolOp
  | true => .And
  | false => .Or
def ownOf (S : Sc) (own : List Nat) : List (Str × Nat) := own.map fun i => ((S.N[i]?).getD Str.empty, i)
def mKeys : List Key → List (Option PySem.Expr) → Bool
  | [], [] => true
  | k :: ks, some (.Constant (.str x) _ _) :: es => decide (k = .inr x) && mKeys ks es
  | k :: ks, some (.Constant (.int n) _ _) :: es => decide (k = .inl n) && mKeys ks es
  | _, _ => false
mutual
def mE (S : Sc) (e : Ex) (x : PySem.Expr) : Bool := match e with
  | .lit d => match x with
    | .Constant c _ _ => litB d c
    | _ => false
  | .rd i => mName S i x
  | .mv i => mName S i x
  | .vw _ _ => false
  | .gl f => match x with
    | .Name y _ => decide (f = y) && glB S f
    | _ => false
  | .tup es => match x with
    | .Tuple xs _ _ => mEs S es xs
    | _ => false
  | .lst es => match x with
    | .List xs _ => mEs S es xs
    | _ => false
  | .op o as => match opArgs S o x with
    | some xs => mO S as xs
    | none => false
  | .chn o o' a b c => match x with
    | .Compare x [p, p'] [y, z] _ => decide (cmpOf o = some p) && decide (cmpOf o' = some p') && notSet y && notSet z && mE S a x && mE S b y && mE S c z
    | _ => false
  | .bop k es => match x with
    | .BoolOp p xs _ => decide (bopOf k = p) && !xs.isEmpty && mEs S es xs
    | _ => false
  | .not a => match x with
    | .UnaryOp .Not x _ => mE S a x
    | _ => false
  | .ite c a b => match x with
    | .IfExp x y z _ => mE S c x && mE S a y && mE S b z
    | _ => false
  | .call f as bs ks π => match x with
    | .Call (.Name g _) xs kws _ => decide (f = g) && glB S f && mO S as xs && (match kwB kws with
      | some ys => mO S bs ys
      | none => false) && decide (kwN kws = ks.map some) && (S.pats f).contains (xs.length, ks, π) && (!ks.isEmpty || decide (π = List.range xs.length))
    | _ => false
  | .mut m i path as => match x with
    | .Call (.Attribute o name ap) xs [] cp => decide (name = moName m) && mPathR S i path.reverse o && mO S as xs && ap.endLine == cp.line && decide (xs.length < 20)
    | _ => false
  | .lc own t k as ifs e => match x with
    | .ListComp x [⟨tg, it, cs, 0⟩] scope _ => (match itArgs S k it with
      | some xs => mL S as xs
      | none => false) && (!itTup k || isTup tg) && blkC S.N S.sc scope (ownOf S own) && mTg (S.blk scope) (fun x => scope.names.lookup x == some .cell) t tg && t.sl.all own.contains && decide (cs.length ≤ 1) && mEs (S.blk scope) ifs cs && mE (S.blk scope) e x && notSet it
    | _ => false
  | .fz a => mE S a x
  | .at i p => mPathR S i p.reverse x
  | .dct ks es => match x with
    | .Dict keys vs _ => mKeys ks keys && decide (keys.length = vs.length) && !ks.isEmpty && decide (keys.length ≤ 15) && mEs S es vs
    | _ => false
def mEs (S : Sc) : List Ex → List PySem.Expr → Bool
  | [], [] => true
  | e :: es, x :: xs => mE S e x && notStar x && mEs S es xs
  | _, _ => false
/-- operands -/
def mO (S : Sc) : List Ex → List PySem.Expr → Bool
  | [], [] => true
  | .vw i p :: es, x :: xs => mPathR S i p.reverse x && notStar x && mO S es xs
  | e :: es, x :: xs => mE S e x && notStar x && mO S es xs
  | _, _ => false
/-- a loop's operands -/
def mL (S : Sc) : List Ex → List PySem.Expr → Bool
  | [], [] => true
  | .vw i p :: es, x :: xs => mPathR S i p.reverse x && notStar x && mL S es xs
  | e :: es, x :: xs => mE S e x && notStar x && mL S es xs
  | _, _ => false
end
end Vs
/-! V9: the context; operands and operations of the model's syntax. -/
namespace Vs
open PySem PySem.Spec L2
open PyProof.Rows hiding St

def pick {α : Type} : List Bool → List α → List α
  | true :: io, v :: vs => v :: pick io vs
  | false :: io, _ :: vs => pick io vs
  | _, _ => []
/-- a def's promise: it computes what dn says -/
def spD (G : Ga) (dn : Den) : Sp := fun vs H Q E => vs.length = dn.io.length ∧ ∃ ds O, Reps G H vs ds O ∧ O.Nodup ∧
  match dn.m ds with
  | .ok r outs => ∀ v H' T O', Rep G H' v r T → Reps G H' (pick dn.io vs) outs O' → (T ++ O').Nodup → Go O H (T ++ O') H' → Q v H'
  | .ex x outs => ∀ cls dd H' O', Reps G H' (pick dn.io vs) outs O' → O'.Nodup → Go O H O' H' → XR G H' cls dd x → E cls dd H'
  | .no => False
/-- as FnOk, where no repr runs -/
structure FnG (P : Program) (w : World) (K : PySem.W.Frag) (mg : Str → Option Value) (base : Heap) (k : Nat) (f : Addr) (fd : FuncData) (ps : List Str) (sp : Sp) : Prop where
  len : ∀ vs H Q E, sp vs H Q E → vs.length = ps.length
  run : ∀ (A : Around) (outer : List PySem.Env) (s : Shared) (H : Hp) (args : Args) (us : List Value) (vs : List V) (Q : VK) (E : XK), Room k A → A.guards = some [] → Env0 P w K mg base A outer s H →
    BindsTo s fd args (ps.zip us) → Vals vs us → sp vs H Q E → codeAny (model P w) A (.call (.ref f) args) (CR (L2.CX P w) outer P w H s Q E) s
/-- how calls may bind: how many by place, the names of the others, where each parameter's value stands -/
abbrev Pat := Nat × List Str × List Nat
structure FnCl (G : Ga) (X : Cx) (f : Str) (dn : Den) (pats : List Pat) : Prop where
  to : ∃ (a : Addr) (fd : FuncData) (ps : List Str) (k : Nat), X.mg f = some (.ref a) ∧ PySem.W.keepIn X.K (.ref a) = true ∧ Room k X.A ∧ FnG X.prog X.w X.K X.mg X.base k a fd ps (spD G dn) ∧
    ∀ n ks π, (n, ks, π) ∈ pats → ∀ (s : Shared) (us ws zs : List Value), X.K.In s.heap → us.length = n → ws.length = ks.length → perm π (us ++ ws) = some zs → BindsTo s fd ⟨us, ks.zip ws⟩ (ps.zip zs)
structure Ctx (G : Ga) (Γ : Gam) (S : Sc) (X : Cx) : Prop where
  hG : G.K = X.K
  sc : X.env.scope = S.sc
  hN : X.N = S.N
  nd : S.N.Nodup
  calm : X.calm = true
  gd : X.A.guards = some []
  un : X.A.units + 65 < cLine
  con : ∀ x p, Γ.con x = some p → ∃ u v, X.mg x = some u ∧ RelV v u ∧ ∀ H, DpF X.K H v p
  fn : ∀ f dn, Γ.fn f = some dn → FnCl G X f dn (S.pats f)
  bl : ∀ x, S.bl.contains x = true → X.mg x = none

/-! ### operands in the model's syntax -/
def tS1 (G : Ga) (W : WX) : Sop → TE
  | .e f => tE G W f
  | .v i => tVar i
  | .p i path => tPath i path
theorem tO_cons {G : Ga} {W : WX} (o : Sop) (r : List Sop) : tO G W (o :: r) = tCons (tS1 G W o) (tO G W r) := by cases o <;> rfl
theorem tS1_mono {G : Ga} {W : WX} {o : Sop} {σ : L2.St} {H : Hp} {Q Q' : VK} (h : tS1 G W o σ H Q) (imp : ∀ v H', Q v H' → Q' v H') : tS1 G W o σ H Q' := by
  cases o with
  | e f =>
    obtain ⟨ρ, O, a, b, c⟩ := h
    refine ⟨ρ, O, a, b, ?_⟩
    cases ef : f ρ with
    | no => rw [ef] at c; exact c
    | ex x ρ' => rw [ef] at c; exact c
    | ok p => rw [ef] at c; exact fun v H' z => imp _ _ (c v H' z)
  | v i =>
    obtain ⟨v, a, b⟩ := h
    exact ⟨v, a, imp _ _ b⟩
  | p i path =>
    obtain ⟨v, u, a, b, c⟩ := h
    exact ⟨v, u, a, b, imp _ _ c⟩
inductive POs (X : Cx) (G : Ga) (W : WX) : List PySem.Expr → List Sop → Prop
  | nil : POs X G W [] []
  | cons {x : PySem.Expr} {xs : List PySem.Expr} {o : Sop} {os : List Sop} : PE X x (tS1 G W o) → notStar x = true → POs X G W xs os → POs X G W (x :: xs) (o :: os)
theorem star1 {x : PySem.Expr} {xs : List PySem.Expr} {env : PySem.Env} (h : notStar x = true) : starEach (x :: xs) env = (false, eval x env) :: starEach xs env := by
  cases x <;> first | rfl | cases h
section
variable {X : Cx} {G : Ga} {W : WX} {S : Sc} {Γ : Gam}
theorem POs.pa : ∀ {xs : List PySem.Expr} {os : List Sop}, POs X G W xs os → PA X xs (tO G W os)
  | _, _, .nil => pa_nil
  | _, _, .cons h n hs => by rw [tO_cons]; exact pa_cons h (POs.pa hs) (star1 n)
theorem POs.app : ∀ {xs ys : List PySem.Expr} {os ps : List Sop}, POs X G W xs os → POs X G W ys ps → POs X G W (xs ++ ys) (os ++ ps)
  | _, _, _, _, .nil, q => q
  | _, _, _, _, .cons h n hs, q => .cons h n (POs.app hs q)
theorem POs.plain : ∀ {xs : List PySem.Expr} {os : List Sop} (pos : Pos) (env : PySem.Env), POs X G W xs os → (backTo pos (starEach xs env)).any (·.1) = false
  | _, _, _, _, .nil => rfl
  | _, _, pos, env, .cons (xs := xs) h n hs => by
    rw [star1 n]
    show (false || (backTo pos (starEach xs env)).any (·.1)) = false
    rw [POs.plain pos env hs]; rfl
theorem pImp {e : PySem.Expr} {t t' : TE} (h : PE X e t) (i : ∀ σ H Q, t' σ H Q → t σ H Q) : PE X e t' := ⟨fun pins s σ H Q I q => h.run pins s σ H Q I (i σ H Q q)⟩
theorem ptImp {e : PySem.Expr} {t t' : TT} (h : PT X e t) (i : ∀ σ H Q, t' σ H Q → t σ H Q) : PT X e t' := ⟨fun pins s σ H Q I q => h.run pins s σ H Q I (i σ H Q q)⟩
theorem Ctx.vis (C : Ctx G Γ S X) {i : Nat} {x : Str} {pos : Pos} (h : visB S i x = true) : PE X (.Name x pos) (tVar i) := by
  unfold visB plainB at h
  simp only [Bool.and_eq_true, decide_eq_true_eq, Bool.not_eq_true'] at h
  obtain ⟨⟨h1, ⟨h2, h3⟩, h4⟩, h5⟩ := h
  refine pe_var (by rw [C.hN]; exact h1) ?_ h2 h3
  unfold Vis
  rw [C.sc]
  split at h5
  · exact .inl (by assumption)
  · exact .inr (.inl (by assumption))
  · exact .inr (.inr (by assumption))
  · cases h5
theorem Ctx.gl (C : Ctx G Γ S X) {x : Str} (h : glB S x = true) : Gl X x ∧ (x == ("__debug__" : Str)) = false ∧ x ≠ "__name__" := by
  unfold glB plainB at h
  simp only [Bool.and_eq_true, decide_eq_true_eq, Bool.not_eq_true'] at h
  refine ⟨?_, h.1.1.1, h.1.2⟩
  unfold Gl Env.kindOf
  rw [C.sc]; exact h.2
theorem Ctx.blt (C : Ctx G Γ S X) {x : Str} (h : bltB S x = true) : Gl X x ∧ (x == ("__debug__" : Str)) = false ∧ x ≠ "__name__" ∧ X.mg x = none := by
  unfold bltB at h
  rw [Bool.and_eq_true] at h
  obtain ⟨a, b, c⟩ := C.gl h.1
  exact ⟨a, b, c, C.bl x h.2⟩
/-- x[k1][k2].. -/
theorem VAt.unsnoc {H : Hp} : ∀ {p : List PK} {v w : V} {k : PK}, VAt H v (p ++ [k]) w → ∃ u, VAt H v p u ∧ VAt H u [k] w
  | [], v, w, k, h => ⟨v, .nil, h⟩
  | q :: p, v, w, k, h => by
    cases h with
    | ix q1 q2 q3 =>
      obtain ⟨u, z1, z2⟩ := VAt.unsnoc q3
      exact ⟨u, .ix q1 q2 z1, z2⟩
    | key q1 q2 q3 =>
      obtain ⟨u, z1, z2⟩ := VAt.unsnoc q3
      exact ⟨u, .key q1 q2 z1, z2⟩
theorem mPath_pe (C : Ctx G Γ S X) {i : Nat} : ∀ (p : List PK) {e : PySem.Expr}, mPathR S i p e = true → PE X e (tPath i p.reverse)
  | [], .Name x pos, h => pImp (C.vis h) fun σ H Q ⟨v, u, a, b, c⟩ => by cases b; exact ⟨v, a, c⟩
  | .ix n :: p, .Subscript e (.Constant (.int k) j q) pos, h => by
    unfold mPathR at h
    rw [Bool.and_eq_true, decide_eq_true_eq] at h
    obtain ⟨rfl, h⟩ := h
    have ih := mPath_pe C p h
    refine pImp (pe_ix ix_list ih pe_int fun _ _ => rfl) fun σ H Q ⟨v, u, a, b, c⟩ => ?_
    rw [List.reverse_cons] at b
    obtain ⟨x, z1, z2⟩ := b.unsnoc
    cases z2 with
    | ix z2 z3 z4 =>
      cases z4
      exact ⟨v, _, a, z1, _, _, k, u, rfl, rfl, SqL.of z2, z3, c⟩
  | .key k :: p, .Subscript e (.Constant (.str x) j q) pos, h => by
    unfold mPathR at h
    rw [Bool.and_eq_true, decide_eq_true_eq] at h
    obtain ⟨rfl, h⟩ := h
    have ih := mPath_pe C p h
    have un := C.un
    refine pImp (pe_dget (by omega) ih pe_str fun _ _ => rfl) fun σ H Q ⟨v, u, a, b, c⟩ => ?_
    rw [List.reverse_cons] at b
    obtain ⟨y, z1, z2⟩ := b.unsnoc
    cases z2 with
    | key z2 z3 z4 =>
      cases z4
      exact ⟨v, _, a, z1, _, u, rfl, by rw [← z3]; exact DGet.k (k := .inr x) z2, c⟩
  | [], .Subscript _ _ _, h => by unfold mPathR at h; cases h
theorem mView_pe (C : Ctx G Γ S X) {i : Nat} {p : List PK} {e : PySem.Expr} (h : mPathR S i p.reverse e = true) : PE X e (tPath i p) := by
  have := mPath_pe C p.reverse h
  rw [List.reverse_reverse] at this
  exact this
theorem mView_var (C : Ctx G Γ S X) {i : Nat} {e : PySem.Expr} (h : mPathR S i [] e = true) : PE X e (tVar i) := by
  unfold mPathR at h
  split at h
  all_goals first | contradiction | exact C.vis h
/-! ### operations -/
theorem one_logic {o : List D → Option D} {p : Sop} {f : D → Option D} (ho : ∀ ds, o ds = un1 f ds) {σ : L2.St} {H : Hp} {Q : VK} (h : tE G W (opE o [p]) σ H Q) : tS1 G W p σ H fun x H1 => r1 G f [x] H1 Q := by
  have z := op_logic h
  rw [tO_cons] at z
  refine tS1_mono z fun x H1 ⟨ds, d, rv, e, n⟩ => ?_
  obtain ⟨y, T, rfl, ry⟩ := rv.one
  rw [ho] at e
  exact ⟨x, y, d, T, rfl, ry, e, n⟩
theorem two_logic {o : List D → Option D} {p q : Sop} {f : D → D → Option D} (ho : ∀ ds, o ds = bi2 f ds) {σ : L2.St} {H : Hp} {Q : VK} (h : tE G W (opE o [p, q]) σ H Q) : tOp (r2 G f) (tS1 G W p) (tS1 G W q) σ H Q := by
  have z := op_logic h
  rw [tO_cons, tO_cons] at z
  refine tS1_mono z fun x H1 z => ?_
  refine tS1_mono z fun y H2 ⟨ds, d, rv, e, n⟩ => ?_
  obtain ⟨a, b, T, T', rfl, ra, rb⟩ := rv.two
  rw [ho] at e
  exact ⟨a, b, d, T, T', ra, rb, e, n⟩
theorem un_neg' : UnR X (unaryOp .USub) (fun x H Q => r1 G oNeg [x] H Q) := fun pins s σ H x v Q I rx ⟨y, d, z, T, e, ry, ho, hn⟩ => by
  cases e
  unfold oNeg at ho
  split at ho
  · cases ho
    exact un_neg pins s σ H x v Q I rx ⟨_, ry.int_of, hn.int⟩
  · cases ho
theorem powOk_c {i j : Int} (h : powOk i j = true) : CPow i j := by
  unfold powOk small64b at h
  simp only [Bool.and_eq_true, decide_eq_true_eq] at h
  exact ⟨h.1.1, h.1.2, by omega⟩
theorem bin_ok (C : Ctx G Γ S X) {o : Op} {p : Operator} (h : binOf o = some p) : ∃ f, (∀ ds, opD o ds = bi2 f ds) ∧ OpR X (binaryOp p) (r2 G f) := by
  cases o <;> cases h
  · exact ⟨_, fun _ => rfl, v_add C.hG⟩
  · exact ⟨_, fun _ => rfl, v_int20 op_sub⟩
  · exact ⟨_, fun _ => rfl, v_mul C.hG⟩
  · exact ⟨_, fun _ => rfl, v_int2 op_fdiv fun i j h => by simp only [Bool.and_eq_true, decide_eq_true_eq] at h; exact h⟩
  · exact ⟨_, fun _ => rfl, v_int2 op_mod fun i j h => of_decide_eq_true h⟩
  · exact ⟨_, fun _ => rfl, v_int2 op_pow fun i j h => powOk_c h⟩
  · exact ⟨_, fun _ => rfl, v_int20 op_and⟩
  · exact ⟨_, fun _ => rfl, v_int20 op_or⟩
  · exact ⟨_, fun _ => rfl, v_int2 op_shl fun i j h => powOk_c h⟩
  · exact ⟨_, fun _ => rfl, v_int2 op_shr fun i j h => of_decide_eq_true h⟩
theorem cmp_ok (C : Ctx G Γ S X) {o : Op} {p : CmpOp} (h : cmpOf o = some p) : ∃ f, (∀ ds, opD o ds = bi2 f ds) ∧ OpR X (compareOp p) (r2 G f) := by
  have u := C.un
  cases o <;> cases h
  · exact ⟨_, fun _ => rfl, v_cmpI op_lt⟩
  · exact ⟨_, fun _ => rfl, v_cmpI op_le⟩
  · exact ⟨_, fun _ => rfl, v_cmpI op_gt⟩
  · exact ⟨_, fun _ => rfl, v_cmpI op_ge⟩
  · exact ⟨_, fun _ => rfl, v_eq C.hG (by omega)⟩
  · exact ⟨_, fun _ => rfl, v_ne C.hG (by omega)⟩
  · exact ⟨_, fun _ => rfl, v_in C.hG u⟩
  · exact ⟨_, fun _ => rfl, v_notin C.hG u⟩
  · exact ⟨_, fun _ => rfl, v_is⟩
  · exact ⟨_, fun _ => rfl, v_isnot⟩
/-- the built-in functions of one argument -/
theorem f1_ok (C : Ctx G Γ S X) {o : Op} {x : Str} (h : f1Of o = some x) : ∃ f, (∀ ds, opD o ds = un1 f ds) ∧ ((∃ id, bootBuiltins x = some (.builtin id) ∧ CallR X (.builtin id) (r1 G f)) ∨ ∃ T, bootBuiltins x = some (.type T) ∧ CallR X (.type T) (r1 G f)) := by
  have u := C.un
  cases o <;> cases h
  · exact ⟨_, fun _ => rfl, .inl ⟨_, by decide +kernel, v_len C.hG⟩⟩
  · exact ⟨_, fun _ => rfl, .inl ⟨_, by decide +kernel, v_abs⟩⟩
  · exact ⟨_, fun _ => rfl, .inr ⟨_, by decide +kernel, v_int⟩⟩
  · exact ⟨_, fun _ => rfl, .inl ⟨_, by decide +kernel, v_repr C.hG C.gd (by omega)⟩⟩
  · exact ⟨_, fun _ => rfl, .inr ⟨_, by decide +kernel, v_list C.hG⟩⟩
  · exact ⟨_, fun _ => rfl, .inr ⟨_, by decide +kernel, v_tuple C.hG⟩⟩
  · exact ⟨_, fun _ => rfl, .inl ⟨_, by decide +kernel, v_sorted C.hG (by omega)⟩⟩
  · exact ⟨_, fun _ => rfl, .inl ⟨_, by decide +kernel, v_sum C.hG C.calm⟩⟩
  · exact ⟨_, fun _ => rfl, .inl ⟨_, by decide +kernel, v_all C.hG C.calm⟩⟩
  · exact ⟨_, fun _ => rfl, .inl ⟨_, by decide +kernel, v_any C.hG C.calm⟩⟩
theorem nobeh {op : CmpOp} {b : PySem.Expr} (h : notSet b = true) : behindInMarks op b = false := by
  cases b <;> first | rfl | cases h
theorem ty_boot (t : Ty) : bootBuiltins (Str.ofString t.nm) = some (.type t.nm) := by cases t <;> decide +kernel
end
end Vs
/-! V10: operations, displays, tests: from the model's syntax to what the evaluator says. -/
namespace Vs
open PySem PySem.Spec L2
open PyProof.Rows hiding St
section
variable {X : Cx} {G : Ga} {W : WX} {S : Sc} {Γ : Gam}
theorem notSlice_ix {b : PySem.Expr} (h : notSlice b = true) : PlainIx b := by
  cases b <;> first | (intro o i; rfl) | cases h
theorem wrap1 {o : Op} {p : Sop} (h : o ≠ .slLH) : wrapO o [p] = [p] := by cases o <;> first | rfl | exact absurd rfl h
theorem wrap2 {o : Op} {p q : Sop} (h : o ≠ .slLH) : wrapO o [p, q] = [p, q] := by cases o <;> first | rfl | exact absurd rfl h
theorem pe_false {e : PySem.Expr} {f : EF} (h : ∀ ρ, f ρ = .no) : PE X e (tE G W f) := ⟨fun pins s σ H Q I ⟨ρ, O, _, _, z⟩ => by rw [h ρ] at z; exact z.elim⟩
theorem intE_logic {f : EF} {σ : L2.St} {H : Hp} {Q : VK} (h : tE G W (intE f) σ H Q) : tE G W f σ H fun x H1 => ∃ i, x = .int i ∧ Q x H1 := by
  obtain ⟨ρ, O, a, b, h⟩ := h
  refine ⟨ρ, O, a, b, ?_⟩
  unfold intE at h
  cases ef : f ρ with
  | no => rw [ef] at h; exact h
  | ex x ρ' => rw [ef] at h; exact h
  | ok q =>
    obtain ⟨d, ρ'⟩ := q
    rw [ef] at h
    simp only [Res.bind] at h
    split at h
    · rename_i e
      split at e
      · rename_i i
        cases e
        intro v H' ⟨O', T, k1, k2, k3, k4⟩
        exact ⟨i, k2.int_of, h v H' ⟨O', T, k1, k2, k3, k4⟩⟩
      · cases e
    · rename_i e; split at e <;> cases e
    · exact h.elim
theorem op_ok (C : Ctx G Γ S X) {o : Op} {e : PySem.Expr} {xs : List PySem.Expr} {ops : List Sop} (h : opArgs S o e = some xs) (ps : POs X G W xs ops) : PE X e (tE G W (opE (opD o) (wrapO o ops))) := by
  unfold opArgs at h
  split at h
  · split at h
    · cases h
      obtain ⟨f, hf, hr⟩ := bin_ok C (by assumption)
      cases ps with | cons ha na ps => cases ps with | cons hb nb ps => cases ps; exact pImp (pe_op hr ha hb) fun σ H Q z => two_logic hf (by rw [wrap2 (by intro z; subst z; simp_all [binOf, cmpOf, f1Of])] at z; exact z)
    · cases h
  · split at h
    · cases h
      rename_i hc
      rw [Bool.and_eq_true, decide_eq_true_eq] at hc
      obtain ⟨f, hf, hr⟩ := cmp_ok C hc.1
      cases ps with | cons ha na ps => cases ps with | cons hb nb ps => cases ps; exact pImp (pe_cmpR hr ha hb (nobeh hc.2)) fun σ H Q z => two_logic hf (by rw [wrap2 (by intro z; subst z; simp_all [binOf, cmpOf, f1Of])] at z; exact z)
    · cases h
  · split at h
    · cases h
      cases ps with | cons ha na ps => cases ps; exact pImp (pe_un un_neg' ha) fun σ H Q z => one_logic (fun _ => rfl) z
    · cases h
  · split at h
    · cases h
      cases ps with | cons ha na ps => cases ps; exact pImp (pe_slice (v_sl C.hG) ha po_none po_none) fun σ H Q z => tS1_mono (one_logic (f := oSl none none) (fun _ => rfl) z) fun x H1 ⟨y, d, w, T, e, ry, ho, hn⟩ => by cases e; exact ⟨d, w, T, ry, ho, hn⟩
    · cases h
  · split at h
    · cases h
      cases ps with
      | cons ha na ps =>
        cases ps with
        | cons hb nb ps =>
          cases ps
          refine pImp (pe_slice (v_sl C.hG) ha (po_some hb) po_none) fun σ H Q z => ?_
          have z := op_logic z
          rw [wrap2 (by intro z; cases z)] at z
          rw [tO_cons, tO_cons] at z
          refine tS1_mono z fun x H1 z => tS1_mono z fun y H2 ⟨ds, d, rv, ho, hn⟩ => ?_
          obtain ⟨a, b, T, T', rfl, ra, rb⟩ := rv.two
          unfold opD bi2 at ho
          simp only at ho
          split at ho
          · exact ⟨_, rb.int_of, a, d, T, ra, ho, hn⟩
          · cases ho
    · cases h
  · split at h
    · cases h
      cases ps with
      | cons ha na ps =>
        cases ps with
        | cons hb nb ps =>
          cases ps
          refine pImp (pe_slice (v_sl C.hG) ha po_none (po_some hb)) fun σ H Q z => ?_
          have z := op_logic z
          rw [wrap2 (by intro z; cases z)] at z
          rw [tO_cons, tO_cons] at z
          refine tS1_mono z fun x H1 z => tS1_mono z fun y H2 ⟨ds, d, rv, ho, hn⟩ => ?_
          obtain ⟨a, b, T, T', rfl, ra, rb⟩ := rv.two
          unfold opD bi2 at ho
          simp only at ho
          split at ho
          · exact ⟨_, rb.int_of, a, d, T, ra, ho, hn⟩
          · cases ho
    · cases h
  · split at h
    · cases h
      cases ps with
      | cons ha na ps =>
        cases ps with
        | cons hb nb ps =>
          cases ps with
          | cons hc nc ps =>
            cases ps
            rename_i p q r
            cases q with
            | v i => exact pe_false fun ρ => rfl
            | p i path => exact pe_false fun ρ => rfl
            | e f =>
              cases r with
              | v i => exact pe_false fun ρ => rfl
              | p i path => exact pe_false fun ρ => rfl
              | e g =>
                refine pImp (pe_slice (v_sl C.hG) ha (po_some hb) (po_some hc)) fun σ H Q z => ?_
                have z := op_logic z
                unfold wrapO at z
                simp only at z
                rw [tO_cons, tO_cons, tO_cons] at z
                refine tS1_mono z fun x H1 z => ?_
                refine tS1_mono (o := .e f) (intE_logic z) fun y H2 ⟨i, e1, z⟩ => ⟨i, e1, ?_⟩
                refine tS1_mono (o := .e g) (intE_logic z) fun y' H3 ⟨j, e2, ds, d, rv, ho, hn⟩ => ⟨j, e2, ?_⟩
                subst e1 e2
                cases rv with
                | cons ra rv =>
                  cases rv with
                  | cons rb rv =>
                    cases rv with
                    | cons rc rv =>
                      cases rv
                      unfold opD at ho
                      simp only at ho
                      split at ho
                      · rename_i e
                        cases e
                        have k1 := rb.int_of
                        have k2 := rc.int_of
                        cases k1; cases k2
                        exact ⟨_, d, _, ra, ho, hn⟩
                      · cases ho
    · cases h
  · split at h
    · split at h
      · cases h
        cases ps with | cons ha na ps => cases ps with | cons hb nb ps => cases ps; exact pImp (pe_ix (v_ix C.hG) ha hb (notSlice_ix (by assumption))) fun σ H Q z => two_logic (fun _ => rfl) z
      · cases h
    · cases h
  · split at h
    · cases h
      rename_i hc
      rw [Bool.and_eq_true, decide_eq_true_eq] at hc
      obtain ⟨g1, g2, g3, g4⟩ := C.blt hc.2
      cases ps with
      | cons ha na ps =>
        cases ps
        obtain ⟨f, hf, hr⟩ := f1_ok C hc.1
        have hp : PA X [_] (tO G W [_]) := POs.pa (.cons ha na .nil)
        rcases hr with ⟨id, hb, hr⟩ | ⟨T, hb, hr⟩
        · refine pImp (pe_callB hr g1 g4 hb hp g3 g2 (star1 na) (by rfl)) fun σ H Q z => ?_
          rw [wrap1 (by intro z; subst z; simp_all [f1Of])] at z
          have z := one_logic hf z
          rw [tO_cons]
          exact z
        · refine pImp (pe_callTy hr g1 g4 hb hp g3 g2 (star1 na) (by rfl)) fun σ H Q z => ?_
          rw [wrap1 (by intro z; subst z; simp_all [f1Of])] at z
          have z := one_logic hf z
          rw [tO_cons]
          exact z
    · cases h
  · split at h
    · split at h
      · cases h
        rename_i t _ ty hc
        simp only [Bool.and_eq_true, decide_eq_true_eq] at hc
        obtain ⟨⟨⟨rfl, c2⟩, c3⟩, c4⟩ := hc
        obtain ⟨g1, g2, g3, g4⟩ := C.blt c2
        obtain ⟨k1, k2, k3, k4⟩ := C.blt c3
        subst c4
        cases ps with
        | cons ha na ps =>
          cases ps
          refine pImp (pe_callB (v_isi C.hG ty) g1 g4 (by decide +kernel) (pa_cons ha (pa_cons (pe_bltn (v := .ty ty.nm) k1 k4 (ty_boot ty) rfl k3 k2) pa_nil (star1 rfl)) (star1 na)) g3 g2 (star1 na) (by rfl)) fun σ H Q z => ?_
          refine tS1_mono (one_logic (f := oIsi ty) (fun _ => rfl) z) fun x H1 ⟨y, d, w, T, e, ry, ho, hn⟩ => ?_
          cases e
          exact ⟨x, d, w, T, rfl, ry, ho, hn⟩
      · cases h
    · cases h
  · cases h
end
end Vs
/-! V11: displays, and, or, not, tests. -/
namespace Vs
open PySem PySem.Spec L2
open PyProof.Rows hiding St
/-- what is to follow an evaluation's outcome -/
def Cont (G : Ga) (W : WX) (O : List Addr) (σ : L2.St) (H : Hp) (r : Res (D × Env)) (Q : VK) : Prop := match r with
  | .ok (d, ρ') => ∀ v H', EvR G O σ H ρ' d v H' → Q v H'
  | .ex x ρ' => ∀ cls dd H', ExR G O H ρ' x cls dd σ H' → W cls dd σ H'
  | .no => False
def TsR (G : Ga) (O : List Addr) (σ : L2.St) (H : Hp) (ρ' : Env) (H' : Hp) : Prop := ∃ O', RepE G H' σ ρ' O' ∧ O'.Nodup ∧ Go O H O' H'
def ContT (G : Ga) (W : WX) (O : List Addr) (σ : L2.St) (H : Hp) (r : Res (Bool × Env)) (Q : Bool → Hp → Prop) : Prop := match r with
  | .ok (b, ρ') => ∀ H', TsR G O σ H ρ' H' → Q b H'
  | .ex x ρ' => ∀ cls dd H', ExR G O H ρ' x cls dd σ H' → W cls dd σ H'
  | .no => False
def tT (G : Ga) (W : WX) (f : TF) : TT := fun σ H Q => ∃ ρ O, RepE G H σ ρ O ∧ O.Nodup ∧ ContT G W O σ H (f ρ) Q
section
variable {X : Cx} {G : Ga} {W : WX} {S : Sc} {Γ : Gam} {σ : L2.St} {H : Hp}
theorem tE_iff {f : EF} {Q : VK} : tE G W f σ H Q ↔ ∃ ρ O, RepE G H σ ρ O ∧ O.Nodup ∧ Cont G W O σ H (f ρ) Q := Iff.rfl
theorem ExR.more {O S1 : List Addr} {H1 H' : Hp} {ρ : Env} {x : Exc} {cls : Value} {dd : Option Addr} (go : Go O H S1 H1) (h : ExR G S1 H1 ρ x cls dd σ H') : ExR G O H ρ x cls dd σ H' := by
  obtain ⟨O', a, b, c, e⟩ := h
  exact ⟨O', a, b, go.trans c, e⟩
theorem EvR.more {O S1 : List Addr} {H1 H' : Hp} {ρ : Env} {d : D} {v : V} (go : Go O H S1 H1) (h : EvR G S1 σ H1 ρ d v H') : EvR G O σ H ρ d v H' := by
  obtain ⟨O', T, a, b, c, e⟩ := h
  exact ⟨O', T, a, b, c, go.trans e⟩
theorem TsR.more {O S1 : List Addr} {H1 H' : Hp} {ρ : Env} (go : Go O H S1 H1) (h : TsR G S1 σ H1 ρ H') : TsR G O σ H ρ H' := by
  obtain ⟨O', a, b, e⟩ := h
  exact ⟨O', a, b, go.trans e⟩
theorem Cont.more {O S1 : List Addr} {H1 : Hp} {r : Res (D × Env)} {Q : VK} (go : Go O H S1 H1) (h : Cont G W O σ H r Q) : Cont G W S1 σ H1 r Q := by
  cases r with
  | no => exact h
  | ex x ρ' => exact fun cls dd H' z => h cls dd H' (z.more go)
  | ok p => obtain ⟨d, ρ'⟩ := p; exact fun v H' z => h v H' (z.more go)
theorem ContT.more {O S1 : List Addr} {H1 : Hp} {r : Res (Bool × Env)} {Q : Bool → Hp → Prop} (go : Go O H S1 H1) (h : ContT G W O σ H r Q) : ContT G W S1 σ H1 r Q := by
  cases r with
  | no => exact h
  | ex x ρ' => exact fun cls dd H' z => h cls dd H' (z.more go)
  | ok p => obtain ⟨d, ρ'⟩ := p; exact fun H' z => h H' (z.more go)
/-- one evaluation ahead of another -/
theorem bindE {f : EF} {g : D × Env → Res (D × Env)} {Q : VK} (h : tE G W (fun ρ => (f ρ).bind g) σ H Q) :
    tE G W f σ H fun v H1 => ∃ ρ1 d O1 T, RepE G H1 σ ρ1 O1 ∧ Rep G H1 v d T ∧ (T ++ O1).Nodup ∧ Cont G W (T ++ O1) σ H1 (g (d, ρ1)) Q := by
  obtain ⟨ρ, O, a, b, h⟩ := tE_iff.mp h
  refine tE_iff.mpr ⟨ρ, O, a, b, ?_⟩
  cases ef : f ρ with
  | no => rw [ef] at h; exact h
  | ex x ρ' => rw [ef] at h; exact h
  | ok p =>
    obtain ⟨d, ρ1⟩ := p
    rw [ef] at h
    intro v H1 ⟨O1, T, rE, rv, nd, go⟩
    exact ⟨ρ1, d, O1, T, rE, rv, nd, Cont.more go h⟩
theorem bindET {f : EF} {g : D × Env → Res (Bool × Env)} {Q : Bool → Hp → Prop} (h : tT G W (fun ρ => (f ρ).bind g) σ H Q) :
    tE G W f σ H fun v H1 => ∃ ρ1 d O1 T, RepE G H1 σ ρ1 O1 ∧ Rep G H1 v d T ∧ (T ++ O1).Nodup ∧ ContT G W (T ++ O1) σ H1 (g (d, ρ1)) Q := by
  obtain ⟨ρ, O, a, b, h⟩ := h
  have h : ContT G W O σ H ((f ρ).bind g) Q := h
  refine tE_iff.mpr ⟨ρ, O, a, b, ?_⟩
  cases ef : f ρ with
  | no => rw [ef] at h; exact h
  | ex x ρ' => rw [ef] at h; exact h
  | ok p =>
    obtain ⟨d, ρ1⟩ := p
    rw [ef] at h
    intro v H1 ⟨O1, T, rE, rv, nd, go⟩
    exact ⟨ρ1, d, O1, T, rE, rv, nd, ContT.more go h⟩
theorem bindTE {f : TF} {g : Bool × Env → Res (D × Env)} {Q : VK} (h : tE G W (fun ρ => (f ρ).bind g) σ H Q) :
    tT G W f σ H fun b H1 => ∃ ρ1 O1, RepE G H1 σ ρ1 O1 ∧ O1.Nodup ∧ Cont G W O1 σ H1 (g (b, ρ1)) Q := by
  obtain ⟨ρ, O, a, b, h⟩ := tE_iff.mp h
  refine ⟨ρ, O, a, b, ?_⟩
  cases ef : f ρ with
  | no => rw [ef] at h; exact h
  | ex x ρ' => rw [ef] at h; exact h
  | ok p =>
    obtain ⟨d, ρ1⟩ := p
    rw [ef] at h
    intro H1 ⟨O1, rE, nd, go⟩
    exact ⟨ρ1, O1, rE, nd, Cont.more go h⟩
theorem bindTT {f : TF} {g : Bool × Env → Res (Bool × Env)} {Q : Bool → Hp → Prop} (h : tT G W (fun ρ => (f ρ).bind g) σ H Q) :
    tT G W f σ H fun b H1 => ∃ ρ1 O1, RepE G H1 σ ρ1 O1 ∧ O1.Nodup ∧ ContT G W O1 σ H1 (g (b, ρ1)) Q := by
  obtain ⟨ρ, O, a, b, h⟩ := h
  have h : ContT G W O σ H ((f ρ).bind g) Q := h
  refine ⟨ρ, O, a, b, ?_⟩
  cases ef : f ρ with
  | no => rw [ef] at h; exact h
  | ex x ρ' => rw [ef] at h; exact h
  | ok p =>
    obtain ⟨d, ρ1⟩ := p
    rw [ef] at h
    intro H1 ⟨O1, rE, nd, go⟩
    exact ⟨ρ1, O1, rE, nd, ContT.more go h⟩
theorem tT_mono {f : TF} {Q Q' : Bool → Hp → Prop} (h : tT G W f σ H Q) (imp : ∀ b H', Q b H' → Q' b H') : tT G W f σ H Q' := by
  obtain ⟨ρ, O, a, b, h⟩ := h
  refine ⟨ρ, O, a, b, ?_⟩
  cases ef : f ρ with
  | no => rw [ef] at h; exact h
  | ex x ρ' => rw [ef] at h; exact h
  | ok p => rw [ef] at h; exact fun H' z => imp _ _ (h H' z)
theorem tE_mono {f : EF} {Q Q' : VK} (h : tE G W f σ H Q) (imp : ∀ v H', Q v H' → Q' v H') : tE G W f σ H Q' := tS1_mono (o := .e f) h imp
theorem tO_mono : ∀ {ops : List Sop} {σ : L2.St} {H : Hp} {R R' : List V → Hp → Prop}, tO G W ops σ H R → (∀ vs H', R vs H' → R' vs H') → tO G W ops σ H R'
  | [], _, _, _, _, h, i => i _ _ h
  | o :: r, _, _, _, _, h, i => by
    rw [tO_cons] at h ⊢
    exact tS1_mono h fun x H1 z => tO_mono z fun xs H2 q => i _ _ q
/-- nothing owned: the value is a bool -/
theorem Cont.nil {O1 T : List Addr} {r : Res (D × Env)} {Q : VK} (h : Cont G W (T ++ O1) σ H r Q) : Cont G W O1 σ H r Q :=
  Cont.more (S1 := O1) (O := T ++ O1) ⟨fun _ _ e _ => e, fun a q => .inl (List.mem_append_right _ q)⟩ h
theorem ContT.nil {O1 T : List Addr} {r : Res (Bool × Env)} {Q : Bool → Hp → Prop} (h : ContT G W (T ++ O1) σ H r Q) : ContT G W O1 σ H r Q :=
  ContT.more (S1 := O1) (O := T ++ O1) ⟨fun _ _ e _ => e, fun a q => .inl (List.mem_append_right _ q)⟩ h
/-- an outcome that is a value of no parts -/
theorem Cont.now {O : List Addr} {d : D} {ρ : Env} {Q : VK} (h : Cont G W O σ H (.ok (d, ρ)) Q) (rE : RepE G H σ ρ O) (nd : O.Nodup) {v : V} (r : Rep G H v d []) : Q v H :=
  h v H ⟨O, [], rE, r, nd, Go.refl⟩
theorem ContT.now {O : List Addr} {b : Bool} {ρ : Env} {Q : Bool → Hp → Prop} (h : ContT G W O σ H (.ok (b, ρ)) Q) (rE : RepE G H σ ρ O) (nd : O.Nodup) : Q b H :=
  h H ⟨O, rE, nd, Go.refl⟩
/-! ### displays -/
theorem tup_ok {xs : List PySem.Expr} {ops : List Sop} {k : Nat} {pos : Pos} (ps : POs X G W xs ops) : PE X (.Tuple xs k pos) (tE G W (dispE mkTup ops)) := by
  refine pImp (pe_tup ps.pa) fun σ H Q h => ?_
  refine tO_mono (disp_logic h) fun vs H2 ⟨ds, T, O2, ρ, hl, rs, rE, nd, q⟩ => ⟨Nat.le_trans hl (by rw [sizeLine_eq]; decide), fun p hp => ?_⟩
  have f := frm_new (o := .tup vs) hp
  refine q (.ref p) _ T (Reps.mkTup (rs.fr (S := []) f mut_nil (fun _ _ z => nomatch z)) (SqT.of upd_same)) (rE.fr (S := []) f mut_nil (fun _ _ z => nomatch z)) nd ⟨fun a o e _ => f a o e (fun z => nomatch z), fun a z => .inl z⟩
theorem lst_ok {xs : List PySem.Expr} {ops : List Sop} {pos : Pos} (ps : POs X G W xs ops) : PE X (.List xs pos) (tE G W (dispE .ls ops)) := by
  refine pImp (pe_lst ps.pa) fun σ H Q h => ?_
  refine tO_mono (disp_logic h) fun vs H2 ⟨ds, T, O2, ρ, hl, rs, rE, nd, q⟩ => ⟨Nat.le_trans hl (by rw [sizeLine_eq]; decide), fun p hp => ?_⟩
  have f := frm_new (o := .lst vs) hp
  refine q (.ref p) _ (p :: T) (.ls upd_same (rs.fr (S := []) f mut_nil fun _ _ z => nomatch z)) (rE.fr (S := []) f mut_nil fun _ _ z => nomatch z) ?_ (Go.new hp)
  rw [List.cons_append]
  refine List.nodup_cons.mpr ⟨fun z => ?_, nd⟩
  obtain ⟨o, e⟩ := (MutA.app rs.mut rE.mut).some p z
  rw [hp] at e; cases e
/-! ### not, and, or -/
theorem not_ok {x : PySem.Expr} {f : EF} {pos : Pos} (h : PE X x (tE G W f)) : PE X (.UnaryOp .Not x pos) (tE G W (notE f)) := by
  refine pImp (pe_not h) fun σ H Q z => ?_
  refine tE_mono (bindE z) fun v H1 ⟨ρ1, d, O1, T, rE, rv, nd, c⟩ => ?_
  simp only at c
  split at c
  · exact ⟨_, rv.bl_of, Cont.now c.nil rE (nd_app.mp nd).2.1 (.sh (.bl _))⟩
  · exact c.elim
inductive PEs (X : Cx) (G : Ga) (W : WX) : List PySem.Expr → List EF → Prop
  | nil : PEs X G W [] []
  | cons {x : PySem.Expr} {xs : List PySem.Expr} {f : EF} {fs : List EF} : PE X x (tE G W f) → PEs X G W xs fs → PEs X G W (x :: xs) (f :: fs)
inductive PTss (X : Cx) (G : Ga) (W : WX) : List PySem.Expr → List TF → Prop
  | nil : PTss X G W [] []
  | cons {x : PySem.Expr} {xs : List PySem.Expr} {f : TF} {fs : List TF} : PT X x (tT G W f) → PTss X G W xs fs → PTss X G W (x :: xs) (f :: fs)
theorem bop_logic {k : Bool} {f g : EF} {r : List EF} {Q : VK} (h : tE G W (bopE k (f :: g :: r)) σ H Q) : tE G W f σ H fun x H1 => ∃ c, x = .bl c ∧ if c = k then tE G W (bopE k (g :: r)) σ H1 Q else Q (.bl c) H1 := by
  refine tE_mono (bindE h) fun v H1 ⟨ρ1, d, O1, T, rE, rv, nd, c⟩ => ?_
  simp only at c
  split at c
  · rename_i b
    refine ⟨b, rv.bl_of, ?_⟩
    split
    · rename_i e
      rw [if_pos e] at c
      exact tE_iff.mpr ⟨ρ1, O1, rE, (nd_app.mp nd).2.1, c.nil⟩
    · rename_i e
      rw [if_neg e] at c
      exact Cont.now c.nil rE (nd_app.mp nd).2.1 (.sh (.bl _))
  · exact c.elim
theorem bop_ok {k : Bool} {pos : Pos} : ∀ {xs : List PySem.Expr} {fs : List EF}, PEs X G W xs fs → PE X (.BoolOp (bopOf k) xs pos) (tE G W (bopE k fs))
  | _, _, .nil => ⟨fun pins s σ H Q I ⟨ρ, O, _, _, z⟩ => z.elim⟩
  | _, _, .cons h .nil => pe_one h
  | _, _, .cons h (.cons h2 hs) => by
    have ih := bop_ok (k := k) (pos := pos) (.cons h2 hs)
    cases k with
    | true =>
      refine pImp (pe_and h ih) fun σ H Q z => tE_mono (bop_logic z) fun v H1 ⟨c, e, z⟩ => ⟨c, e, ?_⟩
      cases c with
      | true => exact z
      | false => exact z
    | false =>
      refine pImp (pe_or h ih) fun σ H Q z => tE_mono (bop_logic z) fun v H1 ⟨c, e, z⟩ => ⟨c, e, ?_⟩
      cases c with
      | true => exact z
      | false => exact z
theorem bopT_logic {k : Bool} {f g : TF} {r : List TF} {Q : Bool → Hp → Prop} (h : tT G W (bopT k (f :: g :: r)) σ H Q) : tT G W f σ H fun c H1 => if c = k then tT G W (bopT k (g :: r)) σ H1 Q else Q c H1 := by
  refine tT_mono (bindTT h) fun c H1 ⟨ρ1, O1, rE, nd, z⟩ => ?_
  simp only at z
  split
  · rename_i e
    rw [if_pos e] at z
    exact ⟨ρ1, O1, rE, nd, z⟩
  · rename_i e
    rw [if_neg e] at z
    exact z.now rE nd
theorem bopT_ok {k : Bool} {pos : Pos} : ∀ {xs : List PySem.Expr} {fs : List TF}, PTss X G W xs fs → xs ≠ [] → PW X (.BoolOp (bopOf k) xs pos) (tT G W (bopT k fs))
  | _, _, .nil, n => absurd rfl n
  | _, _, .cons h .nil, _ => by
    cases k with
    | true => exact pw_and1 h
    | false => exact pw_or1 h
  | _, _, .cons h (.cons h2 hs), _ => by
    have ih := bopT_ok (k := k) (pos := pos) (.cons h2 hs) (by simp)
    cases k with
    | true =>
      refine ⟨fun wh pins s σ H Q I z => (pw_and h ih).run wh pins s σ H Q I ?_⟩
      refine tT_mono (bopT_logic z) fun c H1 z => ?_
      cases c with
      | true => exact z
      | false => exact z
    | false =>
      refine ⟨fun wh pins s σ H Q I z => (pw_or h ih).run wh pins s σ H Q I ?_⟩
      refine tT_mono (bopT_logic z) fun c H1 z => ?_
      cases c with
      | true => exact z
      | false => exact z
theorem notT_ok {x : PySem.Expr} {f : TF} {pos : Pos} (h : PT X x (tT G W f)) : PT X (.UnaryOp .Not x pos) (tT G W fun ρ => (f ρ).bind fun q => .ok (!q.1, q.2)) :=
  ptImp (pt_not h) fun σ H Q z => tT_mono (bindTT z) fun b H1 ⟨ρ1, O1, rE, nd, c⟩ => c.now rE nd
/-! ### a if c else b -/
theorem ite_ok {c a b : PySem.Expr} {fc : TF} {fa fb : EF} {pos : Pos} (hc : PT X c (tT G W fc)) (ha : PE X a (tE G W fa)) (hb : PE X b (tE G W fb)) : PE X (.IfExp c a b pos) (tE G W (iteE fc fa fb)) := by
  refine pImp (pe_ifExp hc ha hb) fun σ H Q z => tT_mono (bindTE z) fun t H1 ⟨ρ1, O1, rE, nd, k⟩ => ?_
  cases t with
  | true => exact ⟨ρ1, O1, rE, nd, k⟩
  | false => exact ⟨ρ1, O1, rE, nd, k⟩
/-! ### an expression as a test -/
def simpleT : PySem.Expr → Bool
  | .UnaryOp .Not _ _ => false
  | .BoolOp _ _ _ => false
  | .IfExp _ _ _ _ => false
  | .Compare _ _ _ _ => false
  | _ => true
theorem simple_is {e : PySem.Expr} {env : PySem.Env} (h : simpleT e = true) (whole : Sem Value) : isTrue e env whole = (do let v ← whole; standAt e.pos; holding [v] (truthy v)) := by
  cases e with
  | UnaryOp op x pos => cases op <;> first | rfl | cases h
  | BoolOp _ _ _ => cases h
  | IfExp _ _ _ _ => cases h
  | Compare _ _ _ _ => cases h
  | _ => rfl
theorem boolE_logic {f : EF} {Q : Bool → Hp → Prop} (h : tT G W (boolE f) σ H Q) : tE G W f σ H fun x H1 => ∃ c, x = .bl c ∧ Q c H1 := by
  refine tE_mono (bindET h) fun v H1 ⟨ρ1, d, O1, T, rE, rv, nd, c⟩ => ?_
  simp only at c
  split at c
  · exact ⟨_, rv.bl_of, c.nil.now rE (nd_app.mp nd).2.1⟩
  · exact c.elim
theorem val_okT {e : PySem.Expr} {f : EF} (h : PE X e (tE G W f)) (s : simpleT e = true) : PT X e (tT G W (boolE f)) :=
  ptImp (pt_val h (simple_is s)) fun σ H Q z => boolE_logic z
theorem op_okT (C : Ctx G Γ S X) {o : Op} {e : PySem.Expr} {xs : List PySem.Expr} {ops : List Sop} (h : opArgs S o e = some xs) (ps : POs X G W xs ops) : PT X e (tT G W (boolE (opE (opD o) (wrapO o ops)))) := by
  by_cases s : simpleT e = true
  · exact val_okT (op_ok C h ps) s
  · unfold opArgs at h
    split at h <;> first | exact absurd rfl s | skip
    rotate_left
    · cases h
    split at h
    · cases h
      rename_i hc
      rw [Bool.and_eq_true, decide_eq_true_eq] at hc
      obtain ⟨f, hf, hr⟩ := cmp_ok C hc.1
      cases ps with
      | cons ha na ps =>
        cases ps with
        | cons hb nb ps =>
          cases ps
          exact ptImp (pt_cmpR hr ha hb (nobeh hc.2)) fun σ H Q z => by
            have z := boolE_logic z
            rw [wrap2 (by intro z; subst z; simp_all [cmpOf])] at z
            exact two_logic hf z
    · cases h
end
end Vs
/-! V12: calls of the program's own defs. -/
namespace Vs
open PySem PySem.Spec L2
open PyProof.Rows hiding St
section
variable {X : Cx} {G : Ga} {W : WX} {S : Sc} {Γ : Gam} {σ : L2.St} {H H' : Hp}
theorem tO_app : ∀ {a b : List Sop} {σ : L2.St} {H : Hp} {R : List V → Hp → Prop}, tO G W (a ++ b) σ H R → tO G W a σ H fun xs H1 => tO G W b σ H1 fun ys H2 => R (xs ++ ys) H2
  | [], _, _, _, _, h => h
  | o :: a, _, _, _, _, h => by
    rw [List.cons_append, tO_cons] at h
    rw [tO_cons]
    exact tS1_mono h fun x H1 z => tO_app (R := fun xs H2 => _) z
theorem RepO.len : ∀ {vs : List V} {os : List Ov} {T : List Addr}, RepO G H σ vs os T → vs.length = os.length
  | _, _, _, .nil => rfl
  | _, _, _, .d _ hs => congrArg (· + 1) (RepO.len hs)
  | _, _, _, .v _ hs => congrArg (· + 1) (RepO.len hs)
  | _, _, _, .p _ _ _ _ hs => congrArg (· + 1) (RepO.len hs)
/-- arguments that own nothing, one by one -/
def Sh1 (G : Ga) (H : Hp) (σ : L2.St) (v : V) (o : Ov) : Prop := (∃ d, o = .d (.sh d) ∧ DpF G.K H v d) ∨ ∃ i, o = .v i ∧ σ[i]? = some (some v)
theorem RepO.at_sh : ∀ {vs : List V} {os : List Ov} {T : List Addr} {j : Nat} {o : Ov}, RepO G H σ vs os T → os.all Ov.isSh = true → os[j]? = some o → ∃ v, vs[j]? = some v ∧ Sh1 G H σ v o
  | _, _, _, j, o, .nil, _, e => by simp at e
  | _, _, _, 0, o, .d r hs, a, e => by
    simp at e; subst e
    cases r with
    | sh r => exact ⟨_, rfl, .inl ⟨_, rfl, r⟩⟩
    | tp _ _ => simp [Ov.isSh] at a
    | ls _ _ => simp [Ov.isSh] at a
    | dk _ _ => simp [Ov.isSh] at a
    | ob _ _ _ => simp [Ov.isSh] at a
    | fn _ => simp [Ov.isSh] at a
  | _, _, _, 0, o, .v q hs, a, e => by simp at e; subst e; exact ⟨_, rfl, .inr ⟨_, rfl, q⟩⟩
  | _, _, _, 0, o, .p _ _ _ _ _, a, e => by simp [Ov.isSh] at a
  | _, _, _, j + 1, o, .d r hs, a, e => by
    rw [List.all_cons, Bool.and_eq_true] at a
    obtain ⟨v, x, y⟩ := RepO.at_sh (j := j) hs a.2 (by simpa using e)
    exact ⟨v, by simpa using x, y⟩
  | _, _, _, j + 1, o, .v r hs, a, e => by
    rw [List.all_cons, Bool.and_eq_true] at a
    obtain ⟨v, x, y⟩ := RepO.at_sh (j := j) hs a.2 (by simpa using e)
    exact ⟨v, by simpa using x, y⟩
  | _, _, _, j + 1, o, .p _ _ _ _ hs, a, e => by
    rw [List.all_cons, Bool.and_eq_true] at a
    obtain ⟨v, x, y⟩ := RepO.at_sh (j := j) hs a.2 (by simpa using e)
    exact ⟨v, by simpa using x, y⟩
theorem RepO.cons1 {v : V} {vs : List V} {o : Ov} {os : List Ov} (h : Sh1 G H σ v o) (hs : RepO G H σ vs os []) : RepO G H σ (v :: vs) (o :: os) [] := by
  rcases h with ⟨d, rfl, r⟩ | ⟨i, rfl, q⟩
  · exact .d (O := []) (.sh r) hs
  · exact .v q hs
theorem perm_ok : ∀ {π : List Nat} {vs : List V} {os os' : List Ov} {T : List Addr}, RepO G H σ vs os T → os.all Ov.isSh = true → perm π os = some os' → ∃ vs', perm π vs = some vs' ∧ RepO G H σ vs' os' []
  | [], _, _, _, _, _, _, e => by unfold perm at e; cases e; exact ⟨[], rfl, .nil⟩
  | j :: π, vs, os, _, _, r, a, e => by
    unfold perm at e
    split at e
    · rename_i o os2 e1 e2
      cases e
      obtain ⟨v, x, y⟩ := r.at_sh a e1
      obtain ⟨vs', p, q⟩ := perm_ok r a e2
      refine ⟨v :: vs', ?_, RepO.cons1 y q⟩
      unfold perm
      rw [x, p]
    · cases e
theorem perm_val {π : List Nat} : ∀ {vs : List V} {us : List Value} {vs' : List V}, Vals vs us → perm π vs = some vs' → ∃ us', perm π us = some us' ∧ Vals vs' us' := by
  induction π with
  | nil => intro vs us vs' _ e; unfold perm at e; cases e; exact ⟨[], rfl, .nil⟩
  | cons j π ih =>
    intro vs us vs' r e
    unfold perm at e
    split at e
    · rename_i x l e1 e2
      cases e
      obtain ⟨u, h1, h2⟩ := r.get e1
      obtain ⟨us', p, q⟩ := ih r e2
      refine ⟨u :: us', ?_, .cons h2 q⟩
      unfold perm
      rw [h1, p]
    · cases e
theorem perm_off {α : Type} : ∀ (l m : List α), perm ((List.range l.length).map (· + m.length)) (m ++ l) = some l
  | [], _ => rfl
  | x :: l, m => by
    have ih := perm_off l (m ++ [x])
    rw [List.length_cons, List.range_succ_eq_map, List.map_cons, List.map_map]
    unfold perm
    rw [List.length_append, List.append_assoc] at ih
    simp only [List.length_singleton, List.singleton_append] at ih
    have e : ((List.range l.length).map ((fun x => x + m.length) ∘ Nat.succ)) = (List.range l.length).map (· + (m.length + 1)) := by
      refine List.map_congr_left fun a _ => ?_
      show a + 1 + m.length = a + (m.length + 1)
      omega
    rw [e, ih]
    simp
theorem perm_id {α : Type} (l : List α) : perm (List.range l.length) l = some l := by
  have := perm_off l []
  simpa using this
/-- the arguments' values -/
theorem argD_ok : ∀ {io : List Bool} {vs : List V} {os : List Ov} {T O : List Addr} {ρ ρ1 : Env} {ds : List D}, RepO G H σ vs os T → RepE G H σ ρ O → (T ++ O).Nodup → argD io os ρ = some (ds, ρ1) →
    ∃ A O1, Reps G H vs ds A ∧ RepE G H σ ρ1 O1 ∧ (A ++ O1).Nodup ∧ ∀ a ∈ A ++ O1, a ∈ T ++ O
  | [], _, _, _, _, ρ, _, _, .nil, rE, nd, e => by unfold argD at e; cases e; exact ⟨[], _, .nil, rE, nd, fun a q => q⟩
  | false :: io, _, _, _, O, ρ, _, _, .d (d := d) (os := os) (O := T0) (T := T) r hs, rE, nd, e => by
    unfold argD at e
    split at e
    · rename_i l ρ' e1
      cases e
      rw [List.append_assoc] at nd
      have nd' := nd_app.mp nd
      obtain ⟨A, O1, a1, a2, a3, a4⟩ := argD_ok hs rE nd'.2.1 e1
      refine ⟨T0 ++ A, O1, .cons r a1, a2, ?_, fun x q => ?_⟩
      · rw [List.append_assoc]
        exact nd_app.mpr ⟨nd'.1, a3, fun x hx z => nd'.2.2 x hx (a4 x z)⟩
      · rw [List.append_assoc] at q ⊢
        rcases List.mem_append.mp q with q | q
        · exact List.mem_append_left _ q
        · exact List.mem_append_right _ (a4 x q)
    · cases e
  | true :: io, _, _, _, O, ρ, _, _, .v (i := i) (os := os) (T := T) q hs, rE, nd, e => by
    unfold argD at e
    split at e
    · rename_i d e0
      split at e
      · rename_i l ρ' e1
        cases e
        obtain ⟨v, O1, O2, b1, b2, b3, b4⟩ := rE.out e0
        rw [q] at b1; cases b1
        have p2 : (T ++ O).Perm (O1 ++ (T ++ O2)) := (List.Perm.append_left T b3).trans (by rw [← List.append_assoc, ← List.append_assoc]; exact List.Perm.append_right O2 List.perm_append_comm)
        have nd' := nd_app.mp (p2.nodup nd)
        obtain ⟨A, O3, a1, a2, a3, a4⟩ := argD_ok hs b4 nd'.2.1 e1
        refine ⟨O1 ++ A, O3, .cons b2 a1, a2, ?_, fun x hx => p2.mem_iff.mpr ?_⟩
        · rw [List.append_assoc]
          exact nd_app.mpr ⟨nd'.1, a3, fun x hx z => nd'.2.2 x hx (a4 x z)⟩
        · rw [List.append_assoc] at hx
          rcases List.mem_append.mp hx with z | z
          · exact List.mem_append_left _ z
          · exact List.mem_append_right _ (a4 x z)
      · cases e
    · cases e
  | true :: _, _, _, _, _, _, _, _, .d _ _, _, _, e => by simp [argD] at e
  | false :: _, _, _, _, _, _, _, _, .v _ _, _, _, e => by simp [argD] at e
  | io, _, _, _, _, _, _, _, .p _ _ _ _ _, _, _, e => by
    cases io with
    | nil => simp [argD] at e
    | cons b io => cases b <;> simp [argD] at e
  | [], _, _, _, _, _, _, _, .d _ _, _, _, e => by simp [argD] at e
  | [], _, _, _, _, _, _, _, .v _ _, _, _, e => by simp [argD] at e
  | b :: _, _, _, _, _, _, _, _, .nil, _, _, e => by cases b <;> simp [argD] at e
/-- .. given back: in another heap -/
theorem backD_ok : ∀ {io : List Bool} {vs : List V} {os : List Ov} {T O A : List Addr} {ρ ρ2 : Env} {outs : List D}, RepO G H σ vs os T → RepE G H' σ ρ O → Reps G H' (pick io vs) outs A → (A ++ O).Nodup → backD io os outs ρ = some ρ2 →
    ∃ O2, RepE G H' σ ρ2 O2 ∧ O2.Nodup ∧ ∀ a ∈ O2, a ∈ A ++ O
  | [], _, _, _, _, _, ρ, _, outs, .nil, rE, rs, nd, e => by
    cases outs with
    | nil =>
      unfold backD at e; cases e
      exact ⟨_, rE, (nd_app.mp nd).2.1, fun a q => List.mem_append_right _ q⟩
    | cons _ _ => simp [backD] at e
  | false :: io, _, _, _, _, _, ρ, _, outs, .d r hs, rE, rs, nd, e => by unfold backD at e; exact backD_ok hs rE rs nd e
  | false :: io, _, _, _, _, _, ρ, _, outs, .v r hs, rE, rs, nd, e => by unfold backD at e; exact backD_ok hs rE rs nd e
  | false :: io, _, _, _, _, _, ρ, _, outs, .p _ _ _ _ hs, rE, rs, nd, e => by unfold backD at e; exact backD_ok hs rE rs nd e
  | true :: io, _, _, _, O, _, ρ, _, outs, .v (v := v) (vs := vs) (i := i) q hs, rE, rs, nd, e => by
    cases outs with
    | nil => simp [backD] at e
    | cons d outs =>
      unfold backD at e
      split at e
      · rename_i e0
        cases rs with
        | @cons v vs d ds O1 A' r rs =>
          rw [List.append_assoc] at nd
          have nd' := nd_app.mp nd
          obtain ⟨O2, pm, rE2⟩ := rE.put e0 q r
          have p2 : (O1 ++ (A' ++ O)).Perm (A' ++ O2) := by
            refine List.Perm.trans ?_ (List.Perm.append_left A' pm.symm)
            rw [← List.append_assoc, ← List.append_assoc]
            exact List.Perm.append_right O List.perm_append_comm
          obtain ⟨O3, b1, b2, b3⟩ := backD_ok hs rE2 rs (p2.nodup nd) e
          refine ⟨O3, b1, b2, fun a z => ?_⟩
          rw [List.append_assoc]
          exact p2.mem_iff.mpr (b3 a z)
      · cases e
  | true :: _, _, _, _, _, _, _, _, outs, .d _ _, _, _, _, e => by cases outs <;> simp [backD] at e
  | true :: _, _, _, _, _, _, _, _, outs, .p _ _ _ _ _, _, _, _, e => by cases outs <;> simp [backD] at e
  | [], _, _, _, _, _, _, _, outs, .d _ _, _, _, _, e => by cases outs <;> simp [backD] at e
  | [], _, _, _, _, _, _, _, outs, .v _ _, _, _, _, e => by cases outs <;> simp [backD] at e
  | [], _, _, _, _, _, _, _, outs, .p _ _ _ _ _, _, _, _, e => by cases outs <;> simp [backD] at e
  | b :: _, _, _, _, _, _, _, _, outs, .nil, _, _, _, e => by cases b <;> cases outs <;> simp [backD] at e
theorem argD_len : ∀ {io : List Bool} {os : List Ov} {ρ ρ1 : Env} {ds : List D}, argD io os ρ = some (ds, ρ1) → io.length = os.length
  | [], [], _, _, _, _ => rfl
  | [], _ :: _, _, _, _, e => by simp [argD] at e
  | b :: _, [], _, _, _, e => by cases b <;> simp [argD] at e
  | false :: io, .d d :: os, ρ, _, _, e => by
    unfold argD at e
    split at e
    · exact congrArg (· + 1) (argD_len (by assumption))
    · cases e
  | true :: io, .v i :: os, ρ, _, _, e => by
    unfold argD at e
    split at e
    · split at e
      · exact congrArg (· + 1) (argD_len (by assumption))
      · cases e
    · cases e
  | false :: _, .v _ :: _, _, _, _, e => by simp [argD] at e
  | false :: _, .p _ _ _ :: _, _, _, _, e => by simp [argD] at e
  | true :: _, .d _ :: _, _, _, _, e => by simp [argD] at e
  | true :: _, .p _ _ _ :: _, _, _, _, e => by simp [argD] at e

theorem call_logic {dn : Den} {ks : List Str} {ops : List Sop} {π : List Nat} {Q : VK} (h : tE G W (callD dn ks ops π) σ H Q) :
    tO G W ops σ H fun vs H2 => ∃ zs, (match ks with | [] => zs = vs | _ => perm π vs = some zs) ∧ spD G dn zs H2 Q fun cls d H' => W cls d σ H' := by
  obtain ⟨ρ, O, rE, nd, h⟩ := tE_iff.mp h
  refine run_ops ops ρ O rE nd ?_
  unfold OpsR
  unfold callD at h
  cases er : runO ops ρ with
  | no => rw [er] at h; exact h.elim
  | ex x ρ' => rw [er] at h; exact h
  | ok q =>
    obtain ⟨os, ρ2⟩ := q
    rw [er] at h
    intro vs H2 O2 T rE2 rO nd2 go
    simp only [Res.bind] at h
    cases e1 : arr ks π os with
    | none => rw [e1] at h; exact h.elim
    | some os' =>
      simp only [e1] at h
      have hz : ∃ zs T', (match ks with | [] => zs = vs | _ => perm π vs = some zs) ∧ RepO G H2 σ zs os' T' ∧ (T' ++ O2).Nodup ∧ ∀ a ∈ T' ++ O2, a ∈ T ++ O2 := by
        unfold arr at e1
        split at e1
        · cases e1
          exact ⟨vs, T, rfl, rO, nd2, fun a z => z⟩
        · rename_i hne
          split at e1
          · rename_i ha
            obtain ⟨zs, p, r⟩ := perm_ok rO ha e1
            refine ⟨zs, [], ?_, r, (nd_app.mp nd2).2.1, fun a z => List.mem_append_right _ z⟩
            cases ks with
            | nil => exact absurd rfl hne
            | cons _ _ => exact p
          · cases e1
      obtain ⟨zs, T', hz, rO', nd', sub⟩ := hz
      cases e2 : argD dn.io os' ρ2 with
      | none => rw [e2] at h; exact h.elim
      | some p =>
        obtain ⟨ds, ρ1⟩ := p
        simp only [e2] at h
        obtain ⟨A, O1, rA, rE1, nd1, sub1⟩ := argD_ok rO' rE2 nd' e2
        refine ⟨zs, hz, by rw [argD_len e2, rO'.len], ds, A, rA, (nd_app.mp nd1).1, ?_⟩
        have go1 : Go O H (A ++ O1) H2 := go.less fun a z => sub a (sub1 a z)
        have nd1' := nd_app.mp nd1
        -- the names that were not handed over stay
        have stay : ∀ {S1 : List Addr} {H' : Hp}, Go A H2 S1 H' → RepE G H' σ ρ1 O1 ∧ (∀ a ∈ O1, a ∉ S1) := fun g =>
          ⟨rE1.fr g.frm rA.mut fun a z q => nd1'.2.2 a q z, g.keep fun a z => ⟨fun q => nd1'.2.2 a q z, rE1.mut.some a z⟩⟩
        have goH : ∀ {S1 : List Addr} {H' : Hp}, Go A H2 S1 H' → Go (A ++ O1) H2 (S1 ++ O1) H' := fun g =>
          ⟨fun a o e n => g.frm a o e fun q => n (List.mem_append_left _ q), fun a q => (List.mem_append.mp q).elim (fun z => (g.sub a z).imp (fun y => List.mem_append_left _ y) id) fun z => .inl (List.mem_append_right _ z)⟩
        cases e3 : dn.m ds with
        | no => simp only [e3] at h; exact h
        | ok r outs =>
          simp only [e3] at h
          intro v H' Tr Oo rv rs nd3 g
          obtain ⟨rE', dis⟩ := stay g
          have nd3' := nd_app.mp nd3
          cases e4 : backD dn.io os' outs ρ1 with
          | none => simp only [e4] at h; exact h.elim
          | some ρ3 =>
            simp only [e4] at h
            obtain ⟨O3, b1, b2, b3⟩ := backD_ok rO' rE' rs (nd_app.mpr ⟨nd3'.2.1, nd1'.2.1, fun a z q => dis a q (List.mem_append_right _ z)⟩) e4
            refine h v H' ⟨O3, Tr, b1, rv, nd_app.mpr ⟨nd3'.1, b2, fun a z q => ?_⟩, (go1.trans (goH g)).less fun a z => ?_⟩
            · rcases List.mem_append.mp (b3 a q) with y | y
              · exact nd3'.2.2 a z y
              · exact dis a y (List.mem_append_left _ z)
            · rw [List.append_assoc]
              rcases List.mem_append.mp z with z | z
              · exact List.mem_append_left _ z
              · exact List.mem_append_right _ (b3 a z)
        | ex x outs =>
          simp only [e3] at h
          intro cls dd H' Oo rs nd3 g hx
          obtain ⟨rE', dis⟩ := stay g
          cases e4 : backD dn.io os' outs ρ1 with
          | none => simp only [e4] at h; exact h.elim
          | some ρ3 =>
            simp only [e4] at h
            obtain ⟨O3, b1, b2, b3⟩ := backD_ok rO' rE' rs (nd_app.mpr ⟨nd3, nd1'.2.1, fun a z q => dis a q z⟩) e4
            exact h cls dd H' ⟨O3, b1, b2, (go1.trans (goH g)).less fun a z => b3 a z, hx⟩
/-! ### the call itself -/
theorem kw_all : ∀ {kws : List Keyword} {ks : List Str} (pos : Pos) (env : PySem.Env), kwN kws = ks.map some → (backToKw pos (keywordEach kws env)).all (·.1.isSome) = true ∧ (backToKw pos (keywordEach kws env)).filterMap (·.1) = ks ∧
    (backToKw pos (keywordEach kws env)).any (·.1.isNone) = false
  | [], [], _, _, _ => ⟨rfl, rfl, rfl⟩
  | [], _ :: _, _, _, h => by simp [kwN] at h
  | ⟨n, v, p⟩ :: kws, [], _, _, h => by simp [kwN] at h
  | ⟨n, v, p⟩ :: kws, k :: ks, pos, env, h => by
    simp only [kwN, List.map_cons, List.cons.injEq] at h
    obtain ⟨rfl, h⟩ := h
    obtain ⟨a, b, c⟩ := kw_all pos env h
    refine ⟨?_, ?_, ?_⟩
    · show (true && (backToKw pos (keywordEach kws env)).all (·.1.isSome)) = true
      rw [a]; rfl
    · show k :: (backToKw pos (keywordEach kws env)).filterMap (·.1) = k :: ks
      rw [b]
    · show (false || (backToKw pos (keywordEach kws env)).any (·.1.isNone)) = false
      rw [c]; rfl
theorem kw_pk : ∀ {kws : List Keyword} {ys : List PySem.Expr} {ops : List Sop}, kwB kws = some ys → POs X G W ys ops → L2.PK X kws (tO G W ops)
  | [], _, _, e, ps => by
    unfold kwB at e; cases e
    cases ps; exact pk_nil
  | ⟨n, v, p⟩ :: kws, _, _, e, ps => by
    unfold kwB at e
    split at e
    · rename_i l e2
      cases e
      cases ps with
      | cons h _ hs => rw [tO_cons]; exact pk_cons h (kw_pk e2 hs)
    · cases e
theorem tO_len : ∀ {ops : List Sop} {σ : L2.St} {H : Hp} {R : List V → Hp → Prop}, tO G W ops σ H R → tO G W ops σ H fun vs H' => vs.length = ops.length ∧ R vs H'
  | [], _, _, _, h => ⟨rfl, h⟩
  | o :: r, _, _, _, h => by
    rw [tO_cons] at h ⊢
    refine tS1_mono h fun x H1 z => tO_mono (tO_len (R := fun xs H2 => _) z) fun xs H2 ⟨a, b⟩ => ⟨?_, b⟩
    rw [List.length_cons, a, List.length_cons]
theorem POs.len : ∀ {xs : List PySem.Expr} {os : List Sop}, POs X G W xs os → xs.length = os.length
  | _, _, .nil => rfl
  | _, _, .cons _ _ hs => congrArg (· + 1) (POs.len hs)
theorem kwB_len : ∀ {kws : List Keyword} {ys : List PySem.Expr}, kwB kws = some ys → ys.length = kws.length
  | [], _, e => by unfold kwB at e; cases e; rfl
  | ⟨n, v, p⟩ :: kws, _, e => by
    unfold kwB at e
    split at e
    · rename_i l e2
      cases e
      exact congrArg (· + 1) (kwB_len e2)
    · cases e
theorem kwN_len : ∀ (kws : List Keyword), (kwN kws).length = kws.length
  | [] => rfl
  | ⟨n, v, p⟩ :: kws => congrArg (· + 1) (kwN_len kws)
theorem call_ok (C : Ctx G Γ S X) (tk : Takes X W) {f : Str} {xs ys : List PySem.Expr} {kws : List Keyword} {ks : List Str} {π : List Nat} {opsA opsB : List Sop} {p pos : Pos} (hg : glB S f = true) (psA : POs X G W xs opsA) (hk : kwB kws = some ys)
    (psB : POs X G W ys opsB) (hn : kwN kws = ks.map some) (hp : (S.pats f).contains (xs.length, ks, π) = true) (hid : ks = [] → π = List.range xs.length) : PE X (.Call (.Name f p) xs kws pos) (tE G W (callE (Γ.fn f) ks (opsA ++ opsB) π)) := by
  cases ef : Γ.fn f with
  | none => exact pe_false fun ρ => rfl
  | some dn =>
    obtain ⟨a, fd, ps, k, hm, hkp, hr, F, hb⟩ := (C.fn f dn ef).to
    obtain ⟨g1, g2, _⟩ := C.gl hg
    refine ⟨fun pins s σ H Q I h => ?_⟩
    have h := tO_len (tO_mono (tO_app (call_logic h)) fun vs H1 z => tO_len z)
    obtain ⟨k1, k2, k3⟩ := kw_all pos X.env hn
    -- the callee runs
    have run : ∀ {s2 : Shared} {H2 : Hp} {us ws : List Value} {vs ws' : List V}, Inv X pins σ H2 s2 → Vals vs us → Vals ws' ws → us.length = xs.length → ws.length = ks.length →
        (∃ zs, (match ks with | [] => zs = vs ++ ws' | _ => perm π (vs ++ ws') = some zs) ∧ spD G dn zs H2 Q fun cls d H' => W cls d σ H') →
        wpAny (model X.prog X.w) X.A (call (.ref a) us (ks.zip ws)) (EP X pins σ Q) X.xe s2 := by
      intro s2 H2 us ws vs ws' I2 rv rw' lu lw ⟨zs, hz, hs⟩
      have hz2 : perm π (vs ++ ws') = some zs := by
        cases ks with
        | nil =>
          have e : ws' = [] := List.eq_nil_of_length_eq_zero (by rw [rw'.length, lw]; rfl)
          subst e
          rw [List.append_nil] at hz ⊢
          subst hz
          rw [hid rfl, ← lu, ← rv.length]
          exact perm_id zs
        | cons _ _ => exact hz
      obtain ⟨us', pz, rz⟩ := perm_val (rv.append rw') hz2
      have hb' := hb xs.length ks π (by simpa using hp) s2 us ws us' I2.kIn lu lw pz
      refine wpAny_call (codeAny_mono (F.run X.A X.stack s2 H2 ⟨us, ks.zip ws⟩ us' zs Q _ hr C.gd I2.env0 hb' rz hs) fun r s' hq => ?_)
      cases r with
      | error e => exact tk e s' (XE.of_call I2 (fun _ _ _ z => z) hq)
      | ok fl =>
        cases fl with
        | ret u => exact I2.after hq
        | next => exact False.elim hq
        | brk => exact False.elim hq
        | cont => exact False.elim hq
    refine wpAny_Call_Name_kw (ld_glob I g1 hm ?_ g2)
    have lk : opsB.length = ks.length := by
      rw [← psB.len, kwB_len hk]
      have := congrArg List.length hn
      rw [List.length_map] at this
      rw [← this, kwN_len]
    cases kws with
    | nil =>
      have e0 : ks = [] := by
        cases ks with
        | nil => rfl
        | cons _ _ => simp [kwN] at hn
      subst e0
      unfold kwB at hk; cases hk
      cases psB
      cases xs with
      | nil =>
        cases psA
        exact PySem.W.callWith_K0 I.kIn hkp (run (us := []) (ws := []) I .nil .nil rfl rfl h.2.2)
      | cons x xs =>
        have hx : notStar x = true := by cases psA; assumption
        have pl := psA
        cases pl with
        | cons _ _ pl =>
          refine PySem.W.callWith_K (h₀ := X.base) I.ok.mod.kin hkp (thn (psA.pa.run pos pins s σ H _ I h) fun us s1 ⟨vs, H1, I1, r, q⟩ => ⟨I1.kIn, ?_⟩) (star1 hx) (pl.plain pos X.env)
          exact run (us := us) (ws := []) I1 r .nil (by rw [← r.length, q.1, ← psA.len]) rfl q.2.2
    | cons kw kws =>
      cases xs with
      | nil =>
        cases psA
        refine PySem.W.callWith_KW0 (h₀ := X.base) I.ok.mod.kin hkp k1 (thn ((kw_pk hk psB).run pos pins s σ H _ I h.2) fun ws s1 ⟨zs, H1, I1, r, q⟩ => ⟨I1.kIn, ?_⟩) (by show (false || (backToKw pos (keywordEach (kw :: kws) X.env)).any (·.1.isNone)) = false; rw [k3]; rfl)
        rw [k2]
        exact run (us := []) I1 .nil r rfl (by rw [← r.length, q.1, lk]) q.2
      | cons x xs =>
        have hx : notStar x = true := by cases psA; assumption
        refine PySem.W.callWith_KW (h₀ := X.base) I.ok.mod.kin hkp k1 (thn (psA.pa.run pos pins s σ H _ I h) fun us s1 ⟨vs, H1, I1, r, q⟩ => ?_) (by rw [psA.plain pos X.env, k3]; rfl) (star1 hx)
        refine thn ((kw_pk hk psB).run pos pins s1 σ H1 _ I1 q.2) fun ws s2 ⟨zs, H2, I2, rz, q2⟩ => ⟨I2.kIn, ?_⟩
        rw [k2]
        exact run (us := us) I2 r rz (by rw [← r.length, q.1, ← psA.len]) (by rw [← rz.length, q2.1, lk]) q2.2
end
end Vs
/-! V13: methods that change a list; freezing. -/
namespace Vs
open PySem PySem.Spec L2
open PyProof.Rows hiding St
section
variable {X : Cx} {G : Ga} {W : WX} {S : Sc} {Γ : Gam} {σ : L2.St} {H H' : Hp}
/-- one item of a list of values -/
theorem Reps.split : ∀ {us : List V} {es : List D} {T : List Addr} {j : Nat} {y : D}, Reps G H us es T → es[j]? = some y → ∃ u Tj R, us[j]? = some u ∧ Rep G H u y Tj ∧ T.Perm (Tj ++ R) ∧
    ∀ {H3 : Hp} {S : List Addr} {y' : D} {Tj' : List Addr}, Frm S H H3 → MutA H S → (∀ a ∈ R, a ∉ S) → Rep G H3 u y' Tj' → ∃ T', Reps G H3 us (es.set j y') T' ∧ T'.Perm (Tj' ++ R)
  | _, _, _, j, y, .nil, e => by simp at e
  | _, _, _, 0, y, .cons (O := O) (O' := O') h hs, e => by
    simp at e; subst e
    exact ⟨_, O, O', rfl, h, .refl _, fun f m n r => ⟨_, .cons r (hs.fr f m n), .refl _⟩⟩
  | _, _, _, j + 1, y, .cons (O := O) (O' := O') h hs, e => by
    obtain ⟨u, Tj, R, a, b, c, k⟩ := Reps.split (j := j) hs (by simpa using e)
    refine ⟨u, Tj, O ++ R, by simpa using a, b, ?_, fun f m n r => ?_⟩
    · exact (List.Perm.append_left O c).trans (by rw [← List.append_assoc, ← List.append_assoc]; exact List.Perm.append_right R List.perm_append_comm)
    · obtain ⟨T', x, p⟩ := k f m (fun a q => n a (List.mem_append_right _ q)) r
      refine ⟨_, .cons (h.fr f m fun a q => n a (List.mem_append_left _ q)) x, ?_⟩
      exact (List.Perm.append_left O p).trans (by rw [← List.append_assoc, ← List.append_assoc]; exact List.Perm.append_right R List.perm_append_comm)
theorem dk_split : ∀ {kvs : List (Key × V)} {es : List D} {T : List Addr} {k : Key} {y : D}, Reps G H (kvs.map (·.2)) es T → dkGet (kvs.map (·.1)) es k = some y → ∃ u Tj R, valV kvs k = some u ∧ Rep G H u y Tj ∧ T.Perm (Tj ++ R) ∧
    ∀ {H3 : Hp} {S : List Addr} {y' : D} {Tj' : List Addr}, Frm S H H3 → MutA H S → (∀ a ∈ R, a ∉ S) → Rep G H3 u y' Tj' → ∃ T', Reps G H3 (kvs.map (·.2)) (dkSet (kvs.map (·.1)) es k y') T' ∧ T'.Perm (Tj' ++ R)
  | [], es, T, k, y, h, e => by simp [dkGet] at e
  | (q, v) :: kvs, es, T, k, y, hh, e => by
   cases hh with
   | @cons _ _ d ds O O' h hs =>
    simp only [List.map_cons, dkGet] at e
    by_cases hk : q = k
    · rw [if_pos hk] at e
      cases e
      refine ⟨v, O, O', valV_pos hk, h, .refl _, fun f m n r => ⟨_, ?_, .refl _⟩⟩
      simp only [List.map_cons, dkSet, if_pos hk]
      exact .cons r (hs.fr f m n)
    · rw [if_neg hk] at e
      obtain ⟨u, Tj, R, a, b, c, g⟩ := dk_split hs e
      refine ⟨u, Tj, O ++ R, by rw [valV_neg hk]; exact a, b, ?_, fun f m n r => ?_⟩
      · exact (List.Perm.append_left O c).trans (by rw [← List.append_assoc, ← List.append_assoc]; exact List.Perm.append_right R List.perm_append_comm)
      · obtain ⟨T', x, p⟩ := g f m (fun a q => n a (List.mem_append_right _ q)) r
        refine ⟨O ++ T', ?_, ?_⟩
        · simp only [List.map_cons, dkSet, if_neg hk]
          exact .cons (h.fr f m fun a q => n a (List.mem_append_left _ q)) x
        · exact (List.Perm.append_left O p).trans (by rw [← List.append_assoc, ← List.append_assoc]; exact List.Perm.append_right R List.perm_append_comm)
/-- a list within a tree, and the tree with another list in its place -/
theorem Rep.focus : ∀ {p : List PK} {v : V} {d : D} {ds : List D} {T0 : List Addr}, Rep G H v d T0 → getP p d = some (.ls ds) → T0.Nodup → ∃ l xs T R, VAt H v p (.ref l) ∧ H l = some (.lst xs) ∧ Reps G H xs ds T ∧ T0.Perm ((l :: T) ++ R) ∧
    ∀ {H3 : Hp} {xs' : List V} {ds' : List D} {T' : List Addr}, Frm [l] H H3 → H3 l = some (.lst xs') → Reps G H3 xs' ds' T' → ∃ T0', Rep G H3 v (setP p d (.ls ds')) T0' ∧ T0'.Perm ((l :: T') ++ R)
  | [], v, d, ds, T0, h, e, nd => by
    unfold getP at e; cases e
    cases h with
    | @ls a xs _ O q hs =>
      exact ⟨a, xs, O, [], .nil, q, hs, by simp, fun f e r => ⟨_, .ls e r, by simp⟩⟩
  | .ix n :: p, v, d, ds, T0, h, e, nd => by
    cases h with
    | @ls a xs es O q hs =>
      unfold getP at e
      split at e
      · rename_i y ey
        obtain ⟨j, u, e1, e2, e3, e4⟩ := atI_map hs.len ey
        obtain ⟨u', Tj, R, a1, a2, a3, a4⟩ := hs.split e1
        rw [e2] at a1; cases a1
        have nd2 := List.nodup_cons.mp nd
        have nd3 := nd_app.mp (a3.nodup nd2.2)
        obtain ⟨l, zs, T, R2, b1, b2, b3, b4, b5⟩ := Rep.focus a2 e nd3.1
        have hl : l ∈ Tj := b4.mem_iff.mpr (by simp)
        have hla : a ≠ l := fun z => nd2.1 (a3.mem_iff.mpr (List.mem_append_left _ (z ▸ hl)))
        have p1 : (a :: O).Perm ((l :: T) ++ (a :: (R2 ++ R))) := by
          refine List.Perm.trans (List.Perm.cons a (a3.trans (List.Perm.append_right R b4))) ?_
          rw [List.append_assoc]
          exact List.perm_middle.symm
        refine ⟨l, zs, T, a :: (R2 ++ R), .ix q e3 b1, b2, b3, p1, fun {H3 xs' ds' T'} f e r => ?_⟩
        obtain ⟨Tj', c1, c2⟩ := b5 f e r
        have ml : MutA H [l] := fun b hb => by
          have : b = l := by simpa using hb
          subst this; rw [b2]; trivial
        obtain ⟨T2, d1, d2⟩ := a4 f ml (fun b hb z => by
          have : b = l := by simpa using z
          subst this; exact nd3.2.2 _ hl hb) c1
        refine ⟨a :: T2, ?_, ?_⟩
        · unfold setP
          rw [ey]
          simp only
          unfold setAt
          rw [e4]
          exact .ls (f _ _ q fun z => by
            have : a = l := by simpa using z
            exact hla this) d1
        · refine List.Perm.trans (List.Perm.cons a (d2.trans (List.Perm.append_right R c2))) ?_
          rw [List.append_assoc]
          exact List.perm_middle.symm
      · cases e
    | sh _ => simp [getP] at e
    | tp _ _ => simp [getP] at e
    | dk _ _ => simp [getP] at e
    | ob _ _ _ => simp [getP] at e
    | fn _ => simp [getP] at e
  | .key k :: p, v, d, ds, T0, h, e, nd => by
    cases h with
    | @dk a kvs es O q hs =>
      unfold getP at e
      split at e
      · rename_i y ey
        obtain ⟨u', Tj, R, a1, a2, a3, a4⟩ := dk_split hs ey
        have nd2 := List.nodup_cons.mp nd
        have nd3 := nd_app.mp (a3.nodup nd2.2)
        obtain ⟨l, zs, T, R2, b1, b2, b3, b4, b5⟩ := Rep.focus a2 e nd3.1
        have hl : l ∈ Tj := b4.mem_iff.mpr (by simp)
        have hla : a ≠ l := fun z => nd2.1 (a3.mem_iff.mpr (List.mem_append_left _ (z ▸ hl)))
        have p1 : (a :: O).Perm ((l :: T) ++ (a :: (R2 ++ R))) := by
          refine List.Perm.trans (List.Perm.cons a (a3.trans (List.Perm.append_right R b4))) ?_
          rw [List.append_assoc]
          exact List.perm_middle.symm
        refine ⟨l, zs, T, a :: (R2 ++ R), .key q a1 b1, b2, b3, p1, fun {H3 xs' ds' T'} f e r => ?_⟩
        obtain ⟨Tj', c1, c2⟩ := b5 f e r
        have ml : MutA H [l] := fun b hb => by
          have : b = l := by simpa using hb
          subst this; rw [b2]; trivial
        obtain ⟨T2, d1, d2⟩ := a4 f ml (fun b hb z => by
          have : b = l := by simpa using z
          subst this; exact nd3.2.2 _ hl hb) c1
        refine ⟨a :: T2, ?_, ?_⟩
        · unfold setP
          rw [ey]
          simp only
          exact .dk (f _ _ q fun z => by
            have : a = l := by simpa using z
            exact hla this) d1
        · refine List.Perm.trans (List.Perm.cons a (d2.trans (List.Perm.append_right R c2))) ?_
          rw [List.append_assoc]
          exact List.perm_middle.symm
      · cases e
    | sh _ => simp [getP] at e
    | tp _ _ => simp [getP] at e
    | ls _ _ => simp [getP] at e
    | ob _ _ _ => simp [getP] at e
    | fn _ => simp [getP] at e
/-- any place within a tree, and the tree with another value of the same kind of reference in its place -/
theorem Rep.focusG : ∀ {p : List PK} {v : V} {d y : D} {T0 : List Addr}, Rep G H v d T0 → getP p d = some y → T0.Nodup → ∃ u T R, VAt H v p u ∧ Rep G H u y T ∧ T0.Perm (T ++ R) ∧
    ∀ {H3 : Hp} {A : List Addr} {y' : D} {T' : List Addr}, Frm A H H3 → MutA H A → (∀ a ∈ A, a ∉ R) → Rep G H3 u y' T' → ∃ T0', Rep G H3 v (setP p d y') T0' ∧ T0'.Perm (T' ++ R)
  | [], v, d, y, T0, h, e, nd => by
    unfold getP at e; cases e
    exact ⟨v, T0, [], .nil, h, by simp, fun f m n r => ⟨_, r, by simp⟩⟩
  | .ix n :: p, v, d, y, T0, h, e, nd => by
    cases h with
    | @ls a xs es O q hs =>
      unfold getP at e
      split at e
      · rename_i z ez
        obtain ⟨j, u, e1, e2, e3, e4⟩ := atI_map hs.len ez
        obtain ⟨u', Tj, R, a1, a2, a3, a4⟩ := hs.split e1
        rw [e2] at a1; cases a1
        have nd2 := List.nodup_cons.mp nd
        have nd3 := nd_app.mp (a3.nodup nd2.2)
        obtain ⟨w, T, R2, b1, b3, b4, b5⟩ := Rep.focusG a2 e nd3.1
        have p1 : ∀ (T Tj : List Addr) (O : List Addr), O.Perm (Tj ++ R) → Tj.Perm (T ++ R2) → (a :: O).Perm (T ++ (a :: (R2 ++ R))) := fun T Tj O h1 h2 => by
          refine List.Perm.trans (List.Perm.cons a (h1.trans (List.Perm.append_right R h2))) ?_
          rw [List.append_assoc]
          exact List.perm_middle.symm
        refine ⟨w, T, a :: (R2 ++ R), .ix q e3 b1, b3, p1 T Tj O a3 b4, fun {H3 A y' T'} f m n r => ?_⟩
        obtain ⟨Tj', c1, c2⟩ := b5 f m (fun b hb z => n b hb (List.mem_cons_of_mem _ (List.mem_append_left _ z))) r
        obtain ⟨T2, d1, d2⟩ := a4 f m (fun b hb z => n b z (List.mem_cons_of_mem _ (List.mem_append_right _ hb))) c1
        refine ⟨a :: T2, ?_, p1 T' Tj' T2 d2 c2⟩
        unfold setP
        rw [ez]
        simp only
        unfold setAt
        rw [e4]
        exact .ls (f _ _ q fun z => n a z List.mem_cons_self) d1
      · cases e
    | sh _ => simp [getP] at e
    | tp _ _ => simp [getP] at e
    | dk _ _ => simp [getP] at e
    | ob _ _ _ => simp [getP] at e
    | fn _ => simp [getP] at e
  | .key k :: p, v, d, y, T0, h, e, nd => by
    cases h with
    | @dk a kvs es O q hs =>
      unfold getP at e
      split at e
      · rename_i z ez
        obtain ⟨u', Tj, R, a1, a2, a3, a4⟩ := dk_split hs ez
        have nd2 := List.nodup_cons.mp nd
        have nd3 := nd_app.mp (a3.nodup nd2.2)
        obtain ⟨w, T, R2, b1, b3, b4, b5⟩ := Rep.focusG a2 e nd3.1
        have p1 : ∀ (T Tj : List Addr) (O : List Addr), O.Perm (Tj ++ R) → Tj.Perm (T ++ R2) → (a :: O).Perm (T ++ (a :: (R2 ++ R))) := fun T Tj O h1 h2 => by
          refine List.Perm.trans (List.Perm.cons a (h1.trans (List.Perm.append_right R h2))) ?_
          rw [List.append_assoc]
          exact List.perm_middle.symm
        refine ⟨w, T, a :: (R2 ++ R), .key q a1 b1, b3, p1 T Tj O a3 b4, fun {H3 A y' T'} f m n r => ?_⟩
        obtain ⟨Tj', c1, c2⟩ := b5 f m (fun b hb z => n b hb (List.mem_cons_of_mem _ (List.mem_append_left _ z))) r
        obtain ⟨T2, d1, d2⟩ := a4 f m (fun b hb z => n b z (List.mem_cons_of_mem _ (List.mem_append_right _ hb))) c1
        refine ⟨a :: T2, ?_, p1 T' Tj' T2 d2 c2⟩
        unfold setP
        rw [ez]
        simp only
        exact .dk (f _ _ q fun z => n a z List.mem_cons_self) d1
      · cases e
    | sh _ => simp [getP] at e
    | tp _ _ => simp [getP] at e
    | ls _ _ => simp [getP] at e
    | ob _ _ _ => simp [getP] at e
    | fn _ => simp [getP] at e
/-- what a method's rule is asked: the list at l, its items, the arguments -/
def MutQ (G : Ga) (m : Mo) (l : Addr) (vs : List V) (H2 : Hp) (Q : VK) : Prop := ∃ xs ds as T A ds' r, H2 l = some (.lst xs) ∧ Reps G H2 xs ds T ∧ Reps G H2 vs as A ∧ (T ++ A).Nodup ∧ l ∉ T ++ A ∧ mo m ds as = some (ds', r) ∧
  ∀ xs' v T' Tr H3, H3 l = some (.lst xs') → Frm [l] H2 H3 → Reps G H3 xs' ds' T' → Rep G H3 v r Tr → (Tr ++ T').Nodup → (∀ a ∈ Tr ++ T', a ∈ T ++ A) → Q v H3
/-- the last step, for a root that stands aside -/
theorem mut_fin {m : Mo} {i : Nat} {path : List PK} {root : D} {ds as ds' : List D} {r : D} {v0 : V} {vs : List V} {T0 A O O' : List Addr} {ρ : Env} {H2 : Hp} {Q : VK} (rv : Rep G H2 v0 root T0) (eg : getP path root = some (.ls ds)) (ra : Reps G H2 vs as A)
    (rE : RepE G H2 σ ρ O') (nd : (T0 ++ (A ++ O')).Nodup) (hn : ρ[i]? = some none) (hσ : σ[i]? = some (some v0)) (em : mo m ds as = some (ds', r)) (go : Go O H (T0 ++ (A ++ O')) H2)
    (h : ∀ v H3, EvR G O σ H (ρ.set i (some (setP path root (.ls ds')))) r v H3 → Q v H3) {l : Addr} (hv : VAt H2 v0 path (.ref l)) : MutQ G m l vs H2 Q := by
  have nd1 := nd_app.mp nd
  obtain ⟨l', xs, T, R, b1, b2, b3, b4, b5⟩ := rv.focus eg nd1.1
  cases b1.inj hv
  have nd2 := nd_app.mp (b4.nodup nd1.1)
  have nd3 := List.nodup_cons.mp nd2.1
  have nd4 := nd_app.mp nd1.2.1
  have inT0 : ∀ {a : Addr}, a ∈ l :: T ∨ a ∈ R → a ∈ T0 := fun {a} z => b4.mem_iff.mpr (by rcases z with z | z; exact List.mem_append_left _ z; exact List.mem_append_right _ z)
  refine ⟨xs, ds, as, T, A, ds', r, b2, b3, ra, nd_app.mpr ⟨nd3.2, nd4.1, fun a x y => nd1.2.2 a (inT0 (.inl (List.mem_cons_of_mem _ x))) (List.mem_append_left _ y)⟩, fun z => ?_, em, fun xs' v T' Tr H3 e f rs rr ndr sub => ?_⟩
  · rcases List.mem_append.mp z with z | z
    · exact nd3.1 z
    · exact nd1.2.2 l (inT0 (.inl List.mem_cons_self)) (List.mem_append_left _ z)
  · obtain ⟨T0', c1, c2⟩ := b5 f e rs
    have ml : MutA H2 [l] := fun b hb => by
      have : b = l := by simpa using hb
      subst this; rw [b2]; trivial
    have dO : ∀ a ∈ O', a ∉ [l] := fun a ha z => by
      have : a = l := by simpa using z
      subst this
      exact nd1.2.2 _ (inT0 (.inl List.mem_cons_self)) (List.mem_append_right _ ha)
    obtain ⟨O2, pm, rE2⟩ := (rE.fr f ml dO).put hn hσ c1
    have ndr' := nd_app.mp ndr
    -- where the parts come from
    have fromTA : ∀ {a : Addr}, a ∈ T ++ A → a ∉ R ∧ a ∉ O' ∧ a ≠ l := fun {a} z => by
      rcases List.mem_append.mp z with z | z
      · exact ⟨fun y => nd2.2.2 a (List.mem_cons_of_mem _ z) y, fun y => nd1.2.2 a (inT0 (.inl (List.mem_cons_of_mem _ z))) (List.mem_append_right _ y), fun y => nd3.1 (y ▸ z)⟩
      · exact ⟨fun y => nd1.2.2 a (inT0 (.inr y)) (List.mem_append_left _ z), fun y => nd4.2.2 a z y, fun y => nd1.2.2 l (inT0 (.inl List.mem_cons_self)) (List.mem_append_left _ (y ▸ z))⟩
    have ndT0' : T0'.Nodup := c2.nodup_iff.mpr (nd_app.mpr ⟨List.nodup_cons.mpr ⟨fun z => (fromTA (sub l (List.mem_append_right _ z))).2.2 rfl, ndr'.2.1⟩, nd2.2.1, fun a z y => by
      rcases List.mem_cons.mp z with rfl | z
      · exact nd2.2.2 _ List.mem_cons_self y
      · exact (fromTA (sub a (List.mem_append_right _ z))).1 y⟩)
    have inT0' : ∀ {a : Addr}, a ∈ T0' → a = l ∨ a ∈ T' ∨ a ∈ R := fun {a} z => by
      rcases List.mem_append.mp (c2.mem_iff.mp z) with z | z
      · rcases List.mem_cons.mp z with z | z
        · exact .inl z
        · exact .inr (.inl z)
      · exact .inr (.inr z)
    have dT0O : ∀ {a : Addr}, a ∈ T0' → a ∉ O' := fun {a} z y => by
      rcases inT0' z with z | z | z
      · subst z; exact nd1.2.2 _ (inT0 (.inl List.mem_cons_self)) (List.mem_append_right _ y)
      · exact (fromTA (sub a (List.mem_append_right _ z))).2.1 y
      · exact nd1.2.2 a (inT0 (.inr z)) (List.mem_append_right _ y)
    refine h v H3 ⟨O2, Tr, rE2, rr, nd_app.mpr ⟨ndr'.1, pm.nodup_iff.mpr (nd_app.mpr ⟨ndT0', nd4.2.1, fun a z y => dT0O z y⟩), fun a z y => ?_⟩, go.trans ⟨fun a o ea n => f a o ea fun z => n ?_, fun a z => .inl ?_⟩⟩
    · have k := fromTA (sub a (List.mem_append_left _ z))
      rcases List.mem_append.mp (pm.mem_iff.mp y) with y | y
      · rcases inT0' y with y | y | y
        · exact k.2.2 y
        · exact ndr'.2.2 a z y
        · exact k.1 y
      · exact k.2.1 y
    · have : a = l := by simpa using z
      subst this
      exact List.mem_append_left _ (inT0 (.inl List.mem_cons_self))
    · have back : ∀ {a : Addr}, a ∈ T ++ A → a ∈ T0 ++ (A ++ O') := fun {a} z => by
        rcases List.mem_append.mp z with z | z
        · exact List.mem_append_left _ (inT0 (.inl (List.mem_cons_of_mem _ z)))
        · exact List.mem_append_right _ (List.mem_append_left _ z)
      rcases List.mem_append.mp z with z | z
      · exact back (sub a (List.mem_append_left _ z))
      · rcases List.mem_append.mp (pm.mem_iff.mp z) with z | z
        · rcases inT0' z with z | z | z
          · subst z; exact List.mem_append_left _ (inT0 (.inl List.mem_cons_self))
          · exact back (sub a (List.mem_append_right _ z))
          · exact List.mem_append_left _ (inT0 (.inr z))
        · exact List.mem_append_right _ (List.mem_append_right _ z)
theorem mut_logic {m : Mo} {i : Nat} {path : List PK} {ops : List Sop} {Q : VK} (h : tE G W (mutE m i path ops) σ H Q) :
    tPath i path σ H fun x H1 => ∃ l, x = .ref l ∧ (∃ xs, H1 l = some (.lst xs)) ∧ tO G W ops σ H1 fun vs H2 => MutQ G m l vs H2 Q := by
  obtain ⟨ρ, O, rE, nd, h⟩ := tE_iff.mp h
  unfold mutE at h
  cases e0 : ρ[i]? with
  | none => simp only [e0] at h; exact h.elim
  | some o =>
  cases o with
  | none => simp only [e0] at h; exact h.elim
  | some root =>
  simp only [e0] at h
  cases eg : getP path root with
  | none => simp only [eg] at h; exact h.elim
  | some y =>
  cases y with
  | ls ds0 =>
    obtain ⟨v0, O1, O2, hσ, rv, pm, rE'⟩ := rE.out e0
    have nd' := nd_app.mp (pm.nodup nd)
    obtain ⟨l, xs, _, _, b1, b2, _⟩ := rv.focus eg nd'.1
    refine ⟨v0, .ref l, hσ, b1, l, rfl, ⟨xs, b2⟩, ?_⟩
    cases path with
    | nil =>
      cases b1
      simp only [eg] at h
      refine run_ops ops ρ O rE nd ?_
      unfold OpsR
      cases er : runO ops ρ with
      | no => rw [er] at h; exact h.elim
      | ex x ρ' => rw [er] at h; exact h
      | ok q =>
        obtain ⟨os, ρ2⟩ := q
        rw [er] at h
        intro vs H2 O3 A rE2 rO nd2 go
        simp only [Res.bind] at h
        cases e1 : ods os with
        | none => simp only [e1] at h; exact h.elim
        | some as =>
          cases e2 : ρ2[i]? with
          | none => simp only [e1, e2] at h; exact h.elim
          | some o =>
          cases o with
          | none => simp only [e1, e2] at h; exact h.elim
          | some z =>
          cases z with
          | ls ds =>
            simp only [e1, e2] at h
            cases em : mo m ds as with
            | none => simp only [em] at h; exact h.elim
            | some p =>
              obtain ⟨ds', r⟩ := p
              simp only [em] at h
              obtain ⟨v1, T0, O4, c1, c2, c3, c4⟩ := rE2.out e2
              rw [hσ] at c1; cases c1
              have p2 : (A ++ O3).Perm (T0 ++ (A ++ O4)) := (List.Perm.append_left A c3).trans (by rw [← List.append_assoc, ← List.append_assoc]; exact List.Perm.append_right O4 List.perm_append_comm)
              have hi : i < ρ2.length := (List.getElem?_eq_some_iff.mp e2).1
              refine mut_fin (path := []) (root := .ls ds) c2 rfl (ods_ok rO e1) c4 (p2.nodup nd2) (by rw [List.getElem?_set_self hi]) hσ em (go.less fun a z => p2.mem_iff.mpr z) (fun v H3 e => h v H3 ?_) .nil
              simpa [setP] using e
          | sh _ => simp only [e1, e2] at h; exact h.elim
          | tp _ => simp only [e1, e2] at h; exact h.elim
          | dk _ _ => simp only [e1, e2] at h; exact h.elim
          | ob _ _ _ => simp only [e1, e2] at h; exact h.elim
          | fn _ => simp only [e1, e2] at h; exact h.elim
    | cons k path =>
      simp only [eg] at h
      refine run_ops ops (ρ.set i none) O2 rE' nd'.2.1 ?_
      unfold OpsR
      cases er : runO ops (ρ.set i none) with
      | no => rw [er] at h; exact h.elim
      | ex x ρ' =>
        rw [er] at h
        intro cls dd H' ⟨O', a, b, c, e⟩
        exact h cls dd H' ⟨O', a, b, c.more fun x q => pm.mem_iff.mpr (List.mem_append_right _ q), e⟩
      | ok q =>
        obtain ⟨os, ρ2⟩ := q
        rw [er] at h
        intro vs H2 O3 A rE2 rO nd2 go
        simp only [Res.bind] at h
        cases e1 : ods os with
        | none => simp only [e1] at h; exact h.elim
        | some as =>
          cases e2 : ρ2[i]? with
          | none => simp only [e1, e2] at h; exact h.elim
          | some o =>
          cases o with
          | some _ => simp only [e1, e2] at h; exact h.elim
          | none =>
            simp only [e1, e2] at h
            cases em : mo m ds0 as with
            | none => simp only [em] at h; exact h.elim
            | some p =>
              obtain ⟨ds', r⟩ := p
              simp only [em] at h
              have m1 : MutA H O2 := rE'.mut
              have keep := go.keep (T := O1) fun a q => ⟨nd'.2.2 a q, rv.mut.some a q⟩
              exact mut_fin (rv.fr go.frm m1 nd'.2.2) eg (ods_ok rO e1) rE2 (nd_app.mpr ⟨nd'.1, nd2, keep⟩) e2 hσ em ((go.held (T := O1)).more fun a q => pm.mem_iff.mpr q) h (b1.fr rv eg go.frm m1 nd'.2.2)
  | sh _ => simp only [eg] at h; exact h.elim
  | tp _ => simp only [eg] at h; exact h.elim
  | dk _ _ => simp only [eg] at h; exact h.elim
  | ob _ _ _ => simp only [eg] at h; exact h.elim
  | fn _ => simp only [eg] at h; exact h.elim
end
end Vs
/-! V14: the methods; names, constants; freezing; chains. -/
namespace Vs
open PySem PySem.Spec L2
open PyProof.Rows hiding St
section
variable {X : Cx} {G : Ga} {W : WX} {S : Sc} {Γ : Gam} {σ : L2.St} {H H' : Hp}
theorem Reps.app : ∀ {xs ys : List V} {ds es : List D} {T U : List Addr}, Reps G H xs ds T → Reps G H ys es U → Reps G H (xs ++ ys) (ds ++ es) (T ++ U)
  | _, _, _, _, _, _, .nil, q => q
  | _, _, _, _, _, _, .cons h hs, q => by
    rw [List.append_assoc]
    exact .cons h (Reps.app hs q)
theorem Reps.erase : ∀ {xs : List V} {ds : List D} {T : List Addr} {j : Nat} {d : D}, Reps G H xs ds T → ds[j]? = some d → ∃ y T1 T2, xs[j]? = some y ∧ Reps G H (xs.eraseIdx j) (ds.eraseIdx j) T1 ∧ Rep G H y d T2 ∧ T.Perm (T2 ++ T1)
  | _, _, _, j, d, .nil, e => by simp at e
  | _, _, _, 0, d, .cons h hs, e => by simp at e; subst e; exact ⟨_, _, _, rfl, hs, h, .refl _⟩
  | _, _, _, j + 1, d, .cons (O := O) h hs, e => by
    obtain ⟨y, T1, T2, a, b, c, p⟩ := Reps.erase (j := j) hs (by simpa using e)
    refine ⟨y, O ++ T1, T2, by simpa using a, by simpa using Reps.cons h b, c, ?_⟩
    exact (List.Perm.append_left O p).trans (by rw [← List.append_assoc, ← List.append_assoc]; exact List.Perm.append_right T1 List.perm_append_comm)
theorem erase_last {α : Type} : ∀ (l : List α), l.eraseIdx (l.length - 1) = l.dropLast
  | [] => rfl
  | [_] => rfl
  | a :: b :: l => by
    have := erase_last (b :: l)
    simp only [List.length_cons, Nat.add_sub_cancel] at this ⊢
    rw [List.eraseIdx_cons_succ, this]
    rfl
theorem last_at {α : Type} {l : List α} {d : α} (h : l.getLast? = some d) : l[l.length - 1]? = some d := by
  rw [← h, List.getLast?_eq_getElem?]
theorem small_line {n : Nat} (h : n ≤ 1000000) : n ≤ sizeLine := Nat.le_trans h (by rw [sizeLine_eq]; decide)
theorem frm_upd {l : Addr} {o : HO} : Frm [l] H (upd H l o) := fun b u e n => by rw [upd_ne (fun z : b = l => n (by rw [z]; simp))]; exact e
theorem MutQ.append {l : Addr} {vs : List V} {Q : VK} (h : MutQ G .append l vs H Q) : rAppend (.ref l) vs H Q := by
  obtain ⟨xs, ds, as, T, A, ds', r, hl, rs, ra, nd, nl, em, k⟩ := h
  replace em : moAppend ds as = some (ds', r) := em
  unfold moAppend at em
  split at em
  rotate_left
  · cases em
  split at em
  · cases em
    cases ra with
    | @cons y _ _ _ B _ r1 r2 =>
      cases r2
      rw [List.append_nil] at nd nl k
      have ml : MutA H [l] := fun b hb => by
        have : b = l := by simpa using hb
        subst this; rw [hl]; trivial
      have f := frm_upd (H := H) (l := l) (o := .lst (xs ++ [y]))
      have dis : ∀ a ∈ T ++ B, a ∉ [l] := fun a ha z => by
        have : a = l := by simpa using z
        exact nl (this ▸ ha)
      refine ⟨l, xs, y, rfl, rfl, hl, Nat.lt_of_lt_of_le (by rw [rs.len]; assumption) (small_line (Nat.le_refl _)), ?_⟩
      have r3 := ((rs.fr f ml fun a z => dis a (List.mem_append_left _ z)).app (.cons (r1.fr f ml fun a z => dis a (List.mem_append_right _ z)) .nil))
      rw [List.append_nil] at r3
      exact k _ .non (T ++ B) [] _ upd_same f r3 (.sh .non) nd fun a z => z
  · cases em
theorem MutQ.extend {l : Addr} {vs : List V} {Q : VK} (h : MutQ G .extend l vs H Q) : rExtend (.ref l) vs H Q := by
  obtain ⟨xs, ds, as, T, A, ds', r, hl, rs, ra, nd, nl, em, k⟩ := h
  replace em : moExtend ds as = some (ds', r) := em
  unfold moExtend at em
  split at em
  rotate_left
  · cases em
  split at em
  · cases em
    rename_i hz
    cases ra with
    | @cons y _ _ _ B _ r1 r2 =>
      cases r2
      rw [List.append_nil] at nd nl k
      cases r1 with
      | @ls b zs _ U hb rz =>
        have ml : MutA H [l] := fun b hb => by
          have : b = l := by simpa using hb
          subst this; rw [hl]; trivial
        have f := frm_upd (H := H) (l := l) (o := .lst (xs ++ zs))
        have dis : ∀ a ∈ T ++ b :: U, a ∉ [l] := fun a ha z => by
          have : a = l := by simpa using z
          exact nl (this ▸ ha)
        refine ⟨l, b, xs, zs, rfl, rfl, hl, hb, small_line (by rw [rs.len, rz.len]; exact hz), ?_⟩
        have nd' := nd_app.mp nd
        refine k _ .non (T ++ U) [] _ upd_same f ((rs.fr f ml fun a z => dis a (List.mem_append_left _ z)).app (rz.fr f ml fun a z => dis a (List.mem_append_right _ (List.mem_cons_of_mem _ z)))) (.sh .non) ?_ fun a z => ?_
        · rw [List.nil_append]
          exact nd_app.mpr ⟨nd'.1, (List.nodup_cons.mp nd'.2.1).2, fun a z y => nd'.2.2 a z (List.mem_cons_of_mem _ y)⟩
        · rw [List.nil_append] at z
          rcases List.mem_append.mp z with z | z
          · exact List.mem_append_left _ z
          · exact List.mem_append_right _ (List.mem_cons_of_mem _ z)
  · cases em
theorem mut_take {l : Addr} {xs : List V} {ds : List D} {T : List Addr} {j : Nat} {d : D} {Q : VK} (hl : H l = some (.lst xs)) (rs : Reps G H xs ds T) (nd : T.Nodup) (nl : l ∉ T) (ej : ds[j]? = some d)
    (k : ∀ xs' v T' Tr H3, H3 l = some (.lst xs') → Frm [l] H H3 → Reps G H3 xs' (ds.eraseIdx j) T' → Rep G H3 v d Tr → (Tr ++ T').Nodup → (∀ a ∈ Tr ++ T', a ∈ T) → Q v H3) : ∃ y, xs[j]? = some y ∧ Q y (upd H l (.lst (xs.eraseIdx j))) := by
  obtain ⟨y, T1, T2, a, b, c, p⟩ := rs.erase ej
  have ml : MutA H [l] := fun b hb => by
    have : b = l := by simpa using hb
    subst this; rw [hl]; trivial
  have f := frm_upd (H := H) (l := l) (o := .lst (xs.eraseIdx j))
  have dis : ∀ a ∈ T2 ++ T1, a ∉ [l] := fun a ha z => by
    have : a = l := by simpa using z
    exact nl (p.mem_iff.mpr (this ▸ ha))
  exact ⟨y, a, k _ y T1 T2 _ upd_same f (b.fr f ml fun a z => dis a (List.mem_append_right _ z)) (c.fr f ml fun a z => dis a (List.mem_append_left _ z)) (p.nodup nd) fun a z => p.mem_iff.mpr z⟩
theorem MutQ.pop {l : Addr} {vs : List V} {Q : VK} (h : MutQ G .pop l vs H Q) : rPop (.ref l) vs H Q := by
  obtain ⟨xs, ds, as, T, A, ds', r, hl, rs, ra, nd, nl, em, k⟩ := h
  replace em : moPop ds as = some (ds', r) := em
  unfold moPop at em
  split at em
  rotate_left
  · cases em
  split at em
  · cases em
    rename_i e
    cases ra
    rw [List.append_nil] at nd nl k
    rw [← erase_last] at k
    obtain ⟨y, e1, q⟩ := mut_take hl rs nd nl (last_at e) k
    rw [← rs.len] at e1 q
    rw [erase_last] at q
    exact ⟨l, xs, y, rfl, rfl, hl, e1, q⟩
  · cases em
theorem MutQ.popAt {l : Addr} {vs : List V} {Q : VK} (h : MutQ G .popAt l vs H Q) : rPopAt (.ref l) vs H Q := by
  obtain ⟨xs, ds, as, T, A, ds', r, hl, rs, ra, nd, nl, em, k⟩ := h
  replace em : moPopAt ds as = some (ds', r) := em
  unfold moPopAt at em
  split at em
  rotate_left
  · cases em
  rename_i i
  split at em
  · rename_i j ej
    split at em
    · rename_i d ed
      split at em
      · rename_i hz
        cases em
        cases ra with
        | cons r1 r2 =>
          cases r2
          cases r1 with
          | sh r1 =>
            cases r1
            simp only [List.append_nil] at nd nl k
            obtain ⟨y, e1, q⟩ := mut_take hl rs nd nl ed k
            obtain ⟨s1, s2, s3, s4⟩ := ixN_seq ej
            exact ⟨l, xs, i, j, y, rfl, rfl, hl, by omega, by omega, by rw [rs.len]; exact s1, e1, q⟩
      · cases em
    · cases em
  · cases em
theorem Reps.cutAt : ∀ {xs : List V} {ds : List D} {T : List Addr} (n : Nat), Reps G H xs ds T → ∃ T1 T2, Reps G H (xs.take n) (ds.take n) T1 ∧ Reps G H (xs.drop n) (ds.drop n) T2 ∧ T = T1 ++ T2
  | _, _, T, 0, h => ⟨[], T, .nil, h, rfl⟩
  | _, _, _, n + 1, .nil => ⟨[], [], .nil, .nil, rfl⟩
  | _, _, _, n + 1, .cons (O := O) h hs => by
    obtain ⟨T1, T2, a, b, c⟩ := Reps.cutAt n hs
    exact ⟨O ++ T1, T2, .cons h a, b, by rw [c, List.append_assoc]⟩
theorem MutQ.insert {l : Addr} {vs : List V} {Q : VK} (h : MutQ G .insert l vs H Q) : ∃ (l' : Addr) (xs : List V) (i : Int) (y : V), V.ref l = .ref l' ∧ vs = [.int i, y] ∧ H l' = some (.lst xs) ∧ xs.length < sizeLine ∧ 0 ≤ i ∧ i < 2 ^ 63 ∧
    Q .non (upd H l' (.lst (xs.take i.toNat ++ [y] ++ xs.drop i.toNat))) := by
  obtain ⟨xs, ds, as, T, A, ds', r, hl, rs, ra, nd, nl, em, k⟩ := h
  replace em : moInsert ds as = some (ds', r) := em
  unfold moInsert at em
  split at em
  rotate_left
  · cases em
  rename_i i d
  split at em
  · cases em
    rename_i hz
    cases ra with
    | cons r0 ra =>
      cases ra with
      | @cons y _ _ _ B _ r1 r2 =>
        cases r2
        cases r0 with
        | sh r0 =>
          cases r0
          simp only [List.nil_append, List.append_nil] at nd nl k
          obtain ⟨T1, T2, c1, c2, rfl⟩ := rs.cutAt i.toNat
          have ml : MutA H [l] := fun b hb => by
            have : b = l := by simpa using hb
            subst this; rw [hl]; trivial
          have f := frm_upd (H := H) (l := l) (o := .lst (xs.take i.toNat ++ [y] ++ xs.drop i.toNat))
          have dis : ∀ a ∈ T1 ++ T2 ++ B, a ∉ [l] := fun a ha z => by
            have : a = l := by simpa using z
            exact nl (this ▸ ha)
          refine ⟨l, xs, i, y, rfl, rfl, hl, Nat.lt_of_lt_of_le (by rw [rs.len]; exact hz.1) (small_line (Nat.le_refl _)), hz.2.1, by omega, ?_⟩
          have r3 := ((c1.fr f ml fun a z => dis a (List.mem_append_left _ (List.mem_append_left _ z))).app (.cons (r1.fr f ml fun a z => dis a (List.mem_append_right _ z)) .nil)).app (c2.fr f ml fun a z => dis a (List.mem_append_left _ (List.mem_append_right _ z)))
          rw [List.append_nil] at r3
          have pm : (T1 ++ T2 ++ B).Perm (T1 ++ B ++ T2) := by
            rw [List.append_assoc, List.append_assoc]
            exact List.Perm.append_left T1 List.perm_append_comm
          exact k _ .non (T1 ++ B ++ T2) [] _ upd_same f r3 (.sh .non) (pm.nodup nd) fun a z => pm.mem_iff.mpr z
  · cases em
theorem mut_none {m : Mo} {l : Addr} {vs : List V} {Q : VK} (h : ∀ ds as, mo m ds as = none) : ¬ MutQ G m l vs H Q := fun ⟨_, ds, as, _, _, _, _, _, _, _, _, _, em, _⟩ => by rw [h] at em; cases em
theorem base_of {o : PySem.Expr} {i : Nat} {p : List PK} {name : Str} {env : PySem.Env} (h : mPathR S i p o = true) : attributeBase o name env (eval o env) = eval o env := by
  unfold mPathR at h
  split at h
  all_goals first | contradiction | rfl
theorem few_of {xs : List PySem.Expr} {ops : List Sop} (ps : POs X G W xs ops) (h : xs.length < 20) (cp : Pos) : ((backTo cp (starEach xs X.env)).all (fun x => !x.1) && (backToKw cp (keywordEach [] X.env)).all (fun x => x.1.isSome)
      && decide (xs.length + ([] : List Keyword).length + (if ([] : List Keyword).isEmpty then 0 else 1) < 30)) = true := by
  have h1 : (backTo cp (starEach xs X.env)).all (fun x => !x.1) = true := by
    have h2 := ps.plain cp X.env
    rw [List.all_eq_not_any_not]
    simpa using h2
  rw [h1]
  simp only [keywordEach, backToKw, List.map_nil, List.all_nil, Bool.true_and, List.length_nil, List.isEmpty_nil]
  have : xs.length + 0 + 0 < 30 := by omega
  simpa using this
theorem tyL {l : Addr} {xs : List V} {H1 : Hp} (h : H1 l = some (.lst xs)) : tyV X.K "list" (.ref l) H1 := .inl ⟨rfl, xs, SqL.of h⟩
theorem mut_ok (C : Ctx G Γ S X) {m : Mo} {i : Nat} {path : List PK} {o : PySem.Expr} {name : Str} {xs : List PySem.Expr} {ops : List Sop} {ap cp : Pos} (hn : name = moName m) (ho : mPathR S i path.reverse o = true) (ps : POs X G W xs ops)
    (hl : (ap.endLine == cp.line) = true) (hz : xs.length < 20) : PE X (.Call (.Attribute o name ap) xs [] cp) (tE G W (mutE m i path ops)) := by
  subst hn
  have po := mView_pe C ho
  have hb : ∀ nm, attributeBase o nm X.env (eval o X.env) = eval o X.env := fun nm => base_of ho
  have lg : ∀ {σ : L2.St} {H : Hp} {Q : VK}, tE G W (mutE m i path ops) σ H Q → tPath i path σ H fun x H1 => ∃ l, x = .ref l ∧ (∃ xs, H1 l = some (.lst xs)) ∧ tO G W ops σ H1 fun vs H2 => MutQ G m l vs H2 Q := fun h => mut_logic h
  have mono : ∀ {σ : L2.St} {H : Hp} {Q Q' : VK}, tPath i path σ H Q → (∀ v H', Q v H' → Q' v H') → tPath i path σ H Q' := fun h k => tS1_mono (o := .p i path) (G := G) (W := W) h k
  cases xs with
  | nil =>
    cases ps
    cases m with
    | pop => exact pImp (pe_bm0 PySem.F.plainAttrs_list PySem.F.slot_list_pop PySem.F.type_list_pop mt_pop po (hb _) hl) fun σ H Q h => mono (lg h) fun x H1 ⟨l, e, ⟨xs, e2⟩, z⟩ => by subst e; exact ⟨tyL e2, MutQ.pop z⟩
    | append => exact ⟨fun pins s σ H Q I h => by obtain ⟨v0, u, _, _, l, _, _, z⟩ := lg h; exact (by have := MutQ.append z; obtain ⟨_, _, _, _, e, _⟩ := this; cases e)⟩
    | extend => exact ⟨fun pins s σ H Q I h => by obtain ⟨v0, u, _, _, l, _, _, z⟩ := lg h; exact (by have := MutQ.extend z; obtain ⟨_, _, _, _, _, e, _⟩ := this; cases e)⟩
    | popAt => exact ⟨fun pins s σ H Q I h => by obtain ⟨v0, u, _, _, l, _, _, z⟩ := lg h; exact (by have := MutQ.popAt z; obtain ⟨_, _, _, _, _, _, e, _⟩ := this; cases e)⟩
    | insert => exact ⟨fun pins s σ H Q I h => by obtain ⟨v0, u, _, _, l, _, _, z⟩ := lg h; exact (by have := MutQ.insert z; obtain ⟨_, _, _, _, _, e, _⟩ := this; cases e)⟩
  | cons x xs =>
    have hx : notStar x = true := by cases ps; assumption
    have few := few_of ps hz cp
    have pl : (backTo cp (starEach xs X.env)).any (·.1) = false := by
      cases ps with | cons _ _ ps => exact ps.plain cp X.env
    cases m with
    | append => exact pImp (pe_bm PySem.F.plainAttrs_list PySem.F.slot_list_append PySem.F.type_list_append mt_append po ps.pa (hb _) few hl (star1 hx) pl) fun σ H Q h => mono (lg h) fun y H1 ⟨l, e, ⟨zs, e2⟩, z⟩ => by subst e; exact ⟨tyL e2, tO_mono z fun vs H2 q => MutQ.append q⟩
    | extend => exact pImp (pe_bm PySem.F.plainAttrs_list PySem.F.slot_list_extend PySem.F.type_list_extend mt_extend po ps.pa (hb _) few hl (star1 hx) pl) fun σ H Q h => mono (lg h) fun y H1 ⟨l, e, ⟨zs, e2⟩, z⟩ => by subst e; exact ⟨tyL e2, tO_mono z fun vs H2 q => MutQ.extend q⟩
    | popAt => exact pImp (pe_bm PySem.F.plainAttrs_list PySem.F.slot_list_pop PySem.F.type_list_pop mt_popAt po ps.pa (hb _) few hl (star1 hx) pl) fun σ H Q h => mono (lg h) fun y H1 ⟨l, e, ⟨zs, e2⟩, z⟩ => by subst e; exact ⟨tyL e2, tO_mono z fun vs H2 q => MutQ.popAt q⟩
    | pop => exact pImp (pe_bm PySem.F.plainAttrs_list PySem.F.slot_list_pop PySem.F.type_list_pop mt_pop po ps.pa (hb _) few hl (star1 hx) pl) fun σ H Q h => mono (lg h) fun y H1 ⟨l, e, ⟨zs, e2⟩, z⟩ => by subst e; exact ⟨tyL e2, tO_mono z fun vs H2 q => MutQ.pop q⟩
    | insert => exact pImp (pe_bm PySem.F.plainAttrs_list PySem.F.slot_list_insert PySem.F.type_list_insert mt_insert po ps.pa (hb _) few hl (star1 hx) pl) fun σ H Q h => mono (lg h) fun y H1 ⟨l, e, ⟨zs, e2⟩, z⟩ => by subst e; exact ⟨tyL e2, tO_mono z fun vs H2 q => MutQ.insert q⟩
end
end Vs
/-! V15: names and constants, freezing, chains, targets. -/
namespace Vs
open PySem PySem.Spec L2
open PyProof.Rows hiding St
section
variable {X : Cx} {G : Ga} {W : WX} {S : Sc} {Γ : Gam} {σ : L2.St} {H H' : Hp}
theorem lit_ok {d : PyData} {c : Const} {k : Nat} {pos : Pos} (h : litB d c = true) : PE X (.Constant c k pos) (tE G W (litE d)) := by
  unfold litB at h
  split at h
  · exact pImp pe_non fun σ H Q ⟨ρ, O, a, b, z⟩ => z _ _ ⟨O, [], a, .sh .non, b, Go.refl⟩
  · have e := eq_of_beq h
    subst e
    exact pImp pe_bl fun σ H Q ⟨ρ, O, a, b, z⟩ => z _ _ ⟨O, [], a, .sh (.bl _), b, Go.refl⟩
  · have e := of_decide_eq_true h
    subst e
    exact pImp pe_int fun σ H Q ⟨ρ, O, a, b, z⟩ => z _ _ ⟨O, [], a, .sh (.int _), b, Go.refl⟩
  · have e := of_decide_eq_true h
    subst e
    exact pImp pe_str fun σ H Q ⟨ρ, O, a, b, z⟩ => z _ _ ⟨O, [], a, .sh (.str _), b, Go.refl⟩
  · cases h
theorem mName_pe (C : Ctx G Γ S X) {i : Nat} {e : PySem.Expr} (h : mName S i e = true) : PE X e (tVar i) := by
  unfold mName at h
  split at h
  · exact C.vis h
  · cases h
theorem rd_ok (C : Ctx G Γ S X) {i : Nat} {e : PySem.Expr} (h : mName S i e = true) : PE X e (tE G W (rdE i)) := pImp (mName_pe C h) fun σ H Q ⟨ρ, O, a, b, z⟩ => by
  unfold rdE at z
  cases e1 : ρ[i]? with
  | none => rw [e1] at z; exact z.elim
  | some o =>
  cases o with
  | none => rw [e1] at z; exact z.elim
  | some d =>
  obtain ⟨v, O1, O2, c1, c2, c3, c4⟩ := a.out e1
  cases d with
  | sh d =>
    rw [e1] at z
    exact ⟨v, c1, z _ _ ⟨O, [], a, .sh c2.sh_of, b, Go.refl⟩⟩
  | tp _ => rw [e1] at z; exact z.elim
  | ls _ => rw [e1] at z; exact z.elim
  | dk _ _ => rw [e1] at z; exact z.elim
  | ob _ _ _ => rw [e1] at z; exact z.elim
  | fn _ => rw [e1] at z; exact z.elim
theorem mv_ok (C : Ctx G Γ S X) {i : Nat} {e : PySem.Expr} (h : mName S i e = true) : PE X e (tE G W (mvE i)) := pImp (mName_pe C h) fun σ H Q ⟨ρ, O, a, b, z⟩ => by
  unfold mvE at z
  cases e1 : ρ[i]? with
  | none => rw [e1] at z; exact z.elim
  | some o =>
  cases o with
  | none => rw [e1] at z; exact z.elim
  | some d =>
    obtain ⟨v, O1, O2, c1, c2, c3, c4⟩ := a.out e1
    rw [e1] at z
    exact ⟨v, c1, z _ _ ⟨O2, O1, c4, c2, c3.nodup b, Go.refl.less fun x q => c3.mem_iff.mpr q⟩⟩
theorem gl_ok (C : Ctx G Γ S X) {x : Str} {pos : Pos} (h : glB S x = true) : PE X (.Name x pos) (tE G W (glE (Γ.con x))) := by
  cases e : Γ.con x with
  | none => exact pe_false fun ρ => rfl
  | some d =>
    obtain ⟨g1, g2, _⟩ := C.gl h
    obtain ⟨u, v, a, b, c⟩ := C.con x d e
    exact pImp (pe_glob g1 a b g2) fun σ H Q ⟨ρ, O, k1, k2, z⟩ => z _ _ ⟨O, [], k1, .sh (by rw [C.hG]; exact c H), k2, Go.refl⟩
/-! ### what stands at a place; displays of dicts -/
theorem at_ok (C : Ctx G Γ S X) {i : Nat} {p : List PK} {e : PySem.Expr} (h : mPathR S i p.reverse e = true) : PE X e (tE G W (atE i p)) := pImp (mView_pe C h) fun σ H Q ⟨ρ, O, a, b, z⟩ => by
  unfold atE at z
  cases e1 : ρ[i]? with
  | none => simp only [e1] at z
  | some o =>
  cases o with
  | none => simp only [e1] at z
  | some root =>
  simp only [e1] at z
  cases e2 : getP p root with
  | none => simp only [e2] at z
  | some y =>
  cases y with
  | sh d =>
    simp only [e2] at z
    obtain ⟨v0, O1, O2, c1, c2, c3, c4⟩ := a.out e1
    obtain ⟨u, T, d1, d2, _⟩ := c2.place e2
    cases d2 with
    | sh d2 => exact ⟨v0, u, c1, d1, z _ _ ⟨O, [], a, .sh d2, b, Go.refl⟩⟩
  | tp _ => simp only [e2] at z
  | ls _ => simp only [e2] at z
  | dk _ _ => simp only [e2] at z
  | ob _ _ _ => simp only [e2] at z
  | fn _ => simp only [e2] at z
/-- the pairs of a display: constant keys -/
def kTr (G : Ga) (W : WX) : List Key → List Sop → List (TE × TE)
  | k :: ks, o :: os => (tC (kV k), tS1 G W o) :: kTr G W ks os
  | _, _ => []
theorem kTr_logic : ∀ {ks : List Key} {ops : List Sop} {σ : L2.St} {H : Hp} {R : List (V × V) → Hp → Prop}, ks.length = ops.length → tO G W ops σ H (fun vs H' => ∀ kvs : List (Key × V), kvs.map (·.1) = ks → kvs.map (·.2) = vs → R (kvs.map fun kv => (kV kv.1, kv.2)) H') → tPairs (kTr G W ks ops) σ H R
  | [], [], _, _, _, _, h => h [] rfl rfl
  | k :: ks, o :: os, σ, H, R, hl, h => by
    rw [tO_cons] at h
    refine tS1_mono h fun x H1 z => ?_
    refine kTr_logic (by simpa using hl) (tO_mono z fun vs H2 z kvs e1 e2 => ?_)
    exact z ((k, x) :: kvs) (by simp [e1]) (by simp [e2])
  | [], _ :: _, _, _, _, hl, _ => by simp at hl
  | _ :: _, [], _, _, _, hl, _ => by simp at hl
theorem kTr_pps {ops : List Sop} {pos : Pos} : ∀ {ks : List Key} {keys : List (Option PySem.Expr)} {vs : List PySem.Expr} {ops : List Sop}, mKeys ks keys = true → keys.length = vs.length → POs X G W vs ops → PPs X pos keys vs (kTr G W ks ops)
  | [], [], [], _, _, _, .nil => pps_nil
  | k :: ks, some (.Constant (.str x) _ _) :: keys, v :: vs, _, h, hl, .cons hv n hs => by
    unfold mKeys at h
    rw [Bool.and_eq_true, decide_eq_true_eq] at h
    obtain ⟨rfl, h⟩ := h
    exact pps_cons pe_str hv (kTr_pps (ops := []) h (by simpa using hl) hs)
  | k :: ks, some (.Constant (.int x) _ _) :: keys, v :: vs, _, h, hl, .cons hv n hs => by
    unfold mKeys at h
    rw [Bool.and_eq_true, decide_eq_true_eq] at h
    obtain ⟨rfl, h⟩ := h
    exact pps_cons pe_int hv (kTr_pps (ops := []) h (by simpa using hl) hs)
  | [], _ :: _, _, _, h, _, _ => by unfold mKeys at h; cases h
  | [], [], _ :: _, _, _, hl, _ => by simp at hl
  | _ :: _, [], _, _, h, _, _ => by unfold mKeys at h; cases h
  | _ :: _, _ :: _, [], _, _, hl, _ => by simp at hl
theorem mKeys_some : ∀ {ks : List Key} {keys : List (Option PySem.Expr)}, mKeys ks keys = true → keys.all (·.isSome) = true ∧ ks.length = keys.length
  | [], [], _ => ⟨rfl, rfl⟩
  | k :: ks, some (.Constant (.str x) _ _) :: keys, h => by
    unfold mKeys at h
    rw [Bool.and_eq_true] at h
    obtain ⟨a, b⟩ := mKeys_some h.2
    exact ⟨by simpa using a, by simp [b]⟩
  | k :: ks, some (.Constant (.int x) _ _) :: keys, h => by
    unfold mKeys at h
    rw [Bool.and_eq_true] at h
    obtain ⟨a, b⟩ := mKeys_some h.2
    exact ⟨by simpa using a, by simp [b]⟩
  | [], _ :: _, h => by unfold mKeys at h; cases h
  | _ :: _, [], h => by unfold mKeys at h; cases h
theorem merge_id : ∀ (kvs acc : List (Key × V)), (acc.map (·.1) ++ kvs.map (·.1)).Nodup → mergeK acc kvs = acc ++ kvs
  | [], acc, _ => by simp [mergeK]
  | (k, v) :: kvs, acc, h => by
    have hk : (acc.any fun kv => decide (kv.1 = k)) = false := by
      rw [Bool.eq_false_iff]
      intro z
      rw [List.any_eq_true] at z
      obtain ⟨p, hp, e⟩ := z
      rw [decide_eq_true_eq] at e
      rw [List.nodup_append] at h
      exact h.2.2 k (List.mem_map.mpr ⟨p, hp, e⟩) k (by simp) rfl
    have e : putK acc k v = acc ++ [(k, v)] := by unfold putK; rw [if_neg (by rw [hk]; simp)]
    show mergeK (putK acc k v) kvs = _
    rw [e, merge_id kvs (acc ++ [(k, v)]) (by simpa using h)]
    simp
theorem dct_ok {keys : List (Option PySem.Expr)} {vs : List PySem.Expr} {ks : List Key} {ops : List Sop} {pos : Pos} (hk : mKeys ks keys = true) (hl : keys.length = vs.length) (h0 : ks ≠ []) (h15 : keys.length ≤ 15) (ps : POs X G W vs ops) :
    PE X (.Dict keys vs pos) (tE G W (dctE ks ops)) := by
  obtain ⟨ha, hkl⟩ := mKeys_some hk
  have hol : ks.length = ops.length := by
    rw [hkl, hl]
    clear hk h15 hl hkl h0 ha
    induction ps with
    | nil => rfl
    | cons _ _ _ ih => simp [ih]
  refine pImp (pe_disp (kTr_pps (ops := []) hk hl ps) ha hl (fun z => h0 (by cases ks; rfl; rw [z] at hkl; simp at hkl)) h15) fun σ H Q h p hp => ?_
  refine kTr_logic hol ?_
  obtain ⟨ρ, O, rE, nd, h⟩ := h
  have f0 := frm_new (o := .dK []) hp
  have rE0 := rE.fr (S := []) f0 mut_nil fun _ _ z => nomatch z
  have hpO : p ∉ O := fun z => by
    obtain ⟨o, e⟩ := rE.mut.some p z
    rw [hp] at e; cases e
  refine run_ops ops ρ O rE0 nd ?_
  unfold OpsR
  unfold dctE at h
  cases er : runO ops ρ with
  | no => rw [er] at h; exact h.elim
  | ex x ρ' =>
    rw [er] at h
    intro cls dd H' ⟨O', a, b, c, e⟩
    exact h cls dd H' ⟨O', a, b, ⟨fun y o ey n => c.frm y o (f0 y o ey fun z => nomatch z) n, fun y q => (c.sub y q).imp id fun z => by
      by_cases hy : y = p
      · subst hy; exact hp
      · rw [upd_ne hy] at z; exact z⟩, e⟩
  | ok q =>
    obtain ⟨os, ρ2⟩ := q
    rw [er] at h
    intro us H2 O2 T rE2 rO nd2 go kvs k1 k2
    simp only [Res.bind] at h
    cases e1 : ods os with
    | none => simp only [e1] at h
    | some ds =>
      simp only [e1] at h
      by_cases hc : ks.length = ds.length ∧ ks.Nodup
      · rw [if_pos hc] at h
        have rs := ods_ok rO e1
        have hp2 : H2 p = some (.dK []) := go.frm p _ upd_same hpO
        have go' : Go O H (T ++ O2) H2 := ⟨fun y o ey n => go.frm y o (f0 y o ey fun z => nomatch z) n, fun y q => (go.sub y q).imp id fun z => by
          by_cases hy : y = p
          · subst hy; exact hp
          · rw [upd_ne hy] at z; exact z⟩
        have hn : p ∉ T ++ O2 := fun z => by
          rcases go.sub p z with y | y
          · exact hpO y
          · rw [upd_same] at y; cases y
        have em : mergeK [] kvs = kvs := by
          have := merge_id kvs [] (by rw [k1]; simpa using hc.2)
          simpa using this
        refine ⟨hp2, kvs, rfl, ?_, ?_⟩
        · have : kvs.length = ks.length := by rw [← k1]; simp
          omega
        · rw [em]
          subst k1 k2
          have fp : Frm [p] H2 (upd H2 p (.dK kvs)) := fun b u e n => by rw [upd_ne (fun q : b = p => n (by rw [q]; simp))]; exact e
          have mp : MutA H2 [p] := fun a q => by rw [List.mem_singleton] at q; subst q; rw [hp2]; trivial
          refine h _ _ ⟨O2, p :: T, rE2.fr fp mp (fun a q z => hn (List.mem_append_right _ (by rw [List.mem_singleton] at z; exact z ▸ q))), .dk upd_same (rs.fr fp mp fun a q z => hn (List.mem_append_left _ (by rw [List.mem_singleton] at z; exact z ▸ q))), ?_, ?_⟩
          · rw [List.cons_append]; exact List.nodup_cons.mpr ⟨hn, nd2⟩
          · refine ⟨fun y o ey n => ?_, fun y q => ?_⟩
            · rw [upd_ne (fun z : y = p => by rw [z, hp] at ey; cases ey)]
              exact go'.frm y o ey n
            · rcases List.mem_cons.mp q with rfl | q
              · exact .inr hp
              · exact go'.sub y q
      · rw [if_neg hc] at h; exact h.elim
/-! ### freezing -/
theorem freeze_all {pins : List (Addr × Obj)} {s : Shared} : ∀ (A : List Addr) {H : Hp}, Inv X pins σ H s → A.Nodup → (∀ a ∈ A, ∃ xs, H a = some (.lst xs)) → ∃ H2, Inv X pins σ H2 s ∧ (∀ b, b ∉ A → H2 b = H b) ∧ ∀ a ∈ A, ∀ u, H a = some u → ∃ o, H2 a = some (.frz o u)
  | [], H, I, _, _ => ⟨H, I, fun _ _ => rfl, fun _ q => nomatch q⟩
  | a :: A, H, I, nd, h => by
    obtain ⟨xs, hx⟩ := h a List.mem_cons_self
    have nd' := List.nodup_cons.mp nd
    obtain ⟨o, I1⟩ := Inv.lock I hx trivial
    obtain ⟨H2, I2, k1, k2⟩ := freeze_all A I1 nd'.2 fun b hb => by
      obtain ⟨ys, hy⟩ := h b (List.mem_cons_of_mem _ hb)
      exact ⟨ys, by rw [upd_ne (fun z : b = a => nd'.1 (z ▸ hb))]; exact hy⟩
    refine ⟨H2, I2, fun b hb => ?_, fun b hb u hu => ?_⟩
    · rw [List.mem_cons, not_or] at hb
      rw [k1 b hb.2, upd_ne hb.1]
    · rcases List.mem_cons.mp hb with rfl | hb
      · rw [hx] at hu; cases hu
        exact ⟨o, by rw [k1 _ nd'.1, upd_same]⟩
      · exact k2 b hb u (by rw [upd_ne (fun z : b = a => nd'.1 (z ▸ hb))]; exact hu)
mutual
theorem Rep.lsts : ∀ {v : V} {d : D} {T : List Addr} {p : PyData}, Rep G H v d T → d.fz = some p → ∀ a ∈ T, ∃ xs, H a = some (.lst xs)
  | _, _, _, _, .sh _, _, a, q => nomatch q
  | _, _, _, _, .tp (ds := ds) _ hs, e, a, q => by
    unfold D.fz at e
    cases e2 : D.fzs ds with
    | none => rw [e2] at e; cases e
    | some l => exact Reps.lsts hs e2 a q
  | _, _, _, _, .ls (ds := ds) h hs, e, a, q => by
    unfold D.fz at e
    cases e2 : D.fzs ds with
    | none => rw [e2] at e; cases e
    | some l =>
      rcases List.mem_cons.mp q with rfl | q
      · exact ⟨_, h⟩
      · exact Reps.lsts hs e2 a q
  | _, _, _, _, .dk _ _, e, _, _ => by unfold D.fz at e; cases e
  | _, _, _, _, .ob _ _ _, e, _, _ => by unfold D.fz at e; cases e
  | _, _, _, _, .fn _, e, _, _ => by unfold D.fz at e; cases e
theorem Reps.lsts : ∀ {vs : List V} {ds : List D} {T : List Addr} {l : List PyData}, Reps G H vs ds T → D.fzs ds = some l → ∀ a ∈ T, ∃ xs, H a = some (.lst xs)
  | _, _, _, _, .nil, _, a, q => nomatch q
  | _, _, _, _, .cons (d := d) (ds := ds) h hs, e, a, q => by
    unfold D.fzs at e
    cases e1 : D.fz d with
    | none => rw [e1] at e; cases e
    | some x =>
      cases e2 : D.fzs ds with
      | none => rw [e1, e2] at e; cases e
      | some m =>
        rcases List.mem_append.mp q with q | q
        · exact Rep.lsts h e1 a q
        · exact Reps.lsts hs e2 a q
end
mutual
theorem Rep.frozen {A : List Addr} (k1 : Frm A H H') (m : MutA H A) (k2 : ∀ a ∈ A, ∀ u, H a = some u → ∃ o, H' a = some (.frz o u)) : ∀ {v : V} {d : D} {T : List Addr} {p : PyData}, Rep G H v d T → d.fz = some p → (∀ a ∈ T, a ∈ A) → DpF G.K H' v p
  | _, _, _, _, .sh h, e, _ => by unfold D.fz at e; cases e; exact h.fr k1 m
  | _, _, _, _, .tp (ds := ds) h hs, e, n => by
    unfold D.fz at e
    cases e2 : D.fzs ds with
    | none => rw [e2] at e; cases e
    | some l => rw [e2] at e; cases e; exact .tup (SqT.fr (G := G) h k1 m) (Reps.frozen k1 m k2 hs e2 n)
  | _, _, _, _, .ls (ds := ds) h hs, e, n => by
    unfold D.fz at e
    cases e2 : D.fzs ds with
    | none => rw [e2] at e; cases e
    | some l => rw [e2] at e; cases e; exact .lst (.inl (k2 _ (n _ List.mem_cons_self) _ h)) (Reps.frozen k1 m k2 hs e2 fun a q => n a (List.mem_cons_of_mem _ q))
  | _, _, _, _, .dk _ _, e, _ => by unfold D.fz at e; cases e
  | _, _, _, _, .ob _ _ _, e, _ => by unfold D.fz at e; cases e
  | _, _, _, _, .fn _, e, _ => by unfold D.fz at e; cases e
theorem Reps.frozen {A : List Addr} (k1 : Frm A H H') (m : MutA H A) (k2 : ∀ a ∈ A, ∀ u, H a = some u → ∃ o, H' a = some (.frz o u)) : ∀ {vs : List V} {ds : List D} {T : List Addr} {l : List PyData}, Reps G H vs ds T → D.fzs ds = some l → (∀ a ∈ T, a ∈ A) → DpFs G.K H' vs l
  | _, _, _, _, .nil, e, _ => by unfold D.fzs at e; cases e; exact .nil
  | _, _, _, _, .cons (d := d) (ds := ds) h hs, e, n => by
    unfold D.fzs at e
    cases e1 : D.fz d with
    | none => rw [e1] at e; cases e
    | some x =>
      cases e2 : D.fzs ds with
      | none => rw [e1, e2] at e; cases e
      | some l =>
        rw [e1, e2] at e; cases e
        exact .cons (Rep.frozen k1 m k2 h e1 fun a q => n a (List.mem_append_left _ q)) (Reps.frozen k1 m k2 hs e2 fun a q => n a (List.mem_append_right _ q))
end
theorem fz_ok {e : PySem.Expr} {f : EF} (h : PE X e (tE G W f)) : PE X e (tE G W (fzE f)) := ⟨fun pins s σ H Q I z => by
  refine thn (h.run pins s σ H _ I (bindE z)) fun u s1 ⟨v, H1, I1, r1, ρ1, d, O1, T, rE, rv, nd, c⟩ => ?_
  cases ed : d.fz with
  | none => simp only [ed] at c; exact c.elim
  | some p =>
    simp only [ed] at c
    have nd' := nd_app.mp nd
    obtain ⟨H2, I2, k1, k2⟩ := freeze_all T I1 nd'.1 (rv.lsts ed)
    have f : Frm T H1 H2 := fun a o e n => by rw [k1 a n]; exact e
    have m := rv.mut
    refine ⟨v, H2, I2, r1, c v H2 ⟨O1, [], rE.fr f m (fun a q z => nd'.2.2 a z q), .sh (rv.frozen f m k2 ed fun a q => q), nd'.2.1, ⟨fun a o e n => f a o e fun q => n (List.mem_append_left _ q), fun a q => .inl (List.mem_append_right _ q)⟩⟩⟩⟩
/-! ### chains -/
theorem chn_logic {o o' : Op} {f f' : D → D → Option D} (h1 : ∀ ds, opD o ds = bi2 f ds) (h2 : ∀ ds, opD o' ds = bi2 f' ds) {a b c : EF} {Q : VK} (h : tE G W (chnE (opD o) (opD o') a b c) σ H Q) :
    tChain (r2 G f) (r2 G f') (tE G W a) (tE G W b) (tE G W c) σ H Q := by
  obtain ⟨ρ, O, rE, nd, h⟩ := tE_iff.mp h
  have main : tO G W [.e a, .e b] σ H fun vs H2 => ∃ x y, vs = [x, y] ∧ r2 G f x y H2 fun z H3 => ∃ k, z = .bl k ∧ (if k = true then tE G W c σ H3 fun w' H4 => r2 G f' y w' H4 Q else Q (.bl false) H3) := by
    refine run_ops _ ρ O rE nd ?_
    unfold OpsR
    unfold chnE at h
    cases er : runO [.e a, .e b] ρ with
    | no => rw [er] at h; exact h.elim
    | ex x ρ' => rw [er] at h; exact h
    | ok q =>
      obtain ⟨os, ρ2⟩ := q
      rw [er] at h
      intro vs H2 O2 T rE2 rO nd2 go
      simp only [Res.bind] at h
      cases e1 : ods os with
      | none => simp only [e1] at h; exact h.elim
      | some ds =>
      have rs := ods_ok rO e1
      simp only [e1] at h
      split at h
      · rename_i dx dy e2
        cases e2
        cases rs with
        | @cons x _ _ _ Tx _ rx rs =>
          cases rs with
          | @cons y _ _ _ Ty _ ry rs =>
            cases rs
            rw [List.append_nil] at nd2 go
            have nd3 := nd_app.mp nd2
            split at h
            · rename_i e3
              rw [h1] at e3
              refine ⟨x, y, rfl, dx, dy, _, Tx, Ty, rx, ry, e3, fun z H3 T3 rz ndz new f3 => ?_⟩
              cases rz with
              | sh rz =>
                cases rz
                refine ⟨true, rfl, ?_⟩
                rw [if_pos rfl]
                have rE3 := rE2.fr (S := []) f3 mut_nil fun _ _ z => nomatch z
                have ry3 := ry.fr (S := []) f3 mut_nil fun _ _ z => nomatch z
                refine tE_iff.mpr ⟨ρ2, O2, rE3, nd3.2.1, ?_⟩
                have go3 : Go O H (Tx ++ Ty ++ O2) H3 := go.trans ⟨fun a o e n => f3 a o e (fun z => nomatch z), fun a q => .inl q⟩
                cases ec : c ρ2 with
                | no => rw [ec] at h; exact h.elim
                | ex x ρ' =>
                  rw [ec] at h
                  intro cls dd H' z
                  exact h cls dd H' (z.more (go3.less fun a q => List.mem_append_right _ q))
                | ok q =>
                  obtain ⟨dw, ρ3⟩ := q
                  rw [ec] at h
                  simp only at h
                  intro w H4 ⟨O4, T4, k1, k2, k3, k4⟩
                  cases e4 : opD o' [dy, dw] with
                  | none => simp only [e4] at h; exact h.elim
                  | some d =>
                    simp only [e4] at h
                    have dis : ∀ a ∈ Ty, a ∉ O2 := fun a q z => nd3.2.2 a (List.mem_append_right _ q) z
                    rw [h2] at e4
                    refine ⟨dy, dw, d, Ty, T4, ry3.fr k4.frm rE3.mut dis, k2, e4, ?_⟩
                    exact new_ev (O := O) (H := H) k1 (nd_app.mp k3).2.1 ((go3.less fun a q => List.mem_append_right _ q).trans (k4.less fun a q => List.mem_append_right _ q)) h
            · rename_i e3
              rw [h1] at e3
              refine ⟨x, y, rfl, dx, dy, _, Tx, Ty, rx, ry, e3, fun z H3 T3 rz ndz new f3 => ?_⟩
              cases rz with
              | sh rz =>
                cases rz
                refine ⟨false, rfl, ?_⟩
                rw [if_neg Bool.false_ne_true]
                exact h _ _ ⟨O2, [], rE2.fr (S := []) f3 mut_nil (fun _ _ z => nomatch z), .sh (.bl false), nd3.2.1, (go.trans ⟨fun a o e n => f3 a o e (fun z => nomatch z), fun a q => .inl q⟩).less fun a q => List.mem_append_right _ q⟩
            · exact h.elim
      · exact h.elim
  rw [tO_cons, tO_cons] at main
  refine tS1_mono main fun x H1 z => tS1_mono z fun y H2 ⟨x', y', e, z⟩ => ?_
  cases e
  exact z
theorem chn_ok (C : Ctx G Γ S X) {o o' : Op} {p p' : CmpOp} {x y z : PySem.Expr} {a b c : EF} {pos : Pos} (e1 : cmpOf o = some p) (e2 : cmpOf o' = some p') (n : notSet z = true) (ha : PE X x (tE G W a)) (hb : PE X y (tE G W b)) (hc : PE X z (tE G W c)) :
    PE X (.Compare x [p, p'] [y, z] pos) (tE G W (chnE (opD o) (opD o') a b c)) := by
  obtain ⟨f, h1, r⟩ := cmp_ok C e1
  obtain ⟨f', h2, r'⟩ := cmp_ok C e2
  exact pImp (pe_chain r r' ha hb hc (by unfold lastMarks lastMarks; exact nobeh n)) fun σ H Q h => chn_logic h1 h2 h
theorem chn_okT (C : Ctx G Γ S X) {o o' : Op} {p p' : CmpOp} {x y z : PySem.Expr} {a b c : EF} {pos : Pos} (e1 : cmpOf o = some p) (e2 : cmpOf o' = some p') (n : notSet z = true) (ha : PE X x (tE G W a)) (hb : PE X y (tE G W b)) (hc : PE X z (tE G W c)) :
    PT X (.Compare x [p, p'] [y, z] pos) (tT G W (boolE (chnE (opD o) (opD o') a b c))) := by
  obtain ⟨f, h1, r⟩ := cmp_ok C e1
  obtain ⟨f', h2, r'⟩ := cmp_ok C e2
  exact ptImp (pt_chain r r' ha hb hc (by unfold lastMarks lastMarks; exact nobeh n)) fun σ H Q h => chn_logic h1 h2 (boolE_logic h)
end
end Vs
/-! V16: targets; what is walked. -/
namespace Vs
open PySem PySem.Spec L2
open PyProof.Rows hiding St
def gNames : List Nat → TGs
  | [] => gNil
  | i :: is => gCons (gName i) (gNames is)
def gT (K : PySem.W.Frag) : Tg → TG
  | .nm i => gName i
  | .tp is => gTup K is.length (gNames is)
section
variable {X : Cx} {G : Ga} {W : WX} {S : Sc} {Γ : Gam} {σ : L2.St} {H H' : Hp}
theorem RepE.setv {ρ : Env} {O T : List Addr} {i : Nat} {v : V} {d : D} (rE : RepE G H σ ρ O) (r : Rep G H v d T) (nd : (T ++ O).Nodup) (hi : i < ρ.length) :
    ∃ O', RepE G H (σ.set i (some v)) (ρ.set i (some d)) O' ∧ O'.Nodup ∧ (∀ a ∈ O', a ∈ T ++ O) := by
  obtain ⟨O2, sb, r2⟩ := rE.drop i
  have e1 : (ρ.set i none)[i]? = some none := by simp [hi]
  have r3 := r2.any i (some v) e1
  have hs : i < σ.length := by rw [← rE.len]; exact hi
  obtain ⟨O3, pm, r4⟩ := r3.put e1 (by simp [hs]) r
  rw [List.set_set] at r4
  have nd' := nd_app.mp nd
  refine ⟨O3, r4, pm.nodup_iff.mpr (nd_app.mpr ⟨nd'.1, sb.nodup nd'.2.1, fun a q z => nd'.2.2 a q (sb.subset z)⟩), fun a q => ?_⟩
  rcases List.mem_append.mp (pm.mem_iff.mp q) with z | z
  · exact List.mem_append_left _ z
  · exact List.mem_append_right _ (sb.subset z)
/-- the slots' values differ at these alone -/
structure Dif (sl pr : List Nat) (σ σ' : L2.St) : Prop where
  len : σ'.length = σ.length
  out : ∀ j, j ∉ sl → σ'[j]? = σ[j]?
  pr : ∀ j, j ∈ pr → σ'[j]? = σ[j]?
theorem setN_logic {pr : List Nat} {i : Nat} {v : V} {d : D} {ρ ρ' : Env} {O T : List Addr} (rE : RepE G H σ ρ O) (r : Rep G H v d T) (nd : (T ++ O).Nodup) (h : setN pr i d ρ = some ρ') :
    (∃ O', RepE G H (σ.set i (some v)) ρ' O' ∧ O'.Nodup ∧ (∀ a ∈ O', a ∈ T ++ O)) ∧ Dif [i] pr σ (σ.set i (some v)) ∧ i ∉ pr := by
  unfold setN at h
  split at h
  · cases h
  · rename_i np
    split at h
    · rename_i hi
      cases h
      refine ⟨rE.setv r nd hi, ⟨by simp, fun j n => ?_, fun j n => ?_⟩, ?_⟩
      · rw [List.getElem?_set_ne]; intro e; subst e; exact n List.mem_cons_self
      · rw [List.getElem?_set_ne]; intro e; subst e; exact np (by simpa using n)
      · intro z; exact np (by simpa using z)
    · cases h
theorem setAll_logic {pr : List Nat} : ∀ {is : List Nat} {ds : List D} {vs : List V} {ρ ρ' : Env} {O T : List Addr} {σ : L2.St} {Q : L2.St → Hp → Prop}, RepE G H σ ρ O → Reps G H vs ds T → (T ++ O).Nodup → setAll pr is ds ρ = some ρ' →
    (∀ σ' O', RepE G H σ' ρ' O' → O'.Nodup → (∀ a ∈ O', a ∈ T ++ O) → Dif is pr σ σ' → Q σ' H) → vs.length = is.length ∧ gNames is vs σ H Q
  | [], _, _, ρ, ρ', O, _, σ, Q, rE, .nil, nd, h, k => by
    unfold setAll at h; cases h
    exact ⟨rfl, rfl, k σ O rE nd (fun a q => q) ⟨rfl, fun _ _ => rfl, fun _ _ => rfl⟩⟩
  | i :: is, _, _, ρ, ρ', O, _, σ, Q, rE, .cons (O := T1) (O' := T2) r rs, nd, h, k => by
    unfold setAll at h
    split at h
    · rename_i ρ1 e1
      rw [List.append_assoc] at nd
      have nd' := nd_app.mp nd
      have nd2 := nd_app.mp nd'.2.1
      obtain ⟨⟨O1, rE1, n1, s1⟩, dif, _⟩ := setN_logic rE r (nd_app.mpr ⟨nd'.1, nd2.2.1, fun a q z => nd'.2.2 a q (List.mem_append_right _ z)⟩) e1
      have nd3 : (T2 ++ O1).Nodup := nd_app.mpr ⟨nd2.1, n1, fun a q z => by
        rcases List.mem_append.mp (s1 a z) with y | y
        · exact nd'.2.2 a y (List.mem_append_left _ q)
        · exact nd2.2.2 a q y⟩
      obtain ⟨l, g⟩ := setAll_logic (pr := pr) (Q := Q) rE1 rs nd3 h fun σ' O' rE' n' s' d' => by
        refine k σ' O' rE' n' (fun a q => ?_) ⟨by rw [d'.len, dif.len], fun j n => ?_, fun j n => by rw [d'.pr j n, dif.pr j n]⟩
        · rcases List.mem_append.mp (s' a q) with y | y
          · exact List.mem_append_left _ (List.mem_append_right _ y)
          · rcases List.mem_append.mp (s1 a y) with y | y
            · exact List.mem_append_left _ (List.mem_append_left _ y)
            · exact List.mem_append_right _ y
        · rw [List.mem_cons, not_or] at n
          rw [d'.out j n.2, dif.out j (by simpa using n.1)]
      exact ⟨by simp [l], _, _, rfl, g⟩
    · cases h
  | [], _, _, _, _, _, _, _, _, _, .cons _ _, _, h, _ => by unfold setAll at h; cases h
  | _ :: _, _, _, _, _, _, _, _, _, _, .nil, _, h, _ => by unfold setAll at h; cases h
theorem bind_logic {pr : List Nat} {t : Tg} {d : D} {v : V} {ρ ρ' : Env} {O T : List Addr} {Q : L2.St → Hp → Prop} (rE : RepE G H σ ρ O) (r : Rep G H v d T) (nd : (T ++ O).Nodup) (h : bindT pr t d ρ = some ρ')
    (k : ∀ σ' O', RepE G H σ' ρ' O' → O'.Nodup → (∀ a ∈ O', a ∈ T ++ O) → Dif t.sl pr σ σ' → Q σ' H) : gT G.K t v σ H Q := by
  cases t with
  | nm i =>
    obtain ⟨⟨O1, a, b, c⟩, dif, _⟩ := setN_logic rE r nd h
    exact k _ O1 a b c dif
  | tp is =>
    cases r with
    | sh r =>
      cases r with
      | tup q hs =>
        obtain ⟨a, b⟩ := setAll_logic (Q := Q) rE (Reps.to_sh hs) nd (show setAll pr is _ ρ = some ρ' from h) k
        exact ⟨_, _, rfl, q, a, b⟩
      | non => cases h
      | bl _ => cases h
      | int _ => cases h
      | str _ => cases h
      | lst _ _ => cases h
    | tp q hs =>
      obtain ⟨a, b⟩ := setAll_logic (Q := Q) rE hs nd (show setAll pr is _ ρ = some ρ' from h) k
      exact ⟨_, _, rfl, q, a, b⟩
    | ls _ _ => cases h
    | dk _ _ => cases h
    | ob _ _ _ => cases h
    | fn _ => cases h
theorem st_pg (C : Ctx G Γ S X) {fn : Str → Bool} (hf : ∀ x, fn x = true → X.fn x = true) {i : Nat} {x : Str} {pos : Pos} (h : stB S fn i x = true) : PG X (.Name x pos) (gName i) := by
  unfold stB at h
  rw [Bool.and_eq_true, decide_eq_true_eq] at h
  obtain ⟨h1, h2⟩ := h
  have nd : X.N.Nodup := by rw [C.hN]; exact C.nd
  split at h2
  · rename_i e
    exact pg_name nd (by rw [C.hN]; exact h1) (by unfold L2.Loc; rw [C.sc]; exact .inl e) (.inr (by rw [C.sc]; exact e))
  · rename_i e
    exact pg_name nd (by rw [C.hN]; exact h1) (by unfold L2.Loc; rw [C.sc]; exact .inr e) (.inl (hf x h2))
  · cases h2
theorem names_pg (C : Ctx G Γ S X) {fn : Str → Bool} (hf : ∀ x, fn x = true → X.fn x = true) : ∀ {is : List Nat} {es : List PySem.Expr}, mNames S fn is es = true → PGs X es (gNames is) ∧ (assignEach es X.env).length = is.length ∧ (assignEach es X.env).findIdx? (·.1) = none
  | [], [], _ => ⟨pgs_nil, rfl, rfl⟩
  | i :: is, .Name x p :: es, h => by
    unfold mNames at h
    rw [Bool.and_eq_true] at h
    obtain ⟨a, b, c⟩ := names_pg C hf h.2
    refine ⟨pgs_cons (st_pg C hf h.1) a rfl, ?_, ?_⟩
    · show ((false, assign (.Name x p) X.env) :: assignEach es X.env).length = _
      simp [b]
    · show ((false, assign (.Name x p) X.env) :: assignEach es X.env).findIdx? _ = _
      rw [List.findIdx?_cons, if_neg (by simp), c]; rfl
  | [], _ :: _, h => by unfold mNames at h; cases h
  | _ :: _, [], h => by unfold mNames at h; cases h
theorem tg_pg (C : Ctx G Γ S X) {fn : Str → Bool} (hf : ∀ x, fn x = true → X.fn x = true) {t : Tg} {e : PySem.Expr} (h : mTg S fn t e = true) : PG X e (gT G.K t) := by
  unfold mTg at h
  split at h
  · exact st_pg C hf h
  · obtain ⟨a, b, c⟩ := names_pg C hf h
    have := pg_tup (pos := by assumption) (k := by assumption) C.calm a b c
    rw [← C.hG] at this
    exact this
  · cases h
/-! ### what is walked -/
def YD (G : Ga) (ps : List PyData) : Nat → Hp → V → Hp → Prop := fun i H x H' => Frm [] H H' ∧ ∃ p, ps[i]? = some p ∧ DpF G.K H' x p
def itR (G : Ga) (k : ItK) : List V → Hp → (It → Hp → Prop) → Prop := fun vs H R => ∃ ds ps, RVs G H vs ds ∧ itF k ds = some ps ∧ ∀ J, Walk J ps.length (fun H => RVs G H vs ds) (YD G ps) → R J H
def tI (G : Ga) (W : WX) (k : ItK) (ops : List Sop) : TI := fun σ H R => tO G W ops σ H fun vs H1 => itR G k vs H1 R
theorem piImp {tg it : PySem.Expr} {w w' : TI} (h : PI X tg it w) (i : ∀ σ H R, w' σ H R → w σ H R) : PI X tg it w' := ⟨fun pins s σ H R I q => h.run pins s σ H R I (i σ H R q)⟩
theorem frm_nil : Frm [] H H := fun _ _ e _ => e
theorem rng_get {lo : Int} {n i : Nat} (h : i < n) : (rngD lo n)[i]? = some (.int (lo + (i : Nat))) := by
  unfold rngD
  simp [h]
theorem rng_len {lo : Int} {n : Nat} : (rngD lo n).length = n := by unfold rngD; simp
theorem enum_len : ∀ {l : List PyData} {i : Int}, (enumD i l).length = l.length
  | [], _ => rfl
  | _ :: l, i => congrArg (· + 1) enum_len
theorem enum_get : ∀ {l : List PyData} {i : Int} {k : Nat} {p : PyData}, l[k]? = some p → (enumD i l)[k]? = some (.tuple [.int (i + (k : Nat)), p])
  | [], _, k, _, h => by simp at h
  | _ :: l, i, 0, _, h => by simp at h; subst h; simp [enumD]
  | _ :: l, i, k + 1, p, h => by
    have := enum_get (l := l) (i := i + 1) (k := k) (by simpa using h)
    simp only [enumD, List.getElem?_cons_succ, this]
    congr 4
    omega
theorem zip_len : ∀ {l m : List PyData}, (zipD l m).length = min l.length m.length
  | [], _ => by unfold zipD; simp
  | _ :: _, [] => by unfold zipD; simp
  | _ :: l, _ :: m => by
    unfold zipD
    simp only [List.length_cons, zip_len]
    omega
theorem zip_get : ∀ {l m : List PyData} {k : Nat} {p q : PyData}, l[k]? = some p → m[k]? = some q → (zipD l m)[k]? = some (.tuple [p, q])
  | [], _, k, _, _, h, _ => by simp at h
  | _ :: _, [], k, _, _, _, h => by simp at h
  | _ :: l, _ :: m, 0, _, _, h, h' => by simp at h h'; subst h h'; simp [zipD]
  | _ :: l, _ :: m, k + 1, p, q, h, h' => by
    simp only [zipD, List.getElem?_cons_succ]
    exact zip_get (by simpa using h) (by simpa using h')
theorem RVs.seq1 {v : V} {d : D} {k : SK} {l : List PyData} (h : RVs G H [v] [d]) (e : d.seq = some (k, l)) : ∃ a xs, v = .ref a ∧ SqK G.K H a xs k ∧ DpFs G.K H xs l := by
  cases h with
  | cons r _ => exact r.seq e
theorem RVs.seq2 {v : V} {d e : D} {vs : List V} {ds : List D} {k : SK} {l : List PyData} (h : RVs G H (v :: vs) (e :: ds)) (q : e.seq = some (k, l)) : ∃ a xs, v = .ref a ∧ SqK G.K H a xs k ∧ DpFs G.K H xs l := by
  cases h with
  | cons r _ => exact r.seq q
/-- a new pair of shared things -/
theorem YD.pair {ps : List PyData} {i : Nat} {T : Addr} {x y : V} {p q : PyData} (hT : H T = none) (hx : DpF G.K H x p) (hy : DpF G.K H y q) (e : ps[i]? = some (.tuple [p, q])) : YD G ps i H (.ref T) (upd H T (.tup [x, y])) :=
  ⟨frm_new hT, _, e, .tup (SqT.of upd_same) (.cons (hx.fr (frm_new hT) mut_nil) (.cons (hy.fr (frm_new hT) mut_nil) .nil))⟩
theorem walkL {a : Addr} {d : D} {l : List PyData} (e : d.seq = some (.lst, l)) : Walk (Itl G.K a) l.length (fun H => RVs G H [.ref a] [d]) (YD G l) := by
  refine ⟨fun i H hi q => ?_, fun H q => ?_, fun i H x H' hi q y => ?_⟩
  · obtain ⟨b, xs, e1, s, m⟩ := q.seq1 e
    cases e1
    obtain ⟨v, ev, _⟩ := m.get (List.getElem?_eq_getElem hi)
    exact ⟨xs, v, s, ev⟩
  · obtain ⟨b, xs, e1, s, m⟩ := q.seq1 e
    cases e1
    exact ⟨xs, s, Nat.le_of_eq m.len⟩
  · obtain ⟨b, xs, e1, s, m⟩ := q.seq1 e
    cases e1
    obtain ⟨v, ev, dv⟩ := m.get (List.getElem?_eq_getElem hi)
    obtain ⟨rfl, y⟩ := y
    have := y xs s
    rw [ev] at this; cases this
    exact ⟨frm_nil, _, List.getElem?_eq_getElem hi, dv⟩
theorem walkT {a : Addr} {d : D} {l : List PyData} (e : d.seq = some (.tup, l)) : Walk (Itt G.K a) l.length (fun H => RVs G H [.ref a] [d]) (YD G l) := by
  refine ⟨fun i H hi q => ?_, fun H q => ?_, fun i H x H' hi q y => ?_⟩
  · obtain ⟨b, xs, e1, s, m⟩ := q.seq1 e
    cases e1
    obtain ⟨v, ev, _⟩ := m.get (List.getElem?_eq_getElem hi)
    exact ⟨xs, v, s, ev⟩
  · obtain ⟨b, xs, e1, s, m⟩ := q.seq1 e
    cases e1
    exact ⟨xs, s, Nat.le_of_eq m.len⟩
  · obtain ⟨b, xs, e1, s, m⟩ := q.seq1 e
    cases e1
    obtain ⟨v, ev, dv⟩ := m.get (List.getElem?_eq_getElem hi)
    obtain ⟨rfl, y⟩ := y
    have := y xs s
    rw [ev] at this; cases this
    exact ⟨frm_nil, _, List.getElem?_eq_getElem hi, dv⟩
theorem walkR {lo : Int} {n : Nat} {vs : List V} {ds : List D} : Walk (Itr lo n) (rngD lo n).length (fun H => RVs G H vs ds) (YD G (rngD lo n)) := by
  refine ⟨fun i H hi q => ?_, fun H q => ?_, fun i H x H' hi q y => ?_⟩
  · rw [rng_len] at hi; exact hi
  · show n ≤ _; rw [rng_len]; exact Nat.le_refl _
  · obtain ⟨rfl, rfl⟩ := y
    rw [rng_len] at hi
    exact ⟨frm_nil, _, rng_get hi, .int _⟩
theorem pi_seq (C : Ctx G Γ S X) {tg x : PySem.Expr} {op : Sop} (h : PE X x (tS1 G W op)) : PI X tg x (tI G W .seq [op]) := by
  refine ⟨fun pins s σ H R I z => ?_⟩
  unfold tI at z
  rw [tO_cons] at z
  refine thn (h.run pins s σ H _ I z) fun u s1 ⟨v, H1, I1, r1, ds, ps, rv, e, k⟩ => ?_
  obtain ⟨d, T, rfl, r⟩ := rv.one
  simp only [itF] at e
  cases e1 : d.seq with
  | none => rw [e1] at e; cases e
  | some q =>
    obtain ⟨kk, l⟩ := q
    rw [e1] at e; cases e
    obtain ⟨a, xs, rfl, sq, _⟩ := r.seq e1
    cases r1
    cases kk with
    | lst =>
      obtain ⟨its, rv, p, hz⟩ := I1.list (C.hG ▸ sq)
      refine wpAny_pyIter_list p.isList ?_
      refine ⟨s1.heap.objs.size, [s1.heap.objs.size], _, _, H1, rfl, I1.kept (t' := s1.toks) fun b o e => Heap.get?_push_of_some _ e, turn_list a _, ⟨_, Heap.get?_push_size _ rfl, rfl, rfl⟩, fun b hb => ?_, C.hG ▸ k _ (walkL e1)⟩
      have e : b = s1.heap.objs.size := by simpa using hb
      subst e
      exact I1.fpOk (Nat.le_refl _) (I1.hok.fresh (Nat.le_refl _))
    | tup =>
      obtain ⟨its, rv, p, hz⟩ := I1.tuple (C.hG ▸ sq)
      refine wpAny_pyIter_tuple (show s1.heap.IsTuple a its.toArray from p) ?_
      refine ⟨s1.heap.objs.size, [s1.heap.objs.size], _, _, H1, rfl, I1.kept (t' := s1.toks) fun b o e => Heap.get?_push_of_some _ e, turn_tuple a _, ⟨_, Heap.get?_push_size _ rfl, rfl, rfl⟩, fun b hb => ?_, C.hG ▸ k _ (walkT e1)⟩
      have e : b = s1.heap.objs.size := by simpa using hb
      subst e
      exact I1.fpOk (Nat.le_refl _) (I1.hok.fresh (Nat.le_refl _))
theorem rng_inv {e : PySem.Expr} {xs : List PySem.Expr} (h : itArgs S .rng e = some xs) : ∃ f p a pos, e = .Call (.Name f p) [a] [] pos ∧ f = "range" ∧ xs = [a] ∧ bltB S "range" = true := by
  unfold itArgs at h
  split at h
  all_goals first | contradiction | skip
  all_goals (split at h <;> try contradiction)
  rename_i hh
  rw [Bool.and_eq_true, decide_eq_true_eq] at hh
  obtain ⟨rfl, hb⟩ := hh
  cases h
  exact ⟨_, _, _, _, rfl, rfl, rfl, hb⟩
theorem rng2_inv {e : PySem.Expr} {xs : List PySem.Expr} (h : itArgs S .rng2 e = some xs) : ∃ f p a b pos, e = .Call (.Name f p) [a, b] [] pos ∧ f = "range" ∧ xs = [a, b] ∧ bltB S "range" = true := by
  unfold itArgs at h
  split at h
  all_goals first | contradiction | skip
  all_goals (split at h <;> try contradiction)
  rename_i hh
  rw [Bool.and_eq_true, decide_eq_true_eq] at hh
  obtain ⟨rfl, hb⟩ := hh
  cases h
  exact ⟨_, _, _, _, _, rfl, rfl, rfl, hb⟩
theorem enum_inv {e : PySem.Expr} {xs : List PySem.Expr} (h : itArgs S .enum e = some xs) : ∃ f p a pos, e = .Call (.Name f p) [a] [] pos ∧ f = "enumerate" ∧ xs = [a] ∧ bltB S "enumerate" = true := by
  unfold itArgs at h
  split at h
  all_goals first | contradiction | skip
  all_goals (split at h <;> try contradiction)
  rename_i hh
  rw [Bool.and_eq_true, decide_eq_true_eq] at hh
  obtain ⟨rfl, hb⟩ := hh
  cases h
  exact ⟨_, _, _, _, rfl, rfl, rfl, hb⟩
theorem zip_inv {e : PySem.Expr} {xs : List PySem.Expr} (h : itArgs S .zip e = some xs) : ∃ f p a b pos, e = .Call (.Name f p) [a, b] [] pos ∧ f = "zip" ∧ xs = [a, b] ∧ bltB S "zip" = true := by
  unfold itArgs at h
  split at h
  all_goals first | contradiction | skip
  all_goals (split at h <;> try contradiction)
  rename_i hh
  rw [Bool.and_eq_true, decide_eq_true_eq] at hh
  obtain ⟨rfl, hb⟩ := hh
  cases h
  exact ⟨_, _, _, _, _, rfl, rfl, rfl, hb⟩
theorem itF_rng {ds : List D} {ps : List PyData} (h : itF .rng ds = some ps) : ∃ n : Int, ds = [.sh (.int n)] ∧ n < 16777216 ∧ -16777216 < n ∧ ps = rngD 0 n.toNat := by
  unfold itF at h
  split at h
  all_goals first | contradiction | skip
  split at h
  · rename_i hh; cases h; exact ⟨_, rfl, hh.1, hh.2, rfl⟩
  · cases h
theorem itF_rng2 {ds : List D} {ps : List PyData} (h : itF .rng2 ds = some ps) : ∃ a b : Int, ds = [.sh (.int a), .sh (.int b)] ∧ (a < 16777216 ∧ -16777216 < a) ∧ (b < 16777216 ∧ -16777216 < b) ∧ ps = rngD a (b - a).toNat := by
  unfold itF at h
  split at h
  all_goals first | contradiction | skip
  split at h
  · rename_i hh; cases h; exact ⟨_, _, rfl, hh.1, hh.2, rfl⟩
  · cases h
theorem itF_enum {ds : List D} {ps : List PyData} (h : itF .enum ds = some ps) : ∃ d l, ds = [d] ∧ d.seq = some (.lst, l) ∧ ps = enumD 0 l := by
  unfold itF at h
  split at h
  all_goals first | contradiction | skip
  split at h
  · rename_i hh; cases h; exact ⟨_, _, rfl, hh, rfl⟩
  · cases h
theorem itF_zip {ds : List D} {ps : List PyData} (h : itF .zip ds = some ps) : ∃ d e l m k, ds = [d, e] ∧ d.seq = some (k, l) ∧ e.seq = some (k, m) ∧ ps = zipD l m := by
  unfold itF at h
  split at h
  all_goals first | contradiction | skip
  split at h
  · rename_i h1 h2; cases h; exact ⟨_, _, _, _, _, rfl, h1, h2, rfl⟩
  · rename_i h1 h2; cases h; exact ⟨_, _, _, _, _, rfl, h1, h2, rfl⟩
  · cases h
theorem walkE {a : Addr} {d : D} {l : List PyData} (e : d.seq = some (.lst, l)) : Walk (Ite G.K a) (enumD 0 l).length (fun H => RVs G H [.ref a] [d]) (YD G (enumD 0 l)) := by
  refine ⟨fun i H hi q => ?_, fun H q => ?_, fun i H x H' hi q y => ?_⟩
  all_goals (obtain ⟨b, xs, e1, s, m⟩ := q.seq1 e; cases e1)
  · rw [enum_len] at hi
    obtain ⟨v, ev, _⟩ := m.get (List.getElem?_eq_getElem hi)
    exact ⟨xs, v, s, ev⟩
  · exact ⟨xs, s, Nat.le_of_eq (by rw [enum_len]; exact m.len)⟩
  · rw [enum_len] at hi
    obtain ⟨v, ev, dv⟩ := m.get (List.getElem?_eq_getElem hi)
    obtain ⟨T, x', h1, h2, h3, h4⟩ := y
    have := h4 xs s
    rw [ev] at this; cases this
    subst h1 h3
    exact YD.pair h2 (.int _) dv (by rw [enum_get (List.getElem?_eq_getElem hi)]; simp)
theorem RVs.pair {v u : V} {d e : D} (h : RVs G H [v, u] [d, e]) : ∃ T T', Rep G H v d T ∧ Rep G H u e T' := by
  cases h with | cons a b => cases b with | cons c f => exact ⟨_, _, a, c⟩
theorem walkZ {a b : Addr} {d e : D} {l m : List PyData} (h1 : d.seq = some (.lst, l)) (h2 : e.seq = some (.lst, m)) : Walk (Itz G.K a b) (zipD l m).length (fun H => RVs G H [.ref a, .ref b] [d, e]) (YD G (zipD l m)) := by
  refine ⟨fun i H hi q => ?_, fun H q => ?_, fun i H x H' hi q y => ?_⟩
  all_goals (obtain ⟨_, _, r1, r2⟩ := q.pair; obtain ⟨b1, xs, e1, s, n⟩ := r1.seq h1; obtain ⟨b2, ys, e2, s', n'⟩ := r2.seq h2; cases e1; cases e2)
  · rw [zip_len] at hi
    obtain ⟨v, ev, _⟩ := n.get (List.getElem?_eq_getElem (i := i) (by omega))
    obtain ⟨u, eu, _⟩ := n'.get (List.getElem?_eq_getElem (i := i) (by omega))
    exact ⟨xs, ys, v, u, s, s', ev, eu⟩
  · refine ⟨xs, ys, s, s', ?_⟩
    rw [zip_len, n.len, n'.len]; omega
  · rw [zip_len] at hi
    have el := List.getElem?_eq_getElem (l := l) (i := i) (by omega)
    have em := List.getElem?_eq_getElem (l := m) (i := i) (by omega)
    obtain ⟨v, ev, dv⟩ := n.get el
    obtain ⟨u, eu, du⟩ := n'.get em
    obtain ⟨T, x', y', z1, z2, z3, z4, z5⟩ := y
    have t1 := z4 xs s
    have t2 := z5 ys s'
    rw [ev] at t1; cases t1
    rw [eu] at t2; cases t2
    subst z1 z3
    exact YD.pair z2 dv du (zip_get el em)
theorem walkZT {a b : Addr} {d e : D} {l m : List PyData} (h1 : d.seq = some (.tup, l)) (h2 : e.seq = some (.tup, m)) : Walk (RZ.ItzT G.K a b) (zipD l m).length (fun H => RVs G H [.ref a, .ref b] [d, e]) (YD G (zipD l m)) := by
  refine ⟨fun i H hi q => ?_, fun H q => ?_, fun i H x H' hi q y => ?_⟩
  all_goals (obtain ⟨_, _, r1, r2⟩ := q.pair; obtain ⟨b1, xs, e1, s, n⟩ := r1.seq h1; obtain ⟨b2, ys, e2, s', n'⟩ := r2.seq h2; cases e1; cases e2)
  · rw [zip_len] at hi
    obtain ⟨v, ev, _⟩ := n.get (List.getElem?_eq_getElem (i := i) (by omega))
    obtain ⟨u, eu, _⟩ := n'.get (List.getElem?_eq_getElem (i := i) (by omega))
    exact ⟨xs, ys, v, u, s, s', ev, eu⟩
  · refine ⟨xs, ys, s, s', ?_⟩
    rw [zip_len, n.len, n'.len]; omega
  · rw [zip_len] at hi
    have el := List.getElem?_eq_getElem (l := l) (i := i) (by omega)
    have em := List.getElem?_eq_getElem (l := m) (i := i) (by omega)
    obtain ⟨v, ev, dv⟩ := n.get el
    obtain ⟨u, eu, du⟩ := n'.get em
    obtain ⟨T, x', y', z1, z2, z3, z4, z5⟩ := y
    have t1 := z4 xs s
    have t2 := z5 ys s'
    rw [ev] at t1; cases t1
    rw [eu] at t2; cases t2
    subst z1 z3
    exact YD.pair z2 dv du (zip_get el em)
theorem RVs.len : ∀ {vs : List V} {ds : List D}, RVs G H vs ds → vs.length = ds.length
  | _, _, .nil => rfl
  | _, _, .cons _ h => congrArg (· + 1) (RVs.len h)
theorem pi_ok (C : Ctx G Γ S X) {k : ItK} {tg e : PySem.Expr} {xs : List PySem.Expr} {ops : List Sop} (h : itArgs S k e = some xs) (ps : POs X G W xs ops) (ht : itTup k = true → isTup tg = true) : PI X tg e (tI G W k ops) := by
  cases k with
  | seq =>
    cases h
    cases ps with
    | cons a n r => cases r; exact pi_seq C a
  | rng =>
    obtain ⟨f, p, a, pos, rfl, rfl, rfl, hb⟩ := rng_inv h
    obtain ⟨g1, g2, g3, g4⟩ := C.blt hb
    cases ps with
    | cons pa n r =>
    cases r
    refine piImp (pi_range1 g1 g4 (POs.pa (.cons pa n .nil)) (star1 n)) fun σ H R z => tO_mono z fun vs H1 ⟨ds, ps, rv, e, k⟩ => ?_
    obtain ⟨j, rfl, j1, j2, rfl⟩ := itF_rng e
    obtain ⟨v, T, rfl, r⟩ := rv.of1
    cases r.int_of
    exact ⟨j, rfl, by omega, by omega, k _ walkR⟩
  | rng2 =>
    obtain ⟨f, p, a, b, pos, rfl, rfl, rfl, hb⟩ := rng2_inv h
    obtain ⟨g1, g2, g3, g4⟩ := C.blt hb
    cases ps with
    | cons pa n r =>
    cases r with
    | cons pb n' r =>
    cases r
    refine piImp (pi_range2 g1 g4 (POs.pa (.cons pa n (.cons pb n' .nil))) (by rw [star1 n, star1 n']; rfl) (star1 n')) fun σ H R z => tO_mono z fun vs H1 ⟨ds, ps, rv, e, k⟩ => ?_
    obtain ⟨i, j, rfl, j1, j2, rfl⟩ := itF_rng2 e
    obtain ⟨v, u, T, T', rfl, r, r'⟩ := rv.of2
    cases r.int_of
    cases r'.int_of
    exact ⟨i, j, rfl, ⟨by omega, by omega, by omega, by omega⟩, k _ walkR⟩
  | enum =>
    obtain ⟨f, p, a, pos, rfl, rfl, rfl, hb⟩ := enum_inv h
    obtain ⟨g1, g2, g3, g4⟩ := C.blt hb
    cases ps with
    | cons pa n r =>
    cases r
    have ht := ht rfl
    unfold isTup at ht
    split at ht
    · refine piImp (pi_enum g1 g4 (POs.pa (.cons pa n .nil)) (star1 n)) fun σ H R z => tO_mono z fun vs H1 ⟨ds, ps, rv, e, k⟩ => ?_
      obtain ⟨d, l, rfl, e1, rfl⟩ := itF_enum e
      obtain ⟨v, T, rfl, r⟩ := rv.of1
      obtain ⟨b, xs, rfl, s, m⟩ := r.seq e1
      exact ⟨b, xs, rfl, C.hG ▸ s, C.hG ▸ k _ (walkE e1)⟩
    · cases ht
  | zip =>
    obtain ⟨f, p, a, b, pos, rfl, rfl, rfl, hb⟩ := zip_inv h
    obtain ⟨g1, g2, g3, g4⟩ := C.blt hb
    cases ps with
    | cons pa n r =>
    cases r with
    | cons pb n' r =>
    cases r
    have ht := ht rfl
    unfold isTup at ht
    split at ht
    · refine piImp (RZ.pi_zipA g1 g4 (POs.pa (.cons pa n (.cons pb n' .nil))) (star1 n) (POs.plain _ _ (.cons pb n' .nil))) fun σ H R z => tO_mono z fun vs H1 ⟨ds, ps, rv, e, k⟩ => ?_
      obtain ⟨d, e', l, m, kk, rfl, e1, e2, rfl⟩ := itF_zip e
      obtain ⟨v, u, T, T', rfl, r, r'⟩ := rv.of2
      obtain ⟨b, xs, rfl, s, _⟩ := r.seq e1
      obtain ⟨b', xs', rfl, s', _⟩ := r'.seq e2
      cases kk with
      | lst => exact ⟨_, _, _, _, rfl, .inl ⟨C.hG ▸ s, C.hG ▸ s', C.hG ▸ k _ (walkZ e1 e2)⟩⟩
      | tup => exact ⟨_, _, _, _, rfl, .inr ⟨C.hG ▸ s, C.hG ▸ s', C.hG ▸ k _ (walkZT e1 e2)⟩⟩
    · cases ht
end
end Vs
/-! V17: comprehensions. -/
namespace Vs
open PySem PySem.Spec L2
open PyProof.Rows hiding St
abbrev W0 : WX := fun _ _ _ _ => False
section
variable {X : Cx} {G : Ga} {W : WX} {S : Sc} {Γ : Gam} {σ : L2.St} {H H' : Hp}
theorem Ctx.blk (C : Ctx G Γ S X) (s : Shared) (H : Hp) (scope : Scope) (c : Addr) (cl : List (Str × Addr)) (fp : List Addr) : Ctx G Γ (S.blk scope) (X.blk s H scope (compEnvC scope cl c X.env) fp) where
  hG := C.hG
  sc := by show relS scope X.env.scope = relB scope S.sc; rw [C.sc]; rfl
  hN := C.hN
  nd := C.nd
  calm := C.calm
  gd := C.gd
  un := C.un
  con := C.con
  fn := fun f dn e => by
    obtain ⟨a, fd, ps, k, h⟩ := (C.fn f dn e).to
    exact ⟨a, fd, ps, k, h⟩
  bl := C.bl
theorem ovl_ok : ∀ {os : List Ov} {vs : List V} {T : List Addr} {ds : List D}, RepO G H σ vs os T → ovs os [] = some ds → RVs G H vs ds
  | _, _, _, _, .nil, e => by unfold ovs at e; cases e; exact .nil
  | _, _, _, _, .d (os := os) r hs, e => by
    unfold ovs at e
    cases e2 : ovs os [] with
    | none => rw [e2] at e; cases e
    | some l => rw [e2] at e; cases e; exact .cons r (ovl_ok hs e2)
  | _, _, _, _, .v (i := i) (os := os) q hs, e => by
    unfold ovs at e
    split at e
    · rename_i d l e1 e2
      simp at e1
    · cases e
  | _, _, _, _, .p (os := os) q r va g hs, e => by
    unfold ovs at e
    split at e
    · rename_i d l e1 e2
      cases e
      obtain ⟨u, T', a, b, _⟩ := r.place e1
      cases a.inj va
      exact .cons b (ovl_ok hs e2)
    · cases e
theorem RepE.wipe {ρ : Env} : ∀ {O : List Addr} (vs : List Nat), RepE G H σ ρ O → ∃ O', O'.Sublist O ∧ RepE G H (L2.wipe σ vs) (wipeE ρ vs) O'
  | O, [], h => ⟨O, .refl _, h⟩
  | O, v :: vs, h => by
    obtain ⟨O1, s1, r1⟩ := RepE.wipe vs h
    obtain ⟨O2, s2, r2⟩ := r1.drop v
    refine ⟨O2, s2.trans s1, ?_⟩
    show RepE G H ((L2.wipe σ vs).set v none) ((wipeE ρ vs).set v none) O2
    by_cases hv : v < (wipeE ρ vs).length
    · exact r2.any v none (by simp [hv])
    · rw [List.set_eq_of_length_le (by rw [← r1.len]; omega)]; exact r2
theorem wipeE_len {ρ : Env} : ∀ vs : List Nat, (wipeE ρ vs).length = ρ.length
  | [] => rfl
  | v :: vs => by unfold wipeE; rw [List.length_set, wipeE_len vs]
theorem wipeE_none {ρ : Env} {i : Nat} {d : D} : ∀ {vs : List Nat}, i ∈ vs → (wipeE ρ vs)[i]? ≠ some (some d)
  | v :: vs, h => by
    intro e
    unfold wipeE at e
    by_cases hv : v = i
    · subst hv
      by_cases hl : v < (wipeE ρ vs).length
      · rw [List.getElem?_set_self hl] at e; cases e
      · rw [List.getElem?_eq_none (by simpa using hl)] at e; cases e
    · rw [List.getElem?_set_ne hv] at e
      rcases List.mem_cons.mp h with rfl | h
      · exact hv rfl
      · exact wipeE_none h e
theorem RepE.unwipe {ρ : Env} {O : List Addr} : ∀ {vs : List Nat}, RepE G H (L2.wipe σ vs) ρ O → (∀ i ∈ vs, ∀ d, ρ[i]? ≠ some (some d)) → RepE G H σ ρ O
  | [], h, _ => h
  | v :: vs, h, n => by
    refine RepE.unwipe (vs := vs) ?_ fun i q => n i (List.mem_cons_of_mem _ q)
    have h : RepE G H ((L2.wipe σ vs).set v none) ρ O := h
    by_cases hv : v < (L2.wipe σ vs).length
    · have hl : v < ρ.length := by rw [h.len]; simpa using hv
      have e : ρ[v]? = some none := by
        rw [List.getElem?_eq_getElem hl]
        cases q : ρ[v] with
        | none => rfl
        | some d => exact absurd (by rw [List.getElem?_eq_getElem hl, q]) (n v List.mem_cons_self d)
      have := h.any v (L2.wipe σ vs)[v] e
      rw [List.set_set] at this
      rw [show (L2.wipe σ vs).set v ((L2.wipe σ vs)[v]) = L2.wipe σ vs from List.set_getElem_self ..] at this
      exact this
    · rw [List.set_eq_of_length_le (by omega)] at h; exact h
theorem wipe_in {i : Nat} : ∀ {vs : List Nat}, i ∈ vs → i < σ.length → (L2.wipe σ vs)[i]? = some none
  | v :: vs, h, hl => by
    show ((L2.wipe σ vs).set v none)[i]? = some none
    by_cases hv : v = i
    · subst hv
      rw [List.getElem?_set_self (by rw [wipe_length]; exact hl)]
    · rw [List.getElem?_set_ne hv]
      rcases List.mem_cons.mp h with rfl | h
      · exact absurd rfl hv
      · exact wipe_in h hl
theorem wipe_eq {σ σ' : L2.St} {vs : List Nat} (hl : σ'.length = σ.length) (h : ∀ j, j ∉ vs → σ'[j]? = σ[j]?) : L2.wipe σ' vs = L2.wipe σ vs := by
  refine List.ext_getElem? fun j => ?_
  by_cases hj : j ∈ vs
  · by_cases hk : j < σ.length
    · rw [wipe_in hj hk, wipe_in hj (by omega)]
    · rw [List.getElem?_eq_none (by rw [wipe_length]; omega), List.getElem?_eq_none (by rw [wipe_length]; omega)]
  · rw [wipe_out hj, wipe_out hj, h j hj]
theorem wipe_wipe {σ' : L2.St} {vs : List Nat} (h : ∀ j, j ∉ vs → σ'[j]? = (L2.wipe σ vs)[j]?) (hl : σ'.length = (L2.wipe σ vs).length) : L2.wipe σ' vs = L2.wipe σ vs :=
  wipe_eq (by rw [hl, wipe_length]) fun j n => by rw [h j n, wipe_out n]
/-- what a comprehension's loop keeps -/
structure LcI (G : Ga) (σ : L2.St) (own : List Nat) (vs : List V) (os : List Ov) (T O2 : List Addr) (H2 : Hp) (D : Addr) (H : Hp) (ρ : Env) (acc : List Vs.D) : Prop where
  to : ∃ O xs TD, RepE G H (L2.wipe σ own) ρ O ∧ H D = some (.lst xs) ∧ Reps G H xs acc TD ∧ RepO G H σ vs os T ∧ (T ++ ((D :: TD) ++ O)).Nodup ∧ Go (T ++ O2) H2 (T ++ ((D :: TD) ++ O)) H
  no : ∀ i ∈ own, ∀ d, ρ[i]? ≠ some (some d)
theorem lc_logic {own : List Nat} {t : Tg} {k : ItK} {ops : List Sop} {test : TF} {f : EF} {Q : VK} (ht : ∀ i ∈ t.sl, i ∈ own) (h : tE G W (lcE own t k ops test f) σ H Q) :
    tLc (tI G W k ops) (gT G.K t) (tT G W0 test) (tE G W0 f) own σ H Q := by
  obtain ⟨ρ, O, rE, nd, h⟩ := h
  unfold tLc tI
  refine run_ops ops ρ O rE nd ?_
  unfold OpsR
  unfold lcE at h
  cases er : runO ops ρ with
  | no => rw [er] at h; exact h.elim
  | ex x ρ' => rw [er] at h; exact h
  | ok q =>
  obtain ⟨os, ρ2⟩ := q
  rw [er] at h
  intro vs H2 O2 T rE2 rO nd2 go
  simp only [Res.bind] at h
  cases e1 : ovs os [] with
  | none => simp only [e1] at h
  | some ds =>
  simp only [e1] at h
  cases e2 : itF k ds with
  | none => simp only [e2] at h
  | some ps =>
  simp only [e2] at h
  cases e3 : lcL own t test f ps (wipeE ρ2 own) [] with
  | none => simp only [e3] at h
  | some z =>
  simp only [e3] at h
  refine ⟨ds, ps, ovl_ok rO e1, e2, fun J w D hD => ?_⟩
  refine lc_it w (fun i H => ∃ ρ' acc, LcI G σ own vs os T O2 H2 D H ρ' acc ∧ lcL own t test f (ps.drop i) ρ' acc = some z) ?_ ?_ ?_ ?_
  · obtain ⟨Ow, sw, rw'⟩ := rE2.wipe own
    have f := frm_new (o := .lst []) hD
    refine ⟨_, [], ⟨⟨Ow, [], [], rw'.fr (S := []) f mut_nil (fun _ _ z => nomatch z), upd_same, .nil, rO.fr (S := []) f mut_nil (fun _ _ z => nomatch z), ?_, ?_⟩, fun i hi d => wipeE_none hi⟩, by simpa using e3⟩
    · have nd' := nd_app.mp nd2
      refine nd_app.mpr ⟨nd'.1, List.nodup_cons.mpr ⟨fun z => ?_, sw.nodup nd'.2.1⟩, fun a q z => ?_⟩
      · obtain ⟨o, e⟩ := rE2.mut.some D (sw.subset (by simpa using z))
        rw [hD] at e; cases e
      · rcases List.mem_cons.mp z with rfl | z
        · obtain ⟨o, e⟩ := rO.mut.some a q
          rw [hD] at e; cases e
        · exact nd'.2.2 a q (sw.subset (by simpa using z))
    · refine (Go.new hD).less fun x q => ?_
      rcases List.mem_append.mp q with q | q
      · exact List.mem_cons_of_mem _ (List.mem_append_left _ q)
      · rcases List.mem_cons.mp q with rfl | q
        · exact List.mem_cons_self
        · exact List.mem_cons_of_mem _ (List.mem_append_right _ (sw.subset (by simpa using q)))
  · rintro i H _ ⟨ρ', acc, I, _⟩
    obtain ⟨_, _, _, _, _, _, r, _⟩ := I.to
    exact ovl_ok r e1
  · rintro i x H5 H6 hi ⟨ρ', acc, I, el⟩ ⟨fr, p, ep, dp⟩
    obtain ⟨O5, xs, TD, rE5, hDx, rA, rO5, nd5, go5⟩ := I.to
    have ed : ps.drop i = p :: ps.drop (i + 1) := by
      rw [List.getElem?_eq_getElem hi] at ep; cases ep
      exact List.drop_eq_getElem_cons hi
    rw [ed] at el
    unfold lcL at el
    have nL := nd_app.mp nd5
    have nR := nd_app.mp nL.2.1
    cases e4 : bindT [] t (.sh p) ρ' with
    | none => simp only [e4] at el; cases el
    | some ρ1 =>
    simp only [e4] at el
    have rE6 := rE5.fr (S := []) fr mut_nil fun _ _ z => nomatch z
    refine bind_logic rE6 (.sh dp) (by simpa using nR.2.1) e4 fun σ2 O7 rE7 nd7 sub7 dif => ?_
    have ew : L2.wipe σ2 own = L2.wipe σ own := wipe_wipe (fun j n => dif.out j fun q => n (ht j q)) dif.len
    refine ⟨ew, ρ1, O7, rE7, nd7, ?_⟩
    have go6 : Go O5 H5 O7 H6 := ⟨fun a o e _ => fr a o e (fun z => nomatch z), fun a q => .inl (by simpa using sub7 a q)⟩
    -- what is held beside is carried over
    have stand : ∀ {O9 : List Addr} {H9 : Hp} {ρ9 : Env} (Ty : List Addr), RepE G H9 σ2 ρ9 O9 → (Ty ++ O9).Nodup → Go O5 H5 (Ty ++ O9) H9 → H9 D = some (.lst xs) ∧ Reps G H9 xs acc TD ∧ RepO G H9 σ vs os T ∧ (T ++ ((D :: TD) ++ (Ty ++ O9))).Nodup ∧ Go (T ++ O2) H2 (T ++ ((D :: TD) ++ (Ty ++ O9))) H9 := by
      intro O9 H9 ρ9 Ty r9 n9 g9
      have m5 := rE5.mut
      have d1 : ∀ a ∈ T, a ∉ O5 := fun a q z => nL.2.2 a q (List.mem_append_right _ z)
      have d2 : ∀ a ∈ D :: TD, a ∉ O5 := fun a q z => nR.2.2 a q z
      have mL : MutA H5 (T ++ (D :: TD)) := MutA.app rO5.mut (fun a q => by
        rcases List.mem_cons.mp q with rfl | q
        · rw [hDx]; trivial
        · exact rA.mut a q)
      have kp := g9.keep (T := T ++ (D :: TD)) fun a q => ⟨fun z => (List.mem_append.mp q).elim (fun y => d1 a y z) fun y => d2 a y z, mL.some a q⟩
      refine ⟨g9.frm _ _ hDx (d2 D List.mem_cons_self), rA.fr g9.frm m5 fun a q => d2 a (List.mem_cons_of_mem _ q), rO5.fr g9.frm m5 d1, ?_, ?_⟩
      · have nLR : (T ++ (D :: TD)).Nodup := nd_app.mpr ⟨nL.1, nR.1, fun a q z => nL.2.2 a q (List.mem_append_left _ z)⟩
        rw [← List.append_assoc]
        exact nd_app.mpr ⟨nLR, n9, kp⟩
      · have := go5.trans (S2 := T ++ ((D :: TD) ++ (Ty ++ O9))) (H2 := H9) (by
          have := (g9.held (T := T ++ (D :: TD)))
          rw [List.append_assoc, List.append_assoc] at this
          exact this)
        exact this
    have next : ∀ {O9 : List Addr} {H9 : Hp} {ρ9 : Env}, RepE G H9 σ2 ρ9 O9 → O9.Nodup → Go O5 H5 O9 H9 → LcI G σ own vs os T O2 H2 D H9 (wipeE ρ9 own) acc := by
      intro O9 H9 ρ9 r9 n9 g9
      obtain ⟨a1, a2, a3, a4, a5⟩ := stand [] r9 (by simpa using n9) (by simpa using g9)
      obtain ⟨Ow, sw, rw'⟩ := r9.wipe own
      rw [ew] at rw'
      have sb : (T ++ ((D :: TD) ++ Ow)).Sublist (T ++ ((D :: TD) ++ ([] ++ O9))) := .append (.refl _) (.append (.refl _) (by simpa using sw))
      exact ⟨⟨Ow, xs, TD, rw', a1, a2, a3, sb.nodup a4, a5.less fun x q => sb.subset q⟩, fun i hi d => wipeE_none hi⟩
    cases e5 : test ρ1 with
    | no => simp only [e5] at el; cases el
    | ex x ρ9 => simp only [e5] at el; cases el
    | ok q5 =>
    obtain ⟨b, ρ8⟩ := q5
    intro H8 ⟨O8, rE8, nd8, go8⟩
    have g8 := go6.trans go8
    cases b with
    | false =>
      simp only [e5] at el
      rw [if_neg Bool.false_ne_true]
      exact ⟨_, acc, next rE8 nd8 g8, el⟩
    | true =>
      simp only [e5] at el
      rw [if_pos rfl]
      refine tE_iff.mpr ⟨ρ8, O8, rE8, nd8, ?_⟩
      cases e6 : f ρ8 with
      | no => simp only [e6] at el; cases el
      | ex x ρ9 => simp only [e6] at el; cases el
      | ok q6 =>
      obtain ⟨d, ρ9⟩ := q6
      simp only [e6] at el
      split at el
      · rename_i hlen
        intro y H9 ⟨O9, Ty, rE9, ry, nd9, go9⟩
        have g9 := g8.trans go9
        obtain ⟨a1, a2, a3, a4, a5⟩ := stand Ty rE9 nd9 g9
        refine ⟨xs, a1, by rw [rA.len, sizeLine_eq]; omega, _, acc ++ [d], ?_, el⟩
        obtain ⟨Ow, sw, rw'⟩ := rE9.wipe own
        rw [ew] at rw'
        have n4 := nd_app.mp a4
        have n5 := nd_app.mp n4.2.1
        have nD := List.nodup_cons.mp n5.1
        have dD : ∀ a, a ∈ T ∨ a ∈ TD ∨ a ∈ Ty ∨ a ∈ O9 → a ∉ [D] := fun a q z => by
          rw [List.mem_singleton] at z; subst z
          rcases q with q | q | q | q
          · exact n4.2.2 a q (List.mem_append_left _ List.mem_cons_self)
          · exact nD.1 q
          · exact n5.2.2 a List.mem_cons_self (List.mem_append_left _ q)
          · exact n5.2.2 a List.mem_cons_self (List.mem_append_right _ q)
        have fD : Frm [D] H9 (upd H9 D (.lst (xs ++ [y]))) := fun b u e n => by rw [upd_ne (fun q : b = D => n (by rw [q]; simp))]; exact e
        have mD : MutA H9 [D] := fun a q => by rw [List.mem_singleton] at q; subst q; rw [a1]; trivial
        have pm : (T ++ ((D :: (TD ++ Ty)) ++ Ow)).Sublist (T ++ ((D :: TD) ++ (Ty ++ O9))) := by
          refine .append (.refl _) ?_
          rw [List.cons_append, List.cons_append, List.append_assoc]
          exact .cons_cons _ (.append (.refl _) (.append (.refl _) sw))
        refine ⟨⟨Ow, xs ++ [y], TD ++ Ty, rw'.fr fD mD (fun a q => dD a (.inr (.inr (.inr (sw.subset q))))), upd_same, ?_, a3.fr fD mD fun a q => dD a (.inl q), pm.nodup a4, ?_⟩, fun i hi d => wipeE_none hi⟩
        · have r1 := a2.fr fD mD fun a q => dD a (.inr (.inl q))
          have r2 := ry.fr fD mD fun a q => dD a (.inr (.inr (.inl q)))
          have := r1.app (.cons r2 .nil)
          rwa [List.append_nil] at this
        · exact (a5.trans (Go.put (List.mem_append_right _ (List.mem_append_left _ List.mem_cons_self)))).less fun x q => pm.subset q
      · cases el
  · rintro H9 ⟨ρ', acc, I, el⟩
    obtain ⟨O5, xs, TD, rE5, hDx, rA, rO5, nd5, go5⟩ := I.to
    rw [List.drop_length] at el
    unfold lcL at el
    cases el
    simp only at h
    have nL := nd_app.mp nd5
    have nR := nd_app.mp nL.2.1
    cases e4 : unlock os ρ' with
    | none => simp only [e4] at h
    | some ρ3 =>
    simp only [e4] at h
    obtain ⟨O6, rE6, nd6, sub⟩ := unlock_ok rO5 (rE5.unwipe I.no) (nd_app.mpr ⟨nL.1, nR.2.1, fun a q z => nL.2.2 a q (List.mem_append_right _ z)⟩) e4
    refine h _ _ ⟨O6, D :: TD, rE6, .ls hDx rA, nd_app.mpr ⟨nR.1, nd6, fun a q z => ?_⟩, go.trans (go5.less fun a q => ?_)⟩
    · rcases List.mem_append.mp (sub a z) with y | y
      · exact nL.2.2 a y (List.mem_append_left _ q)
      · exact nR.2.2 a q y
    · rcases List.mem_append.mp q with q | q
      · exact List.mem_append_right _ (List.mem_append_left _ q)
      · rcases List.mem_append.mp (sub a q) with y | y
        · exact List.mem_append_left _ y
        · exact List.mem_append_right _ (List.mem_append_right _ y)
end
end Vs
/-! V18: every expression. -/
namespace Vs
open PySem PySem.Spec L2
open PyProof.Rows hiding St
section
variable {G : Ga} {Γ : Gam}
theorem pt_no {X : Cx} {W : WX} {x : PySem.Expr} : PT X x (tT G W fun _ => .no) := ⟨fun _ _ _ _ _ _ ⟨_, _, _, _, z⟩ => z.elim⟩
theorem ownOf_map {S : Sc} {own : List Nat} : (ownOf S own).map (·.2) = own := by
  unfold ownOf
  rw [List.map_map]
  exact List.map_id own
theorem isSet_pure {it : PySem.Expr} {env : PySem.Env} (h : notSet it = true) : ∀ x, foldedSetIterable it env x = pure x := by
  intro x
  cases it <;> first | rfl | cases h
/-- operands that are not views -/
def noVw : Ex → Bool
  | .vw _ _ => false
  | _ => true
theorem sops_e {e : Ex} {es : List Ex} (h : noVw e = true) : sops Γ (e :: es) = .e (ev Γ e) :: sops Γ es := by
  cases e <;> first | rfl | cases h
theorem lops_e {e : Ex} {es : List Ex} (h : noVw e = true) : lops Γ (e :: es) = .e (ev Γ e) :: lops Γ es := by
  cases e <;> first | rfl | cases h
theorem mO_e {S : Sc} {e : Ex} {es : List Ex} {x : PySem.Expr} {xs : List PySem.Expr} (n : noVw e = true) : mO S (e :: es) (x :: xs) = (mE S e x && notStar x && mO S es xs) := by
  cases e <;> first | rfl | cases n
theorem mL_e {S : Sc} {e : Ex} {es : List Ex} {x : PySem.Expr} {xs : List PySem.Expr} (n : noVw e = true) : mL S (e :: es) (x :: xs) = (mE S e x && notStar x && mL S es xs) := by
  cases e <;> first | rfl | cases n
theorem mE_vw {S : Sc} {e : Ex} {x : PySem.Expr} (h : mE S e x = true) : noVw e = true := by
  cases e <;> first | rfl | (unfold mE at h; cases h)
theorem ifs_ok {X : Cx} {W : WX} {xs : List PySem.Expr} {fs : List TF} (h : PTss X G W xs fs) (n : xs.length ≤ 1) : PTs X xs (tT G W (ifT fs)) := by
  cases h with
  | nil => exact ⟨fun pins s σ H Q I ⟨ρ, O, a, b, c⟩ => pts_nil.run pins s σ H Q I (c.now a b)⟩
  | cons h hs =>
    cases hs with
    | nil => exact pts_one h
    | cons _ _ => simp at n
mutual
theorem ev_ok : ∀ (e : Ex) {S : Sc} {X : Cx} {W : WX} {x : PySem.Expr}, Ctx G Γ S X → Takes X W → mE S e x = true → PE X x (tE G W (ev Γ e))
  | .lit d, S, X, W, x, C, tk, h => by
    unfold mE at h
    split at h
    · exact lit_ok h
    · cases h
  | .rd i, S, X, W, x, C, tk, h => rd_ok C h
  | .mv i, S, X, W, x, C, tk, h => mv_ok C h
  | .vw _ _, S, X, W, x, C, tk, h => by unfold mE at h; cases h
  | .gl f, S, X, W, x, C, tk, h => by
    unfold mE at h
    split at h
    · rw [Bool.and_eq_true, decide_eq_true_eq] at h
      obtain ⟨rfl, h⟩ := h
      exact gl_ok C h
    · cases h
  | .tup es, S, X, W, x, C, tk, h => by
    unfold mE at h
    split at h
    · exact tup_ok (evs_pos es C tk h)
    · cases h
  | .lst es, S, X, W, x, C, tk, h => by
    unfold mE at h
    split at h
    · exact lst_ok (evs_pos es C tk h)
    · cases h
  | .op o as, S, X, W, x, C, tk, h => by
    unfold mE at h
    split at h
    · rename_i xs e
      exact op_ok C e (mO_ok as C tk h)
    · cases h
  | .chn o o' a b c, S, X, W, x, C, tk, h => by
    unfold mE at h
    split at h
    · simp only [Bool.and_eq_true, decide_eq_true_eq] at h
      obtain ⟨⟨⟨⟨⟨⟨h1, h2⟩, h3⟩, h4⟩, h5⟩, h6⟩, h7⟩ := h
      exact chn_ok C h1 h2 h4 (ev_ok a C tk h5) (ev_ok b C tk h6) (ev_ok c C tk h7)
    · cases h
  | .bop k es, S, X, W, x, C, tk, h => by
    unfold mE at h
    split at h
    · simp only [Bool.and_eq_true, decide_eq_true_eq] at h
      obtain ⟨⟨rfl, h1⟩, h2⟩ := h
      exact bop_ok (evs_pe es C tk h2)
    · cases h
  | .not a, S, X, W, x, C, tk, h => by
    unfold mE at h
    split at h
    · exact not_ok (ev_ok a C tk h)
    · cases h
  | .ite c a b, S, X, W, x, C, tk, h => by
    unfold mE at h
    split at h
    · simp only [Bool.and_eq_true] at h
      exact ite_ok (evT_ok c C tk h.1.1) (ev_ok a C tk h.1.2) (ev_ok b C tk h.2)
    · cases h
  | .call f as bs ks π, S, X, W, x, C, tk, h => by
    unfold mE at h
    split at h
    · simp only [Bool.and_eq_true, decide_eq_true_eq, Bool.or_eq_true, Bool.not_eq_true'] at h
      obtain ⟨⟨⟨⟨⟨⟨rfl, h1⟩, h2⟩, h3⟩, h4⟩, h5⟩, h6⟩ := h
      split at h3
      · rename_i ys e
        refine call_ok C tk h1 (mO_ok as C tk h2) e (mO_ok bs C tk h3) h4 h5 fun z => ?_
        subst z
        rcases h6 with h6 | h6
        · simp at h6
        · exact h6
      · cases h3
    · cases h
  | .mut m i path as, S, X, W, x, C, tk, h => by
    unfold mE at h
    split at h
    · simp only [Bool.and_eq_true, decide_eq_true_eq] at h
      obtain ⟨⟨⟨⟨h1, h2⟩, h3⟩, h4⟩, h5⟩ := h
      exact mut_ok C h1 h2 (mO_ok as C tk h3) h4 h5
    · cases h
  | .lc own t k as ifs e, S, X, W, x, C, tk, h => by
    unfold mE at h
    split at h
    · rename_i elt tg it cs scope pos
      simp only [Bool.and_eq_true, decide_eq_true_eq] at h
      obtain ⟨⟨⟨⟨⟨⟨⟨⟨h1, h2⟩, h3⟩, h4⟩, h5⟩, h6⟩, h7⟩, h8⟩, h9⟩ := h
      split at h1
      · rename_i xs ex
        have pi := pi_ok (tg := tg) C ex (mL_ok as C tk h1) (fun z => by rw [z] at h2; simpa using h2)
        have ok := blkOk_by h3
        rw [← C.hN, ← C.sc] at ok
        refine pImp (pe_lc C.calm (C.hN ▸ C.nd) pi ok
          (fun s H c cl fp => tg_pg (C.blk s H scope c cl fp) (fun x z => z) h4)
          (fun s H c cl fp => ifs_ok (evTs_ok ifs (W := W0) (C.blk s H scope c cl fp) takes0 h7) h6)
          (fun s H c cl fp => ev_ok e (W := W0) (C.blk s H scope c cl fp) takes0 h8) (isSet_pure h9)) fun σ H Q z => ?_
        rw [ownOf_map]
        refine lc_logic (fun i q => ?_) z
        have := List.all_eq_true.mp h5 i q
        simpa using this
      · cases h1
    · cases h
  | .fz a, S, X, W, x, C, tk, h => fz_ok (ev_ok a C tk h)
  | .at i p, S, X, W, x, C, tk, h => at_ok C h
  | .dct ks es, S, X, W, x, C, tk, h => by
    unfold mE at h
    split at h
    · simp only [Bool.and_eq_true, decide_eq_true_eq, Bool.not_eq_true'] at h
      obtain ⟨⟨⟨⟨h1, h2⟩, h3⟩, h4⟩, h5⟩ := h
      exact dct_ok h1 h2 (fun z => by subst z; simp at h3) h4 (evs_pos es C tk h5)
    · cases h
theorem evT_ok : ∀ (e : Ex) {S : Sc} {X : Cx} {W : WX} {x : PySem.Expr}, Ctx G Γ S X → Takes X W → mE S e x = true → PT X x (tT G W (evT Γ e))
  | .bop k es, S, X, W, x, C, tk, h => by
    unfold mE at h
    split at h
    · simp only [Bool.and_eq_true, decide_eq_true_eq] at h
      obtain ⟨⟨rfl, h1⟩, h2⟩ := h
      exact (bopT_ok (evTs_ok es C tk h2) (fun z => by subst z; simp at h1)).pt
    · cases h
  | .not a, S, X, W, x, C, tk, h => by
    unfold mE at h
    split at h
    · exact notT_ok (evT_ok a C tk h)
    · cases h
  | .lit d, S, X, W, x, C, tk, h => by
    unfold mE at h
    split at h
    · exact val_okT (lit_ok h) rfl
    · cases h
  | .rd i, S, X, W, x, C, tk, h => by
    refine val_okT (rd_ok C h) ?_
    have h : mName S i x = true := h
    unfold mName at h
    split at h
    · rfl
    · cases h
  | .op o as, S, X, W, x, C, tk, h => by
    unfold mE at h
    split at h
    · rename_i xs e
      exact op_okT C e (mO_ok as C tk h)
    · cases h
  | .chn o o' a b c, S, X, W, x, C, tk, h => by
    unfold mE at h
    split at h
    · simp only [Bool.and_eq_true, decide_eq_true_eq] at h
      obtain ⟨⟨⟨⟨⟨⟨h1, h2⟩, h3⟩, h4⟩, h5⟩, h6⟩, h7⟩ := h
      exact chn_okT C h1 h2 h4 (ev_ok a C tk h5) (ev_ok b C tk h6) (ev_ok c C tk h7)
    · cases h
  | .call f as bs ks π, S, X, W, x, C, tk, h => by
    refine val_okT (ev_ok (.call f as bs ks π) C tk h) ?_
    unfold mE at h
    split at h
    · rfl
    · cases h
  | .vw _ _, S, X, W, x, C, tk, h => pt_no
  | .mv _, S, X, W, x, C, tk, h => pt_no
  | .gl _, S, X, W, x, C, tk, h => pt_no
  | .tup _, S, X, W, x, C, tk, h => pt_no
  | .lst _, S, X, W, x, C, tk, h => pt_no
  | .ite _ _ _, S, X, W, x, C, tk, h => pt_no
  | .mut _ _ _ _, S, X, W, x, C, tk, h => pt_no
  | .lc _ _ _ _ _ _, S, X, W, x, C, tk, h => pt_no
  | .fz _, S, X, W, x, C, tk, h => pt_no
  | .at _ _, S, X, W, x, C, tk, h => pt_no
  | .dct _ _, S, X, W, x, C, tk, h => pt_no
theorem evs_pe : ∀ (es : List Ex) {S : Sc} {X : Cx} {W : WX} {xs : List PySem.Expr}, Ctx G Γ S X → Takes X W → mEs S es xs = true → PEs X G W xs (evs Γ es)
  | [], S, X, W, [], C, tk, h => .nil
  | e :: es, S, X, W, x :: xs, C, tk, h => by
    unfold mEs at h
    simp only [Bool.and_eq_true] at h
    exact .cons (ev_ok e C tk h.1.1) (evs_pe es C tk h.2)
  | [], S, X, W, _ :: _, C, tk, h => by unfold mEs at h; cases h
  | _ :: _, S, X, W, [], C, tk, h => by unfold mEs at h; cases h
theorem evTs_ok : ∀ (es : List Ex) {S : Sc} {X : Cx} {W : WX} {xs : List PySem.Expr}, Ctx G Γ S X → Takes X W → mEs S es xs = true → PTss X G W xs (evTs Γ es)
  | [], S, X, W, [], C, tk, h => .nil
  | e :: es, S, X, W, x :: xs, C, tk, h => by
    unfold mEs at h
    simp only [Bool.and_eq_true] at h
    exact .cons (evT_ok e C tk h.1.1) (evTs_ok es C tk h.2)
  | [], S, X, W, _ :: _, C, tk, h => by unfold mEs at h; cases h
  | _ :: _, S, X, W, [], C, tk, h => by unfold mEs at h; cases h
theorem evs_pos : ∀ (es : List Ex) {S : Sc} {X : Cx} {W : WX} {xs : List PySem.Expr}, Ctx G Γ S X → Takes X W → mEs S es xs = true → POs X G W xs (sops Γ es)
  | [], S, X, W, [], C, tk, h => .nil
  | e :: es, S, X, W, x :: xs, C, tk, h => by
    unfold mEs at h
    simp only [Bool.and_eq_true] at h
    rw [sops_e (mE_vw h.1.1)]
    exact .cons (ev_ok e C tk h.1.1) h.1.2 (evs_pos es C tk h.2)
  | [], S, X, W, _ :: _, C, tk, h => by unfold mEs at h; cases h
  | _ :: _, S, X, W, [], C, tk, h => by unfold mEs at h; cases h
theorem mO_ok : ∀ (es : List Ex) {S : Sc} {X : Cx} {W : WX} {xs : List PySem.Expr}, Ctx G Γ S X → Takes X W → mO S es xs = true → POs X G W xs (sops Γ es)
  | [], S, X, W, [], C, tk, h => .nil
  | e :: es, S, X, W, x :: xs, C, tk, h => by
    cases n : noVw e with
    | true =>
      rw [mO_e n] at h
      simp only [Bool.and_eq_true] at h
      rw [sops_e n]
      exact .cons (ev_ok e C tk h.1.1) h.1.2 (mO_ok es C tk h.2)
    | false =>
      have ih := fun h => mO_ok es (xs := xs) C tk h
      cases e with
      | vw i p =>
        unfold mO at h
        simp only [Bool.and_eq_true] at h
        cases p with
        | nil => exact .cons (mView_var C h.1.1) h.1.2 (ih h.2)
        | cons k p => exact .cons (mView_pe C h.1.1) h.1.2 (ih h.2)
      | _ => cases n
  | [], S, X, W, _ :: _, C, tk, h => by unfold mO at h; cases h
  | e :: _, S, X, W, [], C, tk, h => by cases e <;> (unfold mO at h; cases h)
theorem mL_ok : ∀ (es : List Ex) {S : Sc} {X : Cx} {W : WX} {xs : List PySem.Expr}, Ctx G Γ S X → Takes X W → mL S es xs = true → POs X G W xs (lops Γ es)
  | [], S, X, W, [], C, tk, h => .nil
  | e :: es, S, X, W, x :: xs, C, tk, h => by
    cases n : noVw e with
    | true =>
      rw [mL_e n] at h
      simp only [Bool.and_eq_true] at h
      rw [lops_e n]
      exact .cons (ev_ok e C tk h.1.1) h.1.2 (mL_ok es C tk h.2)
    | false =>
      have ih := fun h => mL_ok es (xs := xs) C tk h
      cases e with
      | vw i p =>
        unfold mL at h
        simp only [Bool.and_eq_true] at h
        exact .cons (mView_pe C h.1.1) h.1.2 (ih h.2)
      | _ => cases n
  | [], S, X, W, _ :: _, C, tk, h => by unfold mL at h; cases h
  | e :: _, S, X, W, [], C, tk, h => by cases e <;> (unfold mL at h; cases h)
end
end
end Vs
/-! V19: statements: the own syntax, its evaluator, when a text is an instance of it. -/
namespace Vs
open PySem PySem.Spec L2
open PyProof.Rows hiding St
inductive Sm where
  | asg (t : Tg) (e : Ex)
  | par (is : List Nat) (es : List Ex)
  | put (dk : Bool) (i : Nat) (path : List PK) (k e : Ex)
  | ex (e : Ex)
  | ite (c : Ex) (a b : List Sm)
  | whl (c : Ex) (b : List Sm)
  | lop (t : Tg) (k : ItK) (as : List Ex) (b : List Sm)
  | ret (e : Ex)
  | retN
  | pass
  | brk
  | cnt
  | frz (i : Nat)
  | bor (j i : Nat) (path : List PK) (b : List Sm)
inductive Out where
  | nx (ρ : Env)
  | br (ρ : Env)
  | ct (ρ : Env)
  | rt (d : D) (ρ : Env)
  | ex (x : Exc) (ρ : Env)
  | no
abbrev SF := Env → Out
def Out.seq : Out → SF → Out
  | .nx ρ, g => g ρ
  | o, _ => o
/-- the names put right at any end -/
def Out.back (f : Env → Option Env) : Out → Out
  | .nx ρ => match f ρ with | some ρ' => .nx ρ' | none => .no
  | .br ρ => match f ρ with | some ρ' => .br ρ' | none => .no
  | .ct ρ => match f ρ with | some ρ' => .ct ρ' | none => .no
  | .rt d ρ => match f ρ with | some ρ' => .rt d ρ' | none => .no
  | .ex x ρ => match f ρ with | some ρ' => .ex x ρ' | none => .no
  | .no => .no
def Res.out {α : Type} (r : Res α) (k : α → Out) : Out := match r with
  | .ok a => k a
  | .ex x ρ => .ex x ρ
  | .no => .no
def asgF (t : Tg) (f : EF) : SF := fun ρ => (f ρ).out fun q => match bindT [] t q.1 q.2 with
  | some ρ' => .nx ρ'
  | none => .no
def parF (is : List Nat) (ops : List Sop) : SF := fun ρ => (runO ops ρ).out fun q => match ods q.1 with
  | some ds => match setAll [] is ds q.2 with
    | some ρ' => .nx ρ'
    | none => .no
  | none => .no
def hasK (ks : List Key) (k : Key) : Bool := ks.any fun q => decide (q = k)
theorem hasK_iff {ks : List Key} {k : Key} : hasK ks k = true ↔ k ∈ ks := by
  unfold hasK
  simp
def dkPut (ks : List Key) (ds : List D) (k : Key) (d : D) : Option D := if ks.Nodup ∧ ks.length < 1000000 then (if hasK ks k = true then some (.dk ks (dkSet ks ds k d)) else some (.dk (ks ++ [k]) (ds ++ [d]))) else none
def putD : Bool → D → PyData → D → Option D
  | false, .ls ds, .int n, d => match ixN ds.length n with
    | some j => some (.ls (ds.set j d))
    | none => none
  | true, .dk ks ds, .str x, d => dkPut ks ds (.inr x) d
  | true, .dk ks ds, .int x, d => dkPut ks ds (.inl x) d
  | _, _, _, _ => none
def putF (dk : Bool) (i : Nat) (path : List PK) (k f : EF) : SF := fun ρ => (f ρ).out fun q => match q.2[i]? with
  | some (some root) => match getP path root with
    | some c => match k (q.2.set i none) with
      | .ok (.sh kk, ρ2) => match putD dk c kk q.1 with
        | some c' => match ρ2[i]? with
          | some none => .nx (ρ2.set i (some (setP path root c')))
          | _ => .no
        | none => .no
      | _ => .no
    | none => .no
  | _ => .no
def exF (f : EF) : SF := fun ρ => (f ρ).out fun q => .nx q.2
def iteF (c : TF) (a b : SF) : SF := fun ρ => (c ρ).out fun q => if q.1 = true then a q.2 else b q.2
def fuel : Nat := 1000000000000
def whL (c : TF) (b : SF) : Nat → SF
  | 0, _ => .no
  | n + 1, ρ => (c ρ).out fun q => if q.1 = true then (match b q.2 with
      | .nx ρ2 => whL c b n ρ2
      | .ct ρ2 => whL c b n ρ2
      | .br ρ2 => .nx ρ2
      | o => o) else .nx q.2
def lopL (t : Tg) (b : SF) : List PyData → SF
  | [], ρ => .nx ρ
  | p :: ps, ρ => match bindT [] t (.sh p) ρ with
    | none => .no
    | some ρ1 => match b ρ1 with
      | .nx ρ2 => lopL t b ps ρ2
      | .ct ρ2 => lopL t b ps ρ2
      | .br ρ2 => .nx ρ2
      | o => o
def lopF (t : Tg) (k : ItK) (ops : List Sop) (b : SF) : SF := fun ρ => (runO ops ρ).out fun q => match ovs q.1 [] with
  | some ds => match itF k ds with
    | some ps => (lopL t b ps q.2).back (unlock q.1)
    | none => .no
  | none => .no
def retF (f : EF) : SF := fun ρ => (f ρ).out fun q => .rt q.1 q.2
def frzF (i : Nat) : SF := fun ρ => match ρ[i]? with
  | some (some d) => match d.fz with
    | some p => .nx (ρ.set i (some (.sh p)))
    | none => .no
  | _ => .no
/-- a name for a place within another name's tree, which stands aside meanwhile -/
def giveB (j i : Nat) (path : List PK) (root : D) : Env → Option Env := fun ρ => match ρ[j]?, ρ[i]? with
  | some (some d), some none => some ((ρ.set j none).set i (some (setP path root d)))
  | _, _ => none
def borF (j i : Nat) (path : List PK) (b : SF) : SF := fun ρ => match ρ[i]? with
  | some (some root) => match getP path root with
    | some d => if i ≠ j ∧ j < ρ.length then (b ((ρ.set i none).set j (some d))).back (giveB j i path root) else .no
    | none => .no
  | _ => .no
mutual
def go (Γ : Gam) : Sm → SF
  | .asg t e => asgF t (ev Γ e)
  | .par is es => parF is (sops Γ es)
  | .put dk i path k e => putF dk i path (ev Γ k) (ev Γ e)
  | .ex e => exF (ev Γ e)
  | .ite c a b => iteF (evT Γ c) (gos Γ a) (gos Γ b)
  | .whl c b => whL (evT Γ c) (gos Γ b) fuel
  | .lop t k as b => lopF t k (lops Γ as) (gos Γ b)
  | .ret e => retF (ev Γ e)
  | .retN => fun ρ => .rt (.sh .none) ρ
  | .pass => fun ρ => .nx ρ
  | .brk => fun ρ => .br ρ
  | .cnt => fun ρ => .ct ρ
  | .frz i => frzF i
  | .bor j i path b => borF j i path (gos Γ b)
def gos (Γ : Gam) : List Sm → SF
  | [] => fun ρ => .nx ρ
  | s :: r => fun ρ => (go Γ s ρ).seq (gos Γ r)
end
/-! ### when a text is an instance -/
def isComp : PySem.Expr → Bool
  | .ListComp _ _ _ _ => true
  | .SetComp _ _ _ _ => true
  | .DictComp _ _ _ _ _ => true
  | _ => false
def apart (sl pr : List Nat) : Bool := sl.all fun i => !pr.contains i
/-- one target, one value: no swapped stores -/
def plainTo (tg x : PySem.Expr) : Bool := match tg with
  | .Name _ _ => true
  | .Tuple ts _ _ => match x with
    | .Tuple vs _ _ => vs.all (foldedForSure 8) || (!(ts.length == 2) && !(ts.length == 3))
    | _ => true
  | _ => false
/-- a comprehension stored right away under a local name of this line -/
def swapOk (S : Sc) (tg x : PySem.Expr) : Bool := match tg, x with
  | .Name y py, .ListComp _ _ scope pos => (match S.sc.kind with | .function => true | _ => false) && decide (S.sc.names.lookup y = some .local) && (py.line == pos.line) && !(scope.names.any fun (n, k) => n == y && (k == .local || k == .cell))
  | _, _ => false
def locB (S : Sc) (i : Nat) : PySem.Expr → Bool
  | .Name x _ => decide (S.N[i]? = some x) && decide (S.sc.names.lookup x = some .local)
  | _ => false
def nmOf : PySem.Expr → Str
  | .Name x _ => x
  | _ => Str.empty
def lineOf : PySem.Expr → Nat
  | .Name _ p => p.line
  | _ => 0
def parB (S : Sc) : List Nat → List PySem.Expr → List PySem.Expr → Bool
  | [i, j], [x, y], [a, b] => locB S i x && locB S j y && decide (i ≠ j) && (lineOf y == lineOf x) && (match S.sc.kind with | .function => true | _ => false) && notStar a && notStar b && !([a, b].all (foldedForSure 8)) && !([a, b].all (constantsAlone 8))
  | [i, j, l], [x, y, z], [a, b, c] => locB S i x && locB S j y && locB S l z && decide (i ≠ j) && decide (i ≠ l) && decide (j ≠ l) && (lineOf y == lineOf x) && (lineOf z == lineOf x) && (match S.sc.kind with | .function => true | _ => false) && notStar a && notStar b && notStar c && !([a, b, c].all (foldedForSure 8)) && !([a, b, c].all (constantsAlone 8))
  | _, _, _ => false
/-- the names that a loop's operands keep aside -/
def lockS : List Ex → List Nat
  | [] => []
  | .vw i _ :: r => i :: lockS r
  | _ :: r => lockS r
mutual
/-- how many statements of the text -/
def Sm.size : Sm → Nat
  | .frz _ => 0
  | .bor _ _ _ b => 1 + sizes b
  | _ => 1
def sizes : List Sm → Nat
  | [] => 0
  | s :: r => s.size + sizes r
end
mutual
def mS (S : Sc) (fn : Str → Bool) (pr : List Nat) (m : Sm) (st : Stmt) : Bool := match m with
  | .asg t e => match st with
    | .Assign [tg] x _ => mTg S fn t tg && apart t.sl pr && ((!isComp x && plainTo tg x && mE S e x) || (swapOk S tg x && mE S e x && (match e with | .lc _ _ _ _ _ _ => true | _ => false)))
    | _ => false
  | .par is es => match st with
    | .Assign [.Tuple ts _ _] (.Tuple xs _ _) _ => parB S is ts xs && apart is pr && mEs S es xs
    | _ => false
  | .put _ i path k e => match st with
    | .Assign [.Subscript o ix _] x _ => !isComp x && mPathR S i path.reverse o && notSlice ix && mE S k ix && mE S e x
    | _ => false
  | .ex e => match st with
    | .Expr x _ => !isComp x && mE S e x
    | _ => false
  | .ite c a b => match st with
    | .If x p q _ => mE S c x && mSs S fn pr a p && mSs S fn pr b q
    | _ => false
  | .whl c b => match st with
    | .While x p [] _ => mE S c x && mSs S fn pr b p
    | _ => false
  | .lop t k as b => match st with
    | .For tg it p [] _ => (match itArgs S k it with
      | some xs => mL S as xs
      | none => false) && (!itTup k || isTup tg) && mTg S fn t tg && apart t.sl (lockS as ++ pr) && mSs S fn (lockS as ++ pr) b p && notSet it
    | _ => false
  | .ret e => match st with
    | .Return (some x) _ => mE S e x
    | _ => false
  | .retN => match st with
    | .Return none _ => true
    | _ => false
  | .pass => match st with
    | .Pass _ => true
    | _ => false
  | .brk => match st with
    | .Break _ => true
    | _ => false
  | .cnt => match st with
    | .Continue _ => true
    | _ => false
  | .frz _ => false
  | .bor _ _ _ _ => false
def mSs (S : Sc) (fn : Str → Bool) (pr : List Nat) (ms : List Sm) (sts : List Stmt) : Bool := match ms with
  | [] => sts.isEmpty
  | .frz i :: r => mSs S fn pr r sts
  | .bor j i path b :: r => match sts with
    | .Assign [.Name y py] x _ :: rest => stB S fn j y && !pr.contains j && !isComp x && mPathR S i path.reverse x && mSs S fn (j :: i :: pr) b (rest.take (sizes b)) && mSs S fn pr r (rest.drop (sizes b))
    | _ => false
  | m :: r => match sts with
    | st :: rest => mS S fn pr m st && mSs S fn pr r rest
    | [] => false
end
end Vs
/-! V20: what a statement's outcome means; the small statements. -/
namespace Vs
open PySem PySem.Spec L2
open PyProof.Rows hiding St
/-- these slots' values stay -/
structure Prs (pr : List Nat) (σ σ' : L2.St) : Prop where
  len : σ'.length = σ.length
  eq : ∀ j ∈ pr, σ'[j]? = σ[j]?
theorem Prs.refl {pr : List Nat} {σ : L2.St} : Prs pr σ σ := ⟨rfl, fun _ _ => rfl⟩
theorem Prs.trans {pr : List Nat} {σ σ1 σ2 : L2.St} (a : Prs pr σ σ1) (b : Prs pr σ1 σ2) : Prs pr σ σ2 := ⟨b.len.trans a.len, fun j h => (b.eq j h).trans (a.eq j h)⟩
theorem Prs.less {pr pr' : List Nat} {σ σ1 : L2.St} (a : Prs pr σ σ1) (h : ∀ j ∈ pr', j ∈ pr) : Prs pr' σ σ1 := ⟨a.len, fun j q => a.eq j (h j q)⟩
def StR (G : Ga) (pr : List Nat) (O : List Addr) (σ : L2.St) (H : Hp) (ρ' : Env) (σ' : L2.St) (H' : Hp) : Prop := ∃ O', RepE G H' σ' ρ' O' ∧ O'.Nodup ∧ Go O H O' H' ∧ Prs pr σ σ'
def RtR (G : Ga) (pr : List Nat) (O : List Addr) (σ : L2.St) (H : Hp) (d : D) (ρ' : Env) (σ' : L2.St) (v : V) (H' : Hp) : Prop := ∃ O' T, RepE G H' σ' ρ' O' ∧ Rep G H' v d T ∧ (T ++ O').Nodup ∧ Go O H (T ++ O') H' ∧ Prs pr σ σ'
def XcR (G : Ga) (pr : List Nat) (O : List Addr) (σ : L2.St) (H : Hp) (x : Exc) (ρ' : Env) (cls : Value) (dd : Option Addr) (σ' : L2.St) (H' : Hp) : Prop := ∃ O', RepE G H' σ' ρ' O' ∧ O'.Nodup ∧ Go O H O' H' ∧ XR G H' cls dd x ∧ Prs pr σ σ'
def ContS (G : Ga) (W : WX) (pr : List Nat) (O : List Addr) (σ : L2.St) (H : Hp) (r : Out) (D : Ends) : Prop := match r with
  | .nx ρ' => ∀ σ' H', StR G pr O σ H ρ' σ' H' → D.nx σ' H'
  | .br ρ' => ∀ σ' H', StR G pr O σ H ρ' σ' H' → D.bk σ' H'
  | .ct ρ' => ∀ σ' H', StR G pr O σ H ρ' σ' H' → D.ct σ' H'
  | .rt d ρ' => ∀ σ' v H', RtR G pr O σ H d ρ' σ' v H' → D.rt v H'
  | .ex x ρ' => ∀ σ' cls dd H', XcR G pr O σ H x ρ' cls dd σ' H' → W cls dd σ' H'
  | .no => False
def tG (G : Ga) (W : WX) (pr : List Nat) (g : SF) : TS := fun D σ H => ∃ ρ O, RepE G H σ ρ O ∧ O.Nodup ∧ ContS G W pr O σ H (g ρ) D
section
variable {X : Cx} {G : Ga} {W : WX} {S : Sc} {Γ : Gam} {σ : L2.St} {H H' : Hp} {pr : List Nat}
theorem StR.more {O O1 : List Addr} {σ1 : L2.St} {H1 : Hp} {ρ' : Env} {σ' : L2.St} (go : Go O H O1 H1) (p : Prs pr σ σ1) (h : StR G pr O1 σ1 H1 ρ' σ' H') : StR G pr O σ H ρ' σ' H' := by
  obtain ⟨O', a, b, c, d⟩ := h
  exact ⟨O', a, b, go.trans c, p.trans d⟩
theorem ContS.more {O O1 : List Addr} {σ1 : L2.St} {H1 : Hp} {r : Out} {D : Ends} (go : Go O H O1 H1) (p : Prs pr σ σ1) (h : ContS G W pr O σ H r D) : ContS G W pr O1 σ1 H1 r D := by
  cases r with
  | no => exact h
  | nx ρ' => exact fun σ' H' z => h σ' H' (z.more go p)
  | br ρ' => exact fun σ' H' z => h σ' H' (z.more go p)
  | ct ρ' => exact fun σ' H' z => h σ' H' (z.more go p)
  | rt d ρ' => exact fun σ' v H' ⟨O', T, a, b, c, e, f⟩ => h σ' v H' ⟨O', T, a, b, c, go.trans e, p.trans f⟩
  | ex x ρ' => exact fun σ' cls dd H' ⟨O', a, b, c, e, f⟩ => h σ' cls dd H' ⟨O', a, b, go.trans c, e, p.trans f⟩
/-- another wish at the ends -/
theorem ContS.ends {O : List Addr} {r : Out} {D D' : Ends} (h : ContS G W pr O σ H r D) (h1 : ∀ ρ', r = .nx ρ' → ∀ σ' H', StR G pr O σ H ρ' σ' H' → D'.nx σ' H') (h2 : ∀ ρ', r = .br ρ' → ∀ σ' H', StR G pr O σ H ρ' σ' H' → D'.bk σ' H') (h3 : ∀ ρ', r = .ct ρ' → ∀ σ' H', StR G pr O σ H ρ' σ' H' → D'.ct σ' H')
    (h4 : ∀ v H', D.rt v H' → D'.rt v H') : ContS G W pr O σ H r D' := by
  cases r with
  | no => exact h
  | nx ρ' => exact h1 ρ' rfl
  | br ρ' => exact h2 ρ' rfl
  | ct ρ' => exact h3 ρ' rfl
  | rt d ρ' => exact fun σ' v H' z => h4 _ _ (h σ' v H' z)
  | ex x ρ' => exact h
theorem psImp {st : Stmt} {t t' : TS} (h : PS X st t) (i : ∀ D σ H, t' D σ H → t D σ H) : PS X st t' := ⟨fun pins s σ H D I q => h.run pins s σ H D I (i D σ H q)⟩
theorem pssImp {st : List Stmt} {t t' : TS} (h : PSs X st t) (i : ∀ D σ H, t' D σ H → t D σ H) : PSs X st t' := ⟨fun pins s σ H D I q => h.run pins s σ H D I (i D σ H q)⟩
/-- an expression ahead of a statement's end -/
theorem outE {f : EF} {k : Vs.D × Env → Out} {D : Ends} (h : tG G W pr (fun ρ => (f ρ).out k) D σ H) : tE G W f σ H fun v H1 => ∃ ρ1 d O1 T, RepE G H1 σ ρ1 O1 ∧ Rep G H1 v d T ∧ (T ++ O1).Nodup ∧ ContS G W pr (T ++ O1) σ H1 (k (d, ρ1)) D := by
  obtain ⟨ρ, O, a, b, h⟩ := h
  refine tE_iff.mpr ⟨ρ, O, a, b, ?_⟩
  cases ef : f ρ with
  | no => simp only [ef, Res.out] at h; exact h
  | ex x ρ' =>
    simp only [ef, Res.out] at h
    exact fun cls dd H' ⟨O', z1, z2, z3, z4⟩ => h σ cls dd H' ⟨O', z1, z2, z3, z4, .refl⟩
  | ok p =>
    obtain ⟨d, ρ1⟩ := p
    simp only [ef, Res.out] at h
    intro v H1 ⟨O1, T, rE, rv, nd, go⟩
    exact ⟨ρ1, d, O1, T, rE, rv, nd, h.more go .refl⟩
theorem outT {f : TF} {k : Bool × Env → Out} {D : Ends} (h : tG G W pr (fun ρ => (f ρ).out k) D σ H) : tT G W f σ H fun b H1 => ∃ ρ1 O1, RepE G H1 σ ρ1 O1 ∧ O1.Nodup ∧ ContS G W pr O1 σ H1 (k (b, ρ1)) D := by
  obtain ⟨ρ, O, a, b, h⟩ := h
  refine ⟨ρ, O, a, b, ?_⟩
  cases ef : f ρ with
  | no => simp only [ef, Res.out] at h; exact h
  | ex x ρ' =>
    simp only [ef, Res.out] at h
    exact fun cls dd H' ⟨O', z1, z2, z3, z4⟩ => h σ cls dd H' ⟨O', z1, z2, z3, z4, .refl⟩
  | ok p =>
    obtain ⟨c, ρ1⟩ := p
    simp only [ef, Res.out] at h
    intro H1 ⟨O1, rE, nd, go⟩
    exact ⟨ρ1, O1, rE, nd, h.more go .refl⟩
theorem outO {ops : List Sop} {k : List Ov × Env → Out} {D : Ends} (h : tG G W pr (fun ρ => (runO ops ρ).out k) D σ H) : tO G W ops σ H fun vs H1 => ∃ os ρ1 O1 T, RepE G H1 σ ρ1 O1 ∧ RepO G H1 σ vs os T ∧ (T ++ O1).Nodup ∧ ContS G W pr (T ++ O1) σ H1 (k (os, ρ1)) D := by
  obtain ⟨ρ, O, a, b, h⟩ := h
  refine run_ops ops ρ O a b ?_
  unfold OpsR
  cases ef : runO ops ρ with
  | no => simp only [ef, Res.out] at h; exact h
  | ex x ρ' =>
    simp only [ef, Res.out] at h
    exact fun cls dd H' ⟨O', z1, z2, z3, z4⟩ => h σ cls dd H' ⟨O', z1, z2, z3, z4, .refl⟩
  | ok p =>
    obtain ⟨os, ρ1⟩ := p
    simp only [ef, Res.out] at h
    intro vs H1 O1 T rE rO nd go
    exact ⟨os, ρ1, O1, T, rE, rO, nd, h.more go .refl⟩
theorem ContS.now {O : List Addr} {ρ : Env} {D : Ends} (h : ContS G W pr O σ H (.nx ρ) D) {σ' : L2.St} {O' : List Addr} (rE : RepE G H σ' ρ O') (nd : O'.Nodup) (s : ∀ a ∈ O', a ∈ O) (p : Prs pr σ σ') : D.nx σ' H :=
  h σ' H ⟨O', rE, nd, ⟨fun _ _ e _ => e, fun a q => .inl (s a q)⟩, p⟩
theorem seq_logic {f g : SF} {D : Ends} (h : tG G W pr (fun ρ => (f ρ).seq g) D σ H) : tSeq (tG G W pr f) (tG G W pr g) D σ H := by
  obtain ⟨ρ, O, a, b, h⟩ := h
  refine ⟨ρ, O, a, b, ?_⟩
  cases ef : f ρ with
  | nx ρ1 =>
    simp only [ef, Out.seq] at h
    exact fun σ1 H1 ⟨O1, z1, z2, z3, z4⟩ => ⟨ρ1, O1, z1, z2, h.more z3 z4⟩
  | br ρ1 => simp only [ef, Out.seq] at h; exact h
  | ct ρ1 => simp only [ef, Out.seq] at h; exact h
  | rt d ρ1 => simp only [ef, Out.seq] at h; exact h
  | ex x ρ1 => simp only [ef, Out.seq] at h; exact h
  | no => simp only [ef, Out.seq] at h; exact h
/-! ### an assignment -/
theorem Dif.prs {sl pr0 : List Nat} {σ' : L2.St} (d : Dif sl pr0 σ σ') (h : apart sl pr = true) : Prs pr σ σ' := ⟨d.len, fun j q => d.out j fun z => by
  have := List.all_eq_true.mp h j z
  simp at this
  exact this q⟩
theorem asg_logic {t : Tg} {f : EF} {D : Ends} (hp : apart t.sl pr = true) (h : tG G W pr (asgF t f) D σ H) : tAsg (tE G W f) (gT G.K t) D σ H := by
  refine tE_mono (outE h) fun v H1 ⟨ρ1, d, O1, T, rE, rv, nd, c⟩ => ?_
  simp only at c
  cases e : bindT [] t d ρ1 with
  | none => simp only [e] at c; exact c.elim
  | some ρ2 =>
    simp only [e] at c
    exact bind_logic rE rv nd e fun σ' O' r n s dif => c.now r n s (dif.prs hp)
theorem swap_no {x : PySem.Expr} {t : Option PySem.Expr} {l : Nat} {env : PySem.Env} (h : isComp x = false) : swapsWith x t l env = pure false := by
  cases x <;> first | rfl | cases h
theorem stores_no {tg x : PySem.Expr} {env : PySem.Env} (h : plainTo tg x = true) : swappedStores [tg] x env = pure none ∧ (assignEach [tg] env).map (·.2) = [assign tg env] := by
  unfold plainTo at h
  split at h
  · exact ⟨rfl, rfl⟩
  · rename_i ts k p
    refine ⟨?_, rfl⟩
    split at h
    · rename_i vs k2 p2
      rw [Bool.or_eq_true] at h
      unfold swappedStores
      simp only [pure_bind]
      split
      · rfl
      · rename_i h1
        split
        · rfl
        · split
          · rfl
          · rcases h with h | h
            · rw [if_pos h]
            · exfalso
              rw [Bool.and_eq_true] at h
              apply h1
              have : (ts.length == 2) = false ∧ (ts.length == 3) = false := by simpa using h
              rw [this.1, this.2]; rfl
    · cases x <;> first | rfl | (exfalso; rename_i hx; exact hx _ _ _ rfl)
  · cases h
end
end Vs
/-! V21: pairs of names stored at once; a place stored. -/
namespace Vs
open PySem PySem.Spec L2
open PyProof.Rows hiding St
section
variable {X : Cx} {G : Ga} {W : WX} {S : Sc} {Γ : Gam} {σ : L2.St} {H H' : Hp} {pr : List Nat}
theorem kind_fn {S : Sc} (C : Ctx G Γ S X) (h : (match S.sc.kind with | .function => true | _ => false) = true) : X.env.scope.kind = .function := by
  rw [C.sc]
  split at h
  · assumption
  · cases h
theorem blockK {env : PySem.Env} (h : env.scope.kind = .function) : (env.blockKind != .function) = false := by
  unfold Env.blockKind; rw [h]; rfl
theorem locB_is (C : Ctx G Γ S X) {i : Nat} {e : PySem.Expr} (h : locB S i e = true) : ∃ x p, e = .Name x p ∧ X.N[i]? = some x ∧ X.env.scope.names.lookup x = some .local := by
  unfold locB at h
  split at h
  · rw [Bool.and_eq_true, decide_eq_true_eq, decide_eq_true_eq] at h
    exact ⟨_, _, rfl, by rw [C.hN]; exact h.1, by rw [C.sc]; exact h.2⟩
  · cases h
theorem ne_of_ix {N : List Str} {i j : Nat} {x y : Str} (nd : N.Nodup) (hi : N[i]? = some x) (hj : N[j]? = some y) (h : i ≠ j) : x ≠ y := by
  intro e
  subst e
  obtain ⟨h1, e1⟩ := List.getElem?_eq_some_iff.mp hi
  obtain ⟨h2, e2⟩ := List.getElem?_eq_some_iff.mp hj
  rcases Nat.lt_or_gt_of_ne h with z | z
  · exact List.pairwise_iff_getElem.mp nd i j h1 h2 z (e1.trans e2.symm)
  · exact List.pairwise_iff_getElem.mp nd j i h2 h1 z (e2.trans e1.symm)
def starB : PySem.Expr → Bool
  | .Starred _ _ => true
  | _ => false
theorem star_no {a : PySem.Expr} (h : notStar a = true) : starB a = false := by
  cases a <;> first | rfl | cases h
theorem fm2 {x y : Str} {a b : PySem.Expr} (g : PySem.Expr → Option Str) (h1 : g a = some x) (h2 : g b = some y) : [a, b].filterMap g = [x, y] := by simp [h1, h2]
theorem fm3 {x y z : Str} {a b c : PySem.Expr} (g : PySem.Expr → Option Str) (h1 : g a = some x) (h2 : g b = some y) (h3 : g c = some z) : [a, b, c].filterMap g = [x, y, z] := by simp [h1, h2, h3]
theorem par2_sw {x y : Str} {px py pt pt2 : Pos} {kt k2 : Nat} {a b : PySem.Expr} {env : PySem.Env} (hk : env.scope.kind = .function) (hx : env.scope.names.lookup x = some .local) (hy : env.scope.names.lookup y = some .local) (hl : (py.line == px.line) = true) (hne : x ≠ y)
    (na : notStar a = true) (nb : notStar b = true) (ff : [a, b].all (foldedForSure 8) = false) (ca : [a, b].all (constantsAlone 8) = false) :
    swappedStores [.Tuple [.Name x px, .Name y py] kt pt] (.Tuple [a, b] k2 pt2) env = pure (some [x, y]) := by
  have kx : env.kindOf x = some .local := hx
  have ky : env.kindOf y = some .local := hy
  have hd : ([x, y].eraseDups.length != [x, y].length) = false := by
    rw [List.eraseDups_cons]
    simp [List.eraseDups_cons, Ne.symm hne, hne]
  have hl' : (px.line == px.line) = true := by simp
  unfold swappedStores
  simp only [pure_bind]
  rw [if_neg (by simp [blockK hk]), if_neg (by
    have h1 := star_no na
    have h2 := star_no nb
    show ¬ ([a, b].any starB = true)
    simp [h1, h2])]
  show (if _ then _ else _) = _
  have hp : ((List.head? [PySem.Expr.Name x px, .Name y py]).map (·.pos.line)).getD 0 = px.line := rfl
  rw [hp]
  rw [fm2 (x := x) (y := y) _ (by simp [kx, hl']) (by simp [ky, hl])]
  rw [if_neg (by rw [hd]; simp), if_neg (by rw [ff]; simp), if_neg (by rw [ca]; simp)]
theorem par3_sw {x y z : Str} {px py pz pt pt2 : Pos} {kt k2 : Nat} {a b c : PySem.Expr} {env : PySem.Env} (hk : env.scope.kind = .function) (hx : env.scope.names.lookup x = some .local) (hy : env.scope.names.lookup y = some .local) (hz : env.scope.names.lookup z = some .local) (hl : (py.line == px.line) = true) (hl2 : (pz.line == px.line) = true) (hne : x ≠ y) (hxz : x ≠ z) (hyz : y ≠ z)
    (na : notStar a = true) (nb : notStar b = true) (nc : notStar c = true) (ff : [a, b, c].all (foldedForSure 8) = false) (ca : [a, b, c].all (constantsAlone 8) = false) :
    swappedStores [.Tuple [.Name x px, .Name y py, .Name z pz] kt pt] (.Tuple [a, b, c] k2 pt2) env = pure (some [x, y, z]) := by
  have kx : env.kindOf x = some .local := hx
  have ky : env.kindOf y = some .local := hy
  have kz : env.kindOf z = some .local := hz
  have hd : ([x, y, z].eraseDups.length != [x, y, z].length) = false := by
    simp [List.eraseDups_cons, Ne.symm hne, hne, hxz, hyz, Ne.symm hxz, Ne.symm hyz]
  have hl' : (px.line == px.line) = true := by simp
  unfold swappedStores
  simp only [pure_bind]
  rw [if_neg (by simp [blockK hk]), if_neg (by
    have h1 := star_no na
    have h2 := star_no nb
    have h3 := star_no nc
    show ¬ ([a, b, c].any starB = true)
    simp [h1, h2, h3])]
  show (if _ then _ else _) = _
  have hp : ((List.head? [PySem.Expr.Name x px, .Name y py, .Name z pz]).map (·.pos.line)).getD 0 = px.line := rfl
  rw [hp]
  rw [fm3 (x := x) (y := y) (z := z) _ (by simp [kx, hl']) (by simp [ky, hl]) (by simp [kz, hl2])]
  rw [if_neg (by rw [hd]; simp), if_neg (by rw [ff]; simp), if_neg (by rw [ca]; simp)]
theorem par_logic {is : List Nat} {ops : List Sop} {D : Ends} (hp : apart is pr = true) (h : tG G W pr (parF is ops) D σ H) : tO G W ops σ H fun vs H1 => vs.length = is.length ∧ gNames is vs σ H1 D.nx := by
  refine tO_mono (outO h) fun vs H1 ⟨os, ρ1, O1, T, rE, rO, nd, c⟩ => ?_
  simp only at c
  cases e : ods os with
  | none => simp only [e] at c; exact c.elim
  | some ds =>
    simp only [e] at c
    cases e2 : setAll [] is ds ρ1 with
    | none => simp only [e2] at c; exact c.elim
    | some ρ2 =>
      simp only [e2] at c
      exact setAll_logic rE (ods_ok rO e) nd e2 fun σ' O' r n s dif => c.now r n s (dif.prs hp)
theorem par_ok (C : Ctx G Γ S X) {is : List Nat} {ts xs : List PySem.Expr} {ops : List Sop} {k k2 : Nat} {p p2 pos : Pos} (h : parB S is ts xs = true) (hp : apart is pr = true) (ps : POs X G W xs ops) : PS X (.Assign [.Tuple ts k p] (.Tuple xs k2 p2) pos) (tG G W pr (parF is ops)) := by
  have hN : X.N.Nodup := by rw [C.hN]; exact C.nd
  unfold parB at h
  split at h
  · simp only [Bool.and_eq_true, decide_eq_true_eq, Bool.not_eq_true'] at h
    obtain ⟨⟨⟨⟨⟨⟨⟨⟨h1, h2⟩, h3⟩, h4⟩, h5⟩, h6⟩, h7⟩, h8⟩, h9⟩ := h
    obtain ⟨x, px, rfl, a1, a2⟩ := locB_is C h1
    obtain ⟨y, py, rfl, b1, b2⟩ := locB_is C h2
    refine psImp (ps_par C.calm hN a1 b1 h3 a2 b2 ps.pa (par2_sw (kind_fn C h5) a2 b2 h4 (ne_of_ix hN a1 b1 h3) h6 h7 h8 h9)) fun D σ H z => ?_
    refine tO_mono (par_logic hp z) fun vs H1 ⟨l, g⟩ => ?_
    obtain ⟨v, r, rfl, w, r2, rfl, e, g⟩ := g
    subst e
    exact ⟨v, w, rfl, g⟩
  · simp only [Bool.and_eq_true, decide_eq_true_eq, Bool.not_eq_true'] at h
    obtain ⟨⟨⟨⟨⟨⟨⟨⟨⟨⟨⟨⟨⟨h1, h2⟩, hz⟩, h3⟩, h3b⟩, h3c⟩, h4⟩, h4b⟩, h5⟩, h6⟩, h7⟩, h7b⟩, h8⟩, h9⟩ := h
    obtain ⟨x, px, rfl, a1, a2⟩ := locB_is C h1
    obtain ⟨y, py, rfl, b1, b2⟩ := locB_is C h2
    obtain ⟨z, pz, rfl, c1, c2⟩ := locB_is C hz
    refine psImp (ps_par3 C.calm hN a1 b1 c1 h3 h3b h3c a2 b2 c2 ps.pa (par3_sw (kind_fn C h5) a2 b2 c2 h4 h4b (ne_of_ix hN a1 b1 h3) (ne_of_ix hN a1 c1 h3b) (ne_of_ix hN b1 c1 h3c) h6 h7 h7b h8 h9)) fun D σ H z => ?_
    refine tO_mono (par_logic hp z) fun vs H1 ⟨l, g⟩ => ?_
    obtain ⟨v, r, rfl, w, r2, rfl, u, r3, rfl, e, g⟩ := g
    subst e
    exact ⟨v, w, u, rfl, g⟩
  · cases h
end
end Vs
/-! V22: loops; freezing; a name for a place. -/
namespace Vs
open PySem PySem.Spec L2
open PyProof.Rows hiding St
section
variable {X : Cx} {G : Ga} {W : WX} {S : Sc} {Γ : Gam} {σ : L2.St} {H H' : Hp} {pr : List Nat}
theorem ite_logic {c : TF} {a b : SF} {D : Ends} (h : tG G W pr (iteF c a b) D σ H) : tIfS (tT G W c) (tG G W pr a) (tG G W pr b) D σ H := by
  refine tT_mono (outT h) fun t H1 ⟨ρ1, O1, rE, nd, k⟩ => ?_
  cases t with
  | true => exact ⟨ρ1, O1, rE, nd, k⟩
  | false => exact ⟨ρ1, O1, rE, nd, k⟩
theorem ret_logic {f : EF} {D : Ends} (h : tG G W pr (retF f) D σ H) : tRet (tE G W f) D σ H :=
  tE_mono (outE h) fun v H1 ⟨ρ1, d, O1, T, rE, rv, nd, k⟩ => k σ v H1 ⟨O1, T, rE, rv, nd, Go.refl, .refl⟩
theorem ex_logic {f : EF} {D : Ends} (h : tG G W pr (exF f) D σ H) : tDrop (tE G W f) D σ H :=
  tE_mono (outE h) fun v H1 ⟨ρ1, d, O1, T, rE, rv, nd, k⟩ => k.now rE (nd_app.mp nd).2.1 (fun a q => List.mem_append_right _ q) .refl
theorem whl_logic {c : TF} {b : SF} {n : Nat} {D : Ends} (h : tG G W pr (whL c b n) D σ H) : tWhile (tT G W c) (tG G W pr b) D σ H := by
  refine ⟨fun m σ H => tG G W pr (whL c b m) D σ H, ⟨n, h⟩, fun m σ1 H1 w => ?_⟩
  cases m with
  | zero => obtain ⟨_, _, _, _, z⟩ := w; exact z.elim
  | succ m =>
    have w : tG G W pr (fun ρ => (c ρ).out fun q => if q.1 = true then (match b q.2 with
      | .nx ρ2 => whL c b m ρ2
      | .ct ρ2 => whL c b m ρ2
      | .br ρ2 => .nx ρ2
      | o => o) else .nx q.2) D σ1 H1 := w
    refine tT_mono (outT w) fun t H2 ⟨ρ1, O1, rE, nd, k⟩ => ?_
    cases t with
    | false => exact k.now rE nd (fun a q => q) .refl
    | true =>
      rw [if_pos rfl]
      refine ⟨fun σ' H' => tG G W pr (whL c b m) D σ' H', fun σ' H' z => ⟨m, Nat.lt_succ_self m, z⟩, ρ1, O1, rE, nd, ?_⟩
      simp only [if_pos] at k
      cases eb : b ρ1 with
      | no => simp only [eb] at k; exact k
      | nx ρ2 => simp only [eb] at k; exact fun σ' H' ⟨O', z1, z2, z3, z4⟩ => ⟨ρ2, O', z1, z2, k.more z3 z4⟩
      | ct ρ2 => simp only [eb] at k; exact fun σ' H' ⟨O', z1, z2, z3, z4⟩ => ⟨ρ2, O', z1, z2, k.more z3 z4⟩
      | br ρ2 => simp only [eb] at k; exact k
      | rt d ρ2 => simp only [eb] at k; exact k
      | ex x ρ2 => simp only [eb] at k; exact k
/-! ### for -/
def lockO : List Ov → List Nat
  | [] => []
  | .p i _ _ :: r => i :: lockO r
  | _ :: r => lockO r
theorem RepO.st {σ' : L2.St} : ∀ {os : List Ov} {vs : List V} {T : List Addr} {ds : List D}, RepO G H σ vs os T → ovs os [] = some ds → (∀ i ∈ lockO os, σ'[i]? = σ[i]?) → RepO G H σ' vs os T
  | _, _, _, _, .nil, _, _ => .nil
  | _, _, _, _, .d (os := os) r hs, e, n => by
    unfold ovs at e
    cases e2 : ovs os [] with
    | none => rw [e2] at e; cases e
    | some l => exact .d r (RepO.st hs e2 n)
  | _, _, _, _, .v q hs, e, n => by
    unfold ovs at e
    split at e
    · rename_i e1 _; simp at e1
    · cases e
  | _, _, _, _, .p (os := os) q r va g hs, e, n => by
    unfold ovs at e
    split at e
    · rename_i e2
      exact .p (by rw [n _ List.mem_cons_self]; exact q) r va g (RepO.st hs e2 fun i h => n i (List.mem_cons_of_mem _ h))
    · cases e
theorem Out.back_nx {f : Env → Option Env} {r : Out} {O : List Addr} {D : Ends} (h : ContS G W pr O σ H (r.back f) D) {ρ : Env} (e : r = .nx ρ) : ∃ ρ', f ρ = some ρ' ∧ ContS G W pr O σ H (.nx ρ') D := by
  subst e
  cases e : f ρ with
  | none => simp only [Out.back, e] at h; exact h.elim
  | some ρ' => simp only [Out.back, e] at h; exact ⟨ρ', rfl, h⟩
/-- behind a block with something set aside (T0 behind it, made whole by f) -/
theorem back_logic {f : Env → Option Env} {r : Out} {T O1 Ob : List Addr} {σ1 : L2.St} {H1 : Hp} {pr' : List Nat} {D : Ends} (h : ContS G W pr (T ++ O1) σ1 H1 (r.back f) D) (hp : ∀ j ∈ pr, j ∈ pr') (ndT : T.Nodup) (disj : ∀ a ∈ T, a ∉ O1) (mT : MutA H1 T) (mO : MutA H1 O1)
    (wh : ∀ {ρ ρ' : Env} {σ' : L2.St} {H' : Hp} {O' A : List Addr}, f ρ = some ρ' → RepE G H' σ' ρ O' → Frm O1 H1 H' → Prs pr' σ1 σ' → O'.Nodup → (∀ a ∈ T, a ∉ O') → ∃ O2, RepE G H' σ' ρ' O2 ∧ O2.Nodup ∧ ∀ a ∈ O2, a ∈ T ++ O') :
    ContS G W pr' O1 σ1 H1 r { D with bk := D.bk, ct := D.ct } := by
  have key : ∀ {ρ ρ' : Env} {σ' : L2.St} {H' : Hp} {O' : List Addr}, f ρ = some ρ' → RepE G H' σ' ρ O' → O'.Nodup → Go O1 H1 O' H' → Prs pr' σ1 σ' → StR G pr (T ++ O1) σ1 H1 ρ' σ' H' := fun {ρ ρ' σ' H' O'} e rE nd go p => by
    have kp := go.keep (T := T) fun a q => ⟨disj a q, mT.some a q⟩
    obtain ⟨O2, a, b, c⟩ := wh (A := []) e rE go.frm p nd kp
    exact ⟨O2, a, b, (go.held (T := T)).less fun x q => c x q, p.less hp⟩
  cases r with
  | no => exact h
  | nx ρ =>
    cases e : f ρ with
    | none => simp only [Out.back, e] at h; exact h.elim
    | some ρ' => simp only [Out.back, e] at h; exact fun σ' H' ⟨O', z1, z2, z3, z4⟩ => h σ' H' (key e z1 z2 z3 z4)
  | br ρ =>
    cases e : f ρ with
    | none => simp only [Out.back, e] at h; exact h.elim
    | some ρ' => simp only [Out.back, e] at h; exact fun σ' H' ⟨O', z1, z2, z3, z4⟩ => h σ' H' (key e z1 z2 z3 z4)
  | ct ρ =>
    cases e : f ρ with
    | none => simp only [Out.back, e] at h; exact h.elim
    | some ρ' => simp only [Out.back, e] at h; exact fun σ' H' ⟨O', z1, z2, z3, z4⟩ => h σ' H' (key e z1 z2 z3 z4)
  | rt d ρ =>
    cases e : f ρ with
    | none => simp only [Out.back, e] at h; exact h.elim
    | some ρ' =>
      simp only [Out.back, e] at h
      intro σ' v H' ⟨O', Tv, z1, z2, z3, z4, z5⟩
      have kp := z4.keep (T := T) fun a q => ⟨disj a q, mT.some a q⟩
      have nd3 := nd_app.mp z3
      obtain ⟨O2, a, b, c⟩ := wh (A := Tv) e z1 z4.frm z5 nd3.2.1 fun a q z => kp a q (List.mem_append_right _ z)
      refine h σ' v H' ⟨O2, Tv, a, z2, nd_app.mpr ⟨nd3.1, b, fun x hx z => ?_⟩, (z4.held (T := T)).less fun x q => ?_, z5.less hp⟩
      · rcases List.mem_append.mp (c x z) with y | y
        · exact kp x y (List.mem_append_left _ hx)
        · exact nd3.2.2 x hx y
      · rcases List.mem_append.mp q with q | q
        · exact List.mem_append_right _ (List.mem_append_left _ q)
        · rcases List.mem_append.mp (c x q) with y | y
          · exact List.mem_append_left _ y
          · exact List.mem_append_right _ (List.mem_append_right _ y)
  | ex x ρ =>
    cases e : f ρ with
    | none => simp only [Out.back, e] at h; exact h.elim
    | some ρ' =>
      simp only [Out.back, e] at h
      intro σ' cls dd H' ⟨O', z1, z2, z3, z4, z5⟩
      obtain ⟨O2, a, b, c, d⟩ := key e z1 z2 z3 z5
      exact h σ' cls dd H' ⟨O2, a, b, c, z4, d⟩
theorem lop_in {t : Tg} {b : SF} {ps : List PyData} {vs : List V} {ds : List D} {os : List Ov} {T O1 : List Addr} {σ1 : L2.St} {H1 : Hp} {pr' : List Nat} {D : Ends} {J : It} {ρ : Env}
    (w : Walk J ps.length (fun H => RVs G H vs ds) (YD G ps)) (eo : ovs os [] = some ds) (ht : apart t.sl pr' = true) (rE : RepE G H1 σ1 ρ O1) (nd : O1.Nodup) (rO : RepO G H1 σ1 vs os T) (dj : ∀ a ∈ T, a ∉ O1) (lk : ∀ i ∈ lockO os, i ∈ pr')
    (h : ContS G W pr' O1 σ1 H1 (lopL t b ps ρ) D) :
    ∃ W' : Nat → Nat → L2.St → Hp → Prop, (∃ m, W' 0 m σ1 H1) ∧ ∀ i m σ H, W' i m σ H →
      (J.stop i H ∧ D.nx σ H) ∨ (J.go i H ∧ ∃ N : L2.St → Hp → Prop, (∀ σ' H', N σ' H' → ∃ m', m' < m ∧ W' (i + 1) m' σ' H') ∧ ∀ x H', J.yld i H x H' → gT G.K t x σ H' fun σ2 H2 => tG G W pr' b { D with nx := N, ct := N, bk := D.nx } σ2 H2) := by
  refine for_it w (fun i σ H => ∃ ρ' O', RepE G H σ ρ' O' ∧ O'.Nodup ∧ Go O1 H1 O' H ∧ Prs pr' σ1 σ ∧ ContS G W pr' O' σ H (lopL t b (ps.drop i) ρ') D) ⟨ρ, O1, rE, nd, Go.refl, .refl, by simpa using h⟩ ?_ ?_ ?_
  · rintro i σ H hi ⟨ρ', O', r, n, g, p, k⟩
    exact ovl_ok ((rO.fr g.frm rE.mut dj).st (σ' := σ) eo fun i q => p.eq i (lk i q)) eo
  · rintro i x σ H H' hi ⟨ρ', O', r, n, g, p, k⟩ ⟨fr, q, eq, dp⟩
    have ed : ps.drop i = q :: ps.drop (i + 1) := by
      rw [List.getElem?_eq_getElem hi] at eq; cases eq
      exact List.drop_eq_getElem_cons hi
    rw [ed] at k
    unfold lopL at k
    cases e4 : bindT [] t (.sh q) ρ' with
    | none => simp only [e4] at k; exact k.elim
    | some ρ1 =>
      simp only [e4] at k
      have r' := r.fr (S := []) fr mut_nil fun _ _ z => nomatch z
      refine bind_logic r' (.sh dp) (by simpa using n) e4 fun σ2 O7 rE7 nd7 sub7 dif => ⟨ρ1, O7, rE7, nd7, ?_⟩
      have g7 : Go O' H O7 H' := ⟨fun a o e _ => fr a o e (fun z => nomatch z), fun a q => .inl (by simpa using sub7 a q)⟩
      have k := k.more g7 (dif.prs ht)
      cases eb : b ρ1 with
      | no => simp only [eb] at k; exact k
      | nx ρ2 => simp only [eb] at k; exact fun σ' H' ⟨O8, z1, z2, z3, z4⟩ => ⟨ρ2, O8, z1, z2, g.trans (g7.trans z3), p.trans ((dif.prs ht).trans z4), k.more z3 z4⟩
      | ct ρ2 => simp only [eb] at k; exact fun σ' H' ⟨O8, z1, z2, z3, z4⟩ => ⟨ρ2, O8, z1, z2, g.trans (g7.trans z3), p.trans ((dif.prs ht).trans z4), k.more z3 z4⟩
      | br ρ2 => simp only [eb] at k; exact k
      | rt d ρ2 => simp only [eb] at k; exact k
      | ex x ρ2 => simp only [eb] at k; exact k
  · rintro σ H ⟨ρ', O', r, n, g, p, k⟩
    rw [List.drop_length] at k
    exact ContS.now k r n (fun a q => q) .refl
theorem lock_of {os : List Ov} {ρ ρ' : Env} : ∀ {as : List Ex}, runO (lops Γ as) ρ = .ok (os, ρ') → lockO os = lockS as := by
  intro as
  induction as generalizing os ρ ρ' with
  | nil => intro h; simp [lops, runO] at h; obtain ⟨rfl, _⟩ := h; rfl
  | cons e as ih =>
    intro h
    have gen : noVw e = true → lockO os = lockS (e :: as) := fun n => by
      rw [lops_e n] at h
      unfold runO at h
      have hl : lockS (e :: as) = lockS as := by cases e <;> first | rfl | cases n
      rw [hl]
      cases e1 : ev Γ e ρ with
      | no => simp only [e1, Res.bind] at h; cases h
      | ex x ρ1 => simp only [e1, Res.bind] at h; cases h
      | ok p =>
        simp only [e1, Res.bind] at h
        cases e2 : runO (lops Γ as) p.2 with
        | no => simp only [e2] at h; cases h
        | ex x ρ1 => simp only [e2] at h; cases h
        | ok q =>
          simp only [e2] at h
          cases h
          exact (show lockO (_ :: q.1) = lockO q.1 from rfl).trans (ih e2)
    cases n : noVw e with
    | true => exact gen n
    | false =>
      cases e with
      | vw i p =>
        simp only [lops, runO] at h
        cases e1 : ρ[i]? with
        | none => simp only [e1] at h; cases h
        | some o =>
        cases o with
        | none => simp only [e1] at h; cases h
        | some d =>
        simp only [e1] at h
        cases e3 : getP p d with
        | none => simp only [e3] at h; cases h
        | some y =>
        simp only [e3] at h
        cases e2 : runO (lops Γ as) (ρ.set i none) with
        | no => simp only [e2, Res.bind] at h; cases h
        | ex x ρ1 => simp only [e2, Res.bind] at h; cases h
        | ok q =>
          simp only [e2, Res.bind] at h
          cases h
          show i :: lockO q.1 = i :: lockS as
          rw [ih e2]
      | _ => cases n
theorem lop_logic {t : Tg} {k : ItK} {as : List Ex} {b : SF} {D : Ends} (ht : apart t.sl (lockS as ++ pr) = true) (h : tG G W pr (lopF t k (lops Γ as) b) D σ H) : tFor (tI G W k (lops Γ as)) (gT G.K t) (tG G W (lockS as ++ pr) b) D σ H := by
  obtain ⟨ρ0, O0, rE0, nd0, h⟩ := h
  unfold tFor tI
  refine run_ops _ ρ0 O0 rE0 nd0 ?_
  unfold OpsR
  unfold lopF at h
  cases er : runO (lops Γ as) ρ0 with
  | no => simp only [er, Res.out] at h; exact h
  | ex x ρ' =>
    simp only [er, Res.out] at h
    exact fun cls dd H' ⟨O', z1, z2, z3, z4⟩ => h σ cls dd H' ⟨O', z1, z2, z3, z4, .refl⟩
  | ok q =>
  obtain ⟨os, ρ1⟩ := q
  simp only [er, Res.out] at h
  intro vs H1 O1 T rE rO nd go
  have h := ContS.more go .refl h
  cases e1 : ovs os [] with
  | none => simp only [e1] at h; exact h.elim
  | some ds =>
  simp only [e1] at h
  cases e2 : itF k ds with
  | none => simp only [e2] at h; exact h.elim
  | some ps =>
  simp only [e2] at h
  refine ⟨ds, ps, ovl_ok rO e1, e2, fun J w => ?_⟩
  have nd' := nd_app.mp nd
  have lk := lock_of (Γ := Γ) er
  refine lop_in (pr' := lockS as ++ pr) w e1 ht rE nd'.2.1 rO nd'.2.2 (fun i q => List.mem_append_left _ (lk ▸ q)) ?_
  refine back_logic (T := T) (O1 := O1) (Ob := []) h (fun j q => List.mem_append_right _ q) nd'.1 nd'.2.2 rO.mut rE.mut fun {ρ ρ' σ' H' O' A} e r f p n d => ?_
  have rO' := (rO.fr f rE.mut nd'.2.2).st (σ' := σ') e1 fun i q => p.eq i (List.mem_append_left _ (lk ▸ q))
  exact unlock_ok rO' r (nd_app.mpr ⟨nd'.1, n, d⟩) e
end
end Vs
/-! V23: freezing a name's list; a place stored; a name for a place. -/
namespace Vs
open PySem PySem.Spec L2
open PyProof.Rows hiding St
section
variable {X : Cx} {G : Ga} {W : WX} {S : Sc} {Γ : Gam} {σ : L2.St} {H H' : Hp} {pr : List Nat}
theorem frz_ok {sts : List Stmt} {i : Nat} {g : SF} {u : TS} (h : PSs X sts (tSeq (tG G W pr g) u)) : PSs X sts (tSeq (tG G W pr fun ρ => (frzF i ρ).seq g) u) := ⟨fun pins s σ H D I ⟨ρ, O, rE, nd, c⟩ => by
  unfold frzF at c
  cases e1 : ρ[i]? with
  | none => simp only [e1, Out.seq] at c; exact c.elim
  | some o =>
  cases o with
  | none => simp only [e1, Out.seq] at c; exact c.elim
  | some d =>
  simp only [e1] at c
  cases e2 : d.fz with
  | none => simp only [e2, Out.seq] at c; exact c.elim
  | some p =>
  simp only [e2, Out.seq] at c
  obtain ⟨v, T, O2, hv, rv, pm, rE2⟩ := rE.out e1
  have nd' := nd_app.mp (pm.nodup nd)
  obtain ⟨H2, I2, k1, k2⟩ := freeze_all T I nd'.1 (rv.lsts e2)
  have f : Frm T H H2 := fun a o e n => by rw [k1 a n]; exact e
  have rE3 := rE2.fr f rv.mut fun a q z => nd'.2.2 a z q
  have hi : i < ρ.length := (List.getElem?_eq_some_iff.mp e1).1
  obtain ⟨O3, pm3, rE4⟩ := rE3.put (by rw [List.getElem?_set_self hi]) hv (Rep.sh (rv.frozen f rv.mut k2 e2 fun a q => q))
  rw [List.set_set] at rE4
  refine h.run pins s σ H2 D I2 ⟨_, O3, rE4, pm3.nodup_iff.mpr (by simpa using nd'.2.1), c.more ⟨fun a o e n => f a o e fun q => n (pm.mem_iff.mpr (List.mem_append_left _ q)), fun a q => .inl (pm.mem_iff.mpr (List.mem_append_right _ (by simpa using pm3.mem_iff.mp q)))⟩ .refl⟩⟩
/-! ### a place stored -/
theorem Reps.setV : ∀ {us : List V} {es : List D} {T T1 : List Addr} {j : Nat} {v : V} {d : D}, Reps G H us es T → Rep G H v d T1 → j < es.length → ∃ R, R.Sublist T ∧ ∃ T', Reps G H (us.set j v) (es.set j d) T' ∧ T'.Perm (T1 ++ R)
  | _, _, _, _, j, _, _, .nil, _, hj => by simp at hj
  | _, _, _, T1, 0, v, d, .cons (O := O) (O' := O') h hs, r, hj => ⟨O', List.sublist_append_right _ _, T1 ++ O', .cons r hs, .refl _⟩
  | _, _, _, T1, j + 1, v, d, .cons (O := O) (O' := O') h hs, r, hj => by
    obtain ⟨R, sb, T', a, b⟩ := Reps.setV (j := j) hs r (by simpa using hj)
    refine ⟨O ++ R, .append (.refl _) sb, O ++ T', .cons h a, ?_⟩
    exact (List.Perm.append_left O b).trans (by rw [← List.append_assoc, ← List.append_assoc]; exact List.Perm.append_right R List.perm_append_comm)
theorem dk_put : ∀ {kvs : List (Key × V)} {es : List D} {T T1 : List Addr} {k : Key} {v : V} {d : D}, Reps G H (kvs.map (·.2)) es T → Rep G H v d T1 → (kvs.map (·.1)).Nodup → k ∈ kvs.map (·.1) →
    ∃ R, R.Sublist T ∧ ∃ T', Reps G H ((kvs.map fun kv => if kv.1 = k then (kv.1, v) else kv).map (·.2)) (dkSet (kvs.map (·.1)) es k d) T' ∧ T'.Perm (T1 ++ R)
  | [], es, T, T1, k, v, d, h, r, nd, e => by simp at e
  | (q, u) :: kvs, es, T, T1, k, v, d, hh, r, nd, e => by
   cases hh with
   | @cons _ _ d0 ds O O' h hs =>
    have nd' := List.nodup_cons.mp (show (q :: kvs.map (·.1)).Nodup from nd)
    by_cases hk : q = k
    · subst hk
      have same : (kvs.map fun kv : Key × V => if kv.1 = q then (kv.1, v) else kv) = kvs := by
        rw [List.map_congr_left (g := id) fun kv hkv => ?_]
        · simp
        · rw [if_neg (fun z => nd'.1 (List.mem_map.mpr ⟨kv, hkv, z⟩))]; rfl
      refine ⟨O', List.sublist_append_right _ _, T1 ++ O', ?_, .refl _⟩
      simp only [List.map_cons, dkSet, if_pos]
      rw [same]
      exact .cons r hs
    · have e' : k ∈ kvs.map (·.1) := by
        rcases List.mem_cons.mp e with z | z
        · exact absurd z.symm hk
        · exact z
      obtain ⟨R, sb, T', a, b⟩ := dk_put hs r nd'.2 e'
      refine ⟨O ++ R, .append (.refl _) sb, O ++ T', ?_, ?_⟩
      · simp only [List.map_cons, dkSet, if_neg hk]
        exact .cons h a
      · exact (List.Perm.append_left O b).trans (by rw [← List.append_assoc, ← List.append_assoc]; exact List.Perm.append_right R List.perm_append_comm)
/-- behind a store in a dict -/
theorem dkPut_step {u v : V} {k : Key} {ks : List Key} {ds : List D} {c' d : D} {Tc Td : List Addr} {Q : Hp → Prop} (rc : Rep G H u (.dk ks ds) Tc) (rd : Rep G H v d Td) (nd : (Tc ++ Td).Nodup) (e : dkPut ks ds k d = some c')
    (h : ∀ H3 T3 l, l ∈ Tc → Frm [l] H H3 → Rep G H3 u c' T3 → T3.Nodup → (∀ a ∈ T3, a ∈ Tc ++ Td) → Q H3) : rSetD u (kV k) v H Q := by
  have nd' := nd_app.mp nd
  unfold dkPut at e
  split at e
  · rename_i hn
    cases rc with
    | @dk a kvs _ T ha hs =>
      have na := List.nodup_cons.mp nd'.1
      have hl : kvs.length < sizeLine := by
        have := hn.2
        rw [List.length_map] at this
        rw [sizeLine_eq]; omega
      refine ⟨a, _, rfl, DPut.k ha hl, ?_⟩
      have f : Frm [a] H (upd H a (.dK (putK kvs k v))) := fun b o q z => by rw [upd_ne (fun y : b = a => z (by rw [y]; simp))]; exact q
      have m : MutA H [a] := fun b q => by rw [List.mem_singleton] at q; subst q; rw [ha]; trivial
      have d1 : ∀ b ∈ T, b ∉ [a] := fun b q z => by rw [List.mem_singleton] at z; exact na.1 (z ▸ q)
      have d2 : ∀ b ∈ Td, b ∉ [a] := fun b q z => by rw [List.mem_singleton] at z; exact nd'.2.2 a List.mem_cons_self (z ▸ q)
      have hs' := hs.fr f m d1
      have rd' := rd.fr f m d2
      have fin : ∀ (T' R : List Addr), R.Sublist T → T'.Perm (Td ++ R) → (a :: T').Nodup ∧ ∀ b ∈ a :: T', b ∈ (a :: T) ++ Td := fun T' R sb pm => by
        refine ⟨List.nodup_cons.mpr ⟨fun z => ?_, pm.nodup_iff.mpr (nd_app.mpr ⟨nd'.2.1, sb.nodup na.2, fun b q z => nd'.2.2 b (List.mem_cons_of_mem _ (sb.subset z)) q⟩)⟩, fun b q => ?_⟩
        · rcases List.mem_append.mp (pm.mem_iff.mp z) with y | y
          · exact nd'.2.2 a List.mem_cons_self y
          · exact na.1 (sb.subset y)
        · rcases List.mem_cons.mp q with rfl | q
          · exact List.mem_append_left _ List.mem_cons_self
          · rcases List.mem_append.mp (pm.mem_iff.mp q) with y | y
            · exact List.mem_append_right _ y
            · exact List.mem_append_left _ (List.mem_cons_of_mem _ (sb.subset y))
      by_cases hk : k ∈ kvs.map (·.1)
      · rw [if_pos (hasK_iff.mpr hk)] at e
        cases e
        have hany : (kvs.any fun kv => decide (kv.1 = k)) = true := by
          obtain ⟨p, hp, e⟩ := List.mem_map.mp hk
          exact List.any_eq_true.mpr ⟨p, hp, by simpa using e⟩
        have ep : putK kvs k v = kvs.map fun kv => if kv.1 = k then (kv.1, v) else kv := by unfold putK; rw [if_pos hany]
        obtain ⟨R, sb, T', r', pm⟩ := dk_put hs' rd' hn.1 hk
        obtain ⟨g1, g2⟩ := fin T' R sb pm
        refine h _ (a :: T') a List.mem_cons_self f ?_ g1 g2
        have em : (putK kvs k v).map (·.1) = kvs.map (·.1) := by
          rw [ep, List.map_map]
          refine List.map_congr_left fun kv _ => ?_
          show (if kv.1 = k then (kv.1, v) else kv).1 = kv.1
          split <;> rfl
        rw [← em]
        refine .dk upd_same ?_
        rw [ep]
        rw [← em, ep] at r'
        exact r'
      · rw [if_neg (fun z => hk (hasK_iff.mp z))] at e
        cases e
        have hany : ¬ (kvs.any fun kv => decide (kv.1 = k)) = true := fun z => by
          obtain ⟨p, hp, e⟩ := List.any_eq_true.mp z
          exact hk (List.mem_map.mpr ⟨p, hp, by simpa using e⟩)
        have ep : putK kvs k v = kvs ++ [(k, v)] := by unfold putK; rw [if_neg hany]
        have r' := hs'.app (.cons rd' .nil)
        rw [List.append_nil] at r'
        obtain ⟨g1, g2⟩ := fin (T ++ Td) T (.refl _) List.perm_append_comm
        refine h _ (a :: (T ++ Td)) a List.mem_cons_self f ?_ g1 g2
        have em : kvs.map (·.1) ++ [k] = (putK kvs k v).map (·.1) := by rw [ep]; simp
        rw [em]
        refine .dk upd_same ?_
        rw [ep] at r' ⊢
        simpa using r'
  · cases e
def tPut (dk : Bool) : TSet := if dk = true then rSetD else rSetL
/-- what is stored in a container -/
theorem put_step {dk : Bool} {u kv v : V} {c c' d : D} {kk : PyData} {Tc Td : List Addr} {Q : Hp → Prop} (rc : Rep G H u c Tc) (rd : Rep G H v d Td) (rk : DpF G.K H kv kk) (nd : (Tc ++ Td).Nodup) (e : putD dk c kk d = some c')
    (h : ∀ H3 T3 l, l ∈ Tc → Frm [l] H H3 → Rep G H3 u c' T3 → T3.Nodup → (∀ a ∈ T3, a ∈ Tc ++ Td) → Q H3) : tPut dk u kv v H Q := by
  have nd' := nd_app.mp nd
  unfold putD at e
  split at e
  · rename_i ds n
    cases rc with
    | @ls a xs _ T ha hs =>
      cases rk
      cases ej : ixN ds.length n with
      | none => rw [ej] at e; cases e
      | some j =>
        rw [ej] at e; cases e
        have hj := (ixN_seq ej).2.1
        refine ⟨a, xs, n, j, rfl, rfl, ha, by rw [hs.len]; exact ej, ?_⟩
        have f : Frm [a] H (upd H a (.lst (xs.set j v))) := fun b o q z => by rw [upd_ne (fun y : b = a => z (by rw [y]; simp))]; exact q
        have m : MutA H [a] := fun b q => by rw [List.mem_singleton] at q; subst q; rw [ha]; trivial
        have na := List.nodup_cons.mp nd'.1
        have d1 : ∀ b ∈ T, b ∉ [a] := fun b q z => by rw [List.mem_singleton] at z; exact na.1 (z ▸ q)
        have d2 : ∀ b ∈ Td, b ∉ [a] := fun b q z => by rw [List.mem_singleton] at z; exact nd'.2.2 a List.mem_cons_self (z ▸ q)
        obtain ⟨R, sb, T', r', pm⟩ := (hs.fr f m d1).setV (rd.fr f m d2) hj
        refine h _ (a :: T') a List.mem_cons_self f (.ls upd_same r') ?_ fun b q => ?_
        · refine List.nodup_cons.mpr ⟨fun z => ?_, pm.nodup_iff.mpr (nd_app.mpr ⟨nd'.2.1, sb.nodup na.2, fun b q z => nd'.2.2 b (List.mem_cons_of_mem _ (sb.subset z)) q⟩)⟩
          rcases List.mem_append.mp (pm.mem_iff.mp z) with y | y
          · exact nd'.2.2 a List.mem_cons_self y
          · exact na.1 (sb.subset y)
        · rcases List.mem_cons.mp q with rfl | q
          · exact List.mem_append_left _ List.mem_cons_self
          · rcases List.mem_append.mp (pm.mem_iff.mp q) with y | y
            · exact List.mem_append_right _ y
            · exact List.mem_append_left _ (List.mem_cons_of_mem _ (sb.subset y))
  · rename_i ks ds x
    cases rk
    exact dkPut_step (k := .inr x) rc rd nd e h
  · rename_i ks ds x
    cases rk
    exact dkPut_step (k := .inl x) rc rd nd e h
  · cases e
theorem put_logic {dk : Bool} {i : Nat} {path : List PK} {k f : EF} {D : Ends} (h : tG G W pr (putF dk i path k f) D σ H) : tAsg (tE G W f) (gSub (tPath i path) (tE G W0 k) (tPut dk)) D σ H := by
  refine tE_mono (outE h) fun v H1 ⟨ρ1, d, O1, Td, rE, rv, nd, c⟩ => ?_
  simp only at c
  cases e0 : ρ1[i]? with
  | none => simp only [e0] at c; exact c.elim
  | some o =>
  cases o with
  | none => simp only [e0] at c; exact c.elim
  | some root =>
  simp only [e0] at c
  cases eg : getP path root with
  | none => simp only [eg] at c; exact c.elim
  | some y =>
  simp only [eg] at c
  obtain ⟨v0, O2, O3, hσ, rr, pm, rE'⟩ := rE.out e0
  have nd' := nd_app.mp nd
  have nO := nd_app.mp (pm.nodup nd'.2.1)
  obtain ⟨u, _, va, _, _⟩ := rr.place eg
  refine ⟨v0, u, hσ, va, tE_iff.mpr ⟨ρ1.set i none, O3, rE', nO.2.1, ?_⟩⟩
  cases ek : k (ρ1.set i none) with
  | no => simp only [ek] at c; exact c.elim
  | ex x ρ' => simp only [ek] at c; exact c.elim
  | ok q =>
  obtain ⟨dk', ρ2⟩ := q
  cases dk' with
  | sh kk =>
    simp only [ek] at c
    intro kv H2 ⟨O4, Tk, rE4, rk, nd4, go4⟩
    cases rk with
    | sh rk =>
    cases ep : putD dk y kk d with
    | none => simp only [ep] at c; exact c.elim
    | some c' =>
    simp only [ep] at c
    cases e2 : ρ2[i]? with
    | none => simp only [e2] at c; exact c.elim
    | some o =>
    cases o with
    | some _ => simp only [e2] at c; exact c.elim
    | none =>
    simp only [e2] at c
    have m3 : MutA H1 O3 := rE'.mut
    have dT : ∀ a ∈ Td, a ∉ O3 := fun a q z => nd'.2.2 a q (pm.mem_iff.mpr (List.mem_append_right _ z))
    have dR : ∀ a ∈ O2, a ∉ O3 := nO.2.2
    have rd2 := rv.fr go4.frm m3 dT
    have rr2 := rr.fr go4.frm m3 dR
    have va2 := va.fr rr eg go4.frm m3 dR
    have kp := go4.keep (T := Td ++ O2) fun a q => ⟨fun z => (List.mem_append.mp q).elim (fun y => dT a y z) fun y => dR a y z, (MutA.app rv.mut rr.mut).some a q⟩
    simp only [List.nil_append] at kp nd4
    obtain ⟨u', T, R, b1, b2, b3, b4⟩ := rr2.focusG eg nO.1
    cases va2.inj b1
    have nTR := nd_app.mp (b3.nodup nO.1)
    have ndTd : (T ++ Td).Nodup := nd_app.mpr ⟨nTR.1, nd'.1, fun a q z => nd'.2.2 a z (pm.mem_iff.mpr (List.mem_append_left _ (b3.mem_iff.mpr (List.mem_append_left _ q))))⟩
    refine put_step b2 rd2 rk ndTd ep fun H3 T3 l hl f r3 n3 s3 => ?_
    have ml : MutA H2 [l] := fun a q => by rw [List.mem_singleton] at q; subst q; exact b2.mut _ hl
    have lR : ∀ a ∈ [l], a ∉ R := fun a q => by rw [List.mem_singleton] at q; subst q; exact nTR.2.2 _ hl
    obtain ⟨T0', r4, pm4⟩ := b4 f ml lR r3
    have lO2 : l ∈ O2 := b3.mem_iff.mpr (List.mem_append_left _ hl)
    have rE5 := rE4.fr f ml fun a q z => by
      rw [List.mem_singleton] at z; subst z
      exact kp a (List.mem_append_right _ lO2) q
    obtain ⟨O5, pm5, rE6⟩ := rE5.put e2 hσ r4
    have inOld : ∀ a ∈ T0', a ∈ Td ++ O2 := fun a q => by
      rcases List.mem_append.mp (pm4.mem_iff.mp q) with y | y
      · rcases List.mem_append.mp (s3 a y) with y | y
        · exact List.mem_append_right _ (b3.mem_iff.mpr (List.mem_append_left _ y))
        · exact List.mem_append_left _ y
      · exact List.mem_append_right _ (b3.mem_iff.mpr (List.mem_append_right _ y))
    have nT0 : T0'.Nodup := pm4.nodup_iff.mpr (nd_app.mpr ⟨n3, nTR.2.1, fun a q z => by
      rcases List.mem_append.mp (s3 a q) with y | y
      · exact nTR.2.2 a y z
      · exact nd'.2.2 a y (pm.mem_iff.mpr (List.mem_append_left _ (b3.mem_iff.mpr (List.mem_append_right _ z))))⟩)
    refine c σ H3 ⟨O5, rE6, pm5.nodup_iff.mpr (nd_app.mpr ⟨nT0, nd4, fun a q => kp a (inOld a q)⟩), ?_, .refl⟩
    refine ⟨fun a o e n => ?_, fun a q => ?_⟩
    · have h1 : a ∉ O3 := fun z => n (List.mem_append_right _ (pm.mem_iff.mpr (List.mem_append_right _ z)))
      refine f a o (go4.frm a o e h1) fun z => ?_
      rw [List.mem_singleton] at z; subst z
      exact n (List.mem_append_right _ (pm.mem_iff.mpr (List.mem_append_left _ lO2)))
    · rcases List.mem_append.mp (pm5.mem_iff.mp q) with y | y
      · rcases List.mem_append.mp (inOld a y) with z | z
        · exact .inl (List.mem_append_left _ z)
        · exact .inl (List.mem_append_right _ (pm.mem_iff.mpr (List.mem_append_left _ z)))
      · exact (go4.sub a (List.mem_append_right _ y)).imp (fun z => List.mem_append_right _ (pm.mem_iff.mpr (List.mem_append_right _ z))) id
  | tp _ => simp only [ek] at c; exact c.elim
  | ls _ => simp only [ek] at c; exact c.elim
  | dk _ _ => simp only [ek] at c; exact c.elim
  | ob _ _ _ => simp only [ek] at c; exact c.elim
  | fn _ => simp only [ek] at c; exact c.elim
/-! ### a name for a place -/
theorem bor_logic {j i : Nat} {path : List PK} {b g : SF} {D : Ends} (hj : j ∉ pr) (h : tG G W pr (fun ρ => (borF j i path b ρ).seq g) D σ H) :
    tAsg (tPath i path) (gName j) { D with nx := fun σ1 H1 => tSeq (tG G W (j :: i :: pr) b) (tG G W pr g) D σ1 H1 } σ H := by
  obtain ⟨ρ, O, rE, nd, c⟩ := h
  unfold borF at c
  cases e0 : ρ[i]? with
  | none => simp only [e0, Out.seq] at c; exact c.elim
  | some o =>
  cases o with
  | none => simp only [e0, Out.seq] at c; exact c.elim
  | some root =>
  simp only [e0] at c
  cases eg : getP path root with
  | none => simp only [eg, Out.seq] at c; exact c.elim
  | some d =>
  simp only [eg] at c
  by_cases hc : i ≠ j ∧ j < ρ.length
  · rw [if_pos hc] at c
    obtain ⟨v0, T0, O2, hσ, rr, pm, rE'⟩ := rE.out e0
    have nO := nd_app.mp (pm.nodup nd)
    obtain ⟨u, T, R, va, ru, pT, put⟩ := rr.focusG eg nO.1
    have nTR := nd_app.mp (pT.nodup nO.1)
    refine ⟨v0, u, hσ, va, ?_⟩
    -- the place has the name j now
    have hj' : j < (ρ.set i none).length := by simpa using hc.2
    have ndT : (T ++ O2).Nodup := nd_app.mpr ⟨nTR.1, nO.2.1, fun a q z => nO.2.2 a (pT.mem_iff.mpr (List.mem_append_left _ q)) z⟩
    obtain ⟨O1, rE1, nd1, s1⟩ := rE'.setv ru ndT hj'
    have hσ1 : (σ.set j (some u))[i]? = some (some v0) := by rw [List.getElem?_set_ne (Ne.symm hc.1)]; exact hσ
    have hjl : j < σ.length := by rw [← rE.len]; exact hc.2
    have hσj : (σ.set j (some u))[j]? = some (some u) := by simp [hjl]
    have p01 : Prs pr σ (σ.set j (some u)) := ⟨by simp, fun k q => by rw [List.getElem?_set_ne]; rintro rfl; exact hj q⟩
    have dR : ∀ a ∈ R, a ∉ O1 := fun a q z => by
      rcases List.mem_append.mp (s1 a z) with y | y
      · exact nTR.2.2 a y q
      · exact nO.2.2 a (pT.mem_iff.mpr (List.mem_append_right _ q)) y
    have inO : ∀ a ∈ R ++ O1, a ∈ O := fun a q => by
      rcases List.mem_append.mp q with q | q
      · exact pm.mem_iff.mpr (List.mem_append_left _ (pT.mem_iff.mpr (List.mem_append_right _ q)))
      · rcases List.mem_append.mp (s1 a q) with y | y
        · exact pm.mem_iff.mpr (List.mem_append_left _ (pT.mem_iff.mpr (List.mem_append_left _ y)))
        · exact pm.mem_iff.mpr (List.mem_append_right _ y)
    have go0 : Go O H (R ++ O1) H := ⟨fun _ _ e _ => e, fun a q => .inl (inO a q)⟩
    -- given back at any end
    have back : ∀ {D' : Ends} (r : Out), ContS G W pr (R ++ O1) (σ.set j (some u)) H (r.back (giveB j i path root)) D' → ContS G W (j :: i :: pr) O1 (σ.set j (some u)) H r D' := fun {D'} r k => by
      refine back_logic (T := R) (O1 := O1) (Ob := []) k (fun x q => List.mem_cons_of_mem _ (List.mem_cons_of_mem _ q)) nTR.2.1 dR (rr.mut.sub fun a q => pT.mem_iff.mpr (List.mem_append_right _ q)) rE1.mut fun {ρ5 ρ6 σ5 H5 O5 A} e r5 f5 p5 n5 d5 => ?_
      unfold giveB at e
      split at e
      · rename_i d' e1 e2
        cases e
        obtain ⟨u', Td, O6, k1, k2, k3, k4⟩ := r5.out e1
        rw [p5.eq j List.mem_cons_self, hσj] at k1; cases k1
        have n6 := nd_app.mp (k3.nodup n5)
        -- the root is whole again
        have fA : ∃ A : List Addr, Frm A H H5 ∧ MutA H A ∧ ∀ a ∈ A, a ∉ R := ⟨O1, f5, rE1.mut, fun a q z => dR a z q⟩
        obtain ⟨A, f1, f2, f3⟩ := fA
        obtain ⟨T0', q1, q2⟩ := put f1 f2 f3 k2
        have ei : (ρ5.set j none)[i]? = some none := by rw [List.getElem?_set_ne (Ne.symm hc.1)]; exact e2
        obtain ⟨O7, q3, q4⟩ := k4.put ei (by rw [p5.eq i (List.mem_cons_of_mem _ List.mem_cons_self)]; exact hσ1) q1
        have inn : ∀ a ∈ T0', a ∈ Td ∨ a ∈ R := fun a q => List.mem_append.mp (q2.mem_iff.mp q)
        refine ⟨O7, q4, q3.nodup_iff.mpr (nd_app.mpr ⟨q2.nodup_iff.mpr (nd_app.mpr ⟨n6.1, nTR.2.1, fun a q z => d5 a z (k3.mem_iff.mpr (List.mem_append_left _ q))⟩), n6.2.1, fun a q z => ?_⟩), fun a q => ?_⟩
        · rcases inn a q with y | y
          · exact n6.2.2 a y z
          · exact d5 a y (k3.mem_iff.mpr (List.mem_append_right _ z))
        · rcases List.mem_append.mp (q3.mem_iff.mp q) with y | y
          · rcases inn a y with y | y
            · exact List.mem_append_right _ (k3.mem_iff.mpr (List.mem_append_left _ y))
            · exact List.mem_append_left _ y
          · exact List.mem_append_right _ (k3.mem_iff.mpr (List.mem_append_right _ y))
      · cases e
    have c' : ContS G W pr (R ++ O1) (σ.set j (some u)) H ((Out.back (giveB j i path root) (b ((ρ.set i none).set j (some d)))).seq g) D := c.more go0 p01
    refine ⟨_, O1, rE1, nd1, ?_⟩
    refine back _ ?_
    cases eb : (Out.back (giveB j i path root) (b ((ρ.set i none).set j (some d)))) with
    | nx ρ1 =>
      rw [eb] at c'
      exact fun σ' H' ⟨O', z1, z2, z3, z4⟩ => ⟨ρ1, O', z1, z2, c'.more z3 z4⟩
    | br ρ1 => rw [eb] at c'; exact c'
    | ct ρ1 => rw [eb] at c'; exact c'
    | rt d ρ1 => rw [eb] at c'; exact c'
    | ex x ρ1 => rw [eb] at c'; exact c'
    | no => rw [eb] at c'; exact c'
  · rw [if_neg hc] at c; exact c.elim
end
end Vs
/-! V24: every statement. -/
namespace Vs
open PySem PySem.Spec L2
open PyProof.Rows hiding St
section
variable {G : Ga} {Γ : Gam} {X : Cx} {W : WX} {S : Sc} {fn : Str → Bool}
theorem lcset_ok (C : Ctx G Γ S X) (hf : ∀ x, fn x = true → X.fn x = true) (tk : Takes X W) {t' : Tg} {tg x : PySem.Expr} {spos : Pos} {own : List Nat} {t : Tg} {k : ItK} {as ifs : List Ex} {e : Ex} (h : mE S (.lc own t k as ifs e) x = true) (hs : swapOk S tg x = true) (ht : mTg S fn t' tg = true) :
    PS X (.Assign [tg] x spos) (tAsg (tE G W (ev Γ (.lc own t k as ifs e))) (gT G.K t')) := by
  unfold mE at h
  split at h
  · rename_i elt tg1 it cs scope pos
    simp only [Bool.and_eq_true, decide_eq_true_eq] at h
    obtain ⟨⟨⟨⟨⟨⟨⟨⟨h1, h2⟩, h3⟩, h4⟩, h5⟩, h6⟩, h7⟩, h8⟩, h9⟩ := h
    split at h1
    · rename_i xs ex
      unfold swapOk at hs
      split at hs
      · rename_i y py elt0 gs0 scope0 pos0 he
        cases he
        simp only [Bool.and_eq_true, decide_eq_true_eq, Bool.not_eq_true'] at hs
        obtain ⟨⟨⟨s1, s2⟩, s3⟩, s4⟩ := hs
        cases t' with
        | tp is => unfold mTg at ht; cases ht
        | nm i =>
          have hst : stB S fn i y = true := ht
          unfold stB at hst
          rw [Bool.and_eq_true, decide_eq_true_eq] at hst
          have hN : X.N.Nodup := by rw [C.hN]; exact C.nd
          have hyl : X.env.scope.names.lookup y = some .local := by rw [C.sc]; exact s2
          have pi := pi_ok (tg := tg1) C ex (mL_ok as C tk h1) (fun z => by rw [z] at h2; simpa using h2)
          have ok := blkOk_by h3
          rw [← C.hN, ← C.sc] at ok
          refine psImp (ps_setLc C.calm hN (by rw [C.hN]; exact hst.1) hyl (sw_true (kind_fn C s1) hyl s3 s4) pi ok
            (fun s H c cl fp => tg_pg (C.blk s H scope c cl fp) (fun x z => z) h4)
            (fun s H c cl fp => ifs_ok (evTs_ok ifs (W := W0) (C.blk s H scope c cl fp) takes0 h7) h6)
            (fun s H c cl fp => ev_ok e (W := W0) (C.blk s H scope c cl fp) takes0 h8) (isSet_pure h9)) fun D σ H z => ?_
          rw [ownOf_map]
          refine lc_logic (fun i q => ?_) z
          have := List.all_eq_true.mp h5 i q
          simpa using this
      · cases hs
    · cases h1
  · cases h
theorem pset_ok (C : Ctx G Γ S X) {dk : Bool} : PSet X (tPut dk) := by
  have un := C.un
  cases dk with
  | true => exact set_dict (by omega)
  | false => exact set_list
theorem asg_ix {o i : PySem.Expr} {pos : Pos} {env : PySem.Env} (h : notSlice i = true) : ∀ v, assign (.Subscript o i pos) env v = (do
      let ov ← holding [v] (eval o env)
      let iv ← holding [v, ov] (eval i env)
      standAt pos
      holding [v, ov, iv] (setItem ov iv v)
      release [v, ov, iv] []) := by
  intro v
  cases i <;> first | rfl | cases h
def mBor (F : Str → PySem.Expr → List Stmt → Bool) : List Stmt → Bool
  | .Assign [.Name y py] x pos :: rest => F y x rest
  | _ => false
theorem bor_inv {F : Str → PySem.Expr → List Stmt → Bool} {sts : List Stmt} (h : mBor F sts = true) : ∃ y py x pos rest, sts = .Assign [.Name y py] x pos :: rest ∧ F y x rest = true := by
  unfold mBor at h
  split at h
  · exact ⟨_, _, _, _, _, rfl, h⟩
  · cases h
def mCons (f : Stmt → Bool) (g : List Stmt → Bool) : List Stmt → Bool
  | st :: rest => f st && g rest
  | [] => false
mutual
theorem go_ok (C : Ctx G Γ S X) (hf : ∀ x, fn x = true → X.fn x = true) (tk : Takes X W) (hp : PassesOwn (model X.prog X.w) X.A X.env X.xe) : ∀ (m : Sm) {pr : List Nat} {st : Stmt}, mS S fn pr m st = true → PS X st (tG G W pr (go Γ m))
  | .asg t e, pr, st, h => by
    unfold mS at h
    split at h
    · rename_i tg x pos
      simp only [Bool.and_eq_true, Bool.or_eq_true, Bool.not_eq_true'] at h
      obtain ⟨⟨h1, h2⟩, h3⟩ := h
      rcases h3 with ⟨⟨h3, h4⟩, h5⟩ | ⟨⟨h3, h4⟩, h5⟩
      · obtain ⟨k1, k2⟩ := stores_no (env := X.env) h4
        exact psImp (ps_asg (ev_ok e C tk h5) (tg_pg C hf h1) (swap_no h3) k1 k2) fun D σ H z => asg_logic h2 z
      · split at h5
        · exact psImp (lcset_ok C hf tk h4 h3 h1) fun D σ H z => asg_logic h2 z
        · cases h5
    · cases h
  | .par is es, pr, st, h => by
    unfold mS at h
    split at h
    · simp only [Bool.and_eq_true] at h
      exact par_ok C h.1.1 h.1.2 (evs_pos es C tk h.2)
    · cases h
  | .put dk i path k e, pr, st, h => by
    unfold mS at h
    split at h
    · rename_i o ix ipos x pos
      simp only [Bool.and_eq_true, Bool.not_eq_true'] at h
      obtain ⟨⟨⟨⟨h1, h2⟩, h3⟩, h4⟩, h5⟩ := h
      have hs : swapsWithSole [.Subscript o ix ipos] x pos.line X.env = pure false := by
        show swapsWith x (some (.Subscript o ix ipos)) pos.line X.env = pure false
        exact swap_no h1
      exact psImp (ps_asg (ev_ok e C tk h5) (pg_sub (mView_pe C h2) (ev_ok k (W := W0) C takes0 h4) (pset_ok C (dk := dk)) (asg_ix h3)) hs rfl rfl) fun D σ H z => put_logic z
    · cases h
  | .ex e, pr, st, h => by
    unfold mS at h
    split at h
    · simp only [Bool.and_eq_true, Bool.not_eq_true'] at h
      exact psImp (ps_expr (ev_ok e C tk h.2) (swap_no h.1)) fun D σ H z => ex_logic z
    · cases h
  | .ite c a b, pr, st, h => by
    unfold mS at h
    split at h
    · simp only [Bool.and_eq_true] at h
      have ha := gos_ok C hf tk hp a h.1.2 pss_nil
      have hb := gos_ok C hf tk hp b h.2 pss_nil
      rw [List.append_nil] at ha hb
      exact psImp (ps_if (evT_ok c C tk h.1.1) ha hb) fun D σ H z => ite_logic z
    · cases h
  | .whl c b, pr, st, h => by
    unfold mS at h
    split at h
    · simp only [Bool.and_eq_true] at h
      have hb := gos_ok C hf tk hp b h.2 pss_nil
      rw [List.append_nil] at hb
      exact psImp (ps_while hp (evT_ok c C tk h.1) hb) fun D σ H z => whl_logic z
    · cases h
  | .lop t k as b, pr, st, h => by
    unfold mS at h
    split at h
    · rename_i tg it p pos
      simp only [Bool.and_eq_true] at h
      obtain ⟨⟨⟨⟨⟨h1, h2⟩, h3⟩, h4⟩, h5⟩, h6⟩ := h
      split at h1
      · rename_i xs ex
        have hb := gos_ok C hf tk hp b h5 pss_nil
        rw [List.append_nil] at hb
        have pi := pi_ok (tg := tg) C ex (mL_ok as C tk h1) (fun z => by rw [z] at h2; simpa using h2)
        exact psImp (ps_for hp C.calm pi (tg_pg C hf h3) hb (isSet_pure h6)) fun D σ H z => lop_logic h4 z
      · cases h1
    · cases h
  | .ret e, pr, st, h => by
    unfold mS at h
    split at h
    · exact psImp (ps_ret (ev_ok e C tk h)) fun D σ H z => ret_logic z
    · cases h
  | .retN, pr, st, h => by
    unfold mS at h
    split at h
    · exact psImp ps_retN fun D σ H ⟨ρ, O, rE, nd, z⟩ => z σ .non H ⟨O, [], rE, .sh .non, nd, Go.refl, .refl⟩
    · cases h
  | .pass, pr, st, h => by
    unfold mS at h
    split at h
    · exact psImp ps_pass fun D σ H ⟨ρ, O, rE, nd, z⟩ => z σ H ⟨O, rE, nd, Go.refl, .refl⟩
    · cases h
  | .brk, pr, st, h => by
    unfold mS at h
    split at h
    · exact psImp ps_break fun D σ H ⟨ρ, O, rE, nd, z⟩ => z σ H ⟨O, rE, nd, Go.refl, .refl⟩
    · cases h
  | .cnt, pr, st, h => by
    unfold mS at h
    split at h
    · exact psImp ps_continue fun D σ H ⟨ρ, O, rE, nd, z⟩ => z σ H ⟨O, rE, nd, Go.refl, .refl⟩
    · cases h
  | .frz _, pr, st, h => by unfold mS at h; cases h
  | .bor _ _ _ _, pr, st, h => by unfold mS at h; cases h
theorem gos_ok (C : Ctx G Γ S X) (hf : ∀ x, fn x = true → X.fn x = true) (tk : Takes X W) (hp : PassesOwn (model X.prog X.w) X.A X.env X.xe) : ∀ (l : List Sm) {pr : List Nat} {sts rest : List Stmt} {u : TS}, mSs S fn pr l sts = true → PSs X rest u → PSs X (sts ++ rest) (tSeq (tG G W pr (gos Γ l)) u)
  | [], pr, sts, rest, u, h, hr => by
    unfold mSs at h
    have : sts = [] := by simpa using h
    subst this
    exact pssImp hr fun D σ H ⟨ρ, O, rE, nd, z⟩ => z σ H ⟨O, rE, nd, Go.refl, .refl⟩
  | m :: r, pr, sts, rest, u, h, hr => by
    have plain : (∀ i, m ≠ .frz i) → (∀ j i p b, m ≠ .bor j i p b) → mSs S fn pr (m :: r) sts = mCons (mS S fn pr m) (mSs S fn pr r) sts → PSs X (sts ++ rest) (tSeq (tG G W pr (gos Γ (m :: r))) u) := fun _ _ e => by
      rw [e] at h
      cases sts with
      | nil => cases h
      | cons st rest0 =>
        unfold mCons at h
        rw [Bool.and_eq_true] at h
        exact pssImp (pss_cons (go_ok C hf tk hp m h.1) (gos_ok C hf tk hp r h.2 hr)) fun D σ H z => seq_logic (D := { D with nx := u D }) z
    cases m with
    | frz i =>
      have h : mSs S fn pr r sts = true := h
      exact frz_ok (gos_ok C hf tk hp r h hr)
    | bor j i path b =>
      have h : mBor (fun y x rest => stB S fn j y && !pr.contains j && !isComp x && mPathR S i path.reverse x && mSs S fn (j :: i :: pr) b (rest.take (sizes b)) && mSs S fn pr r (rest.drop (sizes b))) sts = true := h
      obtain ⟨y, py, x, pos, rest0, e0, g⟩ := bor_inv h
      subst e0
      have g : (stB S fn j y && !pr.contains j && !isComp x && mPathR S i path.reverse x && mSs S fn (j :: i :: pr) b (rest0.take (sizes b)) && mSs S fn pr r (rest0.drop (sizes b))) = true := g
      simp only [Bool.and_eq_true, Bool.not_eq_true'] at g
      obtain ⟨⟨⟨⟨⟨h1, h2⟩, h3⟩, h4⟩, h5⟩, h6⟩ := g
      have hr1 := gos_ok C hf tk hp r h6 hr
      have hb := gos_ok C hf tk hp b h5 hr1
      rw [← List.append_assoc, List.take_append_drop] at hb
      have hs : PS X (.Assign [.Name y py] x pos) (tAsg (tPath i path) (gName j)) := by
        have hw : swapsWithSole [.Name y py] x pos.line X.env = pure false := by
          show swapsWith x (some (.Name y py)) pos.line X.env = pure false
          exact swap_no h3
        exact ps_asg (mView_pe C h4) (st_pg C hf h1) hw rfl rfl
      exact pssImp (pss_cons hs hb) fun D σ H z => bor_logic (D := { D with nx := u D }) (fun q => by simp [q] at h2) z
    | asg t e => exact plain (by simp) (by simp) (by cases sts <;> rfl)
    | par is es => exact plain (by simp) (by simp) (by cases sts <;> rfl)
    | put dk i path k e => exact plain (by simp) (by simp) (by cases sts <;> rfl)
    | ex e => exact plain (by simp) (by simp) (by cases sts <;> rfl)
    | ite c a b => exact plain (by simp) (by simp) (by cases sts <;> rfl)
    | whl c b => exact plain (by simp) (by simp) (by cases sts <;> rfl)
    | lop t k as b => exact plain (by simp) (by simp) (by cases sts <;> rfl)
    | ret e => exact plain (by simp) (by simp) (by cases sts <;> rfl)
    | retN => exact plain (by simp) (by simp) (by cases sts <;> rfl)
    | pass => exact plain (by simp) (by simp) (by cases sts <;> rfl)
    | brk => exact plain (by simp) (by simp) (by cases sts <;> rfl)
    | cnt => exact plain (by simp) (by simp) (by cases sts <;> rfl)
end
end
end Vs
/-! V25: a def by its own syntax. -/
namespace Vs
open PySem PySem.Spec L2
open PyProof.Rows hiding St
/-- the changed parameters' values behind -/
def outsE : List Bool → Env → Option (List D)
  | [], _ => some []
  | true :: io, o :: ρ => match o, outsE io ρ with
    | some d, some l => some (d :: l)
    | _, _ => none
  | false :: io, _ :: ρ => outsE io ρ
  | _ :: _, [] => none
/-- a def: from its arguments -/
def runD (n : Nat) (io : List Bool) (b : SF) (ds : List D) : FR := if ds.length = io.length then (match b (ds.map some ++ List.replicate (n - ds.length) none) with
    | .rt d ρ => match outsE io ρ with
      | some l => .ok d l
      | none => .no
    | .nx ρ => match outsE io ρ with
      | some l => .ok (.sh .none) l
      | none => .no
    | .ex x ρ => match outsE io ρ with
      | some l => .ex x l
      | none => .no
    | _ => .no) else .no
def denOf (Γ : Gam) (n : Nat) (io : List Bool) (b : List Sm) : Den := ⟨io, runD n io (gos Γ b)⟩
/-- the slots of the changed parameters -/
def ioS : List Bool → Nat → List Nat
  | [], _ => []
  | true :: io, k => k :: ioS io (k + 1)
  | false :: io, k => ioS io (k + 1)
section
variable {G : Ga} {H H' : Hp} {σ σ' : L2.St}
theorem none_rep : ∀ n : Nat, RepE G H (List.replicate n none) (List.replicate n none) []
  | 0 => .nil
  | n + 1 => .no (none_rep n)
theorem start_rep : ∀ {vs : List V} {ds : List D} {O : List Addr}, Reps G H vs ds O → ∀ n : Nat, RepE G H (vs.map some ++ List.replicate n none) (ds.map some ++ List.replicate n none) O
  | _, _, _, .nil, n => none_rep n
  | _, _, _, .cons r rs, n => .va r (start_rep rs n)
theorem ioS_ge : ∀ {io : List Bool} {k j : Nat}, j ∈ ioS io k → k ≤ j
  | true :: io, k, j, h => by
    rcases List.mem_cons.mp h with rfl | h
    · exact Nat.le_refl _
    · exact Nat.le_of_succ_le (ioS_ge h)
  | false :: io, k, j, h => Nat.le_of_succ_le (ioS_ge (k := k + 1) h)
/-- the changed ones, out of the names behind -/
theorem outs_rep : ∀ {io : List Bool} {vs : List V} {ρ : Env} {O : List Addr} {outs : List D} {τ : L2.St}, RepE G H' τ ρ O → vs.length = io.length → (∀ (j : Nat) (v : V), io[j]? = some true → vs[j]? = some v → τ[j]? = some (some v)) → outsE io ρ = some outs →
    ∃ O', Reps G H' (pick io vs) outs O' ∧ O'.Sublist O
  | [], vs, ρ, O, outs, τ, rE, hl, hs, e => by
    unfold outsE at e; cases e
    have : vs = [] := by simpa using hl
    subst this
    exact ⟨[], .nil, List.nil_sublist _⟩
  | true :: io, v :: vs, _, _, outs, _, .no (v := w) rE, hl, hs, e => by
    unfold outsE at e
    split at e
    · rename_i e1 _; cases e1
    · cases e
  | true :: io, v :: vs, _, _, outs, _, .va (v := w) (O1 := O1) (O := O) r rE, hl, hs, e => by
    unfold outsE at e
    split at e
    · rename_i d l e1 e2
      cases e1
      cases e
      have hw := hs 0 v rfl rfl
      simp at hw
      subst hw
      obtain ⟨O', a, b⟩ := outs_rep rE (by simpa using hl) (fun j u h1 h2 => by simpa using hs (j + 1) u (by simpa using h1) (by simpa using h2)) e2
      exact ⟨O1 ++ O', .cons r a, .append (.refl _) b⟩
    · cases e
  | false :: io, v :: vs, _, _, outs, _, .no (v := w) rE, hl, hs, e => by
    unfold outsE at e
    exact outs_rep (vs := vs) rE (by simpa using hl) (fun j u h1 h2 => by simpa using hs (j + 1) u (by simpa using h1) (by simpa using h2)) e
  | false :: io, v :: vs, _, _, outs, _, .va (v := w) (O1 := O1) (O := O) r rE, hl, hs, e => by
    unfold outsE at e
    obtain ⟨O', a, b⟩ := outs_rep (vs := vs) rE (by simpa using hl) (fun j u h1 h2 => by simpa using hs (j + 1) u (by simpa using h1) (by simpa using h2)) e
    exact ⟨O', a, b.trans (List.sublist_append_right _ _)⟩
  | true :: io, v :: vs, _, _, outs, _, .nil, hl, hs, e => by unfold outsE at e; cases e
  | false :: io, v :: vs, _, _, outs, _, .nil, hl, hs, e => by unfold outsE at e; cases e
  | _ :: _, [], _, _, _, _, _, hl, _, _ => by simp at hl
theorem ioS_mem : ∀ {io : List Bool} {k j : Nat}, io[j]? = some true → k + j ∈ ioS io k
  | true :: io, k, 0, h => List.mem_cons_self
  | true :: io, k, j + 1, h => List.mem_cons_of_mem _ (by
    have := ioS_mem (io := io) (k := k + 1) (j := j) (by simpa using h)
    rwa [show k + 1 + j = k + (j + 1) by omega] at this)
  | false :: io, k, 0, h => by simp at h
  | false :: io, k, j + 1, h => by
    have := ioS_mem (io := io) (k := k + 1) (j := j) (by simpa using h)
    rw [show k + 1 + j = k + (j + 1) by omega] at this
    exact this
  | [], k, j, h => by simp at h
/-- the body's reading at the parameters' values -/
theorem den_logic {n : Nat} {io : List Bool} {b : SF} {vs : List V} {Q : VK} {E : XK} (hsp : spD G ⟨io, runD n io b⟩ vs H Q E) :
    tG G (fun cls dd _ H' => E cls dd H') (ioS io 0) b { nx := fun _ H' => Q .non H', rt := Q } (vs.map some ++ List.replicate (n - vs.length) none) H := by
  obtain ⟨hl, ds, O, rs, nd, k⟩ := hsp
  have hd : ds.length = io.length := rs.len ▸ hl
  refine ⟨ds.map some ++ List.replicate (n - ds.length) none, O, by rw [rs.len]; exact start_rep rs _, nd, ?_⟩
  have st : ∀ {τ : L2.St}, Prs (ioS io 0) (vs.map some ++ List.replicate (n - vs.length) none) τ → ∀ (j : Nat) (v : V), io[j]? = some true → vs[j]? = some v → τ[j]? = some (some v) := fun {τ} p j v h1 h2 => by
    have hm := ioS_mem (k := 0) h1
    rw [Nat.zero_add] at hm
    rw [p.eq j hm]
    have hj : j < vs.length := (List.getElem?_eq_some_iff.mp h2).1
    rw [List.getElem?_append_left (by simpa using hj)]
    simp [h2]
  unfold runD at k
  simp only [if_pos hd] at k
  cases e : b (ds.map some ++ List.replicate (n - ds.length) none) with
  | no => simp only [e] at k
  | br ρ => simp only [e] at k
  | ct ρ => simp only [e] at k
  | nx ρ =>
    simp only [e] at k
    cases e2 : outsE io ρ with
    | none => simp only [e2] at k
    | some l =>
      simp only [e2] at k
      intro σ' H' ⟨O', r, nd', go, p⟩
      obtain ⟨O2, a, sb⟩ := outs_rep r hl (st p) e2
      exact k .non H' [] O2 (.sh .non) a (sb.nodup nd') (go.less fun x q => sb.subset q)
  | rt d ρ =>
    simp only [e] at k
    cases e2 : outsE io ρ with
    | none => simp only [e2] at k
    | some l =>
      simp only [e2] at k
      intro σ' v H' ⟨O', T, r, rv, nd', go, p⟩
      obtain ⟨O2, a, sb⟩ := outs_rep r hl (st p) e2
      have sb2 : (T ++ O2).Sublist (T ++ O') := .append (.refl _) sb
      exact k v H' T O2 rv a (sb2.nodup nd') (go.less fun x q => sb2.subset q)
  | ex x ρ =>
    simp only [e] at k
    cases e2 : outsE io ρ with
    | none => simp only [e2] at k
    | some l =>
      simp only [e2] at k
      intro σ' cls dd H' ⟨O', r, nd', go, xr, p⟩
      obtain ⟨O2, a, sb⟩ := outs_rep r hl (st p) e2
      exact k cls dd H' O2 a (sb.nodup nd') (go.less fun x q => sb.subset q) xr
end
end Vs
/-! V26: a def keeps its promise; the law's end. -/
namespace Vs
open PySem PySem.Spec L2
open PyProof.Rows hiding St
section
variable {P : Program} {w : World} {K : PySem.W.Frag} {mg : Str → Option Value} {base : Heap} {G : Ga}
theorem FnG.mono {j k : Nat} {f : Addr} {fd : FuncData} {ps : List Str} {sp : Sp} (F : FnG P w K mg base j f fd ps sp) (h : j ≤ k) : FnG P w K mg base k f fd ps sp :=
  ⟨F.len, fun A outer s H args us vs Q E hr => F.run A outer s H args us vs Q E (hr.mono h)⟩
/-- how a def's calls bind -/
def PatOk (K : PySem.W.Frag) (fd : FuncData) (ps : List Str) (p : Pat) : Prop := ∀ (s : Shared) (us ws zs : List Value), K.In s.heap → us.length = p.1 → ws.length = p.2.1.length → perm p.2.2 (us ++ ws) = some zs → BindsTo s fd ⟨us, p.2.1.zip ws⟩ (ps.zip zs)
/-- a def of the module that keeps its promise -/
structure FnM (P : Program) (w : World) (K : PySem.W.Frag) (mg : Str → Option Value) (base : Heap) (G : Ga) (k : Nat) (f : Str) (dn : Den) (pats : List Pat) : Prop where
  to : ∃ (a : Addr) (fd : FuncData) (ps : List Str), mg f = some (.ref a) ∧ PySem.W.keepIn K (.ref a) = true ∧ FnG P w K mg base k a fd ps (spD G dn) ∧ ∀ p ∈ pats, PatOk K fd ps p
theorem FnM.mono {j k : Nat} {f : Str} {dn : Den} {pats : List Pat} (F : FnM P w K mg base G j f dn pats) (h : j ≤ k) : FnM P w K mg base G k f dn pats := by
  obtain ⟨a, fd, ps, h1, h2, h3, h4⟩ := F.to
  exact ⟨a, fd, ps, h1, h2, h3.mono h, h4⟩
/-- what a def's body may lean on -/
structure Mo0 (P : Program) (w : World) (K : PySem.W.Frag) (mg : Str → Option Value) (base : Heap) (G : Ga) (k : Nat) (Γ : Gam) (bl : List Str) (pats : Str → List Pat) : Prop where
  hG : G.K = K
  con : ∀ x p, Γ.con x = some p → ∃ u v, mg x = some u ∧ RelV v u ∧ ∀ H, DpF K H v p
  fn : ∀ f dn, Γ.fn f = some dn → FnM P w K mg base G k f dn (pats f)
  bl : ∀ x, bl.contains x = true → mg x = none
theorem fnG_of {k : Nat} {f : Addr} {name qual : Str} {params : Arguments} {body : List Stmt} {scope : Scope} {dV kV doc pm cdv ct oc : Value} {an od : Option Addr} {osl : Array (Option Value)} {N ps : List Str} {Γ : Gam} {bl : List Str} {pats : Str → List Pat}
    (lk : K.lookup f = some ⟨oc, od, .func (PySem.W.fnOf name qual params body scope dV kV doc pm an cdv ct), osl⟩) (hcd : PySem.W.codeIn K cdv qual = true) (S : FnScope N ps scope) (M : Mo0 P w K mg base G k Γ bl pats)
    (io : List Bool) (hio : io.length = ps.length) (b : List Sm) (hm : mSs ⟨scope, N, bl, pats⟩ (fun _ => true) (ioS io 0) b body = true) :
    FnG P w K mg base (k + 1) f (PySem.W.fnOf name qual params body scope dV kV doc pm an cdv ct) ps (spD G (denOf Γ N.length io b)) := by
  have len : ∀ vs H Q E, spD G (denOf Γ N.length io b) vs H Q E → vs.length = ps.length := fun vs H Q E h => h.1.trans hio
  refine ⟨len, fun A outer s H args us vs Q E room gd e0 hb r hsp => ?_⟩
  have hl := len _ _ _ _ hsp
  have inK : K.In s.heap := e0.mod.kin.keeps fun c o q => (e0.bs c o q).1
  have noL : s.heap.NoLimit := e0.mod.nolimit.keeps fun c o q => (e0.bs c o q).1
  have kinds : ∀ y ∈ ps.zip us, scope.names.lookup y.1 = some .local ∨ (scope.names.lookup y.1 = some .cell ∧ ((cellsFrom (s.heap.objs.size + 1) scope.names []).lookup y.1).isSome = true) := by
    rintro ⟨n, v⟩ hy
    exact (S.par n (List.of_mem_zip hy).1).imp id fun q => ⟨q, PySem.W.cellsFrom_some _ _ _ (.inl q)⟩
  refine codeAny_call_function room.depth (inK _ _ lk) rfl S.co S.gen rfl (PySem.W.codeRec_of inK hcd) (hb _ _ _ _ ?_)
  refine wpAny_newFunctionEnv_cells S.kind kinds fun env he s1 x => ?_
  subst he
  refine ⟨noL.keeps x.toInCall.keep, codeAny_func ?_⟩
  have room1 := room.deeper (envOfC qual scope s.heap.objs.size f cdv)
  let X : Cx := cxOf (L2.CX P w) P w K mg base N qual scope f cdv A outer s H E
  have C : Ctx G Γ ⟨scope, N, bl, pats⟩ X :=
    { hG := M.hG, sc := rfl, hN := rfl, nd := S.nd, calm := rfl, gd := gd, un := by
        have := room1.un
        show (A.deeper _).units + 65 < cLine
        omega
      con := M.con, fn := fun g dn e => by
        obtain ⟨a, fd, qs, h1, h2, h3, h4⟩ := (M.fn g dn e).to
        exact ⟨a, fd, qs, k, h1, h2, room1, h3, fun n ks π hp => h4 (n, ks, π) hp⟩
      bl := M.bl }
  have tk : Takes X (fun cls dd _ H' => E cls dd H') := takes_of rfl rfl rfl rfl
  have pss := gos_ok C (fun _ _ => rfl) tk (passes_of rfl) b hm pss_nil
  rw [List.append_nil] at pss
  have I : Inv X [] (start N vs) H s1 := inv_start S room.hd e0 hl r x
  refine wpAny_mono (pss.run [] s1 (start N vs) H { nx := fun _ H' => Q .non H', rt := Q } I (den_logic hsp)) (fun fl s' hs => ?_) fun _ _ q => q
  have done : ∀ {τ : L2.St} {H' : Hp} {v : V} {u : Value}, Inv X [] τ H' s' → RelV v u → Q v H' → CE outer P w H s Q u s' := fun {τ H' v u} J rv q => ⟨v, H', J.os, J.bare, J.base, J.hok, rv, q⟩
  cases fl with
  | next => obtain ⟨τ, H', J, q⟩ := hs; exact done (v := V.non) (u := Value.none) J rfl q
  | ret u => obtain ⟨v, τ, H', J, rv, q⟩ := hs; exact done J rv q
  | brk => obtain ⟨_, _, _, q⟩ := hs; exact q.elim
  | cont => obtain ⟨_, _, _, q⟩ := hs; exact q.elim
/-- a def of the text, by the record the top wrote -/
theorem fnM_of {k : Nat} {x : Str} {f : Addr} {st : Stmt} {od an : Option Addr} {osl : Array (Option Value)} {oc kV doc pm cdv ct : Value} {N ps : List Str} {Γ : Gam} {bl : List Str} {pats : Str → List Pat}
    (hmg : mg x = some (.ref f)) (lk : K.lookup f = some ⟨oc, od, .func (PySem.W.fnOf x x (defArgs st) (defBody st) (defScope st) .none kV doc pm an cdv ct), osl⟩) (hcd : PySem.W.codeIn K cdv x = true) (kp : PySem.W.keepIn K (.ref f) = true)
    (S : FnScope N ps (defScope st)) (M : Mo0 P w K mg base G k Γ bl pats) (io : List Bool) (hio : io.length = ps.length) (b : List Sm) (hm : mSs ⟨defScope st, N, bl, pats⟩ (fun _ => true) (ioS io 0) b (defBody st) = true)
    (hp : ∀ (s : Shared) (us ws zs : List Value) (p : Pat), p ∈ pats x → us.length = p.1 → ws.length = p.2.1.length → perm p.2.2 (us ++ ws) = some zs → bindArgs (PySem.W.fnOf x x (defArgs st) (defBody st) (defScope st) .none kV doc pm an cdv ct) ⟨us, p.2.1.zip ws⟩ = pure (ps.zip zs)) :
    FnM P w K mg base G (k + 1) x (denOf Γ N.length io b) (pats x) :=
  ⟨f, _, ps, hmg, kp, fnG_of lk hcd S M io hio b hm, fun p hpp s us ws zs _ h1 h2 h3 => .of_eq (hp s us ws zs p hpp h1 h2 h3)⟩
end
/-! ### the law's end -/
theorem script_rep {G : Ga} {H : Hp} {a : Addr} {ns : List Int} (h1 : Only H) (h2 : SqL G.K H a (ns.map V.int)) : Reps G H [.ref a] [.sh (.list (ns.map .int))] [] := by
  have hs : DpFs G.K H (ns.map V.int) (ns.map .int) := by
    induction ns with
    | nil => exact .nil
    | cons n ns ih =>
      refine .cons (.int n) ?_
      clear h2 ih
      induction ns with
      | nil => exact .nil
      | cons m ns ih => exact .cons (.int m) ih
  have hf : SqF G.K H a (ns.map V.int) := by
    rcases h2 with (h | h) | h
    · rcases h1 a with z | ⟨o, xs, z⟩
      · rw [h] at z; cases z
      · rw [h] at z; cases z
    · exact .inl h
    · exact .inr (.inr h)
  exact .cons (O := []) (O' := []) (.sh (.lst hf hs)) .nil
theorem hid_same {h : Heap} {H : Hp} {a : Addr} {xs : Array Value} (e : h.get? a = some { cls := .type "list", data := .seq xs }) (n : ∀ b, H b ≠ none → b = a) {b : Addr} {o : Obj} {es : Array DictEntry} {ep : Nat} (eb : h.get? b = some o) (d : o.data = .dict es ep) : (hidT h H).get? b = some o := by
  refine hidT_get eb (Classical.byContradiction fun z => ?_)
  cases n b z
  rw [e] at eb
  cases eb
  exact nomatch d
/-- the law at a heap that knows of nothing but the script -/
theorem lawG_at {P : Program} {w : World} {G : Ga} {mg mb : Str → Option Value} {k : Nat} {fa a : Addr} {fd : FuncData} {x : Str} {dn : Den} {s₁ : Shared} {vs : List Value} {ns : List Int} {H : Hp} {outs : List D}
    (KX : G.K.In s₁.heap) (hns : s₁.heap.Ns mainGlobals mg) (hb : s₁.heap.Ns builtinsNs mb) (hbb : ∀ x : Str, x ≠ "__name__" → mb x = bootBuiltins x) (hlim : s₁.heap.NoLimit) (hg : s₁.gens = #[])
    (ha : s₁.heap.get? a = some { cls := .type "list", data := .seq vs.toArray }) (hr : Room k callerA) (F : ∀ base : Heap, G.K.In base → base.Ns mainGlobals mg → FnG P w G.K mg base k fa fd [x] (spD G dn))
    (hbind : ∀ (s : Shared) (u : Value), BindsTo s fd ⟨[u], []⟩ [(x, u)]) (hio : dn.io = [false]) (hm : dn.m [.sh (.list (ns.map .int))] = .ok (.sh (.bool true)) outs)
    (o1 : Only H) (o2 : SqL G.K H a (ns.map V.int)) (o3 : HOk P w H s₁.heap) (o4 : ∀ b, H b ≠ none → b = a) (o5 : H a ≠ none → G.K.lookup a = none) :
    codeAny (model P w) callerA (.call (.ref fa) ⟨[.ref a], []⟩) (fun r s' => r = .ok (.ret (.bool true)) ∧ OldK s₁.heap s'.heap ∧ s'.os = s₁.os ∧ AllBare s'.gens) s₁ := by
  have hid : ∀ {b : Addr} {m : Str → Option Value}, s₁.heap.Ns b m → (hidT s₁.heap H).Ns b m := by
    rintro b m ⟨o, es, ep, e, d, q⟩
    exact ⟨o, es, ep, hid_same ha o4 e d, d, q⟩
  have kin : G.K.In (hidT s₁.heap H) := fun b o e => hidT_get (KX b o e) (Classical.byContradiction fun z => by
    have h1 := o4 b z
    subst h1
    rw [o5 z] at e
    cases e)
  have noL : (hidT s₁.heap H).NoLimit := by
    obtain ⟨mc, z1, z2⟩ := hlim
    exact ⟨mc, hid z1, z2⟩
  have env : Env0 P w G.K mg (hidT s₁.heap H) callerA [] s₁ H :=
    { frames := rfl, mod := ⟨kin, hid hns, ⟨mb, hid hb, hbb⟩, noL⟩, bs := fun b o e => of_hidT e, bsz := Nat.le_of_eq (hidT_size _ _), funs := trivial, frf := fun b z => (nomatch (show b ∈ ([] : List Addr) from z)), hok := o3, bare := .of_eq hg }
  have sp : spD G dn [.ref a] H (fun v _ => v = .bl true) fun _ _ _ => False := by
    refine ⟨by rw [hio]; rfl, _, [], script_rep o1 o2, .nil, ?_⟩
    rw [hm]
    exact fun v H' T O' r _ _ _ => r.bl_of
  refine codeAny_mono ((F _ kin (hid hns)).run callerA [] s₁ H ⟨[.ref a], []⟩ [.ref a] [.ref a] _ _ hr rfl env (hbind s₁ (.ref a)) (.cons rfl .nil) sp) fun r s' h => ?_
  match r, h with
  | .error e, h => obtain ⟨_, _, _, _, _, _, _, _, _, _, _, _, z⟩ := h; exact z.elim
  | .ok .next, h => exact False.elim h
  | .ok .brk, h => exact False.elim h
  | .ok .cont, h => exact False.elim h
  | .ok (.ret u), ⟨v, H', os, bare, un, hok', r', q⟩ =>
    have q : v = .bl true := q
    subst q
    cases (show u = Value.bool true from r')
    refine ⟨rfl, OldK.of_keep fun b o e => ?_, os, bare⟩
    cases z : H b with
    | none => exact un.keep b o e z (fun y => nomatch y) (fun y => nomatch y)
    | some hb =>
      rcases o1 b with y | ⟨ob, xs, y⟩
      · rw [y] at z; cases z
      · obtain ⟨e1, _⟩ := o3 b _ y
        obtain ⟨e2, _⟩ := hok' b _ (un.frzs b ob _ y)
        rw [e] at e1; cases e1
        exact e2
theorem ints_vals : ∀ {vs : List Value} {ns : List Int}, IntsAre vs ns → Vals (ns.map V.int) vs := fun h => vals_ints h
/-- the head's goal, from the law's own den -/
theorem law_end {l : PySem.W.OpenLaw} {n k : Nat} {q : Program} {loose : List Str} {XP : (Str → Option Value) → Heap → Prop} {YP : World → Heap → Prop} {d : DefRec} {Kp : Params → PySem.W.Frag} {x : Str} {cl : Params → Str → Option Addr} {dn : Params → Den}
    (hn : l.most = some n) (hn2 : n ≤ sizeLine) (hdf : d.params.defaults = []) (hr : Room k callerA) (hY : ∀ (w : World) (h : Heap), YP w h → (Kp w.params).In h)
    (F : ∀ (w : World) (mg : Str → Option Value) (fa : Addr) (h : Heap), (Kp w.params).In h → h.Ns mainGlobals mg → mg d.name = some (.ref fa) →
      ∃ fd : FuncData, (∀ (s : Shared) (u : Value), BindsTo s fd ⟨[u], []⟩ [(x, u)]) ∧ ∀ base : Heap, (Kp w.params).In base → base.Ns mainGlobals mg → FnG l.prog w (Kp w.params) mg base k fa fd [x] (spD ⟨Kp w.params, cl w.params⟩ (dn w.params)))
    (hio : ∀ p, (dn p).io = [false]) (hm : ∀ p (ns : List Int), ns.length ≤ n → ∃ outs, (dn p).m [.sh (.list (ns.map .int))] = .ok (.sh (.bool true)) outs) :
    PySem.W.WalkO q loose XP YP l.row.toRowW d [] (fun f vs => PySem.call f vs) := by
  refine Att.attach_call hn hdf fun w s₀ s₁ mg mb fa o pm cd doc a vs ns Gd Y ho hd hcd hmg hobj hints hlen hg => ?_
  have KX := hY w _ Y
  obtain ⟨fd, hb, hF⟩ := F w mg fa _ KX Gd.T.g hmg
  obtain ⟨outs, hm⟩ := hm w.params ns hlen
  have at_ := fun (H : Hp) => lawG_at (G := ⟨Kp w.params, cl w.params⟩) (H := H) KX Gd.T.g Gd.T.b Gd.T.builtins Gd.T.nolimit hg hobj hr hF hb (hio _) hm
  have small : ns.length ≤ sizeLine := Nat.le_trans hlen hn2
  cases hk : (Kp w.params).lookup a with
  | some oa =>
    have e := KX a oa hk
    rw [hobj] at e
    cases e
    refine at_ (fun _ => none) (fun _ => .inl rfl) (.inr ⟨_, vs.toArray, _, hk, rfl, rfl, rfl, ?_, by simpa using ints_vals hints⟩) (fun b u z => (nomatch (show (none : Option HO) = some u from z))) (fun b z => absurd rfl z) fun z => absurd rfl z
    rw [List.size_toArray, hints.length]
    exact small
  | none =>
    let H : Hp := fun b => if b = a then some (.frz { cls := .type "list", data := .seq vs.toArray } (.lst (ns.map V.int))) else none
    have h1 : H a = some (.frz { cls := .type "list", data := .seq vs.toArray } (.lst (ns.map V.int))) := if_pos rfl
    have h2 : ∀ b, b ≠ a → H b = none := fun b z => if_neg z
    refine at_ H (fun b => ?_) (.inl (.inr ⟨_, h1⟩)) (fun b u z => ?_) (fun b z => Classical.byContradiction fun y => z (h2 b y)) fun _ => hk
    · by_cases hb : b = a
      · subst hb; exact .inr ⟨_, _, h1⟩
      · exact .inl (h2 b hb)
    · by_cases hb : b = a
      · subst hb
        rw [h1] at z
        cases z
        exact ⟨hobj, by rw [List.length_map]; exact small, vs, _, ints_vals hints, hobj⟩
      · rw [h2 b hb] at z; cases z
end Vs
/-! V27: small words for the printed texts. -/
namespace Vs
open PySem PySem.Spec L2
open PyProof.Rows hiding St
section
variable {α : Type} {us : List α}
theorem len0 (h : us.length = 0) : us = [] := by simpa using h
theorem len1 (h : us.length = 1) : ∃ a, us = [a] := by
  match us, h with
  | [a], _ => exact ⟨a, rfl⟩
theorem len2 (h : us.length = 2) : ∃ a b, us = [a, b] := by
  match us, h with
  | [a, b], _ => exact ⟨a, b, rfl⟩
theorem len3 (h : us.length = 3) : ∃ a b c, us = [a, b, c] := by
  match us, h with
  | [a, b, c], _ => exact ⟨a, b, c, rfl⟩
theorem len4 (h : us.length = 4) : ∃ a b c d, us = [a, b, c, d] := by
  match us, h with
  | [a, b, c, d], _ => exact ⟨a, b, c, d, rfl⟩
theorem len5 (h : us.length = 5) : ∃ a b c d e, us = [a, b, c, d, e] := by
  match us, h with
  | [a, b, c, d, e], _ => exact ⟨a, b, c, d, e, rfl⟩
theorem len6 (h : us.length = 6) : ∃ a b c d e f, us = [a, b, c, d, e, f] := by
  match us, h with
  | [a, b, c, d, e, f], _ => exact ⟨a, b, c, d, e, f, rfl⟩
theorem len7 (h : us.length = 7) : ∃ a b c d e f g, us = [a, b, c, d, e, f, g] := by
  match us, h with
  | [a, b, c, d, e, f, g], _ => exact ⟨a, b, c, d, e, f, g, rfl⟩
end
end Vs
/-! V28: the evaluator's equations. -/
namespace Vs
open PySem PySem.Spec L2
open PyProof.Rows hiding St
section
variable {Γ : Gam} {α β : Type} {ρ : Env}
@[simp] theorem gos_nil : gos Γ [] ρ = .nx ρ := (rfl)
@[simp] theorem gos_cons {s : Sm} {r : List Sm} : gos Γ (s :: r) ρ = (go Γ s ρ).seq (gos Γ r) := (rfl)
@[simp] theorem seq_nx {g : SF} : (Out.nx ρ).seq g = g ρ := (rfl)
@[simp] theorem seq_rt {g : SF} {d : D} : (Out.rt d ρ).seq g = .rt d ρ := (rfl)
@[simp] theorem seq_br {g : SF} : (Out.br ρ).seq g = .br ρ := (rfl)
@[simp] theorem seq_ct {g : SF} : (Out.ct ρ).seq g = .ct ρ := (rfl)
@[simp] theorem seq_ex {g : SF} {x : Exc} : (Out.ex x ρ).seq g = .ex x ρ := (rfl)
@[simp] theorem seq_no {g : SF} : (Out.no).seq g = .no := (rfl)
@[simp] theorem out_ok {a : α} {k : α → Out} : (Res.ok a).out k = k a := (rfl)
@[simp] theorem bind_ok' {a : α} {k : α → Res β} : (Res.ok a).bind k = k a := (rfl)
@[simp] theorem go_asg {t : Tg} {e : Ex} : go Γ (.asg t e) ρ = asgF t (ev Γ e) ρ := (rfl)
@[simp] theorem go_par {is : List Nat} {es : List Ex} : go Γ (.par is es) ρ = parF is (sops Γ es) ρ := (rfl)
@[simp] theorem go_put {dk : Bool} {i : Nat} {p : List PK} {k e : Ex} : go Γ (.put dk i p k e) ρ = putF dk i p (ev Γ k) (ev Γ e) ρ := (rfl)
@[simp] theorem go_ex {e : Ex} : go Γ (.ex e) ρ = exF (ev Γ e) ρ := (rfl)
@[simp] theorem go_ite {c : Ex} {a b : List Sm} : go Γ (.ite c a b) ρ = iteF (evT Γ c) (gos Γ a) (gos Γ b) ρ := (rfl)
@[simp] theorem go_whl {c : Ex} {b : List Sm} : go Γ (.whl c b) ρ = whL (evT Γ c) (gos Γ b) fuel ρ := (rfl)
@[simp] theorem go_lop {t : Tg} {k : ItK} {as : List Ex} {b : List Sm} : go Γ (.lop t k as b) ρ = lopF t k (lops Γ as) (gos Γ b) ρ := (rfl)
@[simp] theorem go_ret {e : Ex} : go Γ (.ret e) ρ = retF (ev Γ e) ρ := (rfl)
@[simp] theorem go_retN : go Γ .retN ρ = .rt (.sh .none) ρ := (rfl)
@[simp] theorem go_pass : go Γ .pass ρ = .nx ρ := (rfl)
@[simp] theorem go_brk : go Γ .brk ρ = .br ρ := (rfl)
@[simp] theorem go_cnt : go Γ .cnt ρ = .ct ρ := (rfl)
@[simp] theorem go_frz {i : Nat} : go Γ (.frz i) ρ = frzF i ρ := (rfl)
@[simp] theorem go_bor {j i : Nat} {p : List PK} {b : List Sm} : go Γ (.bor j i p b) ρ = borF j i p (gos Γ b) ρ := (rfl)
@[simp] theorem ev_lit {d : PyData} : ev Γ (.lit d) ρ = .ok (.sh d, ρ) := (rfl)
@[simp] theorem ev_rd {i : Nat} : ev Γ (.rd i) ρ = rdE i ρ := (rfl)
@[simp] theorem ev_mv {i : Nat} : ev Γ (.mv i) ρ = mvE i ρ := (rfl)
@[simp] theorem ev_tup {es : List Ex} : ev Γ (.tup es) ρ = dispE mkTup (sops Γ es) ρ := (rfl)
@[simp] theorem ev_lst {es : List Ex} : ev Γ (.lst es) ρ = dispE .ls (sops Γ es) ρ := (rfl)
@[simp] theorem ev_op {o : Op} {as : List Ex} : ev Γ (.op o as) ρ = opE (opD o) (wrapO o (sops Γ as)) ρ := (rfl)
@[simp] theorem ev_chn {o o' : Op} {a b c : Ex} : ev Γ (.chn o o' a b c) ρ = chnE (opD o) (opD o') (ev Γ a) (ev Γ b) (ev Γ c) ρ := (rfl)
@[simp] theorem ev_bop {k : Bool} {es : List Ex} : ev Γ (.bop k es) ρ = bopE k (evs Γ es) ρ := (rfl)
@[simp] theorem ev_not {a : Ex} : ev Γ (.not a) ρ = notE (ev Γ a) ρ := (rfl)
@[simp] theorem ev_ite {c a b : Ex} : ev Γ (.ite c a b) ρ = iteE (evT Γ c) (ev Γ a) (ev Γ b) ρ := (rfl)
@[simp] theorem ev_call {f : Str} {as bs : List Ex} {ks : List Str} {π : List Nat} : ev Γ (.call f as bs ks π) ρ = callE (Γ.fn f) ks (sops Γ as ++ sops Γ bs) π ρ := (rfl)
@[simp] theorem ev_mut {m : Mo} {i : Nat} {p : List PK} {as : List Ex} : ev Γ (.mut m i p as) ρ = mutE m i p (sops Γ as) ρ := (rfl)
@[simp] theorem ev_lc {own : List Nat} {t : Tg} {k : ItK} {as ifs : List Ex} {e : Ex} : ev Γ (.lc own t k as ifs e) ρ = lcE own t k (lops Γ as) (ifT (evTs Γ ifs)) (ev Γ e) ρ := (rfl)
@[simp] theorem ev_fz {a : Ex} : ev Γ (.fz a) ρ = fzE (ev Γ a) ρ := (rfl)
@[simp] theorem ev_at {i : Nat} {p : List PK} : ev Γ (.at i p) ρ = atE i p ρ := (rfl)
@[simp] theorem ev_dct {ks : List Key} {es : List Ex} : ev Γ (.dct ks es) ρ = dctE ks (sops Γ es) ρ := (rfl)
@[simp] theorem evs_nil : evs Γ [] = [] := (rfl)
@[simp] theorem evs_cons {e : Ex} {es : List Ex} : evs Γ (e :: es) = ev Γ e :: evs Γ es := (rfl)
@[simp] theorem evTs_nil : evTs Γ [] = [] := (rfl)
@[simp] theorem evTs_cons {e : Ex} {es : List Ex} : evTs Γ (e :: es) = evT Γ e :: evTs Γ es := (rfl)
@[simp] theorem evT_bop {k : Bool} {es : List Ex} : evT Γ (.bop k es) ρ = bopT k (evTs Γ es) ρ := (rfl)
@[simp] theorem evT_not {a : Ex} : evT Γ (.not a) ρ = (evT Γ a ρ).bind fun q => .ok (!q.1, q.2) := (rfl)
@[simp] theorem evT_lit {d : PyData} : evT Γ (.lit d) ρ = boolE (litE d) ρ := (rfl)
@[simp] theorem evT_rd {i : Nat} : evT Γ (.rd i) ρ = boolE (rdE i) ρ := (rfl)
@[simp] theorem evT_op {o : Op} {as : List Ex} : evT Γ (.op o as) ρ = boolE (opE (opD o) (wrapO o (sops Γ as))) ρ := (rfl)
@[simp] theorem evT_chn {o o' : Op} {a b c : Ex} : evT Γ (.chn o o' a b c) ρ = boolE (chnE (opD o) (opD o') (ev Γ a) (ev Γ b) (ev Γ c)) ρ := (rfl)
@[simp] theorem evT_call {f : Str} {as bs : List Ex} {ks : List Str} {π : List Nat} : evT Γ (.call f as bs ks π) ρ = boolE (callE (Γ.fn f) ks (sops Γ as ++ sops Γ bs) π) ρ := (rfl)
@[simp] theorem sops_nil : sops Γ [] = [] := (rfl)
@[simp] theorem sops_v {i : Nat} {es : List Ex} : sops Γ (.vw i [] :: es) = .v i :: sops Γ es := (rfl)
@[simp] theorem sops_p {i : Nat} {k : PK} {p : List PK} {es : List Ex} : sops Γ (.vw i (k :: p) :: es) = .p i (k :: p) :: sops Γ es := (rfl)
@[simp] theorem lops_nil : lops Γ [] = [] := (rfl)
@[simp] theorem lops_v {i : Nat} {p : List PK} {es : List Ex} : lops Γ (.vw i p :: es) = .p i p :: lops Γ es := (rfl)
section
variable {es : List Ex} {a b c : Ex} {as bs ifs : List Ex} {o o' : Op} {k : Bool} {i : Nat} {d : PyData} {x : Str} {m : Mo} {p : List PK} {own : List Nat} {t : Tg} {ik : ItK} {ks : List Str} {π : List Nat} {kk : List Key}
@[simp] theorem sops_lit : sops Γ (.lit d :: es) = .e (ev Γ (.lit d)) :: sops Γ es := (rfl)
@[simp] theorem sops_rd : sops Γ (.rd i :: es) = .e (ev Γ (.rd i)) :: sops Γ es := (rfl)
@[simp] theorem sops_mv : sops Γ (.mv i :: es) = .e (ev Γ (.mv i)) :: sops Γ es := (rfl)
@[simp] theorem sops_gl : sops Γ (.gl x :: es) = .e (ev Γ (.gl x)) :: sops Γ es := (rfl)
@[simp] theorem sops_tup : sops Γ (.tup as :: es) = .e (ev Γ (.tup as)) :: sops Γ es := (rfl)
@[simp] theorem sops_lst : sops Γ (.lst as :: es) = .e (ev Γ (.lst as)) :: sops Γ es := (rfl)
@[simp] theorem sops_op : sops Γ (.op o as :: es) = .e (ev Γ (.op o as)) :: sops Γ es := (rfl)
@[simp] theorem sops_chn : sops Γ (.chn o o' a b c :: es) = .e (ev Γ (.chn o o' a b c)) :: sops Γ es := (rfl)
@[simp] theorem sops_bop : sops Γ (.bop k as :: es) = .e (ev Γ (.bop k as)) :: sops Γ es := (rfl)
@[simp] theorem sops_not : sops Γ (.not a :: es) = .e (ev Γ (.not a)) :: sops Γ es := (rfl)
@[simp] theorem sops_ite : sops Γ (.ite a b c :: es) = .e (ev Γ (.ite a b c)) :: sops Γ es := (rfl)
@[simp] theorem sops_call : sops Γ (.call x as bs ks π :: es) = .e (ev Γ (.call x as bs ks π)) :: sops Γ es := (rfl)
@[simp] theorem sops_mut : sops Γ (.mut m i p as :: es) = .e (ev Γ (.mut m i p as)) :: sops Γ es := (rfl)
@[simp] theorem sops_lc : sops Γ (.lc own t ik as ifs a :: es) = .e (ev Γ (.lc own t ik as ifs a)) :: sops Γ es := (rfl)
@[simp] theorem sops_fz : sops Γ (.fz a :: es) = .e (ev Γ (.fz a)) :: sops Γ es := (rfl)
@[simp] theorem sops_at : sops Γ (.at i p :: es) = .e (ev Γ (.at i p)) :: sops Γ es := (rfl)
@[simp] theorem sops_dct : sops Γ (.dct kk as :: es) = .e (ev Γ (.dct kk as)) :: sops Γ es := (rfl)
@[simp] theorem lops_lit : lops Γ (.lit d :: es) = .e (ev Γ (.lit d)) :: lops Γ es := (rfl)
@[simp] theorem lops_rd : lops Γ (.rd i :: es) = .e (ev Γ (.rd i)) :: lops Γ es := (rfl)
@[simp] theorem lops_mv : lops Γ (.mv i :: es) = .e (ev Γ (.mv i)) :: lops Γ es := (rfl)
@[simp] theorem lops_gl : lops Γ (.gl x :: es) = .e (ev Γ (.gl x)) :: lops Γ es := (rfl)
@[simp] theorem lops_tup : lops Γ (.tup as :: es) = .e (ev Γ (.tup as)) :: lops Γ es := (rfl)
@[simp] theorem lops_lst : lops Γ (.lst as :: es) = .e (ev Γ (.lst as)) :: lops Γ es := (rfl)
@[simp] theorem lops_op : lops Γ (.op o as :: es) = .e (ev Γ (.op o as)) :: lops Γ es := (rfl)
@[simp] theorem lops_call : lops Γ (.call x as bs ks π :: es) = .e (ev Γ (.call x as bs ks π)) :: lops Γ es := (rfl)
@[simp] theorem lops_lc : lops Γ (.lc own t ik as ifs a :: es) = .e (ev Γ (.lc own t ik as ifs a)) :: lops Γ es := (rfl)
@[simp] theorem lops_fz : lops Γ (.fz a :: es) = .e (ev Γ (.fz a)) :: lops Γ es := (rfl)
@[simp] theorem lops_at : lops Γ (.at i p :: es) = .e (ev Γ (.at i p)) :: lops Γ es := (rfl)
end
@[simp] theorem runO_nil : runO [] ρ = .ok ([], ρ) := (rfl)
@[simp] theorem runO_e {f : EF} {r : List Sop} : runO (.e f :: r) ρ = (f ρ).bind fun p => (runO r p.2).bind fun q => .ok (.d p.1 :: q.1, q.2) := (rfl)
@[simp] theorem runO_v' {i : Nat} {r : List Sop} : runO (.v i :: r) ρ = (match ρ[i]? with
  | some (some _) => (runO r ρ).bind fun q => .ok (.v i :: q.1, q.2)
  | _ => .no) := (rfl)
@[simp] theorem runO_p' {i : Nat} {path : List PK} {r : List Sop} : runO (.p i path :: r) ρ = (match ρ[i]? with
  | some (some d) => match getP path d with
    | some _ => (runO r (ρ.set i none)).bind fun q => .ok (.p i path d :: q.1, q.2)
    | none => .no
  | _ => .no) := (rfl)
@[simp] theorem asgF_eq {t : Tg} {f : EF} : asgF t f ρ = (f ρ).out fun q => match bindT [] t q.1 q.2 with
  | some ρ' => .nx ρ'
  | none => .no := (rfl)
@[simp] theorem parF_eq {is : List Nat} {ops : List Sop} : parF is ops ρ = (runO ops ρ).out fun q => match ods q.1 with
  | some ds => match setAll [] is ds q.2 with
    | some ρ' => .nx ρ'
    | none => .no
  | none => .no := (rfl)
@[simp] theorem exF_eq {f : EF} : exF f ρ = (f ρ).out fun q => .nx q.2 := (rfl)
@[simp] theorem iteF_eq {c : TF} {a b : SF} : iteF c a b ρ = (c ρ).out fun q => if q.1 = true then a q.2 else b q.2 := (rfl)
@[simp] theorem retF_eq {f : EF} : retF f ρ = (f ρ).out fun q => .rt q.1 q.2 := (rfl)
@[simp] theorem frzF_eq {i : Nat} : frzF i ρ = (match ρ[i]? with
  | some (some d) => match d.fz with
    | some p => .nx (ρ.set i (some (.sh p)))
    | none => .no
  | _ => .no) := (rfl)
@[simp] theorem borF_eq {j i : Nat} {path : List PK} {b : SF} : borF j i path b ρ = (match ρ[i]? with
  | some (some root) => match getP path root with
    | some d => if i ≠ j ∧ j < ρ.length then (b ((ρ.set i none).set j (some d))).back (giveB j i path root) else .no
    | none => .no
  | _ => .no) := (rfl)
@[simp] theorem giveB_eq {j i : Nat} {path : List PK} {root : D} : giveB j i path root ρ = (match ρ[j]?, ρ[i]? with
  | some (some d), some none => some ((ρ.set j none).set i (some (setP path root d)))
  | _, _ => none) := (rfl)
@[simp] theorem back_nx {f : Env → Option Env} : (Out.nx ρ).back f = (match f ρ with | some ρ' => .nx ρ' | none => .no) := (rfl)
@[simp] theorem back_rt {f : Env → Option Env} {d : D} : (Out.rt d ρ).back f = (match f ρ with | some ρ' => .rt d ρ' | none => .no) := (rfl)
@[simp] theorem back_br {f : Env → Option Env} : (Out.br ρ).back f = (match f ρ with | some ρ' => .br ρ' | none => .no) := (rfl)
@[simp] theorem back_ct {f : Env → Option Env} : (Out.ct ρ).back f = (match f ρ with | some ρ' => .ct ρ' | none => .no) := (rfl)
@[simp] theorem putF_eq {dk : Bool} {i : Nat} {path : List PK} {k f : EF} : putF dk i path k f ρ = (f ρ).out fun q => match q.2[i]? with
  | some (some root) => match getP path root with
    | some c => match k (q.2.set i none) with
      | .ok (.sh kk, ρ2) => match putD dk c kk q.1 with
        | some c' => match ρ2[i]? with
          | some none => .nx (ρ2.set i (some (setP path root c')))
          | _ => .no
        | none => .no
      | _ => .no
    | none => .no
  | _ => .no := (rfl)
@[simp] theorem rdE_eq {i : Nat} : rdE i ρ = (match ρ[i]? with
  | some (some (.sh d)) => .ok (.sh d, ρ)
  | _ => .no) := (rfl)
@[simp] theorem mvE_eq {i : Nat} : mvE i ρ = (match ρ[i]? with
  | some (some d) => .ok (d, ρ.set i none)
  | _ => .no) := (rfl)
@[simp] theorem litE_eq {d : PyData} : litE d ρ = .ok (.sh d, ρ) := (rfl)
@[simp] theorem opE_eq {o : List D → Option D} {ops : List Sop} : opE o ops ρ = (runO ops ρ).bind fun q => match ovs q.1 q.2 with
  | some ds => match o ds with
    | some d => match unlock q.1 q.2 with
      | some ρ' => .ok (d, ρ')
      | none => .no
    | none => .no
  | none => .no := (rfl)
@[simp] theorem dispE_eq {mk : List D → D} {ops : List Sop} : dispE mk ops ρ = (runO ops ρ).bind fun q => match ods q.1 with
  | some ds => if ds.length ≤ 1000 then .ok (mk ds, q.2) else .no
  | none => .no := (rfl)
@[simp] theorem fzE_eq {f : EF} : fzE f ρ = (f ρ).bind fun q => match q.1.fz with
  | some d => .ok (.sh d, q.2)
  | none => .no := (rfl)
@[simp] theorem boolE_eq {f : EF} : boolE f ρ = (f ρ).bind fun q => match q.1 with
  | .sh (.bool b) => .ok (b, q.2)
  | _ => .no := (rfl)
@[simp] theorem notE_eq {f : EF} : notE f ρ = (f ρ).bind fun q => match q.1 with
  | .sh (.bool b) => .ok (DB (!b), q.2)
  | _ => .no := (rfl)
@[simp] theorem iteE_eq {c : TF} {a b : EF} : iteE c a b ρ = (c ρ).bind fun q => if q.1 = true then a q.2 else b q.2 := (rfl)
@[simp] theorem bopT_one {k : Bool} {f : TF} : bopT k [f] ρ = f ρ := (rfl)
@[simp] theorem bopT_two {k : Bool} {f g : TF} {r : List TF} : bopT k (f :: g :: r) ρ = (f ρ).bind fun q => if q.1 = k then bopT k (g :: r) q.2 else .ok (q.1, q.2) := (rfl)
@[simp] theorem bopE_one {k : Bool} {f : EF} : bopE k [f] ρ = f ρ := (rfl)
@[simp] theorem bopE_two {k : Bool} {f g : EF} {r : List EF} : bopE k (f :: g :: r) ρ = (f ρ).bind fun q => match q.1 with
    | .sh (.bool b) => if b = k then bopE k (g :: r) q.2 else .ok (DB b, q.2)
    | _ => .no := (rfl)
@[simp] theorem atE_eq {i : Nat} {path : List PK} : atE i path ρ = (match ρ[i]? with
  | some (some root) => match getP path root with
    | some (.sh d) => .ok (.sh d, ρ)
    | _ => .no
  | _ => .no) := (rfl)
@[simp] theorem dctE_eq {ks : List Key} {ops : List Sop} : dctE ks ops ρ = (runO ops ρ).bind fun q => match ods q.1 with
  | some ds => if ks.length = ds.length ∧ ks.Nodup then .ok (.dk ks ds, q.2) else .no
  | none => .no := (rfl)
@[simp] theorem mutE_eq {m : Mo} {i : Nat} {path : List PK} {ops : List Sop} : mutE m i path ops ρ = (match ρ[i]? with
  | some (some root) => match getP path root with
    | some (.ls _) => match path with
      | [] => (runO ops ρ).bind fun q => match ods q.1, q.2[i]? with
        | some as, some (some (.ls ds)) => match mo m ds as with
          | some (ds', r) => .ok (r, q.2.set i (some (.ls ds')))
          | none => .no
        | _, _ => .no
      | path => (runO ops (ρ.set i none)).bind fun q => match ods q.1, getP path root, q.2[i]? with
        | some as, some (.ls ds), some none => match mo m ds as with
          | some (ds', r) => .ok (r, q.2.set i (some (setP path root (.ls ds'))))
          | none => .no
        | _, _, _ => .no
    | _ => .no
  | _ => .no) := by
  unfold mutE
  rfl
@[simp] theorem callE_some {dn : Den} {ks : List Str} {ops : List Sop} {π : List Nat} : callE (some dn) ks ops π ρ = callD dn ks ops π ρ := (rfl)
@[simp] theorem callD_eq {dn : Den} {ks : List Str} {ops : List Sop} {π : List Nat} : callD dn ks ops π ρ = (runO ops ρ).bind fun q => match arr ks π q.1 with
  | some os => match argD dn.io os q.2 with
    | some (ds, ρ1) => match dn.m ds with
      | .ok r outs => match backD dn.io os outs ρ1 with
        | some ρ2 => .ok (r, ρ2)
        | none => .no
      | .ex x outs => match backD dn.io os outs ρ1 with
        | some ρ2 => .ex x ρ2
        | none => .no
      | .no => .no
    | none => .no
  | none => .no := (rfl)
theorem runO_v {i : Nat} {r : List Sop} {d : D} (h : ρ[i]? = some (some d)) : runO (.v i :: r) ρ = (runO r ρ).bind fun q => .ok (.v i :: q.1, q.2) := by
  simp only [runO, h]
theorem runO_p {i : Nat} {path : List PK} {r : List Sop} {d x : D} (h : ρ[i]? = some (some d)) (h2 : getP path d = some x) : runO (.p i path :: r) ρ = (runO r (ρ.set i none)).bind fun q => .ok (.p i path d :: q.1, q.2) := by
  simp only [runO, h, h2]
theorem rdE_some {i : Nat} {d : PyData} (h : ρ[i]? = some (some (.sh d))) : rdE i ρ = .ok (.sh d, ρ) := by
  simp only [rdE, h]
theorem mvE_some {i : Nat} {d : D} (h : ρ[i]? = some (some d)) : mvE i ρ = .ok (d, ρ.set i none) := by
  simp only [mvE, h]
end
end Vs
/-! V29: operations on known values. -/
namespace Vs
open PySem PySem.Spec L2
open PyProof.Rows hiding St
theorem lay_ints (l : List Int) : PyData.canLayAll0 (l.map .int) = true := by
  induction l with
  | nil => rfl
  | cons a l ih => simp [PyData.canLayAll0, PyData.canLay0, ih]
theorem depth_ints (l : List Int) : PyData.depthAll (l.map .int) = 0 := by
  induction l with
  | nil => rfl
  | cons a l ih => simp [PyData.depthAll, PyData.depth, ih]
@[simp] theorem shaped_ints (l : List Int) : SeqAt.shaped (.list (l.map .int)) = true := by
  simp [SeqAt.shaped, PyData.canLay0, lay_ints, PyData.depth, depth_ints]
@[simp] theorem shaped_intsT (l : List Int) : SeqAt.shaped (.tuple (l.map .int)) = true := by
  simp [SeqAt.shaped, PyData.canLay0, lay_ints, PyData.depth, depth_ints]
@[simp] theorem shaped_nil : SeqAt.shaped (.list []) = true := (rfl)
@[simp] theorem shaped_nilT : SeqAt.shaped (.tuple []) = true := (rfl)
@[simp] theorem shaped_int (i : Int) : SeqAt.shaped (.int i) = true := (rfl)
@[simp] theorem shaped_bool (i : Bool) : SeqAt.shaped (.bool i) = true := (rfl)
@[simp] theorem shaped_none : SeqAt.shaped .none = true := (rfl)
@[simp] theorem eqv_nil : PyData.eqv (.list []) (.list []) = true := (rfl)
@[simp] theorem eqv_cons_nil {a : PyData} {l : List PyData} : PyData.eqv (.list (a :: l)) (.list []) = false := (rfl)
@[simp] theorem eqv_nil_cons {a : PyData} {l : List PyData} : PyData.eqv (.list []) (.list (a :: l)) = false := (rfl)
@[simp] theorem eqv_int {i j : Int} : PyData.eqv (.int i) (.int j) = (i == j) := by simp only [PyData.eqv]
@[simp] theorem eqv_str {i j : Str} : PyData.eqv (.str i) (.str j) = (i == j) := by simp only [PyData.eqv]
@[simp] theorem oAdd_int {i j : Int} : oAdd (.sh (.int i)) (.sh (.int j)) = some (.sh (.int (i + j))) := (rfl)
@[simp] theorem oMul_int {i j : Int} : oMul (.sh (.int i)) (.sh (.int j)) = guardO (small64b i || small64b j) (.sh (.int (i * j))) := (rfl)
@[simp] theorem oInt2_int {f : Int → Int → Int} {c : Int → Int → Bool} {i j : Int} : oInt2 f c (.sh (.int i)) (.sh (.int j)) = guardO (c i j) (.sh (.int (f i j))) := (rfl)
@[simp] theorem oCmpI_int {f : Int → Int → Bool} {i j : Int} : oCmpI f (.sh (.int i)) (.sh (.int j)) = some (.sh (.bool (f i j))) := (rfl)
@[simp] theorem oInt_int {i : Int} : oInt (.sh (.int i)) = some (.sh (.int i)) := (rfl)
@[simp] theorem oInt_bool {i : Bool} : oInt (.sh (.bool i)) = some (.sh (.int (if i = true then 1 else 0))) := by cases i <;> rfl
@[simp] theorem oAbs_int {i : Int} : oAbs (.sh (.int i)) = some (.sh (.int (if i < 0 then -i else i))) := (rfl)
@[simp] theorem oNeg_int {i : Int} : oNeg (.sh (.int i)) = some (.sh (.int (-i))) := (rfl)
@[simp] theorem oLen_ls {ds : List D} : oLen (.ls ds) = some (.sh (.int ds.length)) := (rfl)
@[simp] theorem oLen_list {ds : List PyData} : oLen (.sh (.list ds)) = some (.sh (.int ds.length)) := (rfl)
@[simp] theorem oLen_tuple {ds : List PyData} : oLen (.sh (.tuple ds)) = some (.sh (.int ds.length)) := (rfl)
@[simp] theorem py_sh {d : PyData} : D.py (.sh d) = some d := by simp only [D.py]
@[simp] theorem py_ls {ds : List D} : D.py (.ls ds) = (match D.pys ds with | some l => some (.list l) | none => none) := by
  rw [D.py]
  try rfl
@[simp] theorem pys_nil : D.pys [] = some [] := by simp only [D.pys]
@[simp] theorem pys_cons {d : D} {ds : List D} : D.pys (d :: ds) = (match D.py d, D.pys ds with
    | some x, some l => some (x :: l)
    | _, _ => none) := by
  rw [D.pys]
  try rfl
@[simp] theorem fz_sh {d : PyData} : D.fz (.sh d) = some d := by simp only [D.fz]
@[simp] theorem fzs_sh (l : List PyData) : D.fzs (l.map .sh) = some l := by
  induction l with
  | nil => simp only [List.map_nil, D.fzs]
  | cons a l ih => simp only [List.map_cons, D.fzs, D.fz, ih]
theorem fz_ls {ds : List D} {l : List PyData} (h : D.fzs ds = some l) : D.fz (.ls ds) = some (.list l) := by simp only [D.fz, h]
@[simp] theorem fz_lsh (l : List PyData) : D.fz (.ls (l.map .sh)) = some (.list l) := fz_ls (fzs_sh l)
@[simp] theorem pys_comp (l : List Int) : D.pys (l.map (D.sh ∘ PyData.int)) = some (l.map .int) := by
  rw [← List.map_map]
  exact pys_map _
@[simp] theorem shaped_icons (a : Int) (l : List Int) : SeqAt.shaped (.list (.int a :: l.map .int)) = true := shaped_ints (a :: l)
theorem small_of {i : Int} (h : i.natAbs < 18446744073709551616) : small64b i = true := by simp [small64b, h]
section
variable {a b : D} {ρ : Env} {os : List Ov} {pr : List Nat}
@[simp] theorem opD_add : opD .add [a, b] = oAdd a b := (rfl)
@[simp] theorem opD_sub : opD .sub [a, b] = oInt2 (fun i j => i - j) (fun _ _ => true) a b := (rfl)
@[simp] theorem opD_mul : opD .mul [a, b] = oMul a b := (rfl)
@[simp] theorem opD_fdiv : opD .fdiv [a, b] = oInt2 (fun i j => i / j) (fun _ j => decide (0 < j) && decide (j < 1073741824)) a b := (rfl)
@[simp] theorem opD_mod : opD .mod [a, b] = oInt2 (fun i j => i % j) (fun _ j => decide (0 < j)) a b := (rfl)
@[simp] theorem opD_pow : opD .pow [a, b] = oInt2 (fun i j => i ^ j.toNat) powOk a b := (rfl)
@[simp] theorem opD_lt : opD .lt [a, b] = oCmpI (fun i j => decide (i < j)) a b := (rfl)
@[simp] theorem opD_le : opD .le [a, b] = oCmpI (fun i j => decide (i ≤ j)) a b := (rfl)
@[simp] theorem opD_gt : opD .gt [a, b] = oCmpI (fun i j => decide (j < i)) a b := (rfl)
@[simp] theorem opD_ge : opD .ge [a, b] = oCmpI (fun i j => decide (j ≤ i)) a b := (rfl)
@[simp] theorem opD_eq : opD .eq [a, b] = oEq false a b := (rfl)
@[simp] theorem opD_ne : opD .ne [a, b] = oEq true a b := (rfl)
@[simp] theorem opD_isin : opD .isin [a, b] = oIn false a b := (rfl)
@[simp] theorem opD_notin : opD .notin [a, b] = oIn true a b := (rfl)
@[simp] theorem opD_is_ : opD .is_ [a, b] = oIs false a b := (rfl)
@[simp] theorem opD_isnot : opD .isnot [a, b] = oIs true a b := (rfl)
@[simp] theorem opD_ix : opD .ix [a, b] = oIx a b := (rfl)
@[simp] theorem opD_neg : opD .neg [a] = oNeg a := (rfl)
@[simp] theorem opD_sl : opD .sl [a] = oSl none none a := (rfl)
@[simp] theorem opD_len : opD .len [a] = oLen a := (rfl)
@[simp] theorem opD_abs : opD .abs [a] = oAbs a := (rfl)
@[simp] theorem opD_int : opD .int [a] = oInt a := (rfl)
@[simp] theorem opD_repr : opD .repr [a] = oRepr a := (rfl)
@[simp] theorem opD_list : opD .list [a] = oList a := (rfl)
@[simp] theorem opD_tuple : opD .tuple [a] = oTuple a := (rfl)
@[simp] theorem opD_sorted : opD .sorted [a] = oSorted a := (rfl)
@[simp] theorem opD_sum : opD .sum [a] = oSum a := (rfl)
@[simp] theorem opD_all : opD .all [a] = oAll a := (rfl)
@[simp] theorem opD_any : opD .any [a] = oAny a := (rfl)
@[simp] theorem opD_slH {k : Int} : opD .slH [a, .sh (.int k)] = oSl none (some k) a := (rfl)
@[simp] theorem opD_slL {k : Int} : opD .slL [a, .sh (.int k)] = oSl (some k) none a := (rfl)
@[simp] theorem opD_slLH {k l : Int} : opD .slLH [a, .sh (.int k), .sh (.int l)] = oSl (some k) (some l) a := (rfl)
@[simp] theorem opD_isi {t : Ty} : opD (.isi t) [a] = oIsi t a := (rfl)
@[simp] theorem ovs_nil : ovs [] ρ = some [] := (rfl)
@[simp] theorem ovs_d : ovs (.d a :: os) ρ = (match ovs os ρ with | some l => some (a :: l) | none => none) := (rfl)
@[simp] theorem ovs_v {i : Nat} : ovs (.v i :: os) ρ = (match ρ[i]?, ovs os ρ with | some (some d), some l => some (d :: l) | _, _ => none) := (rfl)
@[simp] theorem ovs_p {i : Nat} {p : List PK} : ovs (.p i p a :: os) ρ = (match getP p a, ovs os ρ with | some x, some l => some (x :: l) | _, _ => none) := (rfl)
@[simp] theorem ods_nil : ods [] = some [] := (rfl)
@[simp] theorem ods_d : ods (.d a :: os) = (match ods os with | some l => some (a :: l) | none => none) := (rfl)
@[simp] theorem unlock_nil : unlock [] ρ = some ρ := (rfl)
@[simp] theorem unlock_d : unlock (.d a :: os) ρ = unlock os ρ := (rfl)
@[simp] theorem unlock_v {i : Nat} : unlock (.v i :: os) ρ = unlock os ρ := (rfl)
@[simp] theorem unlock_p {i : Nat} {p : List PK} : unlock (.p i p a :: os) ρ = (match unlock os ρ with | some ρ' => (match ρ'[i]? with | some none => some (ρ'.set i (some a)) | _ => none) | none => none) := (rfl)
@[simp] theorem bindT_nm {i : Nat} : bindT [] (.nm i) a ρ = (if i < ρ.length then some (ρ.set i (some a)) else none) := (rfl)
@[simp] theorem bindT_tps {is : List Nat} {l : List PyData} : bindT [] (.tp is) (.sh (.tuple l)) ρ = setAll [] is (l.map .sh) ρ := (rfl)
@[simp] theorem bindT_tp {is : List Nat} {l : List D} : bindT [] (.tp is) (.tp l) ρ = setAll [] is l ρ := (rfl)
@[simp] theorem setAll_nil : setAll pr [] [] ρ = some ρ := (rfl)
@[simp] theorem setAll_cons {i : Nat} {is : List Nat} {ds : List D} : setAll [] (i :: is) (a :: ds) ρ = (if i < ρ.length then setAll [] is ds (ρ.set i (some a)) else none) := by
  rw [setAll]
  simp only [setN]
  by_cases h : i < ρ.length <;> simp [h]
@[simp] theorem outsE_nil : outsE [] ρ = some [] := (rfl)
@[simp] theorem outsE_f {o : Option D} {io : List Bool} : outsE (false :: io) (o :: ρ) = outsE io ρ := (rfl)
@[simp] theorem outsE_t {o : Option D} {io : List Bool} : outsE (true :: io) (o :: ρ) = (match o, outsE io ρ with | some d, some l => some (d :: l) | _, _ => none) := (rfl)
@[simp] theorem wipe_nil : wipeE ρ [] = ρ := (rfl)
@[simp] theorem wipe_cons {i : Nat} {is : List Nat} : wipeE ρ (i :: is) = (wipeE ρ is).set i none := (rfl)
@[simp] theorem seq_DL {l : List PyData} : (D.ls (l.map .sh)).seq = some (.lst, l) := by simp only [D.seq, unsh_map]
@[simp] theorem seq_list {l : List PyData} : (D.sh (.list l)).seq = some (.lst, l) := (rfl)
@[simp] theorem seq_tuple {l : List PyData} : (D.sh (.tuple l)).seq = some (.tup, l) := (rfl)
@[simp] theorem itF_seq : itF .seq [a] = (match a.seq with | some (_, l) => some l | none => none) := (rfl)
@[simp] theorem itF_enum1 : itF .enum [a] = (match a.seq with | some (.lst, l) => some (enumD 0 l) | _ => none) := (rfl)
theorem itF_rngI {n : Int} : itF .rng [.sh (.int n)] = (if n < 16777216 ∧ -16777216 < n then some (rngD 0 n.toNat) else none) := (rfl)
theorem itF_rngN {n : Nat} (h : n < 16777216) : itF .rng [.sh (.int (n : Int))] = some (rngD 0 n) := by
  rw [itF_rngI, if_pos ⟨by omega, by omega⟩, Int.toNat_natCast]
@[simp] theorem oSl_list {l : List PyData} {x y : Option Int} : oSl x y (.sh (.list l)) = some (.ls ((cutL l x y).map .sh)) := (rfl)
@[simp] theorem oSl_tuple {l : List PyData} {x y : Option Int} : oSl x y (.sh (.tuple l)) = some (.sh (.tuple (cutL l x y))) := (rfl)
theorem cut_H {l : List PyData} {k : Int} (h : 0 ≤ k) : cutL l none (some k) = l.take k.toNat := by
  unfold cutL
  simp only [HT.sIx]
  rw [if_neg (by omega), List.drop_zero, Nat.sub_zero]
  by_cases hk : k.toNat ≤ l.length
  · rw [Nat.min_eq_left hk]
  · rw [Nat.min_eq_right (by omega), List.take_of_length_le (Nat.le_refl _), List.take_of_length_le (by omega)]
@[simp] theorem oList_list {l : List PyData} : oList (.sh (.list l)) = some (.ls (l.map .sh)) := (rfl)
@[simp] theorem oList_tuple {l : List PyData} : oList (.sh (.tuple l)) = some (.ls (l.map .sh)) := (rfl)
@[simp] theorem oTuple_ls {l : List PyData} : oTuple (.ls (l.map .sh)) = some (.sh (.tuple l)) := by simp only [oTuple, seq_DL]
@[simp] theorem argD_nil : argD [] [] ρ = some ([], ρ) := (rfl)
@[simp] theorem argD_f {io : List Bool} : argD (false :: io) (.d a :: os) ρ = (match argD io os ρ with | some (l, ρ') => some (a :: l, ρ') | none => none) := (rfl)
@[simp] theorem argD_t {io : List Bool} {i : Nat} : argD (true :: io) (.v i :: os) ρ = (match ρ[i]? with | some (some d) => (match argD io os (ρ.set i none) with | some (l, ρ') => some (d :: l, ρ') | none => none) | _ => none) := (rfl)
@[simp] theorem backD_nil : backD [] [] [] ρ = some ρ := (rfl)
@[simp] theorem backD_f {io : List Bool} {o : Ov} {outs : List D} : backD (false :: io) (o :: os) outs ρ = backD io os outs ρ := by cases outs <;> rfl
@[simp] theorem backD_t {io : List Bool} {i : Nat} {outs : List D} : backD (true :: io) (.v i :: os) (a :: outs) ρ = (match ρ[i]? with | some none => backD io os outs (ρ.set i (some a)) | _ => none) := (rfl)
@[simp] theorem arr_nil {π : List Nat} : arr [] π os = some os := (rfl)
end
end Vs
/-! V30: loops of the evaluator, by invariants. -/
namespace Vs
open PySem PySem.Spec L2
open PyProof.Rows hiding St
theorem lcL_filter {own : List Nat} {t : Tg} {test : TF} {f : EF} {ρ : Env} (b : PyData → Bool) (g : PyData → D) : ∀ (ps : List PyData) (acc : List D), (∀ p ∈ ps, ∃ ρ1, bindT [] t (.sh p) ρ = some ρ1 ∧ test ρ1 = .ok (b p, ρ1) ∧ (b p = true → f ρ1 = .ok (g p, ρ1)) ∧ wipeE ρ1 own = ρ) → acc.length + ps.length ≤ 1000000 →
    lcL own t test f ps ρ acc = some (acc ++ (ps.filter b).map g, ρ)
  | [], acc, _, _ => by simp [lcL]
  | p :: ps, acc, h, hl => by
    obtain ⟨ρ1, h1, h2, h3, h4⟩ := h p List.mem_cons_self
    have hl' : acc.length + ps.length + 1 ≤ 1000000 := by simpa [Nat.add_assoc] using hl
    unfold lcL
    simp only [h1, h2]
    cases e : b p with
    | false =>
      simp only [h4]
      rw [lcL_filter b g ps acc (fun q hq => h q (List.mem_cons_of_mem _ hq)) (by omega)]
      simp [e]
    | true =>
      simp only [h3 e, h4]
      rw [if_pos (by omega), lcL_filter b g ps (acc ++ [g p]) (fun q hq => h q (List.mem_cons_of_mem _ hq)) (by simp; omega)]
      simp [e]
theorem lcL_map {own : List Nat} {t : Tg} {test : TF} {f : EF} {ρ : Env} (g : PyData → D) (ps : List PyData) (h : ∀ p ∈ ps, ∃ ρ1, bindT [] t (.sh p) ρ = some ρ1 ∧ test ρ1 = .ok (true, ρ1) ∧ f ρ1 = .ok (g p, ρ1) ∧ wipeE ρ1 own = ρ) (hl : ps.length ≤ 1000000) :
    lcL own t test f ps ρ [] = some (ps.map g, ρ) := by
  have := lcL_filter (own := own) (t := t) (test := test) (f := f) (ρ := ρ) (fun _ => true) g ps [] (fun p hp => by
    obtain ⟨ρ1, h1, h2, h3, h4⟩ := h p hp
    exact ⟨ρ1, h1, h2, fun _ => h3, h4⟩) (by simpa using hl)
  rw [List.filter_eq_self.mpr (fun _ _ => rfl)] at this
  simpa using this
/-- with something that goes along (a pot of draws) -/
theorem lcL_inv {own : List Nat} {t : Tg} {test : TF} {f : EF} (I : Nat → Env → List D → Prop) : ∀ (ps : List PyData) (k : Nat) (ρ : Env) (acc : List D), I k ρ acc → (∀ i p ρ acc, ps[i]? = some p → I (k + i) ρ acc → acc.length < 1000000 ∧ ∃ ρ1, bindT [] t (.sh p) ρ = some ρ1 ∧
      ((∃ ρ2 d ρ3, test ρ1 = .ok (true, ρ2) ∧ f ρ2 = .ok (d, ρ3) ∧ I (k + i + 1) (wipeE ρ3 own) (acc ++ [d])) ∨ ∃ ρ2, test ρ1 = .ok (false, ρ2) ∧ I (k + i + 1) (wipeE ρ2 own) acc)) →
    ∃ acc' ρ', lcL own t test f ps ρ acc = some (acc', ρ') ∧ I (k + ps.length) ρ' acc'
  | [], k, ρ, acc, h0, _ => ⟨acc, ρ, rfl, h0⟩
  | p :: ps, k, ρ, acc, h0, hs => by
    obtain ⟨hl, ρ1, h1, h2⟩ := hs 0 p ρ acc rfl h0
    have next : ∀ ρ' acc', I (k + 1) ρ' acc' → ∃ acc2 ρ2, lcL own t test f ps ρ' acc' = some (acc2, ρ2) ∧ I (k + (ps.length + 1)) ρ2 acc2 := fun ρ' acc' h => by
      obtain ⟨a, r, e, q⟩ := lcL_inv I ps (k + 1) ρ' acc' h fun i p ρ acc hp hi => by
        have := hs (i + 1) p ρ acc (by simpa using hp) (by rwa [show k + (i + 1) = k + 1 + i by omega])
        rwa [show k + (i + 1) = k + 1 + i by omega] at this
      exact ⟨a, r, e, by rw [show k + (ps.length + 1) = k + 1 + ps.length by omega]; exact q⟩
    unfold lcL
    simp only [h1]
    rcases h2 with ⟨ρ2, d, ρ3, h2, h3, h4⟩ | ⟨ρ2, h2, h4⟩
    · simp only [h2, h3, if_pos hl]
      exact next _ _ h4
    · simp only [h2]
      exact next _ _ h4
/-- a for that runs to its end -/
theorem lopL_run {t : Tg} {b : SF} (I : Nat → Env → Prop) : ∀ (ps : List PyData) (k : Nat) (ρ : Env), I k ρ → (∀ i p ρ, ps[i]? = some p → I (k + i) ρ → ∃ ρ1 ρ2, bindT [] t (.sh p) ρ = some ρ1 ∧ (b ρ1 = .nx ρ2 ∨ b ρ1 = .ct ρ2) ∧ I (k + i + 1) ρ2) → ∃ ρ', lopL t b ps ρ = .nx ρ' ∧ I (k + ps.length) ρ'
  | [], k, ρ, h0, _ => ⟨ρ, rfl, h0⟩
  | p :: ps, k, ρ, h0, hs => by
    obtain ⟨ρ1, ρ2, h1, h2, h3⟩ := hs 0 p ρ rfl h0
    obtain ⟨r, e, q⟩ := lopL_run I ps (k + 1) ρ2 h3 fun i p ρ hp hi => by
      have := hs (i + 1) p ρ (by simpa using hp) (by rwa [show k + (i + 1) = k + 1 + i by omega])
      rwa [show k + (i + 1) = k + 1 + i by omega] at this
    refine ⟨r, ?_, by rw [List.length_cons, show k + (ps.length + 1) = k + 1 + ps.length by omega]; exact q⟩
    unfold lopL
    simp only [h1]
    rcases h2 with h2 | h2 <;> (simp only [h2]; exact e)
/-- a while that runs to its end: a measure -/
theorem whL_run {c : TF} {b : SF} (I : Nat → Env → Prop) (hs : ∀ m ρ, I m ρ → (∃ ρ1, c ρ = .ok (false, ρ1) ∧ I 0 ρ1) ∨ ∃ ρ1 ρ2 m', c ρ = .ok (true, ρ1) ∧ (b ρ1 = .nx ρ2 ∨ b ρ1 = .ct ρ2) ∧ m' < m ∧ I m' ρ2) : ∀ (n m : Nat) (ρ : Env), I m ρ → m < n → ∃ ρ', whL c b n ρ = .nx ρ' ∧ I 0 ρ'
  | 0, m, ρ, _, h => absurd h (Nat.not_lt_zero _)
  | n + 1, m, ρ, h0, hn => by
    rcases hs m ρ h0 with ⟨ρ1, h1, h2⟩ | ⟨ρ1, ρ2, m', h1, h2, h3, h4⟩
    · exact ⟨ρ1, by simp [whL, h1], h2⟩
    · obtain ⟨r, e, q⟩ := whL_run I hs n m' ρ2 h4 (by omega)
      refine ⟨r, ?_, q⟩
      rcases h2 with h2 | h2 <;> (simp [whL, h1, h2]; exact e)
theorem lopF_eq {t : Tg} {k : ItK} {ops : List Sop} {b : SF} {ρ : Env} : lopF t k ops b ρ = (runO ops ρ).out fun q => match ovs q.1 [] with
  | some ds => match itF k ds with
    | some ps => (lopL t b ps q.2).back (unlock q.1)
    | none => .no
  | none => .no := (rfl)
theorem lcE_eq {own : List Nat} {t : Tg} {k : ItK} {ops : List Sop} {test : TF} {f : EF} {ρ : Env} : lcE own t k ops test f ρ = (runO ops ρ).bind fun q => match ovs q.1 [] with
  | some ds => match itF k ds with
    | some ps => match lcL own t test f ps (wipeE q.2 own) [] with
      | some z => match unlock q.1 z.2 with
        | some ρ' => .ok (.ls z.1, ρ')
        | none => .no
      | none => .no
    | none => .no
  | none => .no := (rfl)
@[simp] theorem ifT_nil {ρ : Env} : ifT [] ρ = .ok (true, ρ) := (rfl)
@[simp] theorem ifT_one {c : TF} {ρ : Env} : ifT [c] ρ = c ρ := (rfl)
theorem lopF_run {t : Tg} {k : ItK} {ops : List Sop} {b : SF} {ρ ρ1 ρ2 ρ3 : Env} {os : List Ov} {ds : List D} {ps : List PyData} (e1 : runO ops ρ = .ok (os, ρ1)) (e2 : ovs os [] = some ds) (e3 : itF k ds = some ps) (e4 : lopL t b ps ρ1 = .nx ρ2) (e5 : unlock os ρ2 = some ρ3) : lopF t k ops b ρ = .nx ρ3 := by
  rw [lopF_eq, e1, out_ok]
  simp only [e2, e3, e4, back_nx, e5]
end Vs
/-! V31: lists that are written, on known values. -/
namespace Vs
open PySem PySem.Spec L2
open PyProof.Rows hiding St
theorem ixN_some {n : Nat} {r : Int} (h0 : 0 ≤ r) (h1 : r < n) : ixN n r = some r.toNat := by
  unfold ixN
  rw [if_pos h0, if_pos h1]
theorem erase_map {α β : Type} (f : α → β) : ∀ (l : List α) (j : Nat), (l.map f).eraseIdx j = (l.eraseIdx j).map f
  | [], _ => rfl
  | _ :: _, 0 => rfl
  | a :: l, j + 1 => by simp [erase_map f l j]
theorem popAt_ok {l : List PyData} {r : Int} {x : PyData} (h0 : 0 ≤ r) (h1 : r < l.length) (hx : l[r.toNat]? = some x) (hl : l.length < 1000000) : mo .popAt (l.map .sh) [.sh (.int r)] = some ((l.eraseIdx r.toNat).map .sh, .sh x) := by
  have h2 : (l.map D.sh)[r.toNat]? = some (.sh x) := by rw [List.getElem?_map, hx]; rfl
  simp only [mo, moPopAt, List.length_map, ixN_some h0 h1, h2, if_pos hl, erase_map]
theorem append_ok {l : List PyData} {x : PyData} (hl : l.length < 1000000) : mo .append (l.map .sh) [.sh x] = some ((l ++ [x]).map .sh, .sh .none) := by
  simp [mo, moAppend, hl]
theorem pop_ok {l : List PyData} {x : PyData} (hx : l.getLast? = some x) : mo .pop (l.map .sh) [] = some (l.dropLast.map .sh, .sh x) := by
  simp [mo, moPop, List.getLast?_map, hx, List.map_dropLast]
theorem mem_erase {α : Type} : ∀ {l : List α} {j : Nat} {x : α}, x ∈ l.eraseIdx j → x ∈ l
  | [], _, _, h => h
  | _ :: _, 0, _, h => List.mem_cons_of_mem _ h
  | a :: l, j + 1, x, h => by
    rcases List.mem_cons.mp h with rfl | h
    · exact List.mem_cons_self
    · exact List.mem_cons_of_mem _ (mem_erase h)
theorem len_erase {α : Type} : ∀ {l : List α} {j : Nat}, j < l.length → (l.eraseIdx j).length + 1 = l.length
  | a :: l, 0, _ => rfl
  | a :: l, j + 1, h => by
    have := len_erase (l := l) (j := j) (by simpa using h)
    simp [this]
theorem runD_rt {n : Nat} {io : List Bool} {b : SF} {ds : List D} {ρ0 ρ : Env} {d : D} {l : List D} (h1 : ds.length = io.length) (h0 : ds.map some ++ List.replicate (n - ds.length) none = ρ0) (h2 : b ρ0 = .rt d ρ) (h3 : outsE io ρ = some l) : runD n io b ds = .ok d l := by
  unfold runD
  rw [if_pos h1, h0, h2]
  simp only [h3]
theorem runD_nx {n : Nat} {io : List Bool} {b : SF} {ds : List D} {ρ0 ρ : Env} {l : List D} (h1 : ds.length = io.length) (h0 : ds.map some ++ List.replicate (n - ds.length) none = ρ0) (h2 : b ρ0 = .nx ρ) (h3 : outsE io ρ = some l) : runD n io b ds = .ok (.sh .none) l := by
  unfold runD
  rw [if_pos h1, h0, h2]
  simp only [h3]
/-- one statement, then the rest -/
theorem gos_step {Γ : Gam} {s : Sm} {r : List Sm} {ρ ρ1 : Env} {o : Out} (h1 : go Γ s ρ = .nx ρ1) (h2 : gos Γ r ρ1 = o) : gos Γ (s :: r) ρ = o := by
  rw [gos_cons, h1, seq_nx, h2]
theorem gos_last {Γ : Gam} {s : Sm} {r : List Sm} {ρ ρ1 : Env} {d : D} (h1 : go Γ s ρ = .rt d ρ1) : gos Γ (s :: r) ρ = .rt d ρ1 := by
  rw [gos_cons, h1, seq_rt]
theorem lcE_run {own : List Nat} {t : Tg} {k : ItK} {ops : List Sop} {test : TF} {f : EF} {ρ ρ1 ρ2 ρ3 : Env} {os : List Ov} {ds acc : List D} {ps : List PyData} (e1 : runO ops ρ = .ok (os, ρ1)) (e2 : ovs os [] = some ds) (e3 : itF k ds = some ps) (e4 : lcL own t test f ps (wipeE ρ1 own) [] = some (acc, ρ2)) (e5 : unlock os ρ2 = some ρ3) : lcE own t k ops test f ρ = .ok (.ls acc, ρ3) := by
  rw [lcE_eq, e1, bind_ok']
  simp only [e2, e3, e4, e5]
theorem oAdd_lss {l m : List PyData} (h : l.length + m.length ≤ 1000000) : oAdd (.ls (l.map .sh)) (.ls (m.map .sh)) = some (.ls ((l ++ m).map .sh)) := by
  have : l.length + m.length ≤ sizeLine := by rw [sizeLine_eq]; omega
  simp only [oAdd, unsh_map, decide_eq_true this, guardO_true]
theorem oAdd_tups {l m : List PyData} (h : l.length + m.length ≤ 1000000) : oAdd (.sh (.tuple l)) (.sh (.tuple m)) = some (.sh (.tuple (l ++ m))) := by
  have : l.length + m.length ≤ sizeLine := by rw [sizeLine_eq]; omega
  simp only [oAdd, decide_eq_true this, guardO_true]
end Vs
namespace T21
open PySem PySem.Spec L2 Vs
open PyProof.Rows hiding St
def top (i : Nat) : Stmt := PySem.Challenge.pw_markkeepers_k21_whole_sides_of_books.main.body.getD i (.Pass ⟨0, 0, 0, 0⟩)
def bl : List Str := ["abs", "int", "len", "list", "range", "tuple", "enumerate", "repr"]
def pats (f : Str) : List Pat := if f = "side" then [(4, [], [0, 1, 2, 3])] else if f = "sides" then [(1, [], [0]), (0, ["book"], [0])] else if f = "_law_pot" then [(1, [], [0])] else if f = "_law_draw" then [(2, [], [0, 1])] else if f = "_law_mixed" then [(2, [], [0, 1])] else if f = "_law_sides" then [(1, [], [0])] else []
def con : Str → Option PyData := fun _ => none
abbrev s_side : Stmt := top 1
def N_side : List Str := ["deeds", "step", "taking", "word"]
def P_side : List Str := ["deeds", "step", "taking", "word"]
def io_side : List Bool := [false, false, false, false]
def b_side : List Sm := [
  .ite (.bop true [.op .isin [.vw 1 [], .vw 0 []], .bop false [.op .isin [.lit (.str "back"), .vw 0 []], .op .isin [.lit (.str "del"), .vw 0 []]]]) [.ret (.lit (.str "some"))] [],
  .ite (.bop true [.op .isin [.vw 1 [], .vw 0 []], .op .isin [.lit (.str "type"), .vw 0 []]]) [.ret (.lit (.str "between"))] [],
  .ret (.ite (.op .isin [.vw 2 [], .vw 0 []]) (.rd 3) (.lit (.str "all")))]
def Γ_side : Gam := ⟨con, fun f => none⟩
def d_side : Den := denOf Γ_side 4 io_side b_side
theorem ok_side : mSs ⟨defScope s_side, N_side, bl, pats⟩ (fun _ => true) (ioS io_side 0) b_side (defBody s_side) = true := by decide +kernel
theorem sc_side : FnScope N_side P_side (defScope s_side) := ⟨rfl, rfl, rfl, by decide +kernel, rfl, by decide +kernel, by decide +kernel⟩
abbrev s_sides : Stmt := top 2
def N_sides : List Str := ["book"]
def P_sides : List Str := ["book"]
def io_sides : List Bool := [false]
def b_sides : List Sm := [
  .ret (.tup [.call "side" [.op .ix [.vw 0 [], .lit (.int 0)], .lit (.str "left"), .lit (.str "back"), .lit (.str "first")] [] [] [0, 1, 2, 3], .call "side" [.op .ix [.vw 0 [], .lit (.int 0)], .lit (.str "right"), .lit (.str "del"), .lit (.str "last")] [] [] [0, 1, 2, 3]])]
def Γ_sides : Gam := ⟨con, fun f => if f = "side" then some d_side else none⟩
def d_sides : Den := denOf Γ_sides 1 io_sides b_sides
theorem ok_sides : mSs ⟨defScope s_sides, N_sides, bl, pats⟩ (fun _ => true) (ioS io_sides 0) b_sides (defBody s_sides) = true := by decide +kernel
theorem sc_sides : FnScope N_sides P_sides (defScope s_sides) := ⟨rfl, rfl, rfl, by decide +kernel, rfl, by decide +kernel, by decide +kernel⟩
abbrev s_law_pot : Stmt := top 4
def N_law_pot : List Str := ["script", "cell", "cells", "stirred"]
def P_law_pot : List Str := ["script"]
def io_law_pot : List Bool := [false]
def b_law_pot : List Sm := [
  .par [2, 3] [.lc [1] (.nm 1) .seq [.op .slH [.vw 0 [], .lit (.int 61)]] [] (.op .add [.op .mul [.lit (.int 2), .op .abs [.vw 1 []]], .op .int [.op .lt [.vw 1 [], .lit (.int 0)]]]), .op .add [.lit (.int 15914), .op .mul [.lit (.int 3), .op .len [.vw 0 []]]]],
  .frz 2,
  .lop (.nm 1) .seq [.rd 2] [.asg (.nm 3) (.op .mod [.op .int [.op .add [.op .add [.op .mul [.vw 3 [], .lit (.int 69069)], .vw 1 []], .lit (.int 13)]], .lit (.int 4294967291)])],
  .frz 2,
  .ret (.dct [.inr "great", .inr "stirred", .inr "turn"] [.lc [1] (.nm 1) .seq [.rd 2] [.op .ge [.vw 1 [], .op .pow [.lit (.int 10), .lit (.int 16)]]] (.rd 1), .rd 3, .lit (.int 0)])]
def Γ_law_pot : Gam := ⟨con, fun f => none⟩
def d_law_pot : Den := denOf Γ_law_pot 4 io_law_pot b_law_pot
theorem ok_law_pot : mSs ⟨defScope s_law_pot, N_law_pot, bl, pats⟩ (fun _ => true) (ioS io_law_pot 0) b_law_pot (defBody s_law_pot) = true := by decide +kernel
theorem sc_law_pot : FnScope N_law_pot P_law_pot (defScope s_law_pot) := ⟨rfl, rfl, rfl, by decide +kernel, rfl, by decide +kernel, by decide +kernel⟩
abbrev s_law_draw : Stmt := top 5
def N_law_draw : List Str := ["pot", "many", "great", "turn", "mixed", "cell"]
def P_law_draw : List Str := ["pot", "many"]
def io_law_draw : List Bool := [true, false]
def b_law_draw : List Sm := [
  .bor 2 0 [.key (.inr "great")] [.ite (.op .ne [.vw 2 [], .lst []]) [.asg (.nm 5) (.mut .popAt 2 [] [.lit (.int 0)]), .ite (.op .ge [.vw 5 [], .vw 1 []]) [.ex (.mut .insert 2 [] [.lit (.int 0), .op .fdiv [.vw 5 [], .vw 1 []]])] [], .ret (.op .mod [.op .int [.vw 5 []], .vw 1 []])] []],
  .put true 0 [] (.lit (.str "turn")) (.op .add [.at 0 [.key (.inr "turn")], .lit (.int 1)]),
  .asg (.nm 3) (.at 0 [.key (.inr "turn")]),
  .asg (.nm 4) (.op .mod [.op .int [.op .add [.op .add [.op .mul [.at 0 [.key (.inr "stirred")], .lit (.int 48271)], .op .mul [.op .mul [.vw 3 [], .vw 3 []], .lit (.int 17)]], .op .mul [.lit (.int 7919), .vw 3 []]]], .lit (.int 4294967279)]),
  .asg (.nm 4) (.op .mod [.op .int [.op .add [.op .mul [.vw 4 [], .lit (.int 69621)], .op .fdiv [.vw 4 [], .lit (.int 65536)]]], .lit (.int 4294967291)]),
  .put true 0 [] (.lit (.str "stirred")) (.rd 4),
  .ret (.op .mod [.op .int [.op .fdiv [.vw 4 [], .lit (.int 1024)]], .vw 1 []])]
def Γ_law_draw : Gam := ⟨con, fun f => none⟩
def d_law_draw : Den := denOf Γ_law_draw 6 io_law_draw b_law_draw
theorem ok_law_draw : mSs ⟨defScope s_law_draw, N_law_draw, bl, pats⟩ (fun _ => true) (ioS io_law_draw 0) b_law_draw (defBody s_law_draw) = true := by decide +kernel
theorem sc_law_draw : FnScope N_law_draw P_law_draw (defScope s_law_draw) := ⟨rfl, rfl, rfl, by decide +kernel, rfl, by decide +kernel, by decide +kernel⟩
abbrev s_law_mixed : Stmt := top 6
def N_law_mixed : List Str := ["pot", "row", "turn", "left", "found"]
def P_law_mixed : List Str := ["pot", "row"]
def io_law_mixed : List Bool := [true, false]
def b_law_mixed : List Sm := [
  .par [3, 4] [.op .list [.vw 1 []], .lst []],
  .lop (.nm 2) .rng [.op .len [.vw 1 []]] [.ex (.mut .append 4 [] [.mut .popAt 3 [] [.fz (.call "_law_draw" [.vw 0 [], .op .len [.vw 3 []]] [] [] [0, 1])]])],
  .ret (.mv 4)]
def Γ_law_mixed : Gam := ⟨con, fun f => if f = "_law_draw" then some d_law_draw else none⟩
def d_law_mixed : Den := denOf Γ_law_mixed 5 io_law_mixed b_law_mixed
theorem ok_law_mixed : mSs ⟨defScope s_law_mixed, N_law_mixed, bl, pats⟩ (fun _ => true) (ioS io_law_mixed 0) b_law_mixed (defBody s_law_mixed) = true := by decide +kernel
theorem sc_law_mixed : FnScope N_law_mixed P_law_mixed (defScope s_law_mixed) := ⟨rfl, rfl, rfl, by decide +kernel, rfl, by decide +kernel, by decide +kernel⟩
abbrev s_law_sides : Stmt := top 7
def N_law_sides : List Str := ["book", "is_taken", "deeds", "found", "step", "take", "word"]
def P_law_sides : List Str := ["book"]
def io_law_sides : List Bool := [false]
def b_law_sides : List Sm := [
  .par [2, 3] [.op .ix [.vw 0 [], .lit (.int 0)], .lst []],
  .asg (.nm 1) (.bop false [.op .isin [.lit (.str "back"), .vw 2 []], .op .isin [.lit (.str "del"), .vw 2 []]]),
  .lop (.tp [4, 5, 6]) .seq [.tup [.tup [.lit (.str "left"), .lit (.str "back"), .lit (.str "first")], .tup [.lit (.str "right"), .lit (.str "del"), .lit (.str "last")]]] [.ite (.bop true [.op .isin [.vw 4 [], .vw 2 []], .rd 1]) [.ex (.mut .append 3 [] [.lit (.str "some")])] [.ite (.bop true [.op .isin [.vw 4 [], .vw 2 []], .op .isin [.lit (.str "type"), .vw 2 []]]) [.ex (.mut .append 3 [] [.lit (.str "between")])] [.ex (.mut .append 3 [] [.ite (.op .isin [.vw 5 [], .vw 2 []]) (.rd 6) (.lit (.str "all"))])]]],
  .ret (.op .tuple [.vw 3 []])]
def Γ_law_sides : Gam := ⟨con, fun f => none⟩
def d_law_sides : Den := denOf Γ_law_sides 7 io_law_sides b_law_sides
theorem ok_law_sides : mSs ⟨defScope s_law_sides, N_law_sides, bl, pats⟩ (fun _ => true) (ioS io_law_sides 0) b_law_sides (defBody s_law_sides) = true := by decide +kernel
theorem sc_law_sides : FnScope N_law_sides P_law_sides (defScope s_law_sides) := ⟨rfl, rfl, rfl, by decide +kernel, rfl, by decide +kernel, by decide +kernel⟩
abbrev s_law : Stmt := top 8
def N_law : List Str := ["script", "pot", "word", "words", "books", "turn", "deeds", "book", "due", "shown"]
def P_law : List Str := ["script"]
def io_law : List Bool := [false]
def b_law : List Sm := [
  .asg (.nm 1) (.call "_law_pot" [.rd 0] [] [] [0]),
  .par [3, 4] [.lst [.lit (.str "back"), .lit (.str "del"), .lit (.str "left"), .lit (.str "right"), .lit (.str "type")], .lst [.tup []]],
  .frz 3,
  .lop (.nm 2) .seq [.rd 3] [.asg (.nm 4) (.op .add [.vw 4 [], .lc [7] (.nm 7) .seq [.vw 4 []] [] (.op .add [.vw 7 [], .tup [.rd 2]])])],
  .frz 4,
  .lop (.tp [5, 6]) .enum [.call "_law_mixed" [.vw 1 [], .rd 4] [] [] [0, 1]] [.asg (.nm 7) (.tup [.rd 6]), .par [8, 9] [.call "_law_sides" [.rd 7] [] [] [0], .op .repr [.vw 7 []]], .frz 8, .ite (.bop false [.op .ne [.op .repr [.lst [.call "sides" [.rd 7] [] [] [0], .call "sides" [] [.rd 7] ["book"] [0], .call "sides" [.rd 7] [] [] [0]]], .op .repr [.op .mul [.lst [.rd 8], .lit (.int 3)]]], .op .ne [.op .repr [.vw 7 []], .vw 9 []]]) [.ret (.lit (.bool false))] []],
  .ret (.op .eq [.op .len [.vw 4 []], .lit (.int 32)])]
def Γ_law : Gam := ⟨con, fun f => if f = "sides" then some d_sides else if f = "_law_pot" then some d_law_pot else if f = "_law_mixed" then some d_law_mixed else if f = "_law_sides" then some d_law_sides else none⟩
def d_law : Den := denOf Γ_law 10 io_law b_law
theorem ok_law : mSs ⟨defScope s_law, N_law, bl, pats⟩ (fun _ => true) (ioS io_law 0) b_law (defBody s_law) = true := by decide +kernel
theorem sc_law : FnScope N_law P_law (defScope s_law) := ⟨rfl, rfl, rfl, by decide +kernel, rfl, by decide +kernel, by decide +kernel⟩
theorem bl_ok {mg : Str → Option Value} (z0 : mg "abs" = none) (z1 : mg "int" = none) (z2 : mg "len" = none) (z3 : mg "list" = none) (z4 : mg "range" = none) (z5 : mg "tuple" = none) (z6 : mg "enumerate" = none) (z7 : mg "repr" = none) : ∀ x, bl.contains x = true → mg x = none := by
  intro x h
  have h : x ∈ bl := by simpa using h
  simp only [bl, List.mem_cons, List.not_mem_nil, or_false] at h
  rcases h with rfl | rfl | rfl | rfl | rfl | rfl | rfl | rfl
  all_goals assumption
theorem pt_side : pats "side" = ([(4, [], [0, 1, 2, 3])] : List Pat) := by decide +kernel
theorem bd_side {kV doc pm cdv ct : Value} {an : Option Addr} (us ws zs : List Value) (p : Pat) (hp : p ∈ pats "side") (h1 : us.length = p.1) (h2 : ws.length = p.2.1.length) (h3 : perm p.2.2 (us ++ ws) = some zs) :
    bindArgs (PySem.W.fnOf "side" "side" (defArgs s_side) (defBody s_side) (defScope s_side) .none kV doc pm an cdv ct) ⟨us, p.2.1.zip ws⟩ = pure (P_side.zip zs) := by
  rw [pt_side] at hp
  simp only [List.mem_cons, List.not_mem_nil, or_false] at hp
  rcases hp with rfl
  · obtain ⟨x0, x1, x2, x3, rfl⟩ := len4 h1; obtain ⟨rfl⟩ := len0 h2; cases h3; rfl
theorem pt_sides : pats "sides" = ([(1, [], [0]), (0, ["book"], [0])] : List Pat) := by decide +kernel
theorem bd_sides {kV doc pm cdv ct : Value} {an : Option Addr} (us ws zs : List Value) (p : Pat) (hp : p ∈ pats "sides") (h1 : us.length = p.1) (h2 : ws.length = p.2.1.length) (h3 : perm p.2.2 (us ++ ws) = some zs) :
    bindArgs (PySem.W.fnOf "sides" "sides" (defArgs s_sides) (defBody s_sides) (defScope s_sides) .none kV doc pm an cdv ct) ⟨us, p.2.1.zip ws⟩ = pure (P_sides.zip zs) := by
  rw [pt_sides] at hp
  simp only [List.mem_cons, List.not_mem_nil, or_false] at hp
  rcases hp with rfl | rfl
  · obtain ⟨x0, rfl⟩ := len1 h1; obtain ⟨rfl⟩ := len0 h2; cases h3; rfl
  · obtain ⟨rfl⟩ := len0 h1; obtain ⟨y0, rfl⟩ := len1 h2; cases h3; rfl
theorem pt_law_pot : pats "_law_pot" = ([(1, [], [0])] : List Pat) := by decide +kernel
theorem bd_law_pot {kV doc pm cdv ct : Value} {an : Option Addr} (us ws zs : List Value) (p : Pat) (hp : p ∈ pats "_law_pot") (h1 : us.length = p.1) (h2 : ws.length = p.2.1.length) (h3 : perm p.2.2 (us ++ ws) = some zs) :
    bindArgs (PySem.W.fnOf "_law_pot" "_law_pot" (defArgs s_law_pot) (defBody s_law_pot) (defScope s_law_pot) .none kV doc pm an cdv ct) ⟨us, p.2.1.zip ws⟩ = pure (P_law_pot.zip zs) := by
  rw [pt_law_pot] at hp
  simp only [List.mem_cons, List.not_mem_nil, or_false] at hp
  rcases hp with rfl
  · obtain ⟨x0, rfl⟩ := len1 h1; obtain ⟨rfl⟩ := len0 h2; cases h3; rfl
theorem pt_law_draw : pats "_law_draw" = ([(2, [], [0, 1])] : List Pat) := by decide +kernel
theorem bd_law_draw {kV doc pm cdv ct : Value} {an : Option Addr} (us ws zs : List Value) (p : Pat) (hp : p ∈ pats "_law_draw") (h1 : us.length = p.1) (h2 : ws.length = p.2.1.length) (h3 : perm p.2.2 (us ++ ws) = some zs) :
    bindArgs (PySem.W.fnOf "_law_draw" "_law_draw" (defArgs s_law_draw) (defBody s_law_draw) (defScope s_law_draw) .none kV doc pm an cdv ct) ⟨us, p.2.1.zip ws⟩ = pure (P_law_draw.zip zs) := by
  rw [pt_law_draw] at hp
  simp only [List.mem_cons, List.not_mem_nil, or_false] at hp
  rcases hp with rfl
  · obtain ⟨x0, x1, rfl⟩ := len2 h1; obtain ⟨rfl⟩ := len0 h2; cases h3; rfl
theorem pt_law_mixed : pats "_law_mixed" = ([(2, [], [0, 1])] : List Pat) := by decide +kernel
theorem bd_law_mixed {kV doc pm cdv ct : Value} {an : Option Addr} (us ws zs : List Value) (p : Pat) (hp : p ∈ pats "_law_mixed") (h1 : us.length = p.1) (h2 : ws.length = p.2.1.length) (h3 : perm p.2.2 (us ++ ws) = some zs) :
    bindArgs (PySem.W.fnOf "_law_mixed" "_law_mixed" (defArgs s_law_mixed) (defBody s_law_mixed) (defScope s_law_mixed) .none kV doc pm an cdv ct) ⟨us, p.2.1.zip ws⟩ = pure (P_law_mixed.zip zs) := by
  rw [pt_law_mixed] at hp
  simp only [List.mem_cons, List.not_mem_nil, or_false] at hp
  rcases hp with rfl
  · obtain ⟨x0, x1, rfl⟩ := len2 h1; obtain ⟨rfl⟩ := len0 h2; cases h3; rfl
theorem pt_law_sides : pats "_law_sides" = ([(1, [], [0])] : List Pat) := by decide +kernel
theorem bd_law_sides {kV doc pm cdv ct : Value} {an : Option Addr} (us ws zs : List Value) (p : Pat) (hp : p ∈ pats "_law_sides") (h1 : us.length = p.1) (h2 : ws.length = p.2.1.length) (h3 : perm p.2.2 (us ++ ws) = some zs) :
    bindArgs (PySem.W.fnOf "_law_sides" "_law_sides" (defArgs s_law_sides) (defBody s_law_sides) (defScope s_law_sides) .none kV doc pm an cdv ct) ⟨us, p.2.1.zip ws⟩ = pure (P_law_sides.zip zs) := by
  rw [pt_law_sides] at hp
  simp only [List.mem_cons, List.not_mem_nil, or_false] at hp
  rcases hp with rfl
  · obtain ⟨x0, rfl⟩ := len1 h1; obtain ⟨rfl⟩ := len0 h2; cases h3; rfl
theorem all_mk {l : PySem.W.OpenLaw} {w : World} {K : PySem.W.Frag} {h : Heap} {mg : Str → Option Value} {fa : Addr} (X : K.In h) (Gh : h.Ns mainGlobals mg) (hfa : mg "law" = some (.ref fa)) {f0 : Addr} {od0 an0 : Option Addr} {sl0 : Array (Option Value)} {oc0 kV0 dc0 pm0 cd0 ct0 : Value} {f1 : Addr} {od1 an1 : Option Addr} {sl1 : Array (Option Value)} {oc1 kV1 dc1 pm1 cd1 ct1 : Value} {f2 : Addr} {od2 an2 : Option Addr} {sl2 : Array (Option Value)} {oc2 kV2 dc2 pm2 cd2 ct2 : Value} {f3 : Addr} {od3 an3 : Option Addr} {sl3 : Array (Option Value)} {oc3 kV3 dc3 pm3 cd3 ct3 : Value} {f4 : Addr} {od4 an4 : Option Addr} {sl4 : Array (Option Value)} {oc4 kV4 dc4 pm4 cd4 ct4 : Value} {f5 : Addr} {od5 an5 : Option Addr} {sl5 : Array (Option Value)} {oc5 kV5 dc5 pm5 cd5 ct5 : Value} {f6 : Addr} {od6 an6 : Option Addr} {sl6 : Array (Option Value)} {oc6 kV6 dc6 pm6 cd6 ct6 : Value}
    (a0 : PySem.W.nsIn K mainGlobals "side" = some (some (.ref f0))) (l0 : K.lookup f0 = some ⟨oc0, od0, .func (PySem.W.fnOf "side" "side" (defArgs s_side) (defBody s_side) (defScope s_side) .none kV0 dc0 pm0 an0 cd0 ct0), sl0⟩) (c0 : PySem.W.codeIn K cd0 "side" = true) (k0 : PySem.W.keepIn K (.ref f0) = true)
    (a1 : PySem.W.nsIn K mainGlobals "sides" = some (some (.ref f1))) (l1 : K.lookup f1 = some ⟨oc1, od1, .func (PySem.W.fnOf "sides" "sides" (defArgs s_sides) (defBody s_sides) (defScope s_sides) .none kV1 dc1 pm1 an1 cd1 ct1), sl1⟩) (c1 : PySem.W.codeIn K cd1 "sides" = true) (k1 : PySem.W.keepIn K (.ref f1) = true)
    (a2 : PySem.W.nsIn K mainGlobals "_law_pot" = some (some (.ref f2))) (l2 : K.lookup f2 = some ⟨oc2, od2, .func (PySem.W.fnOf "_law_pot" "_law_pot" (defArgs s_law_pot) (defBody s_law_pot) (defScope s_law_pot) .none kV2 dc2 pm2 an2 cd2 ct2), sl2⟩) (c2 : PySem.W.codeIn K cd2 "_law_pot" = true) (k2 : PySem.W.keepIn K (.ref f2) = true)
    (a3 : PySem.W.nsIn K mainGlobals "_law_draw" = some (some (.ref f3))) (l3 : K.lookup f3 = some ⟨oc3, od3, .func (PySem.W.fnOf "_law_draw" "_law_draw" (defArgs s_law_draw) (defBody s_law_draw) (defScope s_law_draw) .none kV3 dc3 pm3 an3 cd3 ct3), sl3⟩) (c3 : PySem.W.codeIn K cd3 "_law_draw" = true) (k3 : PySem.W.keepIn K (.ref f3) = true)
    (a4 : PySem.W.nsIn K mainGlobals "_law_mixed" = some (some (.ref f4))) (l4 : K.lookup f4 = some ⟨oc4, od4, .func (PySem.W.fnOf "_law_mixed" "_law_mixed" (defArgs s_law_mixed) (defBody s_law_mixed) (defScope s_law_mixed) .none kV4 dc4 pm4 an4 cd4 ct4), sl4⟩) (c4 : PySem.W.codeIn K cd4 "_law_mixed" = true) (k4 : PySem.W.keepIn K (.ref f4) = true)
    (a5 : PySem.W.nsIn K mainGlobals "_law_sides" = some (some (.ref f5))) (l5 : K.lookup f5 = some ⟨oc5, od5, .func (PySem.W.fnOf "_law_sides" "_law_sides" (defArgs s_law_sides) (defBody s_law_sides) (defScope s_law_sides) .none kV5 dc5 pm5 an5 cd5 ct5), sl5⟩) (c5 : PySem.W.codeIn K cd5 "_law_sides" = true) (k5 : PySem.W.keepIn K (.ref f5) = true)
    (a6 : PySem.W.nsIn K mainGlobals "law" = some (some (.ref f6))) (l6 : K.lookup f6 = some ⟨oc6, od6, .func (PySem.W.fnOf "law" "law" (defArgs s_law) (defBody s_law) (defScope s_law) .none kV6 dc6 pm6 an6 cd6 ct6), sl6⟩) (c6 : PySem.W.codeIn K cd6 "law" = true) (k6 : PySem.W.keepIn K (.ref f6) = true)
    (z0 : PySem.W.nsIn K mainGlobals "abs" = some none)
    (z1 : PySem.W.nsIn K mainGlobals "int" = some none)
    (z2 : PySem.W.nsIn K mainGlobals "len" = some none)
    (z3 : PySem.W.nsIn K mainGlobals "list" = some none)
    (z4 : PySem.W.nsIn K mainGlobals "range" = some none)
    (z5 : PySem.W.nsIn K mainGlobals "tuple" = some none)
    (z6 : PySem.W.nsIn K mainGlobals "enumerate" = some none)
    (z7 : PySem.W.nsIn K mainGlobals "repr" = some none)
    : ∃ fd : FuncData, (∀ (s : Shared) (v : Value), BindsTo s fd ⟨[v], []⟩ [("script", v)]) ∧ ∀ base : Heap, K.In base → base.Ns mainGlobals mg → FnG l.prog w K mg base 3 fa fd ["script"] (spD ⟨K, fun _ => none⟩ d_law) := by
  have e := hfa.symm.trans (PySem.W.mg_of X Gh a6)
  cases e
  have zz := bl_ok (PySem.W.mg_none_of X Gh z0) (PySem.W.mg_none_of X Gh z1) (PySem.W.mg_none_of X Gh z2) (PySem.W.mg_none_of X Gh z3) (PySem.W.mg_none_of X Gh z4) (PySem.W.mg_none_of X Gh z5) (PySem.W.mg_none_of X Gh z6) (PySem.W.mg_none_of X Gh z7)
  refine ⟨PySem.W.fnOf "law" "law" (defArgs s_law) (defBody s_law) (defScope s_law) .none kV6 dc6 pm6 an6 cd6 ct6, fun s v => .of_eq rfl, fun base _ _ => ?_⟩
  have M0 : Mo0 l.prog w K mg base ⟨K, fun _ => none⟩ 0 Γ_side bl pats := by
    refine ⟨rfl, fun x p e => (nomatch (show (none : Option PyData) = some p from e)), fun f dn e => ?_, zz⟩
    cases e
  have F0 : FnM l.prog w K mg base ⟨K, fun _ => none⟩ 1 "side" d_side (pats "side") := fnM_of (PySem.W.mg_of X Gh a0) l0 c0 k0 sc_side M0 io_side rfl b_side ok_side fun _ us ws zs p q0 q1 q2 q3 => bd_side us ws zs p q0 q1 q2 q3
  have M1 : Mo0 l.prog w K mg base ⟨K, fun _ => none⟩ 1 Γ_sides bl pats := by
    refine ⟨rfl, fun x p e => (nomatch (show (none : Option PyData) = some p from e)), fun f dn e => ?_, zz⟩
    unfold Γ_sides at e
    try dsimp only at e
    split at e
    · rename_i q; subst q; cases e; exact F0.mono (by decide)
    cases e
  have F1 : FnM l.prog w K mg base ⟨K, fun _ => none⟩ 2 "sides" d_sides (pats "sides") := fnM_of (PySem.W.mg_of X Gh a1) l1 c1 k1 sc_sides M1 io_sides rfl b_sides ok_sides fun _ us ws zs p q0 q1 q2 q3 => bd_sides us ws zs p q0 q1 q2 q3
  have M2 : Mo0 l.prog w K mg base ⟨K, fun _ => none⟩ 0 Γ_law_pot bl pats := by
    refine ⟨rfl, fun x p e => (nomatch (show (none : Option PyData) = some p from e)), fun f dn e => ?_, zz⟩
    cases e
  have F2 : FnM l.prog w K mg base ⟨K, fun _ => none⟩ 1 "_law_pot" d_law_pot (pats "_law_pot") := fnM_of (PySem.W.mg_of X Gh a2) l2 c2 k2 sc_law_pot M2 io_law_pot rfl b_law_pot ok_law_pot fun _ us ws zs p q0 q1 q2 q3 => bd_law_pot us ws zs p q0 q1 q2 q3
  have M3 : Mo0 l.prog w K mg base ⟨K, fun _ => none⟩ 0 Γ_law_draw bl pats := by
    refine ⟨rfl, fun x p e => (nomatch (show (none : Option PyData) = some p from e)), fun f dn e => ?_, zz⟩
    cases e
  have F3 : FnM l.prog w K mg base ⟨K, fun _ => none⟩ 1 "_law_draw" d_law_draw (pats "_law_draw") := fnM_of (PySem.W.mg_of X Gh a3) l3 c3 k3 sc_law_draw M3 io_law_draw rfl b_law_draw ok_law_draw fun _ us ws zs p q0 q1 q2 q3 => bd_law_draw us ws zs p q0 q1 q2 q3
  have M4 : Mo0 l.prog w K mg base ⟨K, fun _ => none⟩ 1 Γ_law_mixed bl pats := by
    refine ⟨rfl, fun x p e => (nomatch (show (none : Option PyData) = some p from e)), fun f dn e => ?_, zz⟩
    unfold Γ_law_mixed at e
    try dsimp only at e
    split at e
    · rename_i q; subst q; cases e; exact F3.mono (by decide)
    cases e
  have F4 : FnM l.prog w K mg base ⟨K, fun _ => none⟩ 2 "_law_mixed" d_law_mixed (pats "_law_mixed") := fnM_of (PySem.W.mg_of X Gh a4) l4 c4 k4 sc_law_mixed M4 io_law_mixed rfl b_law_mixed ok_law_mixed fun _ us ws zs p q0 q1 q2 q3 => bd_law_mixed us ws zs p q0 q1 q2 q3
  have M5 : Mo0 l.prog w K mg base ⟨K, fun _ => none⟩ 0 Γ_law_sides bl pats := by
    refine ⟨rfl, fun x p e => (nomatch (show (none : Option PyData) = some p from e)), fun f dn e => ?_, zz⟩
    cases e
  have F5 : FnM l.prog w K mg base ⟨K, fun _ => none⟩ 1 "_law_sides" d_law_sides (pats "_law_sides") := fnM_of (PySem.W.mg_of X Gh a5) l5 c5 k5 sc_law_sides M5 io_law_sides rfl b_law_sides ok_law_sides fun _ us ws zs p q0 q1 q2 q3 => bd_law_sides us ws zs p q0 q1 q2 q3
  have M6 : Mo0 l.prog w K mg base ⟨K, fun _ => none⟩ 2 Γ_law bl pats := by
    refine ⟨rfl, fun x p e => (nomatch (show (none : Option PyData) = some p from e)), fun f dn e => ?_, zz⟩
    unfold Γ_law at e
    try dsimp only at e
    split at e
    · rename_i q; subst q; cases e; exact F1.mono (by decide)
    try dsimp only at e
    split at e
    · rename_i q; subst q; cases e; exact F2.mono (by decide)
    try dsimp only at e
    split at e
    · rename_i q; subst q; cases e; exact F4.mono (by decide)
    try dsimp only at e
    split at e
    · rename_i q; subst q; cases e; exact F5.mono (by decide)
    cases e
  exact fnG_of l6 c6 sc_law M6 io_law rfl b_law ok_law
theorem walk {l : PySem.W.OpenLaw} {q : Program} {loose : List Str} {XP : (Str → Option Value) → Heap → Prop} {YP : World → Heap → Prop} {d : DefRec} {K : Params → PySem.W.Frag} (truth : ∀ ns : List Int, ns.length ≤ 63 → ∃ outs, d_law.m [.sh (.list (ns.map .int))] = .ok (.sh (.bool true)) outs)
    (hn : l.most = some 63) (hdf : d.params.defaults = []) (hY : ∀ (w : World) (h : Heap), YP w h → (K w.params).In h)
    (F : ∀ (w : World) (mg : Str → Option Value) (fa : Addr) (h : Heap), (K w.params).In h → h.Ns mainGlobals mg → mg d.name = some (.ref fa) →
      ∃ fd : FuncData, (∀ (s : Shared) (u : Value), BindsTo s fd ⟨[u], []⟩ [("script", u)]) ∧ ∀ base : Heap, (K w.params).In base → base.Ns mainGlobals mg → FnG l.prog w (K w.params) mg base 3 fa fd ["script"] (spD ⟨K w.params, fun _ => none⟩ d_law)) :
    PySem.W.WalkO q loose XP YP l.row.toRowW d [] (fun f vs => PySem.call f vs) :=
  law_end (n := 63) (k := 3) (x := "script") (cl := fun _ _ => none) (dn := fun _ => d_law) hn (by decide) hdf ⟨rfl, by decide, by decide⟩ hY F (fun _ => rfl) fun _ ns h => truth ns h
end T21
namespace T21
open PySem PySem.Spec L2 Vs
open PyProof.Rows hiding St
theorem gs_ : (Str.ofString "great" = Str.ofString "stirred") = False := by simp; decide +kernel
theorem gt_ : (Str.ofString "great" = Str.ofString "turn") = False := by simp; decide +kernel
theorem st_ : (Str.ofString "stirred" = Str.ofString "turn") = False := by simp; decide +kernel
def potD (gs : List Int) (st tn : Int) : D := .dk [.inr "great", .inr "stirred", .inr "turn"] [.ls ((gs.map PyData.int).map .sh), .sh (.int st), .sh (.int tn)]
def mixN (st t : Int) : Int := ((st * 48271 + t * t * 17 + 7919 * t) % 4294967279 * 69621 + (st * 48271 + t * t * 17 + 7919 * t) % 4294967279 / 65536) % 4294967291
theorem draw_nil {st tn m : Int} (h1 : 0 < m) (ht : (tn + 1).natAbs < 18446744073709551616) : d_law_draw.m [potD [] st tn, .sh (.int m)] = .ok (.sh (.int (mixN st (tn + 1) / 1024 % m))) [potD [] (mixN st (tn + 1)) (tn + 1)] := by
  unfold d_law_draw denOf runD
  simp [wrapO, io_law_draw, b_law_draw, potD, getP, setP, dkGet, dkSet, hasK, dkPut, putD, gs_, gt_, st_, oEq, small64b, ht, h1, mixN]
theorem draw_big {g : Int} {gs : List Int} {st tn m : Int} (h1 : 0 < m) (h2 : m < 1073741824) (hl : gs.length + 1 < 1000000) (hl' : gs.length < 1000000) (hg : m ≤ g) : d_law_draw.m [potD (g :: gs) st tn, .sh (.int m)] = .ok (.sh (.int (g % m))) [potD (g / m :: gs) st tn] := by
  unfold d_law_draw denOf runD
  have hz : (0 : Int) < (gs.length : Int) + 1 := by omega
  simp [wrapO, io_law_draw, b_law_draw, potD, getP, setP, dkGet, dkSet, hasK, dkPut, putD, gs_, gt_, st_, oEq, small64b, h1, h2, mo, moPopAt, moInsert, ixN, hz, hl, hg, hl']
theorem draw_small {g : Int} {gs : List Int} {st tn m : Int} (h1 : 0 < m) (h2 : m < 1073741824) (hl : gs.length + 1 < 1000000) (hg : ¬ m ≤ g) : d_law_draw.m [potD (g :: gs) st tn, .sh (.int m)] = .ok (.sh (.int (g % m))) [potD gs st tn] := by
  unfold d_law_draw denOf runD
  have hz : (0 : Int) < (gs.length : Int) + 1 := by omega
  simp [wrapO, io_law_draw, b_law_draw, potD, getP, setP, dkGet, dkSet, hasK, dkPut, putD, gs_, gt_, st_, oEq, small64b, h1, h2, mo, moPopAt, moInsert, ixN, hz, hl, hg]
end T21
namespace T21
open PySem PySem.Spec L2
open Vs hiding Env
open PyProof.Rows hiding St
def cellI (i : Int) : Int := 2 * (if i < 0 then -i else i) + (if i < 0 then 1 else 0)
def cellD : PyData → D
  | .int i => .sh (.int (cellI i))
  | _ => .sh .none
theorem e_cells (x : D) (cs : List Int) (hl : cs.length ≤ 61) : lcL [1] (Tg.nm 1) (ifT []) (ev Γ_law_pot (Ex.op Op.add [Ex.op Op.mul [Ex.lit (PyData.int 2), Ex.op Op.abs [Ex.vw 1 []]], Ex.op Op.int [Ex.op Op.lt [Ex.vw 1 [], Ex.lit (PyData.int 0)]]]))
      (cs.map .int) [some x, none, none, none] [] = some (((cs.map cellI).map PyData.int).map .sh, [some x, none, none, none]) := by
  rw [lcL_map cellD]
  · simp only [List.map_map]; rfl
  · intro p hp
    obtain ⟨i, _, rfl⟩ := List.mem_map.mp hp
    refine ⟨[some x, some (.sh (.int i)), none, none], by simp, by simp, ?_, by simp⟩
    simp [wrapO, small64b, cellD, cellI]
  · simp; omega
def bigB : PyData → Bool
  | .int i => decide ((10 : Int) ^ 16 ≤ i)
  | _ => false
theorem e_great (x : D) (y z : Option D) (cs : List Int) (hl : cs.length ≤ 61) : lcL [1] (Tg.nm 1) (ifT [evT Γ_law_pot (Ex.op Op.ge [Ex.vw 1 [], Ex.op Op.pow [Ex.lit (PyData.int 10), Ex.lit (PyData.int 16)]])]) (ev Γ_law_pot (Ex.rd 1))
      (cs.map .int) [some x, none, y, z] [] = some (((cs.filter fun i => decide ((10 : Int) ^ 16 ≤ i)).map PyData.int).map .sh, [some x, none, y, z]) := by
  rw [lcL_filter bigB .sh]
  · simp only [List.nil_append, List.filter_map]; rfl
  · intro p hp
    obtain ⟨i, _, rfl⟩ := List.mem_map.mp hp
    refine ⟨[some x, some (.sh (.int i)), y, z], by simp, ?_, by simp, by simp⟩
    simp [wrapO, small64b, bigB, powOk]
  · simp; omega
theorem pot_ok (ns : List Int) (hn : ns.length ≤ 63) : ∃ gs st, gs.length ≤ 63 ∧ d_law_pot.m [.sh (.list (ns.map .int))] = .ok (potD gs st 0) [] := by
  unfold d_law_pot denOf runD
  obtain ⟨cs, hcs, hl⟩ : ∃ cs : List Int, cutL (ns.map PyData.int) none (some 61) = cs.map .int ∧ cs.length ≤ 61 := ⟨ns.take 61, by rw [cut_H (by decide)]; simp, by simp; omega⟩
  have e1 := e_cells (.sh (.list (ns.map .int))) cs hl
  obtain ⟨es, hes, hl2⟩ : ∃ es, cs.map cellI = es ∧ es.length ≤ 61 := ⟨_, rfl, by simpa using hl⟩
  rw [hes] at e1
  obtain ⟨ρ, e2, c, st, rfl⟩ := lopL_run (t := .nm 1) (b := gos Γ_law_pot [Sm.asg (Tg.nm 3) (Ex.op Op.mod [Ex.op Op.int [Ex.op Op.add [Ex.op Op.add [Ex.op Op.mul [Ex.vw 3 [], Ex.lit (PyData.int 69069)], Ex.vw 1 []], Ex.lit (PyData.int 13)]], Ex.lit (PyData.int 4294967291)])])
    (fun _ ρ => ∃ (c : Option D) (st : Int), ρ = [some (.sh (.list (ns.map .int))), c, some (.sh (.list (es.map .int))), some (.sh (.int st))]) (es.map .int) 0
    [some (.sh (.list (ns.map .int))), none, some (.sh (.list (es.map .int))), some (.sh (.int (15914 + 3 * (ns.length : Int))))] ⟨none, _, rfl⟩ (by
      rintro i p ρ hp ⟨c, st, rfl⟩
      rw [List.getElem?_map] at hp
      obtain ⟨k, _, rfl⟩ := Option.map_eq_some_iff.mp hp
      refine ⟨[some (.sh (.list (ns.map .int))), some (.sh (.int k)), some (.sh (.list (es.map .int))), some (.sh (.int st))], [some (.sh (.list (ns.map .int))), some (.sh (.int k)), some (.sh (.list (es.map .int))), some (.sh (.int ((st * 69069 + k + 13) % 4294967291)))], by simp, .inl (by simp [wrapO, small64b]), ⟨_, _, rfl⟩⟩)
  have e3 := e_great (.sh (.list (ns.map .int))) (some (.sh (.list (es.map .int)))) (some (.sh (.int st))) es hl2
  refine ⟨es.filter fun i => decide ((10 : Int) ^ 16 ≤ i), st, Nat.le_trans (List.length_filter_le _ _) (by omega), ?_⟩
  simp [-List.map_map, wrapO, io_law_pot, b_law_pot, hcs, e1, lopF_eq, lcE_eq, e2, e3, small64b, potD, gs_, gt_, st_]
end T21
namespace T21
open PySem PySem.Spec L2
open Vs hiding Env
open PyProof.Rows hiding St
theorem draw_ok {gs : List Int} {st tn m : Int} (h1 : 0 < m) (h2 : m < 1073741824) (hl : gs.length ≤ 63) (t0 : 0 ≤ tn) (t1 : tn ≤ 1000000) :
    ∃ (r : Int) (gs' : List Int) (st' tn' : Int), d_law_draw.m [potD gs st tn, .sh (.int m)] = .ok (.sh (.int r)) [potD gs' st' tn'] ∧ 0 ≤ r ∧ r < m ∧ gs'.length ≤ 63 ∧ 0 ≤ tn' ∧ tn' ≤ tn + 1 := by
  cases gs with
  | nil => exact ⟨_, _, _, _, draw_nil h1 (by omega), Int.emod_nonneg _ (by omega), Int.emod_lt_of_pos _ h1, by simp, by omega, by omega⟩
  | cons g gs =>
    have hl' : gs.length + 1 ≤ 63 := by simpa using hl
    by_cases hg : m ≤ g
    · exact ⟨_, _, _, _, draw_big h1 h2 (by omega) (by omega) hg, Int.emod_nonneg _ (by omega), Int.emod_lt_of_pos _ h1, by simpa using hl', t0, by omega⟩
    · exact ⟨_, _, _, _, draw_small h1 h2 (by omega) hg, Int.emod_nonneg _ (by omega), Int.emod_lt_of_pos _ h1, by omega, t0, by omega⟩
theorem io_draw : d_law_draw.io = [true, false] := rfl
theorem fn_mixed : Γ_law_mixed.fn (Str.ofString "_law_draw") = some d_law_draw := by simp [Γ_law_mixed]
theorem mixed_step {items left found : List PyData} {gs gs2 : List Int} {st tn st2 tn2 r : Int} {i : PyData} {y : PyData} (e : d_law_draw.m [potD gs st tn, .sh (.int left.length)] = .ok (.sh (.int r)) [potD gs2 st2 tn2])
    (po : mo .popAt (left.map .sh) [.sh (.int r)] = some ((left.eraseIdx r.toNat).map .sh, .sh y)) (ao : mo .append (found.map .sh) [.sh y] = some ((found ++ [y]).map .sh, .sh .none)) :
    gos Γ_law_mixed [.ex (.mut .append 4 [] [.mut .popAt 3 [] [.fz (.call "_law_draw" [.vw 0 [], .op .len [.vw 3 []]] [] [] [0, 1])]])] [some (potD gs st tn), some (.sh (.list items)), some (.sh i), some (.ls (left.map .sh)), some (.ls (found.map .sh))] =
      .nx [some (potD gs2 st2 tn2), some (.sh (.list items)), some (.sh i), some (.ls ((left.eraseIdx r.toNat).map .sh)), some (.ls ((found ++ [y]).map .sh))] := by
  simp [-List.map_map, wrapO, getP, fn_mixed, io_draw, e, po, ao]
abbrev mixedB : List Sm := [.ex (.mut .append 4 [] [.mut .popAt 3 [] [.fz (.call "_law_draw" [.vw 0 [], .op .len [.vw 3 []]] [] [] [0, 1])]])]
theorem m0 {items : List PyData} {gs : List Int} {st tn : Int} : runO (lops Γ_law_mixed [.op .len [.vw 1 []]]) [some (potD gs st tn), some (.sh (.list items)), none, some (.ls (items.map .sh)), some (.ls [])] = .ok ([.d (.sh (.int items.length))], [some (potD gs st tn), some (.sh (.list items)), none, some (.ls (items.map .sh)), some (.ls [])]) := by
  simp [-List.map_map, wrapO]
theorem m1 {items : List PyData} (n : Int) (hn : n = items.length) (hb : items.length < 16777216) : itF .rng [.sh (.int n)] = some (rngD 0 items.length) := by
  subst hn
  exact itF_rngN hb
theorem m2 {items found : List PyData} {pt pt' : D} {c x : Option D} {b : SF} {n : Int} {ops : List Sop} (e1 : runO ops [some pt, some (.sh (.list items)), none, some (.ls (items.map .sh)), some (.ls [])] = .ok ([.d (.sh (.int n))], [some pt, some (.sh (.list items)), none, some (.ls (items.map .sh)), some (.ls [])])) (e3 : itF .rng [.sh (.int n)] = some (rngD 0 items.length))
    (e2 : lopL (.nm 2) b (rngD 0 items.length) [some pt, some (.sh (.list items)), none, some (.ls (items.map .sh)), some (.ls [])] = .nx [some pt', some (.sh (.list items)), c, x, some (.ls (found.map .sh))]) :
    lopF (.nm 2) .rng ops b [some pt, some (.sh (.list items)), none, some (.ls (items.map .sh)), some (.ls [])] = .nx [some pt', some (.sh (.list items)), c, x, some (.ls (found.map .sh))] :=
  lopF_run e1 rfl e3 e2 rfl
theorem mixed_gos {items found : List PyData} {pt pt' : D} {c x : Option D} {b : SF} (hb : b = gos Γ_law_mixed mixedB)
    (e : lopF (.nm 2) .rng (lops Γ_law_mixed [.op .len [.vw 1 []]]) b [some pt, some (.sh (.list items)), none, some (.ls (items.map .sh)), some (.ls [])] = .nx [some pt', some (.sh (.list items)), c, x, some (.ls (found.map .sh))]) :
    gos Γ_law_mixed b_law_mixed [some pt, some (.sh (.list items)), none, none, none] = .rt (.ls (found.map .sh)) [some pt', some (.sh (.list items)), c, x, none] := by
  unfold b_law_mixed
  rw [gos_cons, go_par]
  have h1 : parF [3, 4] (sops Γ_law_mixed [.op .list [.vw 1 []], .lst []]) [some pt, some (.sh (.list items)), none, none, none] = .nx [some pt, some (.sh (.list items)), none, some (.ls (items.map .sh)), some (.ls [])] := by
    simp [-List.map_map, wrapO]
  rw [h1, seq_nx, gos_cons, go_lop, ← hb, e, seq_nx]
  simp [-List.map_map, wrapO]
theorem m_mixed : d_law_mixed.m = runD 5 io_law_mixed (gos Γ_law_mixed b_law_mixed) := rfl
theorem mixed_end {items found : List PyData} {gs gs' : List Int} {st tn st' tn' : Int} {c x : Option D} (hb : items.length < 16777216)
    (e2 : lopL (.nm 2) (gos Γ_law_mixed mixedB) (rngD 0 items.length) [some (potD gs st tn), some (.sh (.list items)), none, some (.ls (items.map .sh)), some (.ls [])] = .nx [some (potD gs' st' tn'), some (.sh (.list items)), c, x, some (.ls (found.map .sh))]) :
    d_law_mixed.m [potD gs st tn, .sh (.list items)] = .ok (.ls (found.map .sh)) [potD gs' st' tn'] := by
  obtain ⟨n, hn⟩ : ∃ n : Int, n = items.length := ⟨_, rfl⟩
  have e1 := m0 (items := items) (gs := gs) (st := st) (tn := tn)
  rw [← hn] at e1
  have e := m2 e1 (m1 n hn hb) e2
  rw [m_mixed]
  have g := mixed_gos rfl e
  exact runD_rt (ρ0 := [some (potD gs st tn), some (.sh (.list items)), none, none, none]) rfl rfl g rfl
theorem mixed_loop (items : List PyData) {gs : List Int} {st tn : Int} (hi : items.length ≤ 1000) (hl : gs.length ≤ 63) (t0 : 0 ≤ tn) (t1 : tn ≤ 1000) {b : SF}
    (step : ∀ {left found : List PyData} {gs gs2 : List Int} {st tn st2 tn2 r : Int} {i y : PyData}, d_law_draw.m [potD gs st tn, .sh (.int left.length)] = .ok (.sh (.int r)) [potD gs2 st2 tn2] → mo .popAt (left.map .sh) [.sh (.int r)] = some ((left.eraseIdx r.toNat).map .sh, .sh y) → mo .append (found.map .sh) [.sh y] = some ((found ++ [y]).map .sh, .sh .none) →
      b [some (potD gs st tn), some (.sh (.list items)), some (.sh i), some (.ls (left.map .sh)), some (.ls (found.map .sh))] = .nx [some (potD gs2 st2 tn2), some (.sh (.list items)), some (.sh i), some (.ls ((left.eraseIdx r.toNat).map .sh)), some (.ls ((found ++ [y]).map .sh))]) :
    ∃ (gs' : List Int) (st' tn' : Int) (c : Option D) (left found : List PyData), lopL (.nm 2) b (rngD 0 items.length) [some (potD gs st tn), some (.sh (.list items)), none, some (.ls (items.map .sh)), some (.ls [])] = .nx [some (potD gs' st' tn'), some (.sh (.list items)), c, some (.ls (left.map .sh)), some (.ls (found.map .sh))] ∧
      gs'.length ≤ 63 ∧ 0 ≤ tn' ∧ tn' ≤ tn + items.length ∧ found.length = items.length ∧ ∀ x, x ∈ left ∨ x ∈ found → x ∈ items := by
  obtain ⟨ρ, e2, gs', st', tn', c, left, found, rfl, g1, g2, g3, g4, g5, g6⟩ := lopL_run (t := .nm 2) (b := b)
    (fun k ρ => ∃ (gs' : List Int) (st' tn' : Int) (c : Option D) (left found : List PyData), ρ = [some (potD gs' st' tn'), some (.sh (.list items)), c, some (.ls (left.map .sh)), some (.ls (found.map .sh))] ∧ gs'.length ≤ 63 ∧ 0 ≤ tn' ∧ tn' ≤ tn + k ∧ left.length + k = items.length ∧ found.length = k ∧ ∀ x, x ∈ left ∨ x ∈ found → x ∈ items)
    (rngD 0 items.length) 0 [some (potD gs st tn), some (.sh (.list items)), none, some (.ls (items.map .sh)), some (.ls [])] ⟨gs, st, tn, none, items, [], rfl, hl, t0, by simp, by simp, rfl, by simp⟩ (by
      rintro i p ρ hp ⟨gs', st', tn', c, left, found, rfl, g1, g2, g3, g4, g5, g6⟩
      have hi2 : i < items.length := by
        have := (List.getElem?_eq_some_iff.mp hp).1
        rwa [rng_len] at this
      rw [rng_get hi2] at hp
      cases hp
      rw [Nat.zero_add] at g3 g4 g5
      obtain ⟨r, gs2, st2, tn2, e, r0, r1, k1, k2, k3⟩ := draw_ok (gs := gs') (st := st') (tn := tn') (m := left.length) (by omega) (by omega) g1 g2 (by omega)
      have hr : r.toNat < left.length := by omega
      have hx := List.getElem?_eq_getElem hr
      have po := popAt_ok r0 r1 hx (by omega)
      have ao := append_ok (l := found) (x := left[r.toNat]) (by omega)
      refine ⟨_, _, by simp; rfl, .inl (step e po ao), gs2, st2, tn2, _, _, _, rfl, k1, k2, by omega, ?_, by simp [g5], ?_⟩
      · have := len_erase hr
        omega
      · rintro x (h | h)
        · exact g6 x (.inl (mem_erase h))
        · rcases List.mem_append.mp h with h | h
          · exact g6 x (.inr h)
          · rw [List.mem_singleton] at h
            subst h
            exact g6 _ (.inl (List.getElem_mem hr)))
  rw [rng_len] at g3 g4 g5
  rw [Nat.zero_add] at g3 g4 g5
  exact ⟨gs', st', tn', c, left, found, e2, g1, g2, g3, g5, g6⟩
theorem mixed_ok (items : List PyData) {gs : List Int} {st tn : Int} (hi : items.length ≤ 1000) (hl : gs.length ≤ 63) (t0 : 0 ≤ tn) (t1 : tn ≤ 1000) :
    ∃ (out : List PyData) (gs' : List Int) (st' tn' : Int), d_law_mixed.m [potD gs st tn, .sh (.list items)] = .ok (.ls (out.map .sh)) [potD gs' st' tn'] ∧ out.length = items.length ∧ (∀ x ∈ out, x ∈ items) ∧ gs'.length ≤ 63 ∧ 0 ≤ tn' ∧ tn' ≤ tn + items.length := by
  obtain ⟨gs', st', tn', c, left, found, e2, g1, g2, g3, g5, g6⟩ := mixed_loop items hi hl t0 t1 (st := st) (b := gos Γ_law_mixed mixedB) (fun e po ao => mixed_step e po ao)
  exact ⟨found, gs', st', tn', mixed_end (by omega) e2, g5, fun x h => g6 x (.inr h), g1, g2, g3⟩
end T21
namespace T21
open PySem PySem.Spec L2
open Vs hiding Env
open PyProof.Rows hiding St
/-! ### one book -/
def getR : FR → Option PyData
  | .ok (.sh a) [] => some a
  | _ => none
theorem getR_some {r : FR} {a : PyData} (h : getR r = some a) : r = .ok (.sh a) [] := by
  unfold getR at h
  split at h
  · cases h; rfl
  · cases h
def strR : Option D → Option Str
  | some (.sh (.str s)) => some s
  | _ => none
theorem strR_some {r : Option D} {a : Str} (h : strR r = some a) : r = some (.sh (.str a)) := by
  unfold strR at h
  split at h
  · cases h; rfl
  · cases h
def okS (o : Option D) : Bool := match strR o with
  | some s => SeqAt.shaped (.str s)
  | none => false
theorem okS_some {o : Option D} (h : okS o = true) : ∃ s, o = some (.sh (.str s)) ∧ SeqAt.shaped (.str s) = true := by
  unfold okS at h
  cases e : strR o with
  | none => rw [e] at h; cases h
  | some s => rw [e] at h; exact ⟨s, strR_some e, h⟩
def peq2 : PyData → PyData → Bool
  | .tuple [.str a, .str b], .tuple [.str c, .str d] => decide (a = c) && decide (b = d)
  | _, _ => false
theorem peq2_eq {a b : PyData} (h : peq2 a b = true) : a = b := by
  unfold peq2 at h
  split at h
  · rw [Bool.and_eq_true, decide_eq_true_eq, decide_eq_true_eq] at h
    rw [h.1, h.2]
  · cases h
def chk (x : PyData) : Bool := match getR (d_law_sides.m [.sh (.tuple [x])]), getR (d_sides.m [.sh (.tuple [x])]) with
  | some a, some b => peq2 a b && okS (oRepr (.sh (.tuple [x]))) && okS (oRepr (.ls [.sh a, .sh a, .sh a]))
  | _, _ => false
structure Book (x a : PyData) (s s3 : Str) : Prop where
  h1 : d_law_sides.m [.sh (.tuple [x])] = .ok (.sh a) []
  h2 : d_sides.m [.sh (.tuple [x])] = .ok (.sh a) []
  h3 : oRepr (.sh (.tuple [x])) = some (.sh (.str s))
  h4 : oRepr (.ls [.sh a, .sh a, .sh a]) = some (.sh (.str s3))
  h5 : SeqAt.shaped (.str s) = true
  h6 : SeqAt.shaped (.str s3) = true
theorem chk_book {x : PyData} (h : chk x = true) : ∃ a s s3, Book x a s s3 := by
  unfold chk at h
  cases e1 : getR (d_law_sides.m [.sh (.tuple [x])]) with
  | none => rw [e1] at h; cases h
  | some a =>
    cases e2 : getR (d_sides.m [.sh (.tuple [x])]) with
    | none => rw [e1, e2] at h; cases h
    | some b =>
      rw [e1, e2] at h
      simp only [Bool.and_eq_true] at h
      obtain ⟨⟨p, q⟩, r⟩ := h
      cases peq2_eq p
      obtain ⟨s, q1, q2⟩ := okS_some q
      obtain ⟨s3, r1, r2⟩ := okS_some r
      exact ⟨a, s, s3, getR_some e1, getR_some e2, q1, r1, q2, r2⟩
def addw (w : PyData) : PyData → PyData
  | .tuple l => .tuple (l ++ [w])
  | p => p
def stepB (l : List PyData) (w : PyData) : List PyData := l ++ l.map (addw w)
def wordsL : List PyData := [.str "back", .str "del", .str "left", .str "right", .str "type"]
def booksAt (k : Nat) : List PyData := (wordsL.take k).foldl stepB [.tuple []]
def shortB : PyData → Bool
  | .tuple l => decide (l.length ≤ 5)
  | _ => false
theorem all32 : (booksAt 5).all chk = true := by decide +kernel
theorem len32 : (booksAt 5).length = 32 := by decide +kernel
theorem shorts : ∀ k < 6, (booksAt k).all shortB = true ∧ (booksAt k).length ≤ 32 := by decide +kernel
abbrev lawB : List Sm := [.asg (.nm 7) (.tup [.rd 6]), .par [8, 9] [.call "_law_sides" [.rd 7] [] [] [0], .op .repr [.vw 7 []]], .frz 8, .ite (.bop false [.op .ne [.op .repr [.lst [.call "sides" [.rd 7] [] [] [0], .call "sides" [] [.rd 7] ["book"] [0], .call "sides" [.rd 7] [] [] [0]]], .op .repr [.op .mul [.lst [.rd 8], .lit (.int 3)]]], .op .ne [.op .repr [.vw 7 []], .vw 9 []]]) [.ret (.lit (.bool false))] []]
theorem ne1 : (Str.ofString "sides" = Str.ofString "_law_pot") = False := by simp; decide +kernel
end T21
namespace T21
open PySem PySem.Spec L2
open Vs hiding Env
open PyProof.Rows hiding St
theorem n1 : (Str.ofString "_law_pot" = Str.ofString "sides") = False := by simp; decide +kernel
theorem n2 : (Str.ofString "_law_mixed" = Str.ofString "sides") = False := by simp; decide +kernel
theorem n3 : (Str.ofString "_law_mixed" = Str.ofString "_law_pot") = False := by simp; decide +kernel
theorem n4 : (Str.ofString "_law_sides" = Str.ofString "sides") = False := by simp; decide +kernel
theorem n5 : (Str.ofString "_law_sides" = Str.ofString "_law_pot") = False := by simp; decide +kernel
theorem n6 : (Str.ofString "_law_sides" = Str.ofString "_law_mixed") = False := by simp; decide +kernel
theorem fn_sides : Γ_law.fn (Str.ofString "sides") = some d_sides := by simp [Γ_law]
theorem fn_pot : Γ_law.fn (Str.ofString "_law_pot") = some d_law_pot := by simp [Γ_law, n1]
theorem fn_mixed2 : Γ_law.fn (Str.ofString "_law_mixed") = some d_law_mixed := by simp [Γ_law, n2, n3]
theorem fn_sides2 : Γ_law.fn (Str.ofString "_law_sides") = some d_law_sides := by simp [Γ_law, n4, n5, n6]
theorem io1 : d_sides.io = [false] := rfl
theorem io2 : d_law_sides.io = [false] := rfl
theorem io3 : d_law_pot.io = [false] := rfl
theorem io4 : d_law_mixed.io = [true, false] := rfl
theorem eqv_self {s : Str} : PyData.eqv (.str s) (.str s) = true := by simp
theorem tripled {a : PyData} : oMul (.ls [.sh a]) (.sh (.int 3)) = some (.ls [.sh a, .sh a, .sh a]) := by
  have : sizeLine = 1000000 ∨ True := .inr trivial
  simp [oMul, unsh, List.replicate, sizeLine_eq]
theorem body_ok {x a : PyData} {s s3 : Str} (B : Book x a s s3) {z0 z1 z2 z3 z4 z5 z7 z8 z9 : Option D} :
    gos Γ_law lawB [z0, z1, z2, z3, z4, z5, some (.sh x), z7, z8, z9] = .nx [z0, z1, z2, z3, z4, z5, some (.sh x), some (.sh (.tuple [x])), some (.sh a), some (.sh (.str s))] := by
  have h1 := B.h1
  have h2 := B.h2
  have h3 := B.h3
  have h4 := B.h4
  have h5 := B.h5
  have h6 := B.h6
  refine gos_step (ρ1 := [z0, z1, z2, z3, z4, z5, some (.sh x), some (.sh (.tuple [x])), z8, z9]) (by simp [mkTup, unsh]) ?_
  refine gos_step (ρ1 := [z0, z1, z2, z3, z4, z5, some (.sh x), some (.sh (.tuple [x])), some (.sh a), some (.sh (.str s))]) (by simp [wrapO, fn_sides2, io2, h1, h3]) ?_
  refine gos_step (ρ1 := [z0, z1, z2, z3, z4, z5, some (.sh x), some (.sh (.tuple [x])), some (.sh a), some (.sh (.str s))]) (by simp) ?_
  refine gos_step (ρ1 := [z0, z1, z2, z3, z4, z5, some (.sh x), some (.sh (.tuple [x])), some (.sh a), some (.sh (.str s))]) ?_ rfl
  simp [wrapO, fn_sides, io1, h2, h4, h3, tripled, arr, perm, Ov.isSh, oEq, h5, h6, eqv_self]
end T21
namespace T21
open PySem PySem.Spec L2
open Vs hiding Env
open PyProof.Rows hiding St
theorem short_is {p : PyData} (h : shortB p = true) : ∃ l, p = .tuple l ∧ l.length ≤ 5 := by
  unfold shortB at h
  split at h
  · exact ⟨_, rfl, of_decide_eq_true h⟩
  · cases h
def addD (w : PyData) (p : PyData) : D := .sh (addw w p)
abbrev eltB : Ex := .op .add [.vw 7 [], .tup [.rd 2]]
theorem lc_books {L : List PyData} {w : PyData} {z0 z1 z3 z5 z6 z8 z9 : Option D} (h1 : L.all shortB = true) (h2 : L.length ≤ 32) :
    lcE [7] (.nm 7) .seq [.p 4 []] (ifT []) (ev Γ_law eltB) [z0, z1, some (.sh w), z3, some (.ls (L.map .sh)), z5, z6, none, z8, z9] = .ok (.ls ((L.map (addw w)).map .sh), [z0, z1, some (.sh w), z3, some (.ls (L.map .sh)), z5, z6, none, z8, z9]) := by
  refine lcE_run (os := [.p 4 [] (.ls (L.map .sh))]) (ρ1 := [z0, z1, some (.sh w), z3, none, z5, z6, none, z8, z9]) (ρ2 := [z0, z1, some (.sh w), z3, none, z5, z6, none, z8, z9]) (ds := [.ls (L.map .sh)]) (ps := L) (by simp [getP]) (by simp [getP]) (by simp) ?_ (by simp)
  rw [lcL_map (addD w)]
  · simp [addD]
  · intro p hp
    obtain ⟨l, rfl, hl⟩ := short_is (List.all_eq_true.mp h1 p hp)
    refine ⟨[z0, z1, some (.sh w), z3, none, z5, z6, some (.sh (.tuple l)), z8, z9], by simp, by simp, ?_, by simp⟩
    have ha := oAdd_tups (l := l) (m := [w]) (by simp; omega)
    simp [wrapO, mkTup, unsh, ha, addD, addw]
  · omega
theorem step_books {L : List PyData} {w : PyData} {z0 z1 z3 z5 z6 z8 z9 : Option D} (h1 : L.all shortB = true) (h2 : L.length ≤ 32) :
    gos Γ_law [.asg (.nm 4) (.op .add [.vw 4 [], .lc [7] (.nm 7) .seq [.vw 4 []] [] (.op .add [.vw 7 [], .tup [.rd 2]])])] [z0, z1, some (.sh w), z3, some (.ls (L.map .sh)), z5, z6, none, z8, z9] = .nx [z0, z1, some (.sh w), z3, some (.ls ((stepB L w).map .sh)), z5, z6, none, z8, z9] := by
  have e := lc_books (L := L) (w := w) (z0 := z0) (z1 := z1) (z3 := z3) (z5 := z5) (z6 := z6) (z8 := z8) (z9 := z9) h1 h2
  have ha := oAdd_lss (l := L) (m := L.map (addw w)) (by simp; omega)
  simp [-List.map_map, -List.map_append, wrapO, e, ha, stepB]
end T21
namespace T21
open PySem PySem.Spec L2
open Vs hiding Env
open PyProof.Rows hiding St
theorem books_succ {k : Nat} {p : PyData} (h : wordsL[k]? = some p) : booksAt (k + 1) = stepB (booksAt k) p := by
  unfold booksAt
  rw [List.take_succ, h]
  simp [List.foldl_append]
abbrev stepSm : List Sm := [.asg (.nm 4) (.op .add [.vw 4 [], .lc [7] (.nm 7) .seq [.vw 4 []] [] (.op .add [.vw 7 [], .tup [.rd 2]])])]
theorem loop_books (z0 z1 z3 : Option D) : ∃ w, lopL (.nm 2) (gos Γ_law stepSm) wordsL [z0, z1, none, z3, some (.ls ((booksAt 0).map .sh)), none, none, none, none, none] = .nx [z0, z1, w, z3, some (.ls ((booksAt 5).map .sh)), none, none, none, none, none] := by
  obtain ⟨ρ, e, _, w, rfl⟩ := lopL_run (t := .nm 2) (b := gos Γ_law stepSm) (fun k ρ => k ≤ 5 ∧ ∃ w, ρ = [z0, z1, w, z3, some (.ls ((booksAt k).map .sh)), none, none, none, none, none]) wordsL 0 [z0, z1, none, z3, some (.ls ((booksAt 0).map .sh)), none, none, none, none, none] ⟨by omega, none, rfl⟩ (by
    rintro i p ρ hp ⟨h5, w, rfl⟩
    rw [Nat.zero_add] at *
    have hi : i < 5 := (List.getElem?_eq_some_iff.mp hp).1
    obtain ⟨k1, k2⟩ := shorts i (by omega)
    have s := step_books (L := booksAt i) (w := p) (z0 := z0) (z1 := z1) (z3 := z3) (z5 := none) (z6 := none) (z8 := none) (z9 := none) k1 k2
    rw [← books_succ hp] at s
    exact ⟨[z0, z1, some (.sh p), z3, some (.ls ((booksAt i).map .sh)), none, none, none, none, none], _, by simp, .inl s, by omega, _, rfl⟩)
  exact ⟨w, e⟩
theorem loop_main {out : List PyData} (h : ∀ x ∈ out, x ∈ booksAt 5) (z0 z1 z2 z3 z4 : Option D) : ∃ a b c d e, lopL (.tp [5, 6]) (gos Γ_law lawB) (enumD 0 out) [z0, z1, z2, z3, z4, none, none, none, none, none] = .nx [z0, z1, z2, z3, z4, a, b, c, d, e] := by
  obtain ⟨ρ, e, a, b, c, d, f, rfl⟩ := lopL_run (t := .tp [5, 6]) (b := gos Γ_law lawB) (fun _ ρ => ∃ a b c d e, ρ = [z0, z1, z2, z3, z4, a, b, c, d, e]) (enumD 0 out) 0 [z0, z1, z2, z3, z4, none, none, none, none, none] ⟨_, _, _, _, _, rfl⟩ (by
    rintro i p ρ hp ⟨a, b, c, d, f, rfl⟩
    have hi : i < out.length := by
      have := (List.getElem?_eq_some_iff.mp hp).1
      rwa [enum_len] at this
    rw [enum_get (List.getElem?_eq_getElem hi)] at hp
    cases hp
    obtain ⟨a', s, s3, B⟩ := chk_book (List.all_eq_true.mp all32 _ (h _ (List.getElem_mem hi)))
    exact ⟨[z0, z1, z2, z3, z4, some (.sh (.int (0 + (i : Nat)))), some (.sh out[i]), c, d, f], _, by simp, .inl (body_ok B), _, _, _, _, _, rfl⟩)
  exact ⟨a, b, c, d, f, e⟩
theorem m_law : d_law.m = runD 10 io_law (gos Γ_law b_law) := rfl
theorem r1 {Γ : Gam} {dn : Den} (hf : Γ.fn (Str.ofString "_law_mixed") = some dn) (hio : dn.io = [true, false]) {S pt pt' : D} {w z3 : Option D} {l out : List PyData} (e : dn.m [pt, .sh (.list l)] = .ok (.ls (out.map .sh)) [pt']) :
    runO (lops Γ [.call "_law_mixed" [.vw 1 [], .rd 4] [] [] [0, 1]]) [some S, some pt, w, z3, some (.sh (.list l)), none, none, none, none, none] = .ok ([.d (.ls (out.map .sh))], [some S, some pt', w, z3, some (.sh (.list l)), none, none, none, none, none]) := by
  simp [-List.map_map, hf, hio, e]
theorem r0 {Γ : Gam} {dn : Den} (hf : Γ.fn (Str.ofString "_law_pot") = some dn) (hio : dn.io = [false]) {pt : D} {p : PyData} (e : dn.m [.sh p] = .ok pt []) :
    go Γ (.asg (.nm 1) (.call "_law_pot" [.rd 0] [] [] [0])) [some (.sh p), none, none, none, none, none, none, none, none, none] = .nx [some (.sh p), some pt, none, none, none, none, none, none, none, none] := by
  simp [hf, hio, e]
theorem s2 {S pt : D} : go Γ_law (.par [3, 4] [.lst [.lit (.str "back"), .lit (.str "del"), .lit (.str "left"), .lit (.str "right"), .lit (.str "type")], .lst [.tup []]]) [some S, some pt, none, none, none, none, none, none, none, none] =
    .nx [some S, some pt, none, some (.ls (wordsL.map .sh)), some (.ls ((booksAt 0).map .sh)), none, none, none, none, none] := by
  simp [wordsL, booksAt, mkTup, unsh]
theorem truth : ∀ ns : List Int, ns.length ≤ 63 → ∃ outs, d_law.m [.sh (.list (ns.map .int))] = .ok (.sh (.bool true)) outs := by
  intro ns hn
  obtain ⟨gs, st, hg, ep⟩ := pot_ok ns hn
  generalize hS : D.sh (.list (ns.map .int)) = S at ep
  obtain ⟨out, gs', st', tn', em, hl, ho, _⟩ := mixed_ok (booksAt 5) (gs := gs) (st := st) (tn := 0) (by rw [len32]; omega) hg (by omega) (by omega)
  generalize potD gs st 0 = pt at ep em
  generalize potD gs' st' tn' = pt' at em
  obtain ⟨w, eb⟩ := loop_books (some S) (some pt) (some (.sh (.list wordsL)))
  obtain ⟨a, b, c, d, f, el⟩ := loop_main ho (some S) (some pt') w (some (.sh (.list wordsL))) (some (.sh (.list (booksAt 5))))
  have l1 : (booksAt 5).length = 32 := len32
  generalize booksAt 5 = bs at *
  have g : gos Γ_law b_law [some S, none, none, none, none, none, none, none, none, none] = .rt (.sh (.bool true)) [some S, some pt', w, some (.sh (.list wordsL)), some (.sh (.list bs)), a, b, c, d, f] := by
    unfold b_law
    refine gos_step (ρ1 := [some S, some pt, none, none, none, none, none, none, none, none]) ?_ ?_
    · subst hS
      exact r0 fn_pot io3 ep
    refine gos_step s2 ?_
    refine gos_step (ρ1 := [some S, some pt, none, some (.sh (.list wordsL)), some (.ls ((booksAt 0).map .sh)), none, none, none, none, none]) (by simp) ?_
    refine gos_step (ρ1 := [some S, some pt, w, some (.sh (.list wordsL)), some (.ls (bs.map .sh)), none, none, none, none, none]) ?_ ?_
    · rw [go_lop]
      exact lopF_run (os := [.d (.sh (.list wordsL))]) (ds := [.sh (.list wordsL)]) (ps := wordsL) (ρ1 := [some S, some pt, none, some (.sh (.list wordsL)), some (.ls ((booksAt 0).map .sh)), none, none, none, none, none]) (by simp) rfl (by simp) eb rfl
    refine gos_step (ρ1 := [some S, some pt, w, some (.sh (.list wordsL)), some (.sh (.list bs)), none, none, none, none, none]) (by simp) ?_
    refine gos_step (ρ1 := [some S, some pt', w, some (.sh (.list wordsL)), some (.sh (.list bs)), a, b, c, d, f]) ?_ ?_
    · rw [go_lop]
      exact lopF_run (r1 fn_mixed2 io4 em) rfl (by simp) el rfl
    refine gos_last ?_
    simp [wrapO, oEq, l1]
  refine ⟨[], ?_⟩
  rw [m_law]
  exact runD_rt (ρ0 := [some S, none, none, none, none, none, none, none, none, none]) rfl rfl g rfl
end T21
open PySem PySem.W PyProof.Rows in
set_option maxRecDepth 100000 in
set_option maxHeartbeats 0 in
theorem PySem.Challenge.cw_markkeepers_k21_whole_sides_of_books_holds : PySem.Challenge.rw_markkeepers_k21_whole_sides_of_books.Holds := by
  w_on; o_law; k_head; (case hw => w_witness2)
  k_fill
  refine T21.walk (l := PySem.Challenge.rw_markkeepers_k21_whole_sides_of_books) T21.truth rfl rfl (fun w h Y => PySem.W.kIn_of Y) ?F
  case F =>
    intro w mg fa h KX G hmg
    refine' T21.all_mk KX G hmg ?a0 ?l0 ?c0 ?k0 ?a1 ?l1 ?c1 ?k1 ?a2 ?l2 ?c2 ?k2 ?a3 ?l3 ?c3 ?k3 ?a4 ?l4 ?c4 ?k4 ?a5 ?l5 ?c5 ?k5 ?a6 ?l6 ?c6 ?k6 ?z0 ?z1 ?z2 ?z3 ?z4 ?z5 ?z6 ?z7
    (case a0 => k_is)
    (case l0 => k_is)
    (case c0 => k_is)
    (case k0 => k_is)
    (case a1 => k_is)
    (case l1 => k_is)
    (case c1 => k_is)
    (case k1 => k_is)
    (case a2 => k_is)
    (case l2 => k_is)
    (case c2 => k_is)
    (case k2 => k_is)
    (case a3 => k_is)
    (case l3 => k_is)
    (case c3 => k_is)
    (case k3 => k_is)
    (case a4 => k_is)
    (case l4 => k_is)
    (case c4 => k_is)
    (case k4 => k_is)
    (case a5 => k_is)
    (case l5 => k_is)
    (case c5 => k_is)
    (case k5 => k_is)
    (case a6 => k_is)
    (case l6 => k_is)
    (case c6 => k_is)
    (case k6 => k_is)
    (case z0 => k_is)
    (case z1 => k_is)
    (case z2 => k_is)
    (case z3 => k_is)
    (case z4 => k_is)
    (case z5 => k_is)
    (case z6 => k_is)
    (case z7 => k_is)
